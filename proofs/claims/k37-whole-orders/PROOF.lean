import PyProof.Rows.All
import Wide.All
import OpenK.AllK
import Wide.FinOn
import KE.KStateDown
import Lean
import HandS.Base
import HandS.Call
import HandS.Ends
import HandS.More
import HandS.Words
import HandS.WordsExc
import HandS.Defaults
import HandS.Head0
import HandS.Head1
import HandS.Head2
import HandS.HeadEnd
import HandS.HeadHook1
import HandS.HeadHook2
import HandS.ForMost
import HandS.Flow
import HandS.IsInst
import HandS.Zip
import HandS.TupAny
import HandS.TupMul
import HandS.Style
import HandS.Conv
import HandS.Deep
import HandS.TupSets
import KE.SortData
import KE.DataMinMax
import HandS.SetFor
import HandS.Strs
import KE.KDictPairs
import KE.KDictKeyed
import KE.KDictSum
import HandS.ExcValue
import HandS.ExcOwn
import KE.GoesMore
import KE.KSortAsk
import KE.KSortTup
import KE.LtData
import HandS.SortOrd
import PyProof.TwoTypesSub
import PyProof.FactsAll.bool_3
import PyProof.FactsAll.int_5
import PyProof.AutoIntG7
import PyProof.TupleOfSeq
import PySem.Challenge.RW_evenlifts_k37_whole_orders_are_what_can
-- text Hd
set_option Elab.async false
set_option linter.all false
set_option maxRecDepth 100000
set_option maxHeartbeats 0
namespace EvL
open PySem PySem.Spec PyProof.Rows L2
/-! ### the text by places -/
def top (i : Nat) : Stmt := PySem.Challenge.pw_evenlifts_k37_whole_orders_are_what_can.main.body.getD i (.Pass ⟨0, 0, 0, 0⟩)
abbrev s_tupled : Stmt := top 4
abbrev s_is_number : Stmt := top 5
abbrev s_is_count : Stmt := top 6
abbrev s_is_below : Stmt := top 7
abbrev s_is_tuple_of : Stmt := top 8
abbrev s_ascends : Stmt := top 9
abbrev s_set_of : Stmt := top 10
abbrev s_is_beam_among : Stmt := top 12
abbrev s_jacks_of : Stmt := top 13
abbrev s_is_frame : Stmt := top 14
abbrev s_near_in : Stmt := top 15
abbrev s_refuse_far : Stmt := top 18
abbrev s_is_passable_in : Stmt := top 20
abbrev s_is_heights : Stmt := top 22
abbrev s_cracks_in : Stmt := top 23
abbrev s_is_stand : Stmt := top 24
abbrev s_three_sure : Stmt := top 26
abbrev s_next_to : Stmt := top 27
abbrev s_is_beside_any : Stmt := top 28
abbrev s_is_passing_in : Stmt := top 29
abbrev s_moves_in : Stmt := top 31
abbrev s_is_ahead : Stmt := top 32
abbrev s_arrows_in : Stmt := top 33
abbrev s_firsts_by : Stmt := top 34
abbrev s_is_order_in : Stmt := top 35
abbrev s_is_triple : Stmt := top 36
abbrev s_passing_fit : Stmt := top 37
abbrev s_moved_sure : Stmt := top 38
abbrev s_moves : Stmt := top 39
abbrev s_arrows : Stmt := top 40
abbrev s_is_move_in : Stmt := top 41
abbrev s_must_come_ahead : Stmt := top 42
abbrev s_can_come_first : Stmt := top 43
abbrev s_is_order : Stmt := top 44
abbrev s_law_box : Stmt := top 46
abbrev s_law_take : Stmt := top 47
abbrev s_law_cells : Stmt := top 48
abbrev s_law_of : Stmt := top 49
abbrev s_law_pick : Stmt := top 50
abbrev s_law_lists : Stmt := top 51
abbrev s_law_same : Stmt := top 52
abbrev s_law_put : Stmt := top 53
abbrev s_law_joined : Stmt := top 54
abbrev s_law_frame : Stmt := top 55
abbrev s_law_next_to : Stmt := top 56
abbrev s_law_some_stand : Stmt := top 57
abbrev s_law_two_stands : Stmt := top 58
abbrev s_law_roomy : Stmt := top 59
abbrev s_law_between_pairs : Stmt := top 60
abbrev s_law_beside_so : Stmt := top 61
abbrev s_law_every_passing : Stmt := top 62
abbrev s_law_some_case : Stmt := top 63
abbrev s_law_moved : Stmt := top 64
abbrev s_law_every_order : Stmt := top 65
abbrev s_law_arrows_so : Stmt := top 66
abbrev s_law_ahead_always : Stmt := top 67
abbrev s_law_some_rows : Stmt := top 68
abbrev s_law_right : Stmt := top 69
abbrev s_law_by_hand_right : Stmt := top 70
abbrev s_law : Stmt := top 71
/-! ### the head: facts by names, the run -/
def mkD (x : Str) (st : Stmt) : He.DefD := ⟨(x, none), x, x, defArgs st, defBody st, defScope st, [], []⟩
def fnl : List He.DefD := [mkD "tupled" s_tupled, mkD "is_number" s_is_number, mkD "is_count" s_is_count, mkD "is_below" s_is_below, mkD "is_tuple_of" s_is_tuple_of, mkD "ascends" s_ascends, mkD "set_of" s_set_of, mkD "is_beam_among" s_is_beam_among, mkD "jacks_of" s_jacks_of, mkD "is_frame" s_is_frame, mkD "near_in" s_near_in, mkD "refuse_far" s_refuse_far, mkD "is_passable_in" s_is_passable_in, mkD "is_heights" s_is_heights, mkD "cracks_in" s_cracks_in, mkD "is_stand" s_is_stand, mkD "three_sure" s_three_sure, mkD "next_to" s_next_to, mkD "is_beside_any" s_is_beside_any, mkD "is_passing_in" s_is_passing_in, mkD "moves_in" s_moves_in, mkD "is_ahead" s_is_ahead, mkD "arrows_in" s_arrows_in, mkD "firsts_by" s_firsts_by, mkD "is_order_in" s_is_order_in, mkD "is_triple" s_is_triple, mkD "passing_fit" s_passing_fit, mkD "moved_sure" s_moved_sure, mkD "moves" s_moves, mkD "arrows" s_arrows, mkD "is_move_in" s_is_move_in, mkD "must_come_ahead" s_must_come_ahead, mkD "can_come_first" s_can_come_first, mkD "is_order" s_is_order, mkD "_law_box" s_law_box, mkD "_law_take" s_law_take, mkD "_law_cells" s_law_cells, mkD "_law_of" s_law_of, mkD "_law_pick" s_law_pick, mkD "_law_lists" s_law_lists, mkD "_law_same" s_law_same, mkD "_law_put" s_law_put, mkD "_law_joined" s_law_joined, mkD "_law_frame" s_law_frame, mkD "_law_next_to" s_law_next_to, mkD "_law_some_stand" s_law_some_stand, mkD "_law_two_stands" s_law_two_stands, mkD "_law_roomy" s_law_roomy, mkD "_law_between_pairs" s_law_between_pairs, mkD "_law_beside_so" s_law_beside_so, mkD "_law_every_passing" s_law_every_passing, mkD "_law_some_case" s_law_some_case, mkD "_law_moved" s_law_moved, mkD "_law_every_order" s_law_every_order, mkD "_law_arrows_so" s_law_arrows_so, mkD "_law_ahead_always" s_law_ahead_always, mkD "_law_some_rows" s_law_some_rows, mkD "_law_right" s_law_right, mkD "_law_by_hand_right" s_law_by_hand_right, mkD "law" s_law]
def fal : List He.Fa := [.glo "tupled", .glo "is_number", .glo "is_count", .glo "is_below", .glo "is_tuple_of", .glo "ascends", .glo "set_of", .glo "is_beam_among", .glo "jacks_of", .glo "is_frame", .glo "near_in", .glo "refuse_far", .glo "is_passable_in", .glo "is_heights", .glo "cracks_in", .glo "is_stand", .glo "three_sure", .glo "next_to", .glo "is_beside_any", .glo "is_passing_in", .glo "moves_in", .glo "is_ahead", .glo "arrows_in", .glo "firsts_by", .glo "is_order_in", .glo "is_triple", .glo "passing_fit", .glo "moved_sure", .glo "moves", .glo "arrows", .glo "is_move_in", .glo "must_come_ahead", .glo "can_come_first", .glo "is_order", .glo "_law_box", .glo "_law_take", .glo "_law_cells", .glo "_law_of", .glo "_law_pick", .glo "_law_lists", .glo "_law_same", .glo "_law_put", .glo "_law_joined", .glo "_law_frame", .glo "_law_next_to", .glo "_law_some_stand", .glo "_law_two_stands", .glo "_law_roomy", .glo "_law_between_pairs", .glo "_law_beside_so", .glo "_law_every_passing", .glo "_law_some_case", .glo "_law_moved", .glo "_law_every_order", .glo "_law_arrows_so", .glo "_law_ahead_always", .glo "_law_some_rows", .glo "_law_right", .glo "_law_by_hand_right", .glo "law", .free "abs", .free "all", .free "any", .free "bool", .free "dict", .free "enumerate", .free "int", .free "isinstance", .free "len", .free "list", .free "max", .free "min", .free "range", .free "set", .free "sorted", .free "str", .free "sum", .free "tuple", .free "zip", .int "MOST_PAIRS" 480]
def nm0 : List Str := ["Unfit", "TooMany", "MOST_PAIRS", "tupled", "is_number", "is_count", "is_below", "is_tuple_of", "ascends", "set_of", "is_beam_among", "jacks_of", "is_frame", "near_in", "refuse_far", "is_passable_in", "is_heights", "cracks_in", "is_stand", "three_sure", "next_to", "is_beside_any", "is_passing_in", "moves_in", "is_ahead", "arrows_in", "firsts_by", "is_order_in", "is_triple", "passing_fit"]
def nm1 : List Str := ["moved_sure", "moves", "arrows", "is_move_in", "must_come_ahead", "can_come_first", "is_order", "_law_box", "_law_take", "_law_cells", "_law_of", "_law_pick", "_law_lists", "_law_same", "_law_put", "_law_joined", "_law_frame", "_law_next_to", "_law_some_stand", "_law_two_stands", "_law_roomy", "_law_between_pairs", "_law_beside_so", "_law_every_passing", "_law_some_case", "_law_moved", "_law_every_order", "_law_arrows_so", "_law_ahead_always", "_law_some_rows"]
def nm2 : List Str := ["_law_right", "_law_by_hand_right"]
def nml : List Str := nm0 ++ nm1 ++ nm2
abbrev R : PySem.W.OpenRow := PySem.W.OpenLaw.row PySem.Challenge.rw_evenlifts_k37_whole_orders_are_what_can
abbrev hk : PySem.W.Hook := He.hookD 4 fal fnl
def ob (s : PySem.W.SharedT) : He.AlD := He.obsDG 4 fal fnl (HandSHeadRun.getT s)
theorem ob_eq (s : PySem.W.SharedT) : ob s = hk.obs s.abs := He.obsDG_eq (HandSHeadRun.getT_eq s)
theorem run (w : World) : HandSHeadRun.RunEq R (PySem.W.view R.prog [71]) hk ob 3000 nml w := by
  intro os
  kernel_rfl
end EvL

-- text DL1
set_option Elab.async false
set_option linter.all false
set_option maxRecDepth 100000
set_option maxHeartbeats 4000000
/-! The data layer: what expressions and statements do, told over plain data (PyData), the heap out of sight. G is the frozen part of the heap H: what data are read off. A slot of a frame holds shared data (sh), or a thing of its own that may still change (ow: a list, od: a dict, tin: the law's source of draws). -/
namespace DL
open PySem PySem.Spec PyProof.Rows L2

/-! ### data in a heap -/
def keyI (k : List Int) : List Key := k.map Sum.inl
def tupI (k : List Int) : PyData := .tuple (k.map .int)
/-- a dict whose keys are tuples of ints: the keys, where they stand, the values -/
def hashT (k : List Int) : Int := reduceHash (Builtin.Tuple.tupleHashOf (k.map hashInt))
abbrev EnT := List Int × Addr × V
def DTok (a : Addr) (xs : List EnT) (h : Heap) : Prop := xs.length ≤ sizeLine ∧ (a == sysModules) = false ∧ ∃ vs : List (List Int × Addr × Value), Paired (fun (p : EnT) (q : List Int × Addr × Value) => p.1 = q.1 ∧ p.2.1 = q.2.1 ∧ RelV p.2.2 q.2.2) xs vs ∧
  ∃ o es ep, h.get? a = some o ∧ o.ExactDict ∧ o.data = .dict es ep ∧ es.toList = vs.map (fun x => (⟨hashT x.1, .ref x.2.1, x.2.2⟩ : DictEntry)) ∧ (vs.map (·.1)).Nodup
def DTO (a : Addr) (xs : List EnT) : HO := .ext (DTok a xs)
/-- a tuple, made by us or handed in: as it stands (frz), its dict known to be none, or not -/
def TupZ (G : Hp) (a : Addr) (xs : List V) : Prop := ∃ o : Obj, o.dict = none ∧ G a = some (.frz o (.tup xs))
def TupG (G : Hp) (a : Addr) (xs : List V) : Prop := G a = some (.tup xs) ∨ TupZ G a xs
theorem TupZ.mono {G G' : Hp} (h : Same G G') {a : Addr} {xs : List V} (e : TupZ G a xs) : TupZ G' a xs := let ⟨o, d, e⟩ := e; ⟨o, d, h _ _ e⟩
theorem TupG.mono {G G' : Hp} (h : Same G G') {a : Addr} {xs : List V} (e : TupG G a xs) : TupG G' a xs := e.imp (fun e => h _ _ e) fun e => e.mono h
theorem TupG.sq {K : PySem.W.Frag} {G H : Hp} {a : Addr} {xs : List V} (e : TupG G a xs) (s : Same G H) : SqT K H a xs := by
  rcases e with e | ⟨o, _, e⟩
  · exact .inl (.inl (s _ _ e))
  · exact .inl (.inr ⟨o, s _ _ e⟩)
/-- the word by which data tell of a tuple whose dict is none -/
def zD (ds : List PyData) : PyData := .dict [(.bool true, .tuple ds)]
mutual
inductive RD (G : Hp) : V → PyData → Prop
  | non : RD G .non .none
  | bl (b : Bool) : RD G (.bl b) (.bool b)
  | int (i : Int) : RD G (.int i) (.int i)
  | lst {a : Addr} {xs : List V} {ds : List PyData} : G a = some (.lst xs) → RA G xs ds → RD G (.ref a) (.list ds)
  | tup {a : Addr} {xs : List V} {ds : List PyData} : TupG G a xs → RA G xs ds → RD G (.ref a) (.tuple ds)
  | dic {a : Addr} {kvs : List EnT} {kds : List (PyData × PyData)} : G a = some (DTO a kvs) → RK G kvs kds → RD G (.ref a) (.dict kds)
  | tupz {a : Addr} {xs : List V} {ds : List PyData} : TupZ G a xs → RA G xs ds → RD G (.ref a) (.dict [(.bool true, .tuple ds)])
inductive RA (G : Hp) : List V → List PyData → Prop
  | nil : RA G [] []
  | cons {v : V} {vs : List V} {d : PyData} {ds : List PyData} : RD G v d → RA G vs ds → RA G (v :: vs) (d :: ds)
inductive RK (G : Hp) : List EnT → List (PyData × PyData) → Prop
  | nil : RK G [] []
  | cons {k : List Int} {b : Addr} {v : V} {kvs : List EnT} {d : PyData} {kds : List (PyData × PyData)} : TupG G b (k.map V.int) → RD G v d → RK G kvs kds → RK G ((k, b, v) :: kvs) ((tupI k, d) :: kds)
end
section
variable {G G' : Hp}
theorem RD.mono (h : Same G G') {v : V} {d : PyData} (r : RD G v d) : RD G' v d :=
  RD.rec (motive_1 := fun v d _ => RD G' v d) (motive_2 := fun vs ds _ => RA G' vs ds) (motive_3 := fun kvs kds _ => RK G' kvs kds) .non (fun b => .bl b) (fun i => .int i)
    (fun e _ ih => .lst (h _ _ e) ih) (fun e _ ih => .tup (e.mono h) ih) (fun e _ ih => .dic (h _ _ e) ih) (fun e _ ih => .tupz (e.mono h) ih) .nil (fun _ _ i1 i2 => .cons i1 i2) .nil (fun e _ _ i1 i2 => .cons (e.mono h) i1 i2) r
theorem RA.mono (h : Same G G') : ∀ {vs : List V} {ds : List PyData}, RA G vs ds → RA G' vs ds
  | _, _, .nil => .nil
  | _, _, .cons r t => .cons (r.mono h) (RA.mono h t)
theorem RK.mono (h : Same G G') : ∀ {vs : List EnT} {ds : List (PyData × PyData)}, RK G vs ds → RK G' vs ds
  | _, _, .nil => .nil
  | _, _, .cons e r t => .cons (e.mono h) (r.mono h) (RK.mono h t)
theorem RA.length : ∀ {vs : List V} {ds : List PyData}, RA G vs ds → vs.length = ds.length
  | _, _, .nil => rfl
  | _, _, .cons _ t => by simp [RA.length t]
theorem RK.length : ∀ {vs : List EnT} {ds : List (PyData × PyData)}, RK G vs ds → vs.length = ds.length
  | _, _, .nil => rfl
  | _, _, .cons _ _ t => by simp [RK.length t]
theorem RA.get : ∀ {vs : List V} {ds : List PyData} {i : Nat} {d : PyData}, RA G vs ds → ds[i]? = some d → ∃ v, vs[i]? = some v ∧ RD G v d
  | _, _, _, _, .nil, e => by simp at e
  | _, _, 0, _, .cons r _, e => by simp at e; subst e; exact ⟨_, rfl, r⟩
  | _, _, i + 1, d, .cons _ t, e => by
    obtain ⟨v, h1, h2⟩ := RA.get (i := i) (d := d) t (by simpa using e)
    exact ⟨v, by simpa using h1, h2⟩
theorem RA.getv : ∀ {vs : List V} {ds : List PyData} {i : Nat} {v : V}, RA G vs ds → vs[i]? = some v → ∃ d, ds[i]? = some d ∧ RD G v d
  | _, _, _, _, .nil, e => by simp at e
  | _, _, 0, _, .cons r _, e => by simp at e; subst e; exact ⟨_, rfl, r⟩
  | _, _, i + 1, v, .cons _ t, e => by
    obtain ⟨d, h1, h2⟩ := RA.getv (i := i) (v := v) t (by simpa using e)
    exact ⟨d, by simpa using h1, h2⟩
theorem RA.append : ∀ {xs ys : List V} {ds es : List PyData}, RA G xs ds → RA G ys es → RA G (xs ++ ys) (ds ++ es)
  | _, _, _, _, .nil, s => s
  | _, _, _, _, .cons r t, s => .cons r (RA.append t s)
theorem RA.take : ∀ {xs : List V} {ds : List PyData} (n : Nat), RA G xs ds → RA G (xs.take n) (ds.take n)
  | _, _, 0, _ => .nil
  | _, _, _ + 1, .nil => .nil
  | _, _, n + 1, .cons r t => .cons r (RA.take n t)
theorem RA.drop : ∀ {xs : List V} {ds : List PyData} (n : Nat), RA G xs ds → RA G (xs.drop n) (ds.drop n)
  | _, _, 0, r => r
  | _, _, _ + 1, .nil => .nil
  | _, _, n + 1, .cons _ t => RA.drop n t
theorem RA.set {v : V} {d : PyData} (r : RD G v d) : ∀ {xs : List V} {ds : List PyData} (i : Nat), RA G xs ds → RA G (xs.set i v) (ds.set i d)
  | _, _, _, .nil => .nil
  | _, _, 0, .cons _ t => .cons r t
  | _, _, i + 1, .cons q t => .cons q (RA.set r i t)
theorem RA.reverse : ∀ {xs : List V} {ds : List PyData}, RA G xs ds → RA G xs.reverse ds.reverse
  | _, _, .nil => .nil
  | _, _, .cons r t => by
    rw [List.reverse_cons, List.reverse_cons]
    exact (RA.reverse t).append (.cons r .nil)
theorem RA.rep {xs : List V} {ds : List PyData} (h : RA G xs ds) : ∀ k : Nat, RA G (List.replicate k xs).flatten (List.replicate k ds).flatten
  | 0 => .nil
  | k + 1 => by
    rw [List.replicate_succ, List.replicate_succ, List.flatten_cons, List.flatten_cons]
    exact h.append (RA.rep h k)
theorem RA.eraseIdx : ∀ {xs : List V} {ds : List PyData} (i : Nat), RA G xs ds → RA G (xs.eraseIdx i) (ds.eraseIdx i)
  | _, _, _, .nil => .nil
  | _, _, 0, .cons _ t => t
  | _, _, i + 1, .cons r t => .cons r (RA.eraseIdx i t)
theorem RA.dropLast {xs : List V} {ds : List PyData} (h : RA G xs ds) : RA G xs.dropLast ds.dropLast := by
  rw [List.dropLast_eq_take, List.dropLast_eq_take, h.length]
  exact h.take _
/-! what stands for a known kind of data -/
theorem RD.int_of {v : V} {i : Int} (r : RD G v (.int i)) : v = .int i := by cases r; rfl
theorem RD.bl_of {v : V} {b : Bool} (r : RD G v (.bool b)) : v = .bl b := by cases r; rfl
theorem RD.non_of {v : V} (r : RD G v .none) : v = .non := by cases r; rfl
theorem RD.lst_of {v : V} {ds : List PyData} (r : RD G v (.list ds)) : ∃ a xs, v = .ref a ∧ G a = some (.lst xs) ∧ RA G xs ds := by cases r with | lst e h => exact ⟨_, _, rfl, e, h⟩
theorem RD.tup_of {v : V} {ds : List PyData} (r : RD G v (.tuple ds)) : ∃ a xs, v = .ref a ∧ TupG G a xs ∧ RA G xs ds := by cases r with | tup e h => exact ⟨_, _, rfl, e, h⟩
theorem RD.dic_of {v : V} {ds : List (PyData × PyData)} (r : RD G v (.dict ds)) (n : ∀ y, ds ≠ [(.bool true, y)]) : ∃ a xs, v = .ref a ∧ G a = some (DTO a xs) ∧ RK G xs ds := by
  cases r with
  | dic e h => exact ⟨_, _, rfl, e, h⟩
  | tupz e _ => exact absurd rfl (n _)
theorem RD.z_of {v : V} {xs : List PyData} (r : RD G v (zD xs)) : ∃ a us, v = .ref a ∧ TupZ G a us ∧ RA G us xs := by
  unfold zD at r
  generalize e : ([(PyData.bool true, PyData.tuple xs)] : List (PyData × PyData)) = ds at r
  cases r with
  | dic e' h =>
    subst e
    generalize e2 : PyData.bool true = q at h
    cases h with
    | cons h1 h2 h3 => exact nomatch e2
  | tupz e' h => cases e; exact ⟨_, _, rfl, e', h⟩
/-- .. which is a tuple -/
theorem RD.z {v : V} {xs : List PyData} (r : RD G v (zD xs)) : RD G v (.tuple xs) := by
  obtain ⟨a, us, rfl, e, h⟩ := r.z_of
  exact .tup (.inr e) h
theorem RD.str_of {v : V} {x : Str} (r : RD G v (.str x)) : False := by cases r
theorem RA.ints : ∀ {ns : List Int} {vs : List V}, RA G vs (ns.map .int) → vs = ns.map V.int
  | [], _, h => by
    have h' : RA G _ [] := h
    cases h'; rfl
  | n :: ns, _, h => by
    have h' : RA G _ (.int n :: ns.map .int) := h
    cases h' with
    | cons r t => rw [r.int_of, RA.ints t]; rfl
theorem RA.bls : ∀ {bs : List Bool} {vs : List V}, RA G vs (bs.map .bool) → vs = bs.map V.bl
  | [], _, h => by
    have h' : RA G _ [] := h
    cases h'; rfl
  | n :: ns, _, h => by
    have h' : RA G _ (.bool n :: ns.map .bool) := h
    cases h' with
    | cons r t => rw [r.bl_of, RA.bls t]; rfl
theorem mapI_inj : ∀ {a b : List Int}, a.map PyData.int = b.map PyData.int → a = b
  | [], [], _ => rfl
  | [], _ :: _, h => by cases h
  | _ :: _, [], h => by cases h
  | x :: a, y :: b, h => by
    rw [List.map_cons, List.map_cons] at h
    injection h with h1 h2
    injection h1 with h1
    rw [h1, mapI_inj h2]
theorem tupI_inj {a b : List Int} (h : tupI a = tupI b) : a = b := by
  unfold tupI at h
  injection h with h
  exact mapI_inj h
theorem RD.tupI_of {v : V} {k : List Int} (r : RD G v (tupI k)) : ∃ a, v = .ref a ∧ TupG G a (k.map V.int) := by
  obtain ⟨a, xs, e, h, q⟩ := RD.tup_of (show RD G v (.tuple (k.map .int)) from r)
  rw [q.ints] at h
  exact ⟨a, e, h⟩
end
/-! to the library's own words for data -/
mutual
theorem RD.dp {K : PySem.W.Frag} {G H : Hp} (s : Same G H) : ∀ {d : PyData} {v : V}, d.canLay0 = true → RD G v d → Dp K H v d
  | .none, _, _, r => by rw [r.non_of]; exact .non
  | .bool b, _, _, r => by rw [r.bl_of]; exact .bl b
  | .int i, _, _, r => by rw [r.int_of]; exact .int i
  | .str x, _, _, r => (r.str_of).elim
  | .list ds, _, c, r => by
    obtain ⟨a, xs, rfl, e, q⟩ := r.lst_of
    exact .lst (SqL.of (s _ _ e)) (RA.dp s (by simpa [PyData.canLay0] using c) q)
  | .tuple ds, _, c, r => by
    obtain ⟨a, xs, rfl, e, q⟩ := r.tup_of
    exact .tup (e.sq s) (RA.dp s (by simpa [PyData.canLay0] using c) q)
  | .dict _, _, c, _ => by simp [PyData.canLay0] at c
theorem RA.dp {K : PySem.W.Frag} {G H : Hp} (s : Same G H) : ∀ {ds : List PyData} {vs : List V}, PyData.canLayAll0 ds = true → RA G vs ds → DpAll K H vs ds
  | [], _, _, r => by cases r; exact .nil
  | d :: ds, _, c, r => by
    rw [PyData.canLayAll0, Bool.and_eq_true] at c
    cases r with
    | cons h t => exact .cons (RD.dp s c.1 h) (RA.dp s c.2 t)
end

/-! ### slots -/
inductive SV where
  | un
  | sh (d : PyData)
  | ow (ds : List PyData)
  | od (kds : List (PyData × PyData))
  | oo (dss : List (List PyData))
  | dl (kds : List (List Int × List PyData))
  | tin (t : Addr) (n : Nat)
/-- a list of own lists -/
def OO (G H : Hp) : List Addr → List (List PyData) → Prop
  | [], [] => True
  | l :: ls, ds :: dss => (∃ vs, H l = some (.lst vs) ∧ RA G vs ds) ∧ OO G H ls dss
  | _, _ => False
/-- a dict of own lists -/
def OK (G H : Hp) : List EnT → List Addr → List (List Int × List PyData) → Prop
  | [], [], [] => True
  | kv :: kvs, l :: ls, kd :: kds => ((∃ b, kv = (kd.1, b, V.ref l) ∧ TupG G b (kd.1.map V.int)) ∧ ∃ vs, H l = some (.lst vs) ∧ RA G vs kd.2) ∧ OK G H kvs ls kds
  | _, _, _ => False
/-- the law's source of draws: three ints; the third has counted to n at most -/
def TinAt (H : Hp) (l : Addr) (n : Nat) : Prop := ∃ a b c : Int, H l = some (.lst [.int a, .int b, .int c]) ∧ 0 ≤ c ∧ c ≤ (n : Int) ∧ 0 ≤ b ∧ b < 2 ^ 62
def SlotOk (G H : Hp) (o : Option (Option V)) : SV → List Addr → Prop
  | .un, as => as = []
  | .sh d, as => as = [] ∧ ∃ v, o = some (some v) ∧ RD G v d
  | .ow ds, as => ∃ l vs, o = some (some (.ref l)) ∧ as = [l] ∧ H l = some (.lst vs) ∧ RA G vs ds
  | .od kds, as => ∃ l kvs, o = some (some (.ref l)) ∧ as = [l] ∧ H l = some (DTO l kvs) ∧ RK G kvs kds
  | .oo dss, as => ∃ l ls, o = some (some (.ref l)) ∧ as = l :: ls ∧ H l = some (.lst (ls.map .ref)) ∧ OO G H ls dss
  | .dl kds, as => ∃ l ls kvs, o = some (some (.ref l)) ∧ as = l :: ls ∧ H l = some (DTO l kvs) ∧ OK G H kvs ls kds
  | .tin l n, as => o = some (some (.ref l)) ∧ as = [l] ∧ TinAt H l n
theorem OO.mono {G G' H H' : Hp} (g : Same G G') : ∀ {ls : List Addr} {dss : List (List PyData)}, (∀ l ∈ ls, H' l = H l) → OO G H ls dss → OO G' H' ls dss
  | [], [], _, _ => trivial
  | l :: ls, ds :: dss, k, ⟨⟨vs, e, r⟩, t⟩ => ⟨⟨vs, (k l List.mem_cons_self).trans e, r.mono g⟩, OO.mono g (fun x hx => k x (List.mem_cons_of_mem _ hx)) t⟩
  | [], _ :: _, _, h => h.elim
  | _ :: _, [], _, h => h.elim
theorem OK.mono {G G' H H' : Hp} (g : Same G G') : ∀ {kvs : List EnT} {ls : List Addr} {dss : List (List Int × List PyData)}, (∀ l ∈ ls, H' l = H l) → OK G H kvs ls dss → OK G' H' kvs ls dss
  | [], [], [], _, _ => trivial
  | kv :: kvs, l :: ls, ds :: dss, k, ⟨⟨⟨b, e0, e1⟩, vs, e, r⟩, t⟩ => ⟨⟨⟨b, e0, e1.mono g⟩, vs, (k l List.mem_cons_self).trans e, r.mono g⟩, OK.mono g (fun x hx => k x (List.mem_cons_of_mem _ hx)) t⟩
  | [], [], _ :: _, _, h => h.elim
  | [], _ :: _, _, _, h => h.elim
  | _ :: _, [], _, _, h => h.elim
  | _ :: _, _ :: _, [], _, h => h.elim
theorem SlotOk.mono {G G' H H' : Hp} {o : Option (Option V)} {s : SV} {as : List Addr} (g : Same G G') (k : ∀ l ∈ as, H' l = H l) (h : SlotOk G H o s as) : SlotOk G' H' o s as := by
  cases s with
  | un => exact h
  | sh d =>
    obtain ⟨e, v, e2, r⟩ := h
    exact ⟨e, v, e2, r.mono g⟩
  | ow ds =>
    obtain ⟨l, vs, e, e2, e3, r⟩ := h
    subst e2
    exact ⟨l, vs, e, rfl, (k l (by simp)).trans e3, r.mono g⟩
  | od ds =>
    obtain ⟨l, vs, e, e2, e3, r⟩ := h
    subst e2
    exact ⟨l, vs, e, rfl, (k l (by simp)).trans e3, r.mono g⟩
  | oo dss =>
    obtain ⟨l, ls, e, e2, e3, r⟩ := h
    subst e2
    exact ⟨l, ls, e, rfl, (k l (by simp)).trans e3, r.mono g fun x hx => k x (List.mem_cons_of_mem _ hx)⟩
  | dl kds =>
    obtain ⟨l, ls, kvs, e, e2, e3, r⟩ := h
    subst e2
    exact ⟨l, ls, kvs, e, rfl, (k l (by simp)).trans e3, r.mono g fun x hx => k x (List.mem_cons_of_mem _ hx)⟩
  | tin l n =>
    obtain ⟨e, e2, a, b, c, e3, r⟩ := h
    subst e2
    exact ⟨e, rfl, a, b, c, (k l (by simp)).trans e3, r⟩
/-- the state: G frozen within H, the slots as told, A i the addresses that slot i owns -/
structure SR (G H : Hp) (σ : L2.St) (ρ : List SV) (A : Nat → List Addr) : Prop where
  gh : Same G H
  at_ : ∀ i s, ρ[i]? = some s → SlotOk G H σ[i]? s (A i)
  dis : ∀ i j a, a ∈ A i → a ∈ A j → i = j
  nod : ∀ i, (A i).Nodup
  own : ∀ i a, a ∈ A i → H a ≠ none ∧ G a = none
  len : σ.length = ρ.length
/-- things were made, nothing that stood was changed -/
structure Grow (G H G' H' : Hp) : Prop where
  hh : Same H H'
  gn : ∀ b, H b ≠ none → G' b = G b
  gh : Same G' H'
section
variable {G H G' H' G1 H1 G2 H2 : Hp} {σ : L2.St} {ρ : List SV} {A : Nat → List Addr}
theorem sameNe {H H' : Hp} (s : Same H H') {b : Addr} (h : H b ≠ none) : H' b ≠ none := by
  cases e : H b with
  | none => exact absurd e h
  | some o => rw [s b o e]; exact fun z => nomatch z
theorem sameEq {H H' : Hp} (s : Same H H') {b : Addr} (h : H b ≠ none) : H' b = H b := by
  cases e : H b with
  | none => exact absurd e h
  | some o => rw [s b o e]
theorem Grow.refl (s : Same G H) : Grow G H G H := ⟨fun _ _ e => e, fun _ _ => rfl, s⟩
theorem Grow.trans (a : Grow G H G1 H1) (b : Grow G1 H1 G2 H2) : Grow G H G2 H2 :=
  ⟨a.hh.trans b.hh, fun c h => (b.gn c (sameNe a.hh h)).trans (a.gn c h), b.gh⟩
theorem Grow.gg (s : Same G H) (a : Grow G H G' H') : Same G G' := fun b o e => (a.gn b (by rw [s b o e]; exact fun z => nomatch z)).trans e
theorem SR.grow (S : SR G H σ ρ A) (g : Grow G H G' H') : SR G' H' σ ρ A where
  gh := g.gh
  at_ := fun i s e => (S.at_ i s e).mono (g.gg S.gh) fun l hl => sameEq g.hh (S.own i l hl).1
  dis := S.dis
  nod := S.nod
  own := fun i a ha => ⟨sameNe g.hh (S.own i a ha).1, (g.gn a (S.own i a ha).1).trans (S.own i a ha).2⟩
  len := S.len
theorem Grow.new {p : Addr} {o : HO} (s : Same G H) (hp : H p = none) : Grow G H (upd G p o) (upd H p o) where
  hh := fun b u e => by rw [upd_ne (ne_of_none e hp)]; exact e
  gn := fun b h => by rw [upd_ne (fun e => h (by rw [e]; exact hp))]
  gh := fun b u e => by
    by_cases hb : b = p
    · subst hb; rw [upd_same] at e ⊢; exact e
    · rw [upd_ne hb] at e ⊢; exact s b u e
theorem sameUpd (s : Same G H) {p : Addr} {o : HO} (hp : G p = none) : Same G (upd H p o) := fun b u e => by
  rw [upd_ne (ne_of_none e hp)]; exact s b u e
theorem sameNone (s : Same G H) {p : Addr} (hp : H p = none) : G p = none := s.free hp
def setA (A : Nat → List Addr) (i : Nat) (as : List Addr) : Nat → List Addr := fun j => if j = i then as else A j
theorem setA_same {i : Nat} {as : List Addr} : setA A i as i = as := if_pos rfl
theorem setA_ne {i j : Nat} {as : List Addr} (h : j ≠ i) : setA A i as j = A j := if_neg h
/-- slot i gets data -/
theorem SR.set (S : SR G H σ ρ A) (i : Nat) {v : V} {d : PyData} (r : RD G v d) : SR G H (σ.set i (some v)) (ρ.set i (.sh d)) (setA A i []) where
  gh := S.gh
  at_ := fun j s e => by
    by_cases hj : j = i
    · subst hj
      rw [setA_same]
      by_cases hl : j < ρ.length
      · rw [List.getElem?_set_self hl] at e
        cases e
        exact ⟨rfl, v, by rw [List.getElem?_set_self (by rw [S.len]; exact hl)], r⟩
      · rw [List.getElem?_eq_none (by simpa using hl)] at e; cases e
    · rw [setA_ne hj, List.getElem?_set_ne (Ne.symm hj)]
      rw [List.getElem?_set_ne (Ne.symm hj)] at e
      exact S.at_ j s e
  dis := fun j k a h1 h2 => by
    by_cases hj : j = i
    · subst hj; rw [setA_same] at h1; cases h1
    · by_cases hk : k = i
      · subst hk; rw [setA_same] at h2; cases h2
      · rw [setA_ne hj] at h1; rw [setA_ne hk] at h2; exact S.dis j k a h1 h2
  nod := fun j => by
    by_cases hj : j = i
    · subst hj; rw [setA_same]; exact List.nodup_nil
    · rw [setA_ne hj]; exact S.nod j
  own := fun j a h => by
    by_cases hj : j = i
    · subst hj; rw [setA_same] at h; cases h
    · rw [setA_ne hj] at h; exact S.own j a h
  len := by rw [List.length_set, List.length_set]; exact S.len
/-- slot i gets a thing of its own -/
theorem SR.setOwn (S : SR G H σ ρ A) (i : Nat) {v : V} {s : SV} {as : List Addr} (hs : SlotOk G H (some (some v)) s as) (hn : as.Nodup) (hd : ∀ j a, a ∈ as → a ∈ A j → j = i) (ho : ∀ a ∈ as, H a ≠ none ∧ G a = none) :
    SR G H (σ.set i (some v)) (ρ.set i s) (setA A i as) where
  gh := S.gh
  at_ := fun j s' e => by
    by_cases hj : j = i
    · subst hj
      rw [setA_same]
      by_cases hl : j < ρ.length
      · rw [List.getElem?_set_self hl] at e
        cases e
        rw [List.getElem?_set_self (by rw [S.len]; exact hl)]
        exact hs
      · rw [List.getElem?_eq_none (by simpa using hl)] at e; cases e
    · rw [setA_ne hj, List.getElem?_set_ne (Ne.symm hj)]
      rw [List.getElem?_set_ne (Ne.symm hj)] at e
      exact S.at_ j s' e
  dis := fun j k a h1 h2 => by
    by_cases hj : j = i
    · subst hj
      rw [setA_same] at h1
      by_cases hk : k = j
      · exact hk.symm
      · rw [setA_ne hk] at h2; exact (hd k a h1 h2).symm
    · rw [setA_ne hj] at h1
      by_cases hk : k = i
      · subst hk; rw [setA_same] at h2; exact hd j a h2 h1
      · rw [setA_ne hk] at h2; exact S.dis j k a h1 h2
  nod := fun j => by
    by_cases hj : j = i
    · subst hj; rw [setA_same]; exact hn
    · rw [setA_ne hj]; exact S.nod j
  own := fun j a h => by
    by_cases hj : j = i
    · subst hj; rw [setA_same] at h; exact ho a h
    · rw [setA_ne hj] at h; exact S.own j a h
  len := by rw [List.length_set, List.length_set]; exact S.len
theorem SR.sh (S : SR G H σ ρ A) {i : Nat} {d : PyData} (e : ρ[i]? = some (.sh d)) : ∃ v, σ[i]? = some (some v) ∧ RD G v d := (S.at_ i _ e).2
end

/-! ### readings over data -/
abbrev TD := List SV → (PyData → Prop) → Prop
abbrev TDs := List SV → (List PyData → Prop) → Prop
abbrev TDT := List SV → (Bool → Prop) → Prop
def tP (t : TD) : TE := fun σ H Q => ∃ G ρ A P, SR G H σ ρ A ∧ t ρ P ∧ ∀ d v G' H', P d → Grow G H G' H' → RD G' v d → Q v H'
def tPs (t : TDs) : TA := fun σ H Q => ∃ G ρ A P, SR G H σ ρ A ∧ t ρ P ∧ ∀ ds vs G' H', P ds → Grow G H G' H' → RA G' vs ds → Q vs H'
def tPT (t : TDT) : TT := fun σ H Q => ∃ G ρ A P, SR G H σ ρ A ∧ t ρ P ∧ ∀ b G' H', P b → Grow G H G' H' → Q b H'
def DP (X : Cx) (e : Expr) (t : TD) : Prop := PE X e (tP t)
def DA (X : Cx) (es : List Expr) (t : TDs) : Prop := PA X es (tPs t)
def DT (X : Cx) (e : Expr) (t : TDT) : Prop := PT X e (tPT t)
def DW (X : Cx) (e : Expr) (t : TDT) : Prop := PW X e (tPT t)
section
variable {X : Cx}
theorem PE.wk {e : Expr} {t t' : TE} (h : PE X e t) (w : ∀ σ H Q, t' σ H Q → t σ H Q) : PE X e t' := ⟨fun pins s σ H Q I q => h.run pins s σ H Q I (w _ _ _ q)⟩
theorem PA.wk {e : List Expr} {t t' : TA} (h : PA X e t) (w : ∀ σ H Q, t' σ H Q → t σ H Q) : PA X e t' := ⟨fun pos pins s σ H Q I q => h.run pos pins s σ H Q I (w _ _ _ q)⟩
theorem PT.wk {e : Expr} {t t' : TT} (h : PT X e t) (w : ∀ σ H Q, t' σ H Q → t σ H Q) : PT X e t' := ⟨fun pins s σ H Q I q => h.run pins s σ H Q I (w _ _ _ q)⟩
theorem PW.wk {e : Expr} {t t' : TT} (h : PW X e t) (w : ∀ σ H Q, t' σ H Q → t σ H Q) : PW X e t' := ⟨fun wh pins s σ H Q I q => h.run wh pins s σ H Q I (w _ _ _ q)⟩
theorem PS.wk {e : Stmt} {t t' : TS} (h : PS X e t) (w : ∀ D σ H, t' D σ H → t D σ H) : PS X e t' := ⟨fun pins s σ H D I q => h.run pins s σ H D I (w _ _ _ q)⟩
theorem PSs.wk {e : List Stmt} {t t' : TS} (h : PSs X e t) (w : ∀ D σ H, t' D σ H → t D σ H) : PSs X e t' := ⟨fun pins s σ H D I q => h.run pins s σ H D I (w _ _ _ q)⟩
theorem PI.wk {tg e : Expr} {t t' : TI} (h : PI X tg e t) (w : ∀ σ H R, t' σ H R → t σ H R) : PI X tg e t' := ⟨fun pins s σ H R I q => h.run pins s σ H R I (w _ _ _ q)⟩

/-! names and constants -/
def dV (i : Nat) : TD := fun ρ P => ∃ d, ρ[i]? = some (.sh d) ∧ P d
def dC (d : PyData) : TD := fun _ P => P d
theorem dp_var {i : Nat} {e : Expr} (h : PE X e (tVar i)) : DP X e (dV i) := PE.wk h fun σ H Q ⟨G, ρ, A, P, S, ⟨d, e, p⟩, k⟩ => by
  obtain ⟨v, e2, r⟩ := S.sh e
  exact ⟨v, e2, k d v G H p (Grow.refl S.gh) r⟩
theorem dp_const {e : Expr} {v : V} {d : PyData} (h : PE X e (tC v)) (r : ∀ G, RD G v d) : DP X e (dC d) := PE.wk h fun σ H Q ⟨G, ρ, A, P, S, p, k⟩ => k d v G H p (Grow.refl S.gh) (r G)
theorem dp_int {i j pos} : DP X (.Constant (.int i) j pos) (dC (.int i)) := dp_const pe_int fun _ => .int i
theorem dp_bl {b j pos} : DP X (.Constant (.bool b) j pos) (dC (.bool b)) := dp_const pe_bl fun _ => .bl b
theorem dp_non {j pos} : DP X (.Constant .none j pos) (dC .none) := dp_const pe_non fun _ => .non

/-! two operands -/
abbrev GD2 := PyData → PyData → (PyData → Prop) → Prop
def OpD (r : R2) (g : GD2) : Prop := ∀ G H x y dx dy P Q, Same G H → RD G x dx → RD G y dy → g dx dy P → (∀ d v G' H', P d → Grow G H G' H' → RD G' v d → Q v H') → r x y H Q
def dOp (g : GD2) (ta tb : TD) : TD := fun ρ P => ta ρ fun x => tb ρ fun y => g x y P
variable {a b c : Expr} {ta tb tc : TD} {pos : Pos}
theorem tOp_of {r : R2} {g : GD2} (o : OpD r g) : ∀ σ H Q, tP (dOp g ta tb) σ H Q → tOp r (tP ta) (tP tb) σ H Q := fun σ H Q ⟨G, ρ, A, P, S, h, k⟩ =>
  ⟨G, ρ, A, _, S, h, fun d1 v1 G1 H1 p1 g1 r1 => ⟨G1, ρ, A, _, S.grow g1, p1, fun d2 v2 G2 H2 p2 g2 r2 =>
    o G2 H2 v1 v2 d1 d2 P Q g2.gh (r1.mono (g2.gg g1.gh)) r2 p2 fun d v G' H' p g3 r => k d v G' H' p ((g1.trans g2).trans g3) r⟩⟩
theorem dp_op {op : Operator} {r : R2} {g : GD2} (ho : OpR X (binaryOp op) r) (o : OpD r g) (ha : DP X a ta) (hb : DP X b tb) : DP X (.BinOp a op b pos) (dOp g ta tb) := PE.wk (pe_op ho ha hb) (tOp_of o)
theorem dp_cmp {op : CmpOp} {r : R2} {g : GD2} (ho : OpR X (compareOp op) r) (o : OpD r g) (ha : DP X a ta) (hb : DP X b tb) (hm : behindInMarks op b = false) : DP X (.Compare a [op] [b] pos) (dOp g ta tb) := PE.wk (pe_cmpR ho ha hb hm) (tOp_of o)
/-- a test whose value is a bool -/
def dB (t : TD) : TDT := fun ρ P => t ρ fun d => ∃ b, d = .bool b ∧ P b
theorem tTest_of {t : TD} {t' : TE} (w : ∀ σ H Q, tP t σ H Q → t' σ H Q) : ∀ σ H Q, tPT (dB t) σ H Q → tTest t' σ H Q := fun σ H Q ⟨G, ρ, A, P, S, h, k⟩ =>
  w σ H _ ⟨G, ρ, A, _, S, h, fun d v G' H' ⟨b, e, p⟩ g r => by subst e; exact ⟨b, r.bl_of, k b G' H' p g⟩⟩
theorem dt_cmp {op : CmpOp} {r : R2} {g : GD2} (ho : OpR X (compareOp op) r) (o : OpD r g) (ha : DP X a ta) (hb : DP X b tb) (hm : behindInMarks op b = false) : DT X (.Compare a [op] [b] pos) (dB (dOp g ta tb)) := PT.wk (pt_cmpR ho ha hb hm) (tTest_of (tOp_of o))
theorem dt_val {e : Expr} {t : TD} (h : DP X e t) (he : ∀ whole, isTrue e X.env whole = (do let v ← whole; standAt e.pos; holding [v] (truthy v)) := by intro _; rfl) : DT X e (dB t) :=
  PT.wk (pt_val h he) fun σ H Q ⟨G, ρ, A, P, S, h, k⟩ => ⟨G, ρ, A, _, S, h, fun d v G' H' ⟨b, e, p⟩ g r => by subst e; exact ⟨b, r.bl_of, k b G' H' p g⟩⟩
/-! and, or, not -/
def dAnd (t u : TDT) : TDT := fun ρ P => t ρ fun b => if b = true then u ρ P else P false
def dOr (t u : TDT) : TDT := fun ρ P => t ρ fun b => if b = true then P true else u ρ P
def dNot (t : TDT) : TDT := fun ρ P => t ρ fun b => P (!b)
variable {tA tB' : TDT} {rest : List Expr}
theorem dw_and1 (ha : DT X a tA) : DW X (.BoolOp .And [a] pos) tA := pw_and1 ha
theorem dw_or1 (ha : DT X a tA) : DW X (.BoolOp .Or [a] pos) tA := pw_or1 ha
theorem dw_and (ha : DT X a tA) (hb : DW X (.BoolOp .And (b :: rest) pos) tB') : DW X (.BoolOp .And (a :: b :: rest) pos) (dAnd tA tB') :=
  PW.wk (pw_and ha hb) fun σ H Q ⟨G, ρ, A, P, S, h, k⟩ => ⟨G, ρ, A, _, S, h, fun c G' H' p g => by
    cases c with
    | true => exact ⟨G', ρ, A, P, S.grow g, p, fun b G2 H2 q g2 => k b G2 H2 q (g.trans g2)⟩
    | false => exact k false G' H' p g⟩
theorem dw_or (ha : DT X a tA) (hb : DW X (.BoolOp .Or (b :: rest) pos) tB') : DW X (.BoolOp .Or (a :: b :: rest) pos) (dOr tA tB') :=
  PW.wk (pw_or ha hb) fun σ H Q ⟨G, ρ, A, P, S, h, k⟩ => ⟨G, ρ, A, _, S, h, fun c G' H' p g => by
    cases c with
    | false => exact ⟨G', ρ, A, P, S.grow g, p, fun b G2 H2 q g2 => k b G2 H2 q (g.trans g2)⟩
    | true => exact k true G' H' p g⟩
theorem DW.dt {e : Expr} {t : TDT} (h : DW X e t) : DT X e t := PW.pt h
theorem dt_not (ha : DT X a tA) : DT X (.UnaryOp .Not a pos) (dNot tA) := PT.wk (pt_not ha) fun σ H Q ⟨G, ρ, A, P, S, h, k⟩ => ⟨G, ρ, A, _, S, h, fun c G' H' p g => k _ G' H' p g⟩
/-- as values: all but the last one are bools -/
def dAndV (ta tb : TD) : TD := fun ρ P => ta ρ fun x => ∃ c, x = .bool c ∧ if c = true then tb ρ P else P (.bool false)
def dOrV (ta tb : TD) : TD := fun ρ P => ta ρ fun x => ∃ c, x = .bool c ∧ if c = true then P (.bool true) else tb ρ P
def dNotV (ta : TD) : TD := fun ρ P => ta ρ fun x => ∃ c, x = .bool c ∧ P (.bool (!c))
theorem dp_one {op} {t : TD} (h : DP X a t) : DP X (.BoolOp op [a] pos) t := pe_one h
theorem dp_and (ha : DP X a ta) (hb : DP X (.BoolOp .And (b :: rest) pos) tb) : DP X (.BoolOp .And (a :: b :: rest) pos) (dAndV ta tb) :=
  PE.wk (pe_and ha hb) fun σ H Q ⟨G, ρ, A, P, S, h, k⟩ => ⟨G, ρ, A, _, S, h, fun d v G' H' ⟨c, e, p⟩ g r => by
    subst e
    refine ⟨c, r.bl_of, ?_⟩
    cases c with
    | true => exact ⟨G', ρ, A, P, S.grow g, p, fun d v G2 H2 q g2 r2 => k d v G2 H2 q (g.trans g2) r2⟩
    | false => exact k _ _ G' H' p g (.bl false)⟩
theorem dp_or (ha : DP X a ta) (hb : DP X (.BoolOp .Or (b :: rest) pos) tb) : DP X (.BoolOp .Or (a :: b :: rest) pos) (dOrV ta tb) :=
  PE.wk (pe_or ha hb) fun σ H Q ⟨G, ρ, A, P, S, h, k⟩ => ⟨G, ρ, A, _, S, h, fun d v G' H' ⟨c, e, p⟩ g r => by
    subst e
    refine ⟨c, r.bl_of, ?_⟩
    cases c with
    | false => exact ⟨G', ρ, A, P, S.grow g, p, fun d v G2 H2 q g2 r2 => k d v G2 H2 q (g.trans g2) r2⟩
    | true => exact k _ _ G' H' p g (.bl true)⟩
theorem dp_not (ha : DP X a ta) : DP X (.UnaryOp .Not a pos) (dNotV ta) :=
  PE.wk (pe_not ha) fun σ H Q ⟨G, ρ, A, P, S, h, k⟩ => ⟨G, ρ, A, _, S, h, fun d v G' H' ⟨c, e, p⟩ g r => by
    subst e
    exact ⟨c, r.bl_of, k _ _ G' H' p g (.bl _)⟩⟩
/-- a if t else b -/
def dIf (t : TDT) (ta tb : TD) : TD := fun ρ P => t ρ fun c => if c = true then ta ρ P else tb ρ P
theorem dp_if {c : Expr} (hc : DT X c tA) (ha : DP X a ta) (hb : DP X b tb) : DP X (.IfExp c a b pos) (dIf tA ta tb) :=
  PE.wk (pe_ifExp hc ha hb) fun σ H Q ⟨G, ρ, A, P, S, h, k⟩ => ⟨G, ρ, A, _, S, h, fun c G' H' p g => by
    cases c with
    | true => exact ⟨G', ρ, A, P, S.grow g, p, fun d v G2 H2 q g2 r2 => k d v G2 H2 q (g.trans g2) r2⟩
    | false => exact ⟨G', ρ, A, P, S.grow g, p, fun d v G2 H2 q g2 r2 => k d v G2 H2 q (g.trans g2) r2⟩⟩
/-! argument lists, displays -/
def dNil : TDs := fun _ P => P []
def dCons (ta : TD) (tr : TDs) : TDs := fun ρ P => ta ρ fun x => tr ρ fun xs => P (x :: xs)
theorem da_nil : DA X [] dNil := PA.wk pa_nil fun σ H Q ⟨G, ρ, A, P, S, h, k⟩ => k [] [] G H h (Grow.refl S.gh) .nil
variable {es : List Expr} {t : TDs}
theorem da_cons (ha : DP X a ta) (hr : DA X es t) (hs : starEach (a :: es) X.env = (false, eval a X.env) :: starEach es X.env := by rfl) : DA X (a :: es) (dCons ta t) :=
  PA.wk (pa_cons ha hr hs) fun σ H Q ⟨G, ρ, A, P, S, h, k⟩ => ⟨G, ρ, A, _, S, h, fun d v G' H' p g r =>
    ⟨G', ρ, A, _, S.grow g, p, fun ds vs G2 H2 q g2 r2 => k (d :: ds) (v :: vs) G2 H2 q (g.trans g2) (.cons (r.mono (g2.gg g.gh)) r2)⟩⟩
def dTup (t : TDs) : TD := fun ρ P => t ρ fun xs => xs.length ≤ 16777216 ∧ P (.tuple xs)
def dLst (t : TDs) : TD := fun ρ P => t ρ fun xs => xs.length ≤ 16777216 ∧ P (.list xs)
theorem RA.upd {G : Hp} {vs : List V} {ds : List PyData} {p : Addr} {o : HO} (r : RA G vs ds) (hp : G p = none) : RA (upd G p o) vs ds := r.mono fun b u e => by rw [upd_ne (ne_of_none e hp)]; exact e
theorem dp_tup {x1} (h : DA X es t) : DP X (.Tuple es x1 pos) (dTup t) :=
  PE.wk (pe_tup h) fun σ H Q ⟨G, ρ, A, P, S, h, k⟩ => ⟨G, ρ, A, _, S, h, fun ds vs G' H' ⟨z, p⟩ g r => ⟨by rw [r.length, sizeLine_eq]; exact z, fun l hl =>
    k _ _ (upd G' l (.tup vs)) _ p (g.trans (Grow.new g.gh hl)) (.tup (.inl upd_same) (r.upd (g.gh.free hl)))⟩⟩
theorem dp_lst (h : DA X es t) : DP X (.List es pos) (dLst t) :=
  PE.wk (pe_lst h) fun σ H Q ⟨G, ρ, A, P, S, h, k⟩ => ⟨G, ρ, A, _, S, h, fun ds vs G' H' ⟨z, p⟩ g r => ⟨by rw [r.length, sizeLine_eq]; exact z, fun l hl =>
    k _ _ (upd G' l (.lst vs)) _ p (g.trans (Grow.new g.gh hl)) (.lst upd_same (r.upd (g.gh.free hl)))⟩⟩
end
end DL

-- text DL2
set_option Elab.async false
set_option linter.all false
set_option maxRecDepth 100000
set_option maxHeartbeats 4000000
namespace DL
open PySem PySem.Spec PyProof.Rows L2

/-! ### operators over data -/
section
variable {X : Cx}
theorem RA.nil_iff {G : Hp} {vs : List V} {ds : List PyData} (r : RA G vs ds) : vs = [] ↔ ds = [] := by
  cases r with
  | nil => exact ⟨fun _ => rfl, fun _ => rfl⟩
  | cons _ _ => exact ⟨(fun z => nomatch z), (fun z => nomatch z)⟩
def gAdd : GD2 := fun x y P => match x, y with
  | .int i, .int j => P (.int (i + j))
  | .tuple xs, .tuple ys => xs.length + ys.length ≤ 16777216 ∧ P (.tuple (xs ++ ys))
  | .list xs, .list ys => xs.length + ys.length ≤ 16777216 ∧ P (.list (xs ++ ys))
  | _, _ => False
def rAdd3 (K : PySem.W.Frag) : R2 := fun x y H Q => rI0 (fun i j => .int (i + j)) x y H Q ∨ (rCatA K x y H Q ∨ rCat x y H Q)
theorem op_add3 : OpR X (binaryOp .Add) (rAdd3 X.K) := op_add.or (op_catA.or op_cat)
theorem od_add : OpD (rAdd3 X.K) gAdd := by
  intro G H x y dx dy P Q s rx ry h k
  cases dx with
  | int i =>
    cases dy with
    | int j => exact .inl ⟨i, j, rx.int_of, ry.int_of, k _ _ G H h (Grow.refl s) (.int _)⟩
    | _ => exact h.elim
  | tuple xs =>
    cases dy with
    | tuple ys =>
      obtain ⟨z, p⟩ : xs.length + ys.length ≤ 16777216 ∧ P (.tuple (xs ++ ys)) := h
      obtain ⟨a, us, rfl, ea, ra⟩ := rx.tup_of
      obtain ⟨b, ws, rfl, eb, rb⟩ := ry.tup_of
      refine .inr (.inl ⟨a, b, us, ws, rfl, rfl, ea.sq s, eb.sq s, by rw [ra.length, rb.length, sizeLine_eq]; exact z, fun e => ?_, fun _ e => ?_, fun _ _ q hq => ?_⟩)
      · have e2 := ra.nil_iff.mp e
        subst e2
        exact k _ _ G H p (Grow.refl s) ry
      · have e2 := rb.nil_iff.mp e
        subst e2
        rw [List.append_nil] at p
        exact k _ _ G H p (Grow.refl s) rx
      · exact k _ _ (upd G q (.tup (us ++ ws))) _ p (Grow.new s hq) (.tup (.inl upd_same) ((ra.append rb).upd (s.free hq)))
    | _ => exact h.elim
  | list xs =>
    cases dy with
    | list ys =>
      obtain ⟨z, p⟩ : xs.length + ys.length ≤ 16777216 ∧ P (.list (xs ++ ys)) := h
      obtain ⟨a, us, rfl, ea, ra⟩ := rx.lst_of
      obtain ⟨b, ws, rfl, eb, rb⟩ := ry.lst_of
      refine .inr (.inr ⟨a, b, us, ws, rfl, rfl, s _ _ ea, s _ _ eb, by rw [ra.length, rb.length, sizeLine_eq]; exact z, fun q hq => ?_⟩)
      exact k _ _ (upd G q (.lst (us ++ ws))) _ p (Grow.new s hq) (.lst upd_same ((ra.append rb).upd (s.free hq)))
    | _ => exact h.elim
  | _ => exact h.elim
/-- ints -/
def gI (C : Int → Int → Prop) (f : Int → Int → PyData) : GD2 := fun x y P => match x, y with
  | .int i, .int j => C i j ∧ P (f i j)
  | _, _ => False
def gI0 (f : Int → Int → PyData) : GD2 := fun x y P => match x, y with
  | .int i, .int j => P (f i j)
  | _, _ => False
theorem od_I {C : Int → Int → Prop} {f : Int → Int → PyData} {g : Int → Int → V} (e : ∀ G i j, RD G (g i j) (f i j)) : OpD (rI C g) (gI C f) := by
  intro G H x y dx dy P Q s rx ry h k
  cases dx with
  | int i =>
    cases dy with
    | int j =>
      obtain ⟨c, p⟩ : C i j ∧ P (f i j) := h
      exact ⟨i, j, rx.int_of, ry.int_of, c, k _ _ G H p (Grow.refl s) (e G i j)⟩
    | _ => exact h.elim
  | _ => exact h.elim
theorem od_I0 {f : Int → Int → PyData} {g : Int → Int → V} (e : ∀ G i j, RD G (g i j) (f i j)) : OpD (rI0 g) (gI0 f) := by
  intro G H x y dx dy P Q s rx ry h k
  cases dx with
  | int i =>
    cases dy with
    | int j => exact ⟨i, j, rx.int_of, ry.int_of, k _ _ G H h (Grow.refl s) (e G i j)⟩
    | _ => exact h.elim
  | _ => exact h.elim
abbrev gSub : GD2 := gI0 fun i j => .int (i - j)
abbrev gMulI : GD2 := gI CMul fun i j => .int (i * j)
abbrev gFdiv : GD2 := gI CDiv fun i j => .int (i / j)
abbrev gMod : GD2 := gI (fun _ j => 0 < j) fun i j => .int (i % j)
abbrev gPow : GD2 := gI CPow fun i j => .int (i ^ j.toNat)
abbrev gLt : GD2 := gI0 fun i j => .bool (decide (i < j))
abbrev gLe : GD2 := gI0 fun i j => .bool (decide (i ≤ j))
abbrev gGt : GD2 := gI0 fun i j => .bool (decide (j < i))
abbrev gGe : GD2 := gI0 fun i j => .bool (decide (j ≤ i))
theorem od_sub : OpD (rI0 fun i j => .int (i - j)) gSub := od_I0 fun _ _ _ => .int _
theorem od_mulI : OpD (rI CMul fun i j => .int (i * j)) gMulI := od_I fun _ _ _ => .int _
theorem od_fdiv : OpD (rI CDiv fun i j => .int (i / j)) gFdiv := od_I fun _ _ _ => .int _
theorem od_mod : OpD (rI (fun _ j => 0 < j) fun i j => .int (i % j)) gMod := od_I fun _ _ _ => .int _
theorem od_pow : OpD (rI CPow fun i j => .int (i ^ j.toNat)) gPow := od_I fun _ _ _ => .int _
theorem od_lt : OpD (rI0 fun i j => .bl (decide (i < j))) gLt := od_I0 fun _ _ _ => .bl _
theorem od_le : OpD (rI0 fun i j => .bl (decide (i ≤ j))) gLe := od_I0 fun _ _ _ => .bl _
theorem od_gt : OpD (rI0 fun i j => .bl (decide (j < i))) gGt := od_I0 fun _ _ _ => .bl _
theorem od_ge : OpD (rI0 fun i j => .bl (decide (j ≤ i))) gGe := od_I0 fun _ _ _ => .bl _
/-- tuples of ints, compared -/
def gLtT : GD2 := fun x y P => ∃ ns ms, x = tupI ns ∧ y = tupI ms ∧ P (.bool (HT.lexLt ns ms))
theorem od_ltT : OpD (rLtT X.K) gLtT := by
  intro G H x y dx dy P Q s rx ry h k
  obtain ⟨ns, ms, rfl, rfl, p⟩ := h
  obtain ⟨a, rfl, ea⟩ := rx.tupI_of
  obtain ⟨b, rfl, eb⟩ := ry.tupI_of
  exact ⟨a, b, ns, ms, rfl, rfl, ea.sq s, eb.sq s, k _ _ G H p (Grow.refl s) (.bl _)⟩
/-- times: ints, a tuple or a list so many times -/
def gMul : GD2 := fun x y P => match x, y with
  | .int i, .int j => CMul i j ∧ P (.int (i * j))
  | .tuple xs, .int k => xs ≠ [] ∧ 2 ≤ k ∧ k ≤ 1000 ∧ xs.length ≤ 1000 ∧ P (.tuple (List.replicate k.toNat xs).flatten)
  | .list xs, .int k => 0 ≤ k ∧ k ≤ 1000 ∧ xs.length ≤ 1000 ∧ P (.list (List.replicate k.toNat xs).flatten)
  | _, _ => False
def rMul3 (K : PySem.W.Frag) : R2 := fun x y H Q => rI CMul (fun i j => .int (i * j)) x y H Q ∨ (rRepT K x y H Q ∨ rRep x y H Q)
theorem op_mul3 : OpR X (binaryOp .Mult) (rMul3 X.K) := op_mul.or (op_repT.or op_rep)
theorem len_small {m : Nat} {k : Int} (hk : k ≤ 1000) (hm : m ≤ 1000) : m * k.toNat ≤ sizeLine := by
  rw [sizeLine_eq]
  have h1 : m * k.toNat ≤ 1000 * 1000 := Nat.mul_le_mul hm (by omega)
  omega
theorem od_mul : OpD (rMul3 X.K) gMul := by
  intro G H x y dx dy P Q s rx ry h k
  cases dx with
  | int i =>
    cases dy with
    | int j =>
      obtain ⟨c, p⟩ : CMul i j ∧ P (.int (i * j)) := h
      exact .inl ⟨i, j, rx.int_of, ry.int_of, c, k _ _ G H p (Grow.refl s) (.int _)⟩
    | _ => exact h.elim
  | tuple xs =>
    cases dy with
    | int j =>
      obtain ⟨h0, h1, h2, h3, p⟩ : xs ≠ [] ∧ 2 ≤ j ∧ j ≤ 1000 ∧ xs.length ≤ 1000 ∧ P (.tuple (List.replicate j.toNat xs).flatten) := h
      obtain ⟨a, us, rfl, ea, ra⟩ := rx.tup_of
      exact .inr (.inl ⟨a, j, us, rfl, ry.int_of, ea.sq s, fun e => h0 (ra.nil_iff.mp e), h1, h2, by rw [ra.length]; exact h3, fun q hq =>
        k _ _ (upd G q (.tup (List.replicate j.toNat us).flatten)) _ p (Grow.new s hq) (.tup (.inl upd_same) ((ra.rep _).upd (s.free hq)))⟩)
    | _ => exact h.elim
  | list xs =>
    cases dy with
    | int j =>
      obtain ⟨h0, h1, h3, p⟩ : 0 ≤ j ∧ j ≤ 1000 ∧ xs.length ≤ 1000 ∧ P (.list (List.replicate j.toNat xs).flatten) := h
      obtain ⟨a, us, rfl, ea, ra⟩ := rx.lst_of
      exact .inr (.inr ⟨a, j, us, rfl, ry.int_of, s _ _ ea, by omega, by omega, by rw [ra.length]; exact len_small h1 h3, fun q hq =>
        k _ _ (upd G q (.lst (List.replicate j.toNat us).flatten)) _ p (Grow.new s hq) (.lst upd_same ((ra.rep _).upd (s.free hq)))⟩)
    | _ => exact h.elim
  | _ => exact h.elim
/-- == and != of data -/
theorem canLay_of {d : PyData} (h : SeqAt.shaped d = true) : d.canLay0 = true := (Bool.and_eq_true_iff.mp h).1
def gEq : GD2 := fun x y P => SeqAt.shaped x = true ∧ SeqAt.shaped y = true ∧ P (.bool (PyData.eqv x y))
def gNe : GD2 := fun x y P => SeqAt.shaped x = true ∧ SeqAt.shaped y = true ∧ P (.bool (!PyData.eqv x y))
theorem od_eq : OpD (rEqD X.K) gEq := fun G H x y dx dy P Q s rx ry ⟨h1, h2, p⟩ k =>
  ⟨dx, dy, rx.dp s (canLay_of h1), ry.dp s (canLay_of h2), h1, h2, k _ _ G H p (Grow.refl s) (.bl _)⟩
theorem od_ne : OpD (rNeD X.K) gNe := fun G H x y dx dy P Q s rx ry ⟨h1, h2, p⟩ k =>
  ⟨dx, dy, rx.dp s (canLay_of h1), ry.dp s (canLay_of h2), h1, h2, k _ _ G H p (Grow.refl s) (.bl _)⟩
/-- x in y, y a list or a tuple -/
def rInT (K : PySem.W.Frag) : R2 := fun x y H Q => ∃ d ds, Dp K H x d ∧ Dp K H y (.tuple ds) ∧ SeqAt.shaped d = true ∧ SeqAt.shaped (.tuple ds) = true ∧ Q (.bl (ds.any fun z => PyData.eqv z d)) H
def rNotInT (K : PySem.W.Frag) : R2 := fun x y H Q => ∃ d ds, Dp K H x d ∧ Dp K H y (.tuple ds) ∧ SeqAt.shaped d = true ∧ SeqAt.shaped (.tuple ds) = true ∧ Q (.bl (!ds.any fun z => PyData.eqv z d)) H
theorem room_inT {A : Around} {d : PyData} {ds : List PyData} (sd : SeqAt.shaped d = true) (hu : A.units + 65 < cLine) : A.units + 1 + min (PyData.depthAll ds) d.depth < cLine := by
  have h := of_decide_eq_true (Bool.and_eq_true_iff.mp sd).2
  have := Nat.min_le_right (PyData.depthAll ds) d.depth
  omega
theorem canLayT {ds : List PyData} (h : SeqAt.shaped (.tuple ds) = true) : PyData.canLayAll0 ds = true := by
  have := canLay_of h
  simpa [PyData.canLay0] using this
theorem canLayL {ds : List PyData} (h : SeqAt.shaped (.list ds) = true) : PyData.canLayAll0 ds = true := by
  have := canLay_of h
  simpa [PyData.canLay0] using this
theorem op_inT (hu : X.A.units + 65 < cLine) : OpR X (compareOp .In) (rInT X.K) := by
  intro pins s σ H x y v u Q I rx ry h
  obtain ⟨d, ds, hd, he, sd, se, q⟩ := h
  obtain ⟨as, r1⟩ := Dp.reads I d x v hd rx
  obtain ⟨bs, r2⟩ := Dp.reads I (.tuple ds) y u he ry
  exact SeqAt.in_tuple_reads r2 r1 (canLayT se) (canLay_of sd) (room_inT sd hu) ⟨.bl _, H, I, rfl, q⟩
theorem op_notInT (hu : X.A.units + 65 < cLine) : OpR X (compareOp .NotIn) (rNotInT X.K) := by
  intro pins s σ H x y v u Q I rx ry h
  obtain ⟨d, ds, hd, he, sd, se, q⟩ := h
  obtain ⟨as, r1⟩ := Dp.reads I d x v hd rx
  obtain ⟨bs, r2⟩ := Dp.reads I (.tuple ds) y u he ry
  exact SeqAt.notIn_tuple_reads r2 r1 (canLayT se) (canLay_of sd) (room_inT sd hu) ⟨.bl _, H, I, rfl, q⟩
def inD (x : PyData) (ds : List PyData) : Bool := ds.any fun z => PyData.eqv z x
def gIn : GD2 := fun x y P => SeqAt.shaped x = true ∧ SeqAt.shaped y = true ∧ match y with
  | .list ds => P (.bool (inD x ds))
  | .tuple ds => P (.bool (inD x ds))
  | _ => False
def gNotIn : GD2 := fun x y P => SeqAt.shaped x = true ∧ SeqAt.shaped y = true ∧ match y with
  | .list ds => P (.bool (!inD x ds))
  | .tuple ds => P (.bool (!inD x ds))
  | _ => False
def rIn2 (K : PySem.W.Frag) : R2 := fun x y H Q => rInD K x y H Q ∨ rInT K x y H Q
def rNotIn2 (K : PySem.W.Frag) : R2 := fun x y H Q => rNotInD K x y H Q ∨ rNotInT K x y H Q
theorem op_in2 (hu : X.A.units + 65 < cLine) : OpR X (compareOp .In) (rIn2 X.K) := (op_inD hu).or (op_inT hu)
theorem op_notIn2 (hu : X.A.units + 65 < cLine) : OpR X (compareOp .NotIn) (rNotIn2 X.K) := (op_notInD hu).or (op_notInT hu)
theorem od_in : OpD (rIn2 X.K) gIn := fun G H x y dx dy P Q s rx ry ⟨h1, h2, p⟩ k => by
  cases dy with
  | list ds => exact .inl ⟨dx, ds, rx.dp s (canLay_of h1), ry.dp s (canLay_of h2), h1, h2, k _ _ G H p (Grow.refl s) (.bl _)⟩
  | tuple ds => exact .inr ⟨dx, ds, rx.dp s (canLay_of h1), ry.dp s (canLay_of h2), h1, h2, k _ _ G H p (Grow.refl s) (.bl _)⟩
  | _ => exact p.elim
theorem od_notIn : OpD (rNotIn2 X.K) gNotIn := fun G H x y dx dy P Q s rx ry ⟨h1, h2, p⟩ k => by
  cases dy with
  | list ds => exact .inl ⟨dx, ds, rx.dp s (canLay_of h1), ry.dp s (canLay_of h2), h1, h2, k _ _ G H p (Grow.refl s) (.bl _)⟩
  | tuple ds => exact .inr ⟨dx, ds, rx.dp s (canLay_of h1), ry.dp s (canLay_of h2), h1, h2, k _ _ G H p (Grow.refl s) (.bl _)⟩
  | _ => exact p.elim
/-- a chain of two comparisons of ints -/
def dChain (g g' : GD2) (ta tb tc : TD) : TD := fun ρ P => ta ρ fun x => tb ρ fun y => g x y fun z => ∃ k, z = .bool k ∧ if k = true then tc ρ fun w => g' y w P else P (.bool false)
end
/-! ### subscripts, slices -/
section
variable {X : Cx} {a b : Expr} {ta tb : TD} {pos : Pos}
def gIx : GD2 := fun x y P => match x, y with
  | .list ds, .int i => 0 ≤ i ∧ ∃ d, ds[i.toNat]? = some d ∧ P d
  | .tuple ds, .int i => 0 ≤ i ∧ ∃ d, ds[i.toNat]? = some d ∧ P d
  | _, _ => False
theorem atI_toNat {α : Type} {xs : List α} {i : Int} {v : α} (h0 : 0 ≤ i) (h : xs[i.toNat]? = some v) : atI xs i = some v := by
  have e : ((i.toNat : Nat) : Int) = i := by omega
  rw [← e]
  exact atI_nat h
def rIx2 (K : PySem.W.Frag) : R2 := fun x y H Q => rIxL K x y H Q ∨ rIxT K x y H Q
theorem ix_2 : IxR X (rIx2 X.K) := ix_list.or ix_tup
theorem od_ix : OpD (rIx2 X.K) gIx := by
  intro G H x y dx dy P Q s rx ry h k
  cases dx with
  | list ds =>
    cases dy with
    | int i =>
      obtain ⟨h0, d, e, p⟩ : 0 ≤ i ∧ ∃ d, ds[i.toNat]? = some d ∧ P d := h
      obtain ⟨a, us, rfl, ea, ra⟩ := rx.lst_of
      obtain ⟨v, ev, rv⟩ := ra.get e
      exact .inl ⟨a, us, i, v, rfl, ry.int_of, SqL.of (s _ _ ea), atI_toNat h0 ev, k _ _ G H p (Grow.refl s) rv⟩
    | _ => exact h.elim
  | tuple ds =>
    cases dy with
    | int i =>
      obtain ⟨h0, d, e, p⟩ : 0 ≤ i ∧ ∃ d, ds[i.toNat]? = some d ∧ P d := h
      obtain ⟨a, us, rfl, ea, ra⟩ := rx.tup_of
      obtain ⟨v, ev, rv⟩ := ra.get e
      exact .inr ⟨a, us, i, v, rfl, ry.int_of, ea.sq s, atI_toNat h0 ev, k _ _ G H p (Grow.refl s) rv⟩
    | _ => exact h.elim
  | _ => exact h.elim
theorem dp_ix (ha : DP X a ta) (hb : DP X b tb) (hs : PlainIx b) : DP X (.Subscript a b pos) (dOp gIx ta tb) := PE.wk (pe_ix ix_2 ha hb hs) (tOp_of od_ix)
/-- slices -/
def cutD (ds : List PyData) (lo hi : Option Int) : List PyData := (ds.drop (HT.sIx ds.length 0 lo)).take (HT.sIx ds.length ds.length hi - HT.sIx ds.length 0 lo)
theorem RA.cut {G : Hp} {vs : List V} {ds : List PyData} (r : RA G vs ds) (lo hi : Option Int) : RA G (cutV vs lo hi) (cutD ds lo hi) := by
  unfold cutV cutD
  rw [r.length]
  exact (r.drop _).take _
abbrev TDO := List SV → (Option Int → Prop) → Prop
def tPO (t : TDO) : TO := fun σ H Q => ∃ G ρ A P, SR G H σ ρ A ∧ t ρ P ∧ ∀ o G' H', P o → Grow G H G' H' → Q o H'
def DO (X : Cx) (e : Option Expr) (t : TDO) : Prop := PO X e (tPO t)
def dNoPart : TDO := fun _ P => P none
def dPart (t : TD) : TDO := fun ρ P => t ρ fun x => match x with
  | .int i => P (some i)
  | _ => False
theorem PO.wk {e : Option Expr} {t t' : TO} (h : PO X e t) (w : ∀ σ H Q, t' σ H Q → t σ H Q) : PO X e t' := ⟨fun pins s σ H Q I q => h.run pins s σ H Q I (w _ _ _ q)⟩
theorem do_none : DO X none dNoPart := PO.wk po_none fun σ H Q ⟨G, ρ, A, P, S, h, k⟩ => k none G H h (Grow.refl S.gh)
theorem do_some (h : DP X a ta) : DO X (some a) (dPart ta) := PO.wk (po_some h) fun σ H Q ⟨G, ρ, A, P, S, h, k⟩ => ⟨G, ρ, A, _, S, h, fun d v G' H' p g r => by
  cases d with
  | int i => exact ⟨i, r.int_of, k _ G' H' p g⟩
  | _ => exact False.elim p⟩
def dSl (ta : TD) (tl th : TDO) : TD := fun ρ P => ta ρ fun x => tl ρ fun lo => th ρ fun hi => match x with
  | .list ds => P (.list (cutD ds lo hi))
  | .tuple ds => P (.tuple (cutD ds lo hi))
  | _ => False
def rSl2 (K : PySem.W.Frag) : V → Option Int → Option Int → Hp → VK → Prop := fun x lo hi H Q => rSlL K x lo hi H Q ∨ rSlA K x lo hi H Q
theorem sl_2 : SlR X (rSl2 X.K) := sl_list.or sl_tupA
theorem cut_whole {ds : List PyData} {lo hi : Option Int} (h1 : HT.sIx ds.length 0 lo = 0) (h2 : HT.sIx ds.length ds.length hi = ds.length) : cutD ds lo hi = ds := by
  unfold cutD
  rw [h1, h2]
  simp
theorem dp_slice {lo hi : Option Expr} {tl th : TDO} {p2 : Pos} (ha : DP X a ta) (hl : DO X lo tl) (hi' : DO X hi th) : DP X (.Subscript a (.Slice lo hi none p2) pos) (dSl ta tl th) :=
  PE.wk (pe_slice sl_2 ha hl hi') fun σ H Q ⟨G, ρ, A, P, S, h, k⟩ => ⟨G, ρ, A, _, S, h, fun d v G1 H1 p g1 r1 => ⟨G1, ρ, A, _, S.grow g1, p, fun o G2 H2 p2 g2 => ⟨G2, ρ, A, _, (S.grow g1).grow g2, p2, fun o2 G3 H3 p3 g3 => by
    have r3 := (r1.mono (g2.gg g1.gh)).mono (g3.gg g2.gh)
    have gt := (g1.trans g2).trans g3
    cases d with
    | list ds =>
      obtain ⟨a, us, rfl, ea, ra⟩ := r3.lst_of
      exact .inl ⟨a, us, rfl, SqL.of (g3.gh _ _ ea), fun q hq => k _ _ (upd G3 q (.lst (cutV us o o2))) _ p3 (gt.trans (Grow.new g3.gh hq)) (.lst upd_same ((ra.cut _ _).upd (g3.gh.free hq)))⟩
    | tuple ds =>
      obtain ⟨a, us, rfl, ea, ra⟩ := r3.tup_of
      refine .inr ⟨a, us, rfl, ea.sq g3.gh, fun ⟨w1, w2⟩ => ?_, fun _ q hq => k _ _ (upd G3 q (.tup (cutV us o o2))) _ p3 (gt.trans (Grow.new g3.gh hq)) (.tup (.inl upd_same) ((ra.cut _ _).upd (g3.gh.free hq)))⟩
      rw [ra.length] at w1 w2
      have p3' : P (.tuple (cutD ds o o2)) := p3
      rw [cut_whole w1 w2] at p3'
      exact k _ _ G3 H3 p3' gt r3
    | _ => exact False.elim p3⟩⟩⟩
end
/-! ### calls of built-ins by values -/
section
variable {X : Cx} {e : Expr} {es : List Expr} {t : TDs} {x : Str} {p pos : Pos} {id T : String}
abbrev TF := List PyData → (PyData → Prop) → Prop
def CallD (r : List V → Hp → VK → Prop) (g : TF) : Prop := ∀ G H vs ds P Q, Same G H → RA G vs ds → g ds P → (∀ d v G' H', P d → Grow G H G' H' → RD G' v d → Q v H') → r vs H Q
def dApp (g : TF) (t : TDs) : TD := fun ρ P => t ρ fun ds => g ds P
theorem tCB_of {r : List V → Hp → VK → Prop} {g : TF} (o : CallD r g) : ∀ σ H Q, tP (dApp g t) σ H Q → tCB r (tPs t) σ H Q := fun σ H Q ⟨G, ρ, A, P, S, h, k⟩ =>
  ⟨G, ρ, A, _, S, h, fun ds vs G1 H1 p1 g1 r1 => o G1 H1 vs ds P Q g1.gh r1 p1 fun d v G2 H2 p2 g2 r2 => k d v G2 H2 p2 (g1.trans g2) r2⟩
theorem dp_callB {r : List V → Hp → VK → Prop} {g : TF} (hc : CallR X (.builtin id) r) (o : CallD r g) (hg : Gl X x) (hm : X.mg x = none) (hv : bootBuiltins x = some (.builtin id)) (ha : DA X (e :: es) t) (hn : x ≠ "__name__" := by decide) (hdb : (x == ("__debug__" : Str)) = false := by decide)
    (he : starEach (e :: es) X.env = (false, eval e X.env) :: starEach es X.env := by rfl) (hpl : (backTo pos (starEach es X.env)).any (·.1) = false := by rfl) : DP X (.Call (.Name x p) (e :: es) [] pos) (dApp g t) := PE.wk (pe_callB hc hg hm hv ha hn hdb he hpl) (tCB_of o)
theorem dp_callTy {r : List V → Hp → VK → Prop} {g : TF} (hc : CallR X (.type T) r) (o : CallD r g) (hg : Gl X x) (hm : X.mg x = none) (hv : bootBuiltins x = some (.type T)) (ha : DA X (e :: es) t) (hn : x ≠ "__name__" := by decide) (hdb : (x == ("__debug__" : Str)) = false := by decide)
    (he : starEach (e :: es) X.env = (false, eval e X.env) :: starEach es X.env := by rfl) (hpl : (backTo pos (starEach es X.env)).any (·.1) = false := by rfl) : DP X (.Call (.Name x p) (e :: es) [] pos) (dApp g t) := PE.wk (pe_callTy hc hg hm hv ha hn hdb he hpl) (tCB_of o)
/-! ### a def's promise over data -/
def spC (C : TF) : Sp := fun vs H Q _ => ∃ G ds P, Same G H ∧ RA G vs ds ∧ C ds P ∧ ∀ d v G' H', P d → Grow G H G' H' → RD G' v d → Q v H'
variable {k : Nat} {f : Addr} {fd : FuncData} {ps : List Str} {C : TF}
theorem dp_call (F : FnOk X.prog X.w X.K X.mg X.base CX0 k f fd ps (spC C)) (hr : Room k X.A) (hg : Gl X x) (hm : X.mg x = some (.ref f)) (hk : PySem.W.keepIn X.K (.ref f) = true) (hb : Binds X.K fd ps [])
    (ha : DA X (e :: es) t) (hdb : (x == ("__debug__" : Str)) = false := by decide) (he : starEach (e :: es) X.env = (false, eval e X.env) :: starEach es X.env := by rfl) (hpl : (backTo pos (starEach es X.env)).any (·.1) = false := by rfl) :
    DP X (.Call (.Name x p) (e :: es) [] pos) (dApp C t) := PE.wk (pe_call F hr hg hm hk hb .nil pass0 ha hdb he hpl) fun σ H Q ⟨G, ρ, A, P, S, h, kk⟩ =>
  ⟨G, ρ, A, _, S, h, fun ds vs G1 H1 p1 g1 r1 => ⟨G1, ds, P, g1.gh, by rw [List.append_nil]; exact r1, p1, fun d v G2 H2 p2 g2 r2 => kk d v G2 H2 p2 (g1.trans g2) r2⟩⟩
theorem dp_call0 (F : FnOk X.prog X.w X.K X.mg X.base CX0 k f fd ps (spC C)) (hr : Room k X.A) (hg : Gl X x) (hm : X.mg x = some (.ref f)) (hk : PySem.W.keepIn X.K (.ref f) = true) (hb : Binds X.K fd ps [])
    (hdb : (x == ("__debug__" : Str)) = false := by decide) : DP X (.Call (.Name x p) [] [] pos) (dApp C dNil) := PE.wk (pe_call0 F hr hg hm hk hb .nil pass0 hdb) fun σ H Q ⟨G, ρ, A, P, S, h, kk⟩ =>
  ⟨G, [], P, S.gh, .nil, h, fun d v G2 H2 p2 g2 r2 => kk d v G2 H2 p2 g2 r2⟩
end
end DL

-- text DL3
set_option Elab.async false
set_option linter.all false
set_option maxRecDepth 100000
set_option maxHeartbeats 4000000
namespace DL
open PySem PySem.Spec PyProof.Rows L2

/-! ### what is walked -/
/-- the iterator J yields the data xs, whatever was made meanwhile -/
def ItD (J : It) (G : Hp) (xs : List PyData) : Prop := ∀ G1 H1, Same G G1 → Same G1 H1 →
  (∀ i d, xs[i]? = some d → J.go i H1 ∧ ∀ x H2, J.yld i H1 x H2 → ∃ G2, Grow G1 H1 G2 H2 ∧ RD G2 x d) ∧ ∀ i, xs.length ≤ i → J.stop i H1
abbrev TDI := List SV → (List PyData → Prop) → Prop
def tIt (t : TDI) : TI := fun σ H R => ∃ G ρ A P, SR G H σ ρ A ∧ t ρ P ∧ ∀ xs J G' H', P xs → Grow G H G' H' → ItD J G' xs → R J H'
def DI (X : Cx) (tg e : Expr) (t : TDI) : Prop := PI X tg e (tIt t)
section
variable {K : PySem.W.Frag} {G : Hp}
theorem itd_list {a : Addr} {vs : List V} {ds : List PyData} (e : G a = some (.lst vs)) (r : RA G vs ds) : ItD (Itl K a) G ds := fun G1 H1 s1 s2 => by
  have e1 : H1 a = some (.lst vs) := s2 _ _ (s1 _ _ e)
  refine ⟨fun i d hd => ?_, fun i hi => ⟨vs, SqL.of e1, by rw [r.length]; exact hi⟩⟩
  obtain ⟨v, hv, rv⟩ := r.get hd
  refine ⟨⟨vs, v, SqL.of e1, hv⟩, fun x H2 ⟨e2, hx⟩ => ⟨G1, ?_, ?_⟩⟩
  · rw [e2]; exact Grow.refl s2
  · have := hx vs (SqL.of e1)
    rw [hv] at this
    cases this
    exact rv.mono s1
theorem itd_tup {a : Addr} {vs : List V} {ds : List PyData} (e : TupG G a vs) (r : RA G vs ds) : ItD (Itt K a) G ds := fun G1 H1 s1 s2 => by
  have e1 : SqT K H1 a vs := (e.mono s1).sq s2
  refine ⟨fun i d hd => ?_, fun i hi => ⟨vs, e1, by rw [r.length]; exact hi⟩⟩
  obtain ⟨v, hv, rv⟩ := r.get hd
  refine ⟨⟨vs, v, e1, hv⟩, fun x H2 ⟨e2, hx⟩ => ⟨G1, ?_, ?_⟩⟩
  · rw [e2]; exact Grow.refl s2
  · have := hx vs (e1)
    rw [hv] at this
    cases this
    exact rv.mono s1
def rgD (lo : Int) (n : Nat) : List PyData := (List.range n).map fun i => .int (lo + (i : Nat))
theorem rgD_length (lo : Int) (n : Nat) : (rgD lo n).length = n := by simp [rgD]
theorem rgD_get {lo : Int} {n i : Nat} {d : PyData} (h : (rgD lo n)[i]? = some d) : i < n ∧ d = .int (lo + (i : Nat)) := by
  unfold rgD at h
  rw [List.getElem?_map] at h
  by_cases hi : i < n
  · rw [List.getElem?_range hi] at h
    exact ⟨hi, (Option.some.inj h).symm⟩
  · rw [List.getElem?_eq_none (by simpa using hi)] at h
    cases h
theorem itd_range {lo : Int} {n : Nat} : ItD (Itr lo n) G (rgD lo n) := fun G1 H1 s1 s2 => by
  refine ⟨fun i d hd => ?_, fun i hi => by rw [rgD_length] at hi; exact hi⟩
  obtain ⟨hi, rfl⟩ := rgD_get hd
  refine ⟨hi, fun x H2 ⟨e2, hx⟩ => ⟨G1, ?_, ?_⟩⟩
  · rw [e2]; exact Grow.refl s2
  · rw [hx]; exact .int _
def rgC (lo c : Int) (n : Nat) : List PyData := (List.range n).map fun i => .int (lo + (i : Nat) * c)
theorem rgC_get {lo c : Int} {n i : Nat} {d : PyData} (h : (rgC lo c n)[i]? = some d) : i < n ∧ d = .int (lo + (i : Nat) * c) := by
  unfold rgC at h
  rw [List.getElem?_map] at h
  by_cases hi : i < n
  · rw [List.getElem?_range hi] at h
    exact ⟨hi, (Option.some.inj h).symm⟩
  · rw [List.getElem?_eq_none (by simpa using hi)] at h
    cases h
theorem itd_rangeC {lo c : Int} {n : Nat} : ItD (Itc lo c n) G (rgC lo c n) := fun G1 H1 s1 s2 => by
  refine ⟨fun i d hd => ?_, fun i hi => by rw [show (rgC lo c n).length = n by simp [rgC]] at hi; exact hi⟩
  obtain ⟨hi, rfl⟩ := rgC_get hd
  refine ⟨hi, fun x H2 ⟨e2, hx⟩ => ⟨G1, ?_, ?_⟩⟩
  · rw [e2]; exact Grow.refl s2
  · rw [hx]; exact .int _
/-- the pairs that zip yields -/
def zipD (xs ys : List PyData) : List PyData := (xs.zip ys).map fun p => .tuple [p.1, p.2]
theorem zipD_get {xs ys : List PyData} {i : Nat} {d : PyData} (h : (zipD xs ys)[i]? = some d) : ∃ x y, xs[i]? = some x ∧ ys[i]? = some y ∧ d = .tuple [x, y] := by
  unfold zipD at h
  rw [List.getElem?_map] at h
  cases e : (xs.zip ys)[i]? with
  | none => rw [e] at h; cases h
  | some p =>
    rw [e] at h
    obtain ⟨h1, h2⟩ := List.getElem?_zip_eq_some.mp e
    exact ⟨p.1, p.2, h1, h2, (Option.some.inj h).symm⟩
theorem pair_new {G1 H1 : Hp} {T : Addr} {x y : V} {dx dy : PyData} (s : Same G1 H1) (hT : H1 T = none) (rx : RD G1 x dx) (ry : RD G1 y dy) : Grow G1 H1 (upd G1 T (.tup [x, y])) (upd H1 T (.tup [x, y])) ∧ RD (upd G1 T (.tup [x, y])) (.ref T) (.tuple [dx, dy]) :=
  ⟨Grow.new s hT, .tup (.inl upd_same) (RA.upd (.cons rx (.cons ry .nil)) (s.free hT))⟩
theorem itd_zip {a b : Addr} {us ws : List V} {xs ys : List PyData} (ea : G a = some (.lst us)) (eb : G b = some (.lst ws)) (ra : RA G us xs) (rb : RA G ws ys) : ItD (Itz K a b) G (zipD xs ys) := fun G1 H1 s1 s2 => by
  have e1 : H1 a = some (.lst us) := s2 _ _ (s1 _ _ ea)
  have e2 : H1 b = some (.lst ws) := s2 _ _ (s1 _ _ eb)
  refine ⟨fun i d hd => ?_, fun i hi => ⟨us, ws, SqL.of e1, SqL.of e2, ?_⟩⟩
  · obtain ⟨x, y, hx, hy, rfl⟩ := zipD_get hd
    obtain ⟨u, hu, ru⟩ := ra.get hx
    obtain ⟨w, hw, rw'⟩ := rb.get hy
    refine ⟨⟨us, ws, u, w, SqL.of e1, SqL.of e2, hu, hw⟩, fun v H2 ⟨T, u', w', ev, hT, eH, h1, h2⟩ => ?_⟩
    have q1 := h1 us (SqL.of e1)
    have q2 := h2 ws (SqL.of e2)
    rw [hu] at q1
    rw [hw] at q2
    cases q1; cases q2
    rw [ev, eH]
    exact ⟨_, pair_new s2 hT (ru.mono s1) (rw'.mono s1)⟩
  · rw [ra.length, rb.length]
    simp only [zipD, List.length_map, List.length_zip] at hi
    omega
theorem itd_zipT {a b : Addr} {us ws : List V} {xs ys : List PyData} (ea : TupG G a us) (eb : TupG G b ws) (ra : RA G us xs) (rb : RA G ws ys) : ItD (RZ.ItzT K a b) G (zipD xs ys) := fun G1 H1 s1 s2 => by
  have e1 : SqT K H1 a us := (ea.mono s1).sq s2
  have e2 : SqT K H1 b ws := (eb.mono s1).sq s2
  refine ⟨fun i d hd => ?_, fun i hi => ⟨us, ws, e1, e2, ?_⟩⟩
  · obtain ⟨x, y, hx, hy, rfl⟩ := zipD_get hd
    obtain ⟨u, hu, ru⟩ := ra.get hx
    obtain ⟨w, hw, rw'⟩ := rb.get hy
    refine ⟨⟨us, ws, u, w, e1, e2, hu, hw⟩, fun v H2 ⟨T, u', w', ev, hT, eH, h1, h2⟩ => ?_⟩
    have q1 := h1 us (e1)
    have q2 := h2 ws (e2)
    rw [hu] at q1
    rw [hw] at q2
    cases q1; cases q2
    rw [ev, eH]
    exact ⟨_, pair_new s2 hT (ru.mono s1) (rw'.mono s1)⟩
  · rw [ra.length, rb.length]
    simp only [zipD, List.length_map, List.length_zip] at hi
    omega
/-- the pairs that enumerate yields -/
def enumD (xs : List PyData) : List PyData := zipD (rgD 0 xs.length) xs
theorem enumD_get {xs : List PyData} {i : Nat} {d : PyData} (h : (enumD xs)[i]? = some d) : ∃ x, xs[i]? = some x ∧ d = .tuple [.int (i : Nat), x] := by
  obtain ⟨x, y, hx, hy, rfl⟩ := zipD_get h
  obtain ⟨_, rfl⟩ := rgD_get hx
  exact ⟨y, hy, by rw [Int.zero_add]⟩
theorem enumD_length (xs : List PyData) : (enumD xs).length = xs.length := by simp [enumD, zipD, rgD]
theorem itd_enum {a : Addr} {us : List V} {xs : List PyData} (ea : G a = some (.lst us)) (ra : RA G us xs) : ItD (Ite K a) G (enumD xs) := fun G1 H1 s1 s2 => by
  have e1 : H1 a = some (.lst us) := s2 _ _ (s1 _ _ ea)
  refine ⟨fun i d hd => ?_, fun i hi => ⟨us, SqL.of e1, by rw [enumD_length] at hi; rw [ra.length]; exact hi⟩⟩
  obtain ⟨x, hx, rfl⟩ := enumD_get hd
  obtain ⟨u, hu, ru⟩ := ra.get hx
  refine ⟨⟨us, u, SqL.of e1, hu⟩, fun v H2 ⟨T, u', ev, hT, eH, h1⟩ => ?_⟩
  have q1 := h1 us (SqL.of e1)
  rw [hu] at q1
  cases q1
  rw [ev, eH]
  exact ⟨_, pair_new s2 hT (.int _) (ru.mono s1)⟩
end
section
variable {X : Cx} {tg e e2 : Expr} {t : TD} {ts : TDs} {p pos : Pos}
/-- a list or a tuple -/
def iSeq (K : PySem.W.Frag) (tl : TE) : TI := fun σ H R => tl σ H fun x H1 => ∃ a, x = .ref a ∧ (((∃ xs, SqL K H1 a xs) ∧ R (Itl K a) H1) ∨ ((∃ xs, SqT K H1 a xs) ∧ R (Itt K a) H1))
theorem pi_seq {l : Expr} {tl : TE} (hl : PE X l tl) : PI X tg l (iSeq X.K tl) := by
  refine ⟨fun pins s σ H R I h => ?_⟩
  refine thn (hl.run pins s σ H _ I h) fun v s1 ⟨x, H1, I1, r1, q1⟩ => ?_
  obtain ⟨a, e, q1⟩ := q1
  subst e
  cases r1
  rcases q1 with ⟨⟨xs, hq⟩, q⟩ | ⟨⟨xs, hq⟩, q⟩
  · obtain ⟨its, rv, p, hz⟩ := I1.list hq
    refine wpAny_pyIter_list p.isList ?_
    refine ⟨s1.heap.objs.size, [s1.heap.objs.size], _, _, H1, rfl, I1.kept (t' := s1.toks) fun b o e => Heap.get?_push_of_some _ e, turn_list a _, ⟨_, Heap.get?_push_size _ rfl, rfl, rfl⟩, fun b hb => ?_, q⟩
    have e : b = s1.heap.objs.size := by simpa using hb
    subst e
    exact I1.fpOk (Nat.le_refl _) (I1.hok.fresh (Nat.le_refl _))
  · obtain ⟨its, rv, p, hz⟩ := I1.tuple hq
    refine wpAny_pyIter_tuple (show s1.heap.IsTuple a its.toArray from p) ?_
    refine ⟨s1.heap.objs.size, [s1.heap.objs.size], _, _, H1, rfl, I1.kept (t' := s1.toks) fun b o e => Heap.get?_push_of_some _ e, turn_tuple a _, ⟨_, Heap.get?_push_size _ rfl, rfl, rfl⟩, fun b hb => ?_, q⟩
    have e : b = s1.heap.objs.size := by simpa using hb
    subst e
    exact I1.fpOk (Nat.le_refl _) (I1.hok.fresh (Nat.le_refl _))
/-- the items of a list, of a tuple -/
def itemsOf : PyData → Option (List PyData)
  | .list ds => some ds
  | .tuple ds => some ds
  | _ => none
def dSeq (t : TD) : TDI := fun ρ P => t ρ fun d => ∃ ds, itemsOf d = some ds ∧ P ds
theorem di_seq (h : DP X e t) : DI X tg e (dSeq t) := PI.wk (pi_seq h) fun σ H R ⟨G, ρ, A, P, S, h, k⟩ => ⟨G, ρ, A, _, S, h, fun d v G' H' ⟨ds, ed, p⟩ g r => by
  cases d with
  | list xs =>
    cases ed
    obtain ⟨a, us, rfl, ea, ra⟩ := r.lst_of
    exact ⟨a, rfl, .inl ⟨⟨us, SqL.of (g.gh _ _ ea)⟩, k _ _ G' H' p g (itd_list ea ra)⟩⟩
  | tuple xs =>
    cases ed
    obtain ⟨a, us, rfl, ea, ra⟩ := r.tup_of
    exact ⟨a, rfl, .inr ⟨⟨us, ea.sq g.gh⟩, k _ _ G' H' p g (itd_tup ea ra)⟩⟩
  | _ => cases ed⟩
/-- range -/
def dRg1 (ts : TDs) : TDI := fun ρ P => ts ρ fun ds => ∃ j : Int, ds = [.int j] ∧ (-(2 ^ 62) ≤ j ∧ j < 2 ^ 62) ∧ P (rgD 0 j.toNat)
def dRg2 (ts : TDs) : TDI := fun ρ P => ts ρ fun ds => ∃ i j : Int, ds = [.int i, .int j] ∧ (-(2 ^ 62) ≤ i ∧ i < 2 ^ 62 ∧ -(2 ^ 62) ≤ j ∧ j < 2 ^ 62) ∧ P (rgD i (j - i).toNat)
theorem RA.two {G : Hp} {vs : List V} {d1 d2 : PyData} (r : RA G vs [d1, d2]) : ∃ v1 v2, vs = [v1, v2] ∧ RD G v1 d1 ∧ RD G v2 d2 := by
  cases r with
  | cons h1 t => cases t with | cons h2 t => cases t; exact ⟨_, _, rfl, h1, h2⟩
theorem RA.one {G : Hp} {vs : List V} {d1 : PyData} (r : RA G vs [d1]) : ∃ v1, vs = [v1] ∧ RD G v1 d1 := by
  cases r with
  | cons h1 t => cases t; exact ⟨_, rfl, h1⟩
theorem RA.three {G : Hp} {vs : List V} {d1 d2 d3 : PyData} (r : RA G vs [d1, d2, d3]) : ∃ v1 v2 v3, vs = [v1, v2, v3] ∧ RD G v1 d1 ∧ RD G v2 d2 ∧ RD G v3 d3 := by
  cases r with
  | cons h1 t => cases t with | cons h2 t => cases t with | cons h3 t => cases t; exact ⟨_, _, _, rfl, h1, h2, h3⟩
theorem di_range1 {a : Expr} (hg : Gl X "range") (hm : X.mg "range" = none) (ha : DA X [a] ts) (hs : starEach [a] X.env = [(false, eval a X.env)] := by rfl) : DI X tg (.Call (.Name "range" p) [a] [] pos) (dRg1 ts) :=
  PI.wk (pi_range1 hg hm ha hs) fun σ H R ⟨G, ρ, A, P, S, h, k⟩ => ⟨G, ρ, A, _, S, h, fun ds vs G' H' ⟨j, e, ⟨q1, q2⟩, p⟩ g r => by
    subst e
    obtain ⟨v, rfl, rv⟩ := r.one
    exact ⟨j, by rw [rv.int_of], q1, q2, k _ _ G' H' p g itd_range⟩⟩
theorem di_range2 {a b : Expr} (hg : Gl X "range") (hm : X.mg "range" = none) (ha : DA X [a, b] ts) (hs : starEach [a, b] X.env = [(false, eval a X.env), (false, eval b X.env)] := by rfl) (hs2 : starEach [b] X.env = [(false, eval b X.env)] := by rfl) :
    DI X tg (.Call (.Name "range" p) [a, b] [] pos) (dRg2 ts) :=
  PI.wk (pi_range2 hg hm ha hs hs2) fun σ H R ⟨G, ρ, A, P, S, h, k⟩ => ⟨G, ρ, A, _, S, h, fun ds vs G' H' ⟨i, j, e, q, p⟩ g r => by
    subst e
    obtain ⟨v, w, rfl, rv, rw'⟩ := r.two
    exact ⟨i, j, by rw [rv.int_of, rw'.int_of], q, k _ _ G' H' p g itd_range⟩⟩
def dZip (ts : TDs) : TDI := fun ρ P => ts ρ fun ds => ∃ x y, ds = [x, y] ∧ ∃ xs ys, ((x = .list xs ∧ y = .list ys) ∨ (x = .tuple xs ∧ y = .tuple ys)) ∧ P (zipD xs ys)
theorem di_zip {elts : List Expr} {kk : Nat} {tpos : Pos} (hg : Gl X "zip") (hm : X.mg "zip" = none) (ha : DA X [e, e2] ts) (hs : starEach [e, e2] X.env = (false, eval e X.env) :: starEach [e2] X.env := by rfl) (hpl : (backTo pos (starEach [e2] X.env)).any (·.1) = false := by rfl) :
    DI X (.Tuple elts kk tpos) (.Call (.Name "zip" p) [e, e2] [] pos) (dZip ts) :=
  PI.wk (RZ.pi_zipA hg hm ha hs hpl) fun σ H R ⟨G, ρ, A, P, S, h, k⟩ => ⟨G, ρ, A, _, S, h, fun ds vs G' H' ⟨x, y, e, xs, ys, q, p⟩ g r => by
    subst e
    obtain ⟨v, w, rfl, rv, rw'⟩ := r.two
    rcases q with ⟨rfl, rfl⟩ | ⟨rfl, rfl⟩
    · obtain ⟨a, us, rfl, ea, ra⟩ := rv.lst_of
      obtain ⟨b, ws, rfl, eb, rb⟩ := rw'.lst_of
      exact ⟨a, b, us, ws, rfl, .inl ⟨SqL.of (g.gh _ _ ea), SqL.of (g.gh _ _ eb), k _ _ G' H' p g (itd_zip ea eb ra rb)⟩⟩
    · obtain ⟨a, us, rfl, ea, ra⟩ := rv.tup_of
      obtain ⟨b, ws, rfl, eb, rb⟩ := rw'.tup_of
      exact ⟨a, b, us, ws, rfl, .inr ⟨ea.sq g.gh, eb.sq g.gh, k _ _ G' H' p g (itd_zipT ea eb ra rb)⟩⟩⟩
end

/-! ### targets -/
/-- what a target leaves: other slots as they were -/
structure Tgt (vs : List Nat) (σ : L2.St) (A : Nat → List Addr) (σ' : L2.St) (A' : Nat → List Addr) : Prop where
  sl : ∀ j, j ∉ vs → σ'[j]? = σ[j]?
  ln : σ'.length = σ.length
  ad : ∀ i a, a ∈ A' i → a ∈ A i
abbrev TDG := PyData → List SV → (List SV → Prop) → Prop
def tGt (vs : List Nat) (g : TDG) : TG := fun v σ H Q => ∃ G ρ A d P, SR G H σ ρ A ∧ RD G v d ∧ g d ρ P ∧ ∀ σ' ρ' A', P ρ' → SR G H σ' ρ' A' → Tgt vs σ A σ' A' → Q σ' H
def DG (X : Cx) (tg : Expr) (vs : List Nat) (g : TDG) : Prop := PG X tg (tGt vs g)
theorem PG.wk {X : Cx} {tg : Expr} {t t' : TG} (h : PG X tg t) (w : ∀ v σ H Q, t' v σ H Q → t v σ H Q) : PG X tg t' := ⟨fun pins s σ H v u Q I r q => h.run pins s σ H v u Q I r (w _ _ _ _ q)⟩
theorem PGs.wk {X : Cx} {tg : List Expr} {t t' : TGs} (h : PGs X tg t) (w : ∀ v σ H Q, t' v σ H Q → t v σ H Q) : PGs X tg t' := ⟨fun pins s σ H v u Q I r q => h.run pins s σ H v u Q I r (w _ _ _ _ q)⟩
theorem Tgt.refl {vs : List Nat} {σ : L2.St} {A : Nat → List Addr} : Tgt vs σ A σ A := ⟨fun _ _ => rfl, rfl, fun _ _ h => h⟩
theorem Tgt.set {i : Nat} {σ : L2.St} {A : Nat → List Addr} {x : Option V} : Tgt [i] σ A (σ.set i x) (setA A i []) :=
  ⟨fun j hj => List.getElem?_set_ne (by simp at hj; exact Ne.symm hj), List.length_set, fun j a h => by
    by_cases hj : j = i
    · subst hj; rw [setA_same] at h; cases h
    · rw [setA_ne hj] at h; exact h⟩
theorem Tgt.cons {i : Nat} {vs : List Nat} {σ σ1 σ2 : L2.St} {A A1 A2 : Nat → List Addr} (a : Tgt [i] σ A σ1 A1) (b : Tgt vs σ1 A1 σ2 A2) : Tgt (i :: vs) σ A σ2 A2 :=
  ⟨fun j hj => by
    simp only [List.mem_cons, not_or] at hj
    exact (b.sl j hj.2).trans (a.sl j (by simpa using hj.1)), b.ln.trans a.ln, fun j x h => a.ad j x (b.ad j x h)⟩
section
variable {X : Cx} {e : Expr} {es : List Expr}
def dgName (i : Nat) : TDG := fun d ρ P => P (ρ.set i (.sh d))
theorem dg_name {i : Nat} (h : PG X e (gName i)) : DG X e [i] (dgName i) := PG.wk h fun v σ H Q ⟨G, ρ, A, d, P, S, r, p, k⟩ => k _ _ _ p (S.set i r) Tgt.set
def setL : List SV → List Nat → List PyData → List SV
  | ρ, i :: is, d :: ds => setL (ρ.set i (.sh d)) is ds
  | ρ, _, _ => ρ
def tGts (vs : List Nat) : TGs := fun xs σ H Q => ∃ G ρ A ds, ∃ P : List SV → Prop, SR G H σ ρ A ∧ RA G xs ds ∧ ds.length = vs.length ∧ P (setL ρ vs ds) ∧ ∀ σ' ρ' A', P ρ' → SR G H σ' ρ' A' → Tgt vs σ A σ' A' → Q σ' H
def DGs (X : Cx) (es : List Expr) (vs : List Nat) : Prop := PGs X es (tGts vs)
theorem dgs_nil : DGs X [] [] := PGs.wk pgs_nil fun xs σ H Q ⟨G, ρ, A, ds, P, S, r, l, p, k⟩ => by
  have e : ds = [] := List.eq_nil_of_length_eq_zero l
  subst e
  cases r
  exact ⟨rfl, k _ _ _ p S Tgt.refl⟩
theorem dgs_cons {i : Nat} {vs : List Nat} (h : DG X e [i] (dgName i)) (hr : DGs X es vs) (hs : (assignEach (e :: es) X.env).map (·.2) = assign e X.env :: (assignEach es X.env).map (·.2) := by rfl) : DGs X (e :: es) (i :: vs) :=
  PGs.wk (pgs_cons h hr hs) fun xs σ H Q ⟨G, ρ, A, ds, P, S, r, l, p, k⟩ => by
    cases r with
    | nil => cases l
    | cons r1 rr =>
      exact ⟨_, _, rfl, G, ρ, A, _, fun ρ' => P (setL ρ' vs _), S, r1, p, fun σ1 ρ1 A1 p1 S1 t1 => ⟨G, ρ1, A1, _, P, S1, rr, by simpa using l, p1, fun σ2 ρ2 A2 p2 S2 t2 => k _ _ _ p2 S2 (t1.cons t2)⟩⟩
def dgTup (vs : List Nat) : TDG := fun d ρ P => ∃ ds, d = .tuple ds ∧ ds.length = vs.length ∧ P (setL ρ vs ds)
theorem dg_tup {kk : Nat} {pos : Pos} {vs : List Nat} (hc : X.calm = true) (h : DGs X es vs) (hn : (assignEach es X.env).length = vs.length := by rfl) (hst : (assignEach es X.env).findIdx? (·.1) = none := by rfl) : DG X (.Tuple es kk pos) vs (dgTup vs) :=
  PG.wk (pg_tup hc h hn hst) fun v σ H Q ⟨G, ρ, A, d, P, S, r, ⟨ds, e, l, p⟩, k⟩ => by
    subst e
    obtain ⟨a, us, rfl, ea, ra⟩ := r.tup_of
    exact ⟨a, us, rfl, ea.sq S.gh, by rw [ra.length, l], G, ρ, A, ds, P, S, ra, l, p, k⟩
end

/-! ### comprehensions -/
def wipeD (ρ : List SV) : List Nat → List SV
  | [] => ρ
  | v :: vs => (wipeD ρ vs).set v .un
theorem wipe_at (σ : L2.St) (j : Nat) : ∀ vs : List Nat, (wipe σ vs)[j]? = if j ∈ vs ∧ j < σ.length then some none else σ[j]?
  | [] => by simp [wipe]
  | v :: vs => by
    have ih := wipe_at σ j vs
    unfold wipe
    by_cases hv : v = j
    · subst hv
      by_cases hl : v < σ.length
      · rw [List.getElem?_set_self (by rw [wipe_length]; exact hl), if_pos ⟨List.mem_cons_self, hl⟩]
      · rw [List.getElem?_eq_none (by rw [List.length_set, wipe_length]; omega), if_neg (fun z => hl z.2), List.getElem?_eq_none (by omega)]
    · rw [List.getElem?_set_ne hv, ih]
      by_cases hm : j ∈ vs ∧ j < σ.length
      · rw [if_pos hm, if_pos ⟨List.mem_cons_of_mem _ hm.1, hm.2⟩]
      · rw [if_neg hm, if_neg (fun z => hm ⟨(List.mem_cons.mp z.1).resolve_left (Ne.symm hv), z.2⟩)]
theorem wipeD_length (ρ : List SV) : ∀ vs : List Nat, (wipeD ρ vs).length = ρ.length
  | [] => rfl
  | v :: vs => by unfold wipeD; rw [List.length_set, wipeD_length ρ vs]
theorem wipeD_at (ρ : List SV) (j : Nat) : ∀ vs : List Nat, (wipeD ρ vs)[j]? = if j ∈ vs ∧ j < ρ.length then some .un else ρ[j]?
  | [] => by simp [wipeD]
  | v :: vs => by
    have ih := wipeD_at ρ j vs
    unfold wipeD
    by_cases hv : v = j
    · subst hv
      by_cases hl : v < ρ.length
      · rw [List.getElem?_set_self (by rw [wipeD_length]; exact hl), if_pos ⟨List.mem_cons_self, hl⟩]
      · rw [List.getElem?_eq_none (by rw [List.length_set, wipeD_length]; omega), if_neg (fun z => hl z.2), List.getElem?_eq_none (by omega)]
    · rw [List.getElem?_set_ne hv, ih]
      by_cases hm : j ∈ vs ∧ j < ρ.length
      · rw [if_pos hm, if_pos ⟨List.mem_cons_of_mem _ hm.1, hm.2⟩]
      · rw [if_neg hm, if_neg (fun z => hm ⟨(List.mem_cons.mp z.1).resolve_left (Ne.symm hv), z.2⟩)]
def wipeA (A : Nat → List Addr) (vs : List Nat) : Nat → List Addr := fun i => if i ∈ vs then [] else A i
theorem wipeA_sub {A : Nat → List Addr} {vs : List Nat} {i : Nat} {a : Addr} (h : a ∈ wipeA A vs i) : a ∈ A i := by
  unfold wipeA at h
  split at h
  · cases h
  · exact h
theorem SR.wipe {G H : Hp} {σ : L2.St} {ρ : List SV} {A : Nat → List Addr} (S : SR G H σ ρ A) (vs : List Nat) : SR G H (wipe σ vs) (wipeD ρ vs) (wipeA A vs) where
  gh := S.gh
  at_ := fun i s e => by
    rw [wipeD_at] at e
    by_cases hm : i ∈ vs ∧ i < ρ.length
    · rw [if_pos hm] at e
      cases e
      show wipeA A vs i = []
      unfold wipeA
      exact if_pos hm.1
    · rw [if_neg hm] at e
      have hl : i < ρ.length := (List.getElem?_eq_some_iff.mp e).1
      have hi : i ∉ vs := fun z => hm ⟨z, hl⟩
      rw [wipe_at, if_neg (fun z => hi z.1)]
      have e2 : wipeA A vs i = A i := by unfold wipeA; exact if_neg hi
      rw [e2]
      exact S.at_ i s e
  dis := fun i j a h1 h2 => S.dis i j a (wipeA_sub h1) (wipeA_sub h2)
  nod := fun i => by
    unfold wipeA
    split
    · exact List.nodup_nil
    · exact S.nod i
  own := fun i a h => S.own i a (wipeA_sub h)
  len := by rw [wipe_length, wipeD_length]; exact S.len
theorem wipe_eq {σ σ' : L2.St} {vs ws : List Nat} {A A' : Nat → List Addr} (t : Tgt ws (wipe σ vs) A σ' A') (h : ∀ i ∈ ws, i ∈ vs) : wipe σ' vs = wipe σ vs := by
  have hl : σ'.length = σ.length := by rw [t.ln, wipe_length]
  apply List.ext_getElem?
  intro j
  rw [wipe_at, wipe_at, hl]
  by_cases hm : j ∈ vs ∧ j < σ.length
  · rw [if_pos hm, if_pos hm]
  · rw [if_neg hm, if_neg hm]
    by_cases hj : j ∈ vs
    · have : ¬ j < σ.length := fun z => hm ⟨hj, z⟩
      rw [List.getElem?_eq_none (by omega), List.getElem?_eq_none (by omega)]
    · rw [t.sl j (fun z => hj (h j z)), wipe_at, if_neg (fun z => hj z.1)]
/-- a fresh list: an expression's value that nothing else holds -/
abbrev TDF := List SV → (List PyData → Prop) → Prop
def tFr (t : TDF) : TE := fun σ H Q => ∃ G ρ A P, SR G H σ ρ A ∧ t ρ P ∧ ∀ ds vs l G' H', P ds → Grow G H G' H' → H l = none → G' l = none → H' l = some (.lst vs) → RA G' vs ds → Q (.ref l) H'
def DF (X : Cx) (e : Expr) (t : TDF) : Prop := PE X e (tFr t)
def dOfF (t : TDF) : TD := fun ρ P => t ρ fun ds => P (.list ds)
theorem Grow.freeze {G H G' H' : Hp} {l : Addr} {vs : List V} (g : Grow G H G' H') (h0 : H l = none) (h1 : H' l = some (.lst vs)) : Grow G H (upd G' l (.lst vs)) H' :=
  ⟨g.hh, fun b hb => by rw [upd_ne (fun e => hb (by rw [e]; exact h0))]; exact g.gn b hb, fun b o e => by
    by_cases hb : b = l
    · subst hb; rw [upd_same] at e; cases e; exact h1
    · rw [upd_ne hb] at e; exact g.gh b o e⟩
section
variable {X : Cx} {e : Expr}
theorem DF.dp {t : TDF} (h : DF X e t) : DP X e (dOfF t) := PE.wk h fun σ H Q ⟨G, ρ, A, P, S, h, k⟩ => ⟨G, ρ, A, _, S, h, fun ds vs l G' H' p g h0 h1 h2 r =>
  k _ _ (upd G' l (.lst vs)) H' p (g.freeze h0 h2) (.lst upd_same (r.upd h1))⟩
theorem df_lst {es : List Expr} {t : TDs} {pos : Pos} (h : DA X es t) : DF X (.List es pos) (fun ρ P => t ρ fun xs => xs.length ≤ 16777216 ∧ P xs) :=
  PE.wk (pe_lst h) fun σ H Q ⟨G, ρ, A, P, S, h, k⟩ => ⟨G, ρ, A, _, S, h, fun ds vs G' H' ⟨z, p⟩ g r => ⟨by rw [r.length, sizeLine_eq]; exact z, fun l hl =>
    k _ vs l G' _ p ⟨fun b o e => by rw [upd_ne (ne_of_none (g.hh b o e) hl)]; exact g.hh b o e, g.gn, sameUpd g.gh (g.gh.free hl)⟩ (g.hh.free hl) (g.gh.free hl) upd_same r⟩⟩
def DTs (X : Cx) (ifs : List Expr) (t : TDT) : Prop := PTs X ifs (tPT t)
def dYes : TDT := fun _ P => P true
theorem PTs.wk {e : List Expr} {t t' : TT} (h : PTs X e t) (w : ∀ σ H Q, t' σ H Q → t σ H Q) : PTs X e t' := ⟨fun pins s σ H Q I q => h.run pins s σ H Q I (w _ _ _ q)⟩
theorem dts_nil : DTs X [] dYes := PTs.wk pts_nil fun σ H Q ⟨G, ρ, A, P, S, h, k⟩ => k true G H h (Grow.refl S.gh)
theorem dts_one {c : Expr} {t : TDT} (h : DT X c t) : DTs X [c] t := pts_one h
/-- [elt for target in iter if ..]: R by the turn and what is made so far -/
def dLc (ti : TDI) (g : TDG) (tt : TDT) (te : TD) (vs : List Nat) : TDF := fun ρ P => ti ρ fun xs => ∃ R : Nat → List PyData → Prop, R 0 [] ∧
  (∀ i x acc, xs[i]? = some x → R i acc → acc.length < 16777216 ∧ g x (wipeD ρ vs) fun ρ2 => tt ρ2 fun b => if b = true then te ρ2 fun y => R (i + 1) (acc ++ [y]) else R (i + 1) acc) ∧ ∀ acc, R xs.length acc → P acc
theorem lc_of {ti : TDI} {ws vs : List Nat} {g : TDG} {tt : TDT} {te : TD} (hws : ∀ i ∈ ws, i ∈ vs) : ∀ σ H Q, tFr (dLc ti g tt te vs) σ H Q → tLc (tIt ti) (tGt ws g) (tPT tt) (tP te) vs σ H Q := fun σ H Q ⟨G, ρ, A, P, S, h, k⟩ =>
  ⟨G, ρ, A, _, S, h, fun xs J G1 H1 ⟨R, r0, turn, fin⟩ g1 it D hD => by
    refine ⟨fun i m H' => m = xs.length - i ∧ i ≤ xs.length ∧ ∃ G' acc us, Grow G1 H1 G' H' ∧ G' D = none ∧ H' D = some (.lst us) ∧ RA G' us acc ∧ R i acc, ⟨xs.length, by simp, Nat.zero_le _, G1, [], [], ?_, g1.gh.free hD, upd_same, .nil, r0⟩, ?_⟩
    · exact ⟨fun b o e => by rw [upd_ne (ne_of_none e hD)]; exact e, fun _ _ => rfl, sameUpd g1.gh (g1.gh.free hD)⟩
    rintro i m H2 ⟨rfl, hi, G2, acc, us, g2, d1, d2, ra, ri⟩
    obtain ⟨it1, it2⟩ := it G2 H2 (g2.gg g1.gh) g2.gh
    by_cases hlt : i < xs.length
    · obtain ⟨x, hx⟩ : ∃ x, xs[i]? = some x := ⟨_, List.getElem?_eq_getElem hlt⟩
      obtain ⟨go, yl⟩ := it1 i x hx
      obtain ⟨hz, tr⟩ := turn i x acc hx ri
      refine .inr ⟨go, fun H' => i + 1 ≤ xs.length ∧ ∃ G' acc us, Grow G1 H1 G' H' ∧ G' D = none ∧ H' D = some (.lst us) ∧ RA G' us acc ∧ R (i + 1) acc, fun H' ⟨a, b⟩ => ⟨xs.length - (i + 1), by omega, rfl, a, b⟩, fun v H3 yv => ?_⟩
      obtain ⟨G3, g3, rv⟩ := yl v H3 yv
      have S3 := (((S.grow g1).grow g2).grow g3).wipe vs
      have d1' : G3 D = none := (g3.gn D (by rw [d2]; exact fun z => nomatch z)).trans d1
      have d2' : H3 D = some (.lst us) := g3.hh _ _ d2
      refine ⟨G3, _, _, x, _, S3, rv, tr, fun σ4 ρ4 A4 p4 S4 t4 => ⟨wipe_eq t4 hws, G3, ρ4, A4, _, S4, p4, fun b G5 H5 p5 g5 => ?_⟩⟩
      have d1'' : G5 D = none := (g5.gn D (by rw [d2']; exact fun z => nomatch z)).trans d1'
      have d2'' : H5 D = some (.lst us) := g5.hh _ _ d2'
      cases b with
      | true =>
        refine ⟨G5, ρ4, A4, _, S4.grow g5, p5, fun y w G6 H6 p6 g6 r6 => ?_⟩
        have d16 : G6 D = none := (g6.gn D (by rw [d2'']; exact fun z => nomatch z)).trans d1''
        have d26 : H6 D = some (.lst us) := g6.hh _ _ d2''
        have gall := ((g2.trans g3).trans g5).trans g6
        have g26 := (g3.trans g5).trans g6
        refine ⟨us, d26, by rw [ra.length, sizeLine_eq]; exact hz, hlt, G6, acc ++ [y], us ++ [w], ⟨fun b o e => ?_, gall.gn, sameUpd gall.gh d16⟩, d16, upd_same, (ra.mono (g26.gg g2.gh)).append (.cons r6 .nil), p6⟩
        rw [upd_ne (ne_of_none e hD)]
        exact gall.hh b o e
      | false =>
        have gall := (g2.trans g3).trans g5
        exact ⟨hlt, G5, acc, us, gall, d1'', d2'', ra.mono ((g3.trans g5).gg g2.gh), p5⟩
    · have e : i = xs.length := by omega
      subst e
      exact .inl ⟨it2 _ (Nat.le_refl _), k acc us D G2 H2 (fin acc ri) (g1.trans g2) (g1.hh.free hD) d1 d2 ra⟩⟩
theorem df_lc {elt tg iter : Expr} {ifs : List Expr} {scope : Scope} {own : List (Str × Nat)} {pos : Pos} {ti : TDI} {ws : List Nat} {g : TDG} {tt : TDT} {te : TD} (hc : X.calm = true) (hN : X.N.Nodup) (hi : DI X tg iter ti) (ok : BlkOk X.N X.env.scope scope own) (hws : ∀ i ∈ ws, i ∈ own.map (·.2))
    (hg : ∀ (s : Shared) (H : Hp) (C : Addr) (cl : List (Str × Addr)) (fp : List Addr), DG (X.blk s H scope (compEnvC scope cl C X.env) fp) tg ws g) (ht : ∀ (s : Shared) (H : Hp) (C : Addr) (cl : List (Str × Addr)) (fp : List Addr), DTs (X.blk s H scope (compEnvC scope cl C X.env) fp) ifs tt)
    (he : ∀ (s : Shared) (H : Hp) (C : Addr) (cl : List (Str × Addr)) (fp : List Addr), DP (X.blk s H scope (compEnvC scope cl C X.env) fp) elt te) (hs : ∀ x, foldedSetIterable iter X.env x = pure x := by intro _; rfl) :
    DF X (.ListComp elt [⟨tg, iter, ifs, 0⟩] scope pos) (dLc ti g tt te (own.map (·.2))) := PE.wk (pe_lc hc hN hi ok hg ht he hs) (lc_of hws)
end
end DL

-- text DL4
set_option Elab.async false
set_option linter.all false
set_option maxRecDepth 100000
set_option maxHeartbeats 4000000
namespace DL
open PySem PySem.Spec PyProof.Rows L2

/-! ### statements -/
structure EndsD where
  nx : List SV → Prop
  rt : PyData → List SV → Prop
  bk : List SV → Prop := fun _ => False
  ct : List SV → Prop := fun _ => False
/-- since the entry (G0, H0): all that stood stands, but what T tells; what is frozen stays so -/
structure Fr0 (T : Addr → Prop) (G0 H0 G H : Hp) (A : Nat → List Addr) : Prop where
  hh : ∀ b o, H0 b = some o → ¬ T b → H b = some o
  gg : Same G0 G
  gn : ∀ b, H0 b ≠ none → ¬ T b → G b = G0 b
  own : ∀ i a, a ∈ A i → H0 a = none ∨ T a
  tt : ∀ t, T t → H0 t ≠ none → H t ≠ none
section
variable {T : Addr → Prop} {G0 H0 G H G' H' : Hp} {A A' : Nat → List Addr}
theorem Fr0.alive (f : Fr0 T G0 H0 G H A) {b : Addr} (h : H0 b ≠ none) : H b ≠ none := by
  by_cases hb : T b
  · exact f.tt b hb h
  · cases e : H0 b with
    | none => exact absurd e h
    | some o => rw [f.hh b o e hb]; exact fun z => nomatch z
theorem Fr0.back (f : Fr0 T G0 H0 G H A) {b : Addr} (h : H b = none) : H0 b = none := by
  cases e : H0 b with
  | none => rfl
  | some o => exact absurd h (f.alive (by rw [e]; exact fun z => nomatch z))
theorem Fr0.grow (f : Fr0 T G0 H0 G H A) (s : Same G H) (g : Grow G H G' H') : Fr0 T G0 H0 G' H' A :=
  ⟨fun b o e n => g.hh b o (f.hh b o e n), f.gg.trans (g.gg s), fun b h n => (g.gn b (f.alive h)).trans (f.gn b h n), f.own, fun t e h => sameNe g.hh (f.tt t e h)⟩
theorem Fr0.sub (f : Fr0 T G0 H0 G H A) (h : ∀ i a, a ∈ A' i → a ∈ A i) : Fr0 T G0 H0 G H A' := ⟨f.hh, f.gg, f.gn, fun i a m => f.own i a (h i a m), f.tt⟩
/-- a loop's own frame: what is owned at its start may change -/
def TL (T : Addr → Prop) (A : Nat → List Addr) : Addr → Prop := fun a => T a ∨ ∃ i, a ∈ A i
theorem Fr0.start : Fr0 (TL T A) G H G H A := ⟨fun _ _ e _ => e, fun _ _ e => e, fun _ _ _ => rfl, fun i a m => .inr (.inr ⟨i, m⟩), fun _ _ h => h⟩
theorem Fr0.noTL (f : Fr0 T G0 H0 G H A) {b : Addr} (h : H0 b ≠ none) (n : ¬ T b) : ¬ TL T A b := fun z => by
  rcases z with z | ⟨i, z⟩
  · exact n z
  · rcases f.own i b z with q | q
    · exact h q
    · exact n q
theorem Fr0.out (f : Fr0 T G0 H0 G H A) (g : Fr0 (TL T A) G H G' H' A') : Fr0 T G0 H0 G' H' A' where
  hh := fun b o e n => g.hh b o (f.hh b o e n) (f.noTL (by rw [e]; exact fun z => nomatch z) n)
  gg := f.gg.trans g.gg
  gn := fun b h n => (g.gn b (f.alive h) (f.noTL h n)).trans (f.gn b h n)
  own := fun i a m => by
    rcases g.own i a m with q | q | ⟨j, q⟩
    · exact .inl (f.back q)
    · exact .inr q
    · exact f.own j a q
  tt := fun t e h => g.tt t (.inl e) (f.tt t e h)
end
abbrev TDS := EndsD → List SV → Prop
def EndOk (T : Addr → Prop) (G0 H0 : Hp) (E : EndsD) (D : Ends) : Prop :=
  (∀ ρ σ G H A, E.nx ρ → SR G H σ ρ A → Fr0 T G0 H0 G H A → D.nx σ H) ∧ (∀ d ρ σ v G H A, E.rt d ρ → SR G H σ ρ A → Fr0 T G0 H0 G H A → RD G v d → D.rt v H) ∧
  (∀ ρ σ G H A, E.bk ρ → SR G H σ ρ A → Fr0 T G0 H0 G H A → D.bk σ H) ∧ (∀ ρ σ G H A, E.ct ρ → SR G H σ ρ A → Fr0 T G0 H0 G H A → D.ct σ H)
def tSt (t : TDS) : TS := fun D σ H => ∃ T G0 H0 G ρ A E, SR G H σ ρ A ∧ Fr0 T G0 H0 G H A ∧ t E ρ ∧ EndOk T G0 H0 E D
def DS (X : Cx) (st : Stmt) (t : TDS) : Prop := PS X st (tSt t)
def DSs (X : Cx) (sts : List Stmt) (t : TDS) : Prop := PSs X sts (tSt t)
section
variable {X : Cx} {st : Stmt} {sts : List Stmt} {t u : TDS} {e : Expr} {te : TD} {pos : Pos}
def dNext : TDS := fun E ρ => E.nx ρ
theorem dss_nil : DSs X [] dNext := PSs.wk pss_nil fun D σ H ⟨T, G0, H0, G, ρ, A, E, S, f, h, k⟩ => k.1 _ _ _ _ _ h S f
def dThen (t u : TDS) : TDS := fun E ρ => t { E with nx := u E } ρ
theorem dss_cons (h1 : DS X st t) (h2 : DSs X sts u) : DSs X (st :: sts) (dThen t u) := PSs.wk (pss_cons h1 h2) fun D σ H ⟨T, G0, H0, G, ρ, A, E, S, f, h, k⟩ =>
  ⟨T, G0, H0, G, ρ, A, { E with nx := u E }, S, f, h, fun ρ1 σ1 G1 H1 A1 p1 S1 f1 => ⟨T, G0, H0, G1, ρ1, A1, E, S1, f1, p1, k⟩, k.2⟩
theorem dss_one (h1 : DS X st t) : DSs X [st] t := pss_one h1
theorem ds_pass : DS X (.Pass pos) dNext := PS.wk ps_pass fun D σ H ⟨T, G0, H0, G, ρ, A, E, S, f, h, k⟩ => k.1 _ _ _ _ _ h S f
def dNever : TDS := fun _ _ => False
theorem ds_never : DS X st dNever := PS.wk ps_never fun D σ H ⟨T, G0, H0, G, ρ, A, E, S, f, h, k⟩ => h
theorem dss_never : DSs X sts dNever := PSs.wk pss_never fun D σ H ⟨T, G0, H0, G, ρ, A, E, S, f, h, k⟩ => h
def dRet (t : TD) : TDS := fun E ρ => t ρ fun d => E.rt d ρ
theorem ds_ret (h : DP X e te) : DS X (.Return (some e) pos) (dRet te) := PS.wk (ps_ret h) fun D σ H ⟨T, G0, H0, G, ρ, A, E, S, f, h, k⟩ =>
  ⟨G, ρ, A, _, S, h, fun d v G' H' p g r => k.2.1 d ρ σ v G' H' A p (S.grow g) (f.grow S.gh g) r⟩
def dIfS (c : TDT) (t u : TDS) : TDS := fun E ρ => c ρ fun b => if b = true then t E ρ else u E ρ
theorem ds_if {c : Expr} {a b : List Stmt} {tc : TDT} (hc : DT X c tc) (ha : DSs X a t) (hb : DSs X b u) : DS X (.If c a b pos) (dIfS tc t u) := PS.wk (ps_if hc ha hb) fun D σ H ⟨T, G0, H0, G, ρ, A, E, S, f, h, k⟩ =>
  ⟨G, ρ, A, _, S, h, fun b G' H' p g => by
    cases b with
    | true => exact ⟨T, G0, H0, G', ρ, A, E, S.grow g, f.grow S.gh g, p, k⟩
    | false => exact ⟨T, G0, H0, G', ρ, A, E, S.grow g, f.grow S.gh g, p, k⟩⟩
/-! what an expression hands to a slot: data, or a thing of its own -/
abbrev TDE := List SV → (SV → Prop) → Prop
def tEx (t : TDE) : TE := fun σ H Q => ∃ G ρ A P, SR G H σ ρ A ∧ t ρ P ∧ ∀ s as v G' H', P s → Grow G H G' H' → SlotOk G' H' (some (some v)) s as → as.Nodup → (∀ a ∈ as, H a = none ∧ H' a ≠ none ∧ G' a = none) → Q v H'
def DE (X : Cx) (e : Expr) (t : TDE) : Prop := PE X e (tEx t)
def dShE (t : TD) : TDE := fun ρ P => t ρ fun d => P (.sh d)
def dOwE (t : TDF) : TDE := fun ρ P => t ρ fun ds => P (.ow ds)
theorem DP.de (h : DP X e te) : DE X e (dShE te) := PE.wk h fun σ H Q ⟨G, ρ, A, P, S, h, k⟩ => ⟨G, ρ, A, _, S, h, fun d v G' H' p g r => k (.sh d) [] v G' H' p g ⟨rfl, v, rfl, r⟩ List.nodup_nil fun _ z => nomatch z⟩
theorem DF.de {t : TDF} (h : DF X e t) : DE X e (dOwE t) := PE.wk h fun σ H Q ⟨G, ρ, A, P, S, h, k⟩ => ⟨G, ρ, A, _, S, h, fun ds vs l G' H' p g h0 h1 h2 r =>
  k (.ow ds) [l] (.ref l) G' H' p g ⟨l, vs, rfl, rfl, h2, r⟩ (by simp) fun a ha => by
    have e : a = l := by simpa using ha
    subst e
    exact ⟨h0, (by rw [h2]; exact fun z => nomatch z), h1⟩⟩
/-- slot i takes what an expression hands over -/
theorem take {G H G' H' G0 H0 : Hp} {T : Addr → Prop} {σ : L2.St} {ρ : List SV} {A : Nat → List Addr} {s : SV} {as : List Addr} {v : V} (S : SR G H σ ρ A) (f : Fr0 T G0 H0 G H A) (g : Grow G H G' H') (ok : SlotOk G' H' (some (some v)) s as) (nd : as.Nodup)
    (ha : ∀ a ∈ as, H a = none ∧ H' a ≠ none ∧ G' a = none) (i : Nat) : SR G' H' (σ.set i (some v)) (ρ.set i s) (setA A i as) ∧ Fr0 T G0 H0 G' H' (setA A i as) := by
  refine ⟨(S.grow g).setOwn i ok nd (fun j a h1 h2 => absurd (ha a h1).1 (S.own j a h2).1) fun a h => (ha a h).2, ?_⟩
  have f' := f.grow S.gh g
  refine ⟨f'.hh, f'.gg, f'.gn, fun j a h => ?_, f'.tt⟩
  by_cases hj : j = i
  · subst hj
    rw [setA_same] at h
    refine .inl ?_
    cases e : H0 a with
    | none => rfl
    | some o => exact absurd (ha a h).1 (f.alive (by rw [e]; exact fun z => nomatch z))
  · rw [setA_ne hj] at h
    exact f'.own j a h
def dSet (i : Nat) (t : TDE) : TDS := fun E ρ => t ρ fun s => E.nx (ρ.set i s)
theorem ds_set {i : Nat} {x : Str} {t : TDE} {pos' : Pos} (hN : X.N.Nodup) (hi : X.N[i]? = some x) (hx : Loc X.env.scope x) (he : DE X e t) (hs : swapsWith e (some (.Name x pos')) pos.line X.env = pure false := by rfl) (hf : X.fn x = true ∨ X.env.scope.names.lookup x = some .local := by first | exact .inl rfl | exact .inr rfl | assumption) :
    DS X (.Assign [.Name x pos'] e pos) (dSet i t) := PS.wk (ps_set hN hi hx he hs hf) fun D σ H ⟨T, G0, H0, G, ρ, A, E, S, f, h, k⟩ =>
  ⟨G, ρ, A, _, S, h, fun s as v G' H' p g ok nd ha => k.1 _ _ _ _ _ p (take S f g ok nd ha i).1 (take S f g ok nd ha i).2⟩
/-- name = [comprehension], on one line -/
theorem DF.frE {t : TDF} : ∀ σ H Q, tEx (dOwE t) σ H Q → tFr t σ H Q := fun σ H Q ⟨G, ρ, A, P, S, h, k⟩ => ⟨G, ρ, A, _, S, h, fun ds vs l G' H' p g h0 h1 h2 r =>
  k (.ow ds) [l] (.ref l) G' H' p g ⟨l, vs, rfl, rfl, h2, r⟩ (by simp) fun a ha => by
    have e : a = l := by simpa using ha
    subst e
    exact ⟨h0, (by rw [h2]; exact fun z => nomatch z), h1⟩⟩
theorem ds_setLc {i : Nat} {y : Str} {py : Pos} {elt tg iter : Expr} {ifs : List Expr} {scope : Scope} {own : List (Str × Nat)} {pos spos : Pos} {ti : TDI} {ws : List Nat} {g : TDG} {tt : TDT} {te : TD} (hc : X.calm = true) (hN : X.N.Nodup) (hy : X.N[i]? = some y) (hyl : X.env.scope.names.lookup y = some .local)
    (hsw : swapsWith (.ListComp elt [⟨tg, iter, ifs, 0⟩] scope pos) (some (.Name y py)) spos.line X.env = pure true) (hi : DI X tg iter ti) (ok : BlkOk X.N X.env.scope scope own) (hws : ∀ i ∈ ws, i ∈ own.map (·.2))
    (hg : ∀ (s : Shared) (H : Hp) (C : Addr) (cl : List (Str × Addr)) (fp : List Addr), DG (X.blk s H scope (compEnvC scope cl C X.env) fp) tg ws g) (ht : ∀ (s : Shared) (H : Hp) (C : Addr) (cl : List (Str × Addr)) (fp : List Addr), DTs (X.blk s H scope (compEnvC scope cl C X.env) fp) ifs tt)
    (he : ∀ (s : Shared) (H : Hp) (C : Addr) (cl : List (Str × Addr)) (fp : List Addr), DP (X.blk s H scope (compEnvC scope cl C X.env) fp) elt te) (hs : ∀ x, foldedSetIterable iter X.env x = pure x := by intro _; rfl) :
    DS X (.Assign [.Name y py] (.ListComp elt [⟨tg, iter, ifs, 0⟩] scope pos) spos) (dSet i (dOwE (dLc ti g tt te (own.map (·.2))))) :=
  PS.wk (ps_setLc hc hN hy hyl hsw hi ok hg ht he hs) fun D σ H ⟨T, G0, H0, G, ρ, A, E, S, f, h, k⟩ =>
    lc_of hws σ H _ (DF.frE _ _ _ ⟨G, ρ, A, _, S, h, fun s as v G' H' p g ok nd ha => k.1 _ _ _ _ _ p (take S f g ok nd ha i).1 (take S f g ok nd ha i).2⟩)
end
end DL

-- text DL5
set_option Elab.async false
set_option linter.all false
set_option maxRecDepth 100000
set_option maxHeartbeats 4000000
namespace DL
open PySem PySem.Spec PyProof.Rows L2
section
variable {X : Cx} {st : Stmt} {sts : List Stmt} {t u : TDS} {e : Expr} {te : TD} {pos : Pos}
/-! ### for -/
def dFor (ti : TDI) (g : TDG) (tb : TDS) : TDS := fun E ρ => ti ρ fun xs => ∃ I : Nat → List SV → Prop, I 0 ρ ∧
  (∀ i x ρ1, xs[i]? = some x → I i ρ1 → g x ρ1 fun ρ2 => tb { nx := I (i + 1), rt := E.rt, bk := E.nx, ct := I (i + 1) } ρ2) ∧ ∀ ρ1, I xs.length ρ1 → E.nx ρ1
theorem ds_for {tg iter : Expr} {body : List Stmt} {ti : TDI} {ws : List Nat} {g : TDG} {tb : TDS} (hp : PassesOwn (model X.prog X.w) X.A X.env X.xe) (hc : X.calm = true) (hi : DI X tg iter ti) (hg : DG X tg ws g) (hb : DSs X body tb)
    (hs : ∀ x, foldedSetIterable iter X.env x = pure x := by intro _; rfl) : DS X (.For tg iter body [] pos) (dFor ti g tb) := PS.wk (ps_for hp hc hi hg hb hs) fun D σ H ⟨T, G0, H0, G, ρ, A, E, S, f, h, k⟩ =>
  ⟨G, ρ, A, _, S, h, fun xs J G1 H1 ⟨I, i0, turn, fin⟩ g1 it => by
    have f1 := f.grow S.gh g1
    have S1 := S.grow g1
    refine ⟨fun i m σ' H' => m = xs.length - i ∧ i ≤ xs.length ∧ ∃ G' ρ' A', SR G' H' σ' ρ' A' ∧ Fr0 (TL T A) G1 H1 G' H' A' ∧ I i ρ', ⟨xs.length, by simp, Nat.zero_le _, G1, ρ, A, S1, Fr0.start, i0⟩, ?_⟩
    rintro i m σ2 H2 ⟨rfl, hi', G2, ρ2, A2, S2, f2, p2⟩
    obtain ⟨it1, it2⟩ := it G2 H2 f2.gg S2.gh
    by_cases hlt : i < xs.length
    · obtain ⟨x, hx⟩ : ∃ x, xs[i]? = some x := ⟨_, List.getElem?_eq_getElem hlt⟩
      obtain ⟨go, yl⟩ := it1 i x hx
      refine .inr ⟨go, fun σ' H' => i + 1 ≤ xs.length ∧ ∃ G' ρ' A', SR G' H' σ' ρ' A' ∧ Fr0 (TL T A) G1 H1 G' H' A' ∧ I (i + 1) ρ', fun σ' H' ⟨a, b⟩ => ⟨xs.length - (i + 1), by omega, rfl, a, b⟩, fun v H3 yv => ?_⟩
      obtain ⟨G3, g3, rv⟩ := yl v H3 yv
      refine ⟨G3, ρ2, A2, x, _, S2.grow g3, rv, turn i x ρ2 hx p2, fun σ4 ρ4 A4 p4 S4 t4 => ?_⟩
      exact ⟨TL T A, G1, H1, G3, ρ4, A4, _, S4, (f2.grow S2.gh g3).sub t4.ad, p4, fun ρ5 σ5 G5 H5 A5 p5 S5 f5 => ⟨hlt, G5, ρ5, A5, S5, f5, p5⟩, fun d ρ5 σ5 v G5 H5 A5 p5 S5 f5 r5 => k.2.1 d ρ5 σ5 v G5 H5 A5 p5 S5 (f1.out f5) r5,
        fun ρ5 σ5 G5 H5 A5 p5 S5 f5 => k.1 _ _ _ _ _ p5 S5 (f1.out f5), fun ρ5 σ5 G5 H5 A5 p5 S5 f5 => ⟨hlt, G5, ρ5, A5, S5, f5, p5⟩⟩
    · have e : i = xs.length := by omega
      subst e
      exact .inl ⟨it2 _ (Nat.le_refl _), k.1 _ _ _ _ _ (fin ρ2 p2) S2 (f1.out f2)⟩⟩
/-! ### while -/
def dWhile (c : TDT) (tb : TDS) : TDS := fun E ρ => ∃ W : Nat → List SV → Prop, (∃ m, W m ρ) ∧ ∀ m ρ1, W m ρ1 → c ρ1 fun b => if b = true then tb { nx := fun ρ2 => ∃ m', m' < m ∧ W m' ρ2, rt := E.rt, bk := E.nx, ct := fun ρ2 => ∃ m', m' < m ∧ W m' ρ2 } ρ1 else E.nx ρ1
theorem ds_while {c : Expr} {body : List Stmt} {tc : TDT} {tb : TDS} (hp : PassesOwn (model X.prog X.w) X.A X.env X.xe) (hc : DT X c tc) (hb : DSs X body tb) : DS X (.While c body [] pos) (dWhile tc tb) := PS.wk (ps_while hp hc hb) fun D σ H ⟨T, G0, H0, G, ρ, A, E, S, f, ⟨W, ⟨m0, w0⟩, turn⟩, k⟩ => by
  refine ⟨fun m σ' H' => ∃ G' ρ' A', SR G' H' σ' ρ' A' ∧ Fr0 T G0 H0 G' H' A' ∧ W m ρ', ⟨m0, G, ρ, A, S, f, w0⟩, ?_⟩
  rintro m σ1 H1 ⟨G1, ρ1, A1, S1, f1, w1⟩
  refine ⟨G1, ρ1, A1, _, S1, turn m ρ1 w1, fun b G2 H2 p2 g2 => ?_⟩
  cases b with
  | true =>
    refine ⟨fun σ' H' => ∃ m', m' < m ∧ ∃ G' ρ' A', SR G' H' σ' ρ' A' ∧ Fr0 T G0 H0 G' H' A' ∧ W m' ρ', fun σ' H' q => q, ?_⟩
    exact ⟨T, G0, H0, G2, ρ1, A1, _, S1.grow g2, f1.grow S1.gh g2, p2, fun ρ5 σ5 G5 H5 A5 ⟨m', l, w⟩ S5 f5 => ⟨m', l, G5, ρ5, A5, S5, f5, w⟩, k.2.1, k.1, fun ρ5 σ5 G5 H5 A5 ⟨m', l, w⟩ S5 f5 => ⟨m', l, G5, ρ5, A5, S5, f5, w⟩⟩
  | false => exact k.1 _ _ _ _ _ p2 (S1.grow g2) (f1.grow S1.gh g2)
/-! ### freezing -/
theorem SR.freeze {G H : Hp} {σ : L2.St} {ρ : List SV} {A : Nat → List Addr} (S : SR G H σ ρ A) {i : Nat} {ds : List PyData} (e : ρ[i]? = some (.ow ds)) : ∃ G' l, SR G' H σ (ρ.set i (.sh (.list ds))) (setA A i []) ∧ A i = [l] ∧ (∀ b, b ≠ l → G' b = G b) := by
  obtain ⟨l, vs, e1, e2, e3, r⟩ := S.at_ i _ e
  have gl : G l = none := (S.own i l (by rw [e2]; simp)).2
  have gm : Same G (upd G l (.lst vs)) := fun b o q => by rw [upd_ne (ne_of_none q gl)]; exact q
  have other : ∀ j a, j ≠ i → a ∈ A j → a ≠ l := fun j a hj ha q => by
    subst q
    exact hj (S.dis j i a ha (by rw [e2]; simp))
  refine ⟨upd G l (.lst vs), l, ⟨fun b o q => ?_, fun j s q => ?_, fun j k a h1 h2 => ?_, fun j => ?_, fun j a h => ?_, ?_⟩, e2, fun b hb => upd_ne hb⟩
  · by_cases hb : b = l
    · subst hb; rw [upd_same] at q; cases q; exact e3
    · rw [upd_ne hb] at q; exact S.gh b o q
  · by_cases hj : j = i
    · subst hj
      rw [setA_same]
      have hl : j < ρ.length := (List.getElem?_eq_some_iff.mp e).1
      rw [List.getElem?_set_self hl] at q
      cases q
      exact ⟨rfl, .ref l, e1, .lst upd_same (r.mono gm)⟩
    · rw [setA_ne hj]
      rw [List.getElem?_set_ne (Ne.symm hj)] at q
      exact (S.at_ j s q).mono gm fun _ _ => rfl
  · by_cases hj : j = i
    · subst hj; rw [setA_same] at h1; cases h1
    · by_cases hk : k = i
      · subst hk; rw [setA_same] at h2; cases h2
      · rw [setA_ne hj] at h1; rw [setA_ne hk] at h2; exact S.dis j k a h1 h2
  · by_cases hj : j = i
    · subst hj; rw [setA_same]; exact List.nodup_nil
    · rw [setA_ne hj]; exact S.nod j
  · by_cases hj : j = i
    · subst hj; rw [setA_same] at h; cases h
    · rw [setA_ne hj] at h
      exact ⟨(S.own j a h).1, by rw [upd_ne (other j a hj h)]; exact (S.own j a h).2⟩
  · rw [List.length_set]; exact S.len
/-- the statements from here on, slot i's list frozen first -/
def dFrz (i : Nat) (t : TDS) : TDS := fun E ρ => ∃ ds, ρ[i]? = some (.ow ds) ∧ t E (ρ.set i (.sh (.list ds)))
theorem dss_frz (i : Nat) (h : DSs X sts t) : DSs X sts (dFrz i t) := PSs.wk h fun D σ H ⟨T, G0, H0, G, ρ, A, E, S, f, ⟨ds, e, p⟩, k⟩ => by
  obtain ⟨G', l, S', e2, hg⟩ := S.freeze e
  refine ⟨T, G0, H0, G', _, _, E, S', ⟨f.hh, fun b o q => ?_, fun b hb n => ?_, fun j a m => ?_, f.tt⟩, p, k⟩
  · have ne : b ≠ l := fun z => by
      have := (S.own i l (by rw [e2]; simp)).2
      rw [z] at q
      rw [f.gg _ _ q] at this
      cases this
    rw [hg b ne]
    exact f.gg b o q
  · have ne : b ≠ l := fun z => by
      rcases f.own i l (by rw [e2]; simp) with q | q
      · exact hb (by rw [z]; exact q)
      · exact n (by rw [z]; exact q)
    exact (hg b ne).trans (f.gn b hb n)
  · by_cases hj : j = i
    · subst hj; rw [setA_same] at m; cases m
    · rw [setA_ne hj] at m; exact f.own j a m
end
end DL

-- text DL6
set_option Elab.async false
set_option linter.all false
set_option maxRecDepth 100000
set_option maxHeartbeats 4000000
namespace DL
open PySem PySem.Spec PyProof.Rows L2
section
variable {G H G' H' G0 H0 : Hp} {T : Addr → Prop} {σ : L2.St} {ρ : List SV} {A : Nat → List Addr}
/-- a thing made that nobody looks at -/
theorem SR.junk (S : SR G H σ ρ A) {p : Addr} {o : HO} (hp : H p = none) : SR G (upd H p o) σ ρ A where
  gh := sameUpd S.gh (S.gh.free hp)
  at_ := fun i s e => (S.at_ i s e).mono (fun _ _ q => q) fun l hl => upd_ne fun z => (S.own i l hl).1 (by rw [z]; exact hp)
  dis := S.dis
  nod := S.nod
  own := fun i a ha => ⟨by rw [upd_ne fun z => (S.own i a ha).1 (by rw [z]; exact hp)]; exact (S.own i a ha).1, (S.own i a ha).2⟩
  len := S.len
theorem Fr0.junk (f : Fr0 T G0 H0 G H A) {p : Addr} {o : HO} (hp : H p = none) : Fr0 T G0 H0 G (upd H p o) A where
  hh := fun b u e n => by rw [upd_ne (ne_of_none (f.hh b u e n) hp)]; exact f.hh b u e n
  gg := f.gg
  gn := f.gn
  own := f.own
  tt := fun t e h => by rw [upd_ne fun z => f.tt t e h (by rw [z]; exact hp)]; exact f.tt t e h
/-- an own thing of slot i is changed -/
theorem SR.change (S : SR G H σ ρ A) {i : Nat} {l : Addr} {o : HO} {s : SV} (hl : l ∈ A i) (hs : SlotOk G (upd H l o) σ[i]? s (A i)) : SR G (upd H l o) σ (ρ.set i s) A where
  gh := sameUpd S.gh (S.own i l hl).2
  at_ := fun j s' e => by
    by_cases hj : j = i
    · subst hj
      have hlt : j < ρ.length := by
        have := (List.getElem?_eq_some_iff.mp e).1
        rwa [List.length_set] at this
      rw [List.getElem?_set_self hlt] at e
      cases e
      exact hs
    · rw [List.getElem?_set_ne (Ne.symm hj)] at e
      exact (S.at_ j s' e).mono (fun _ _ q => q) fun b hb => upd_ne fun z => hj (S.dis j i b hb (by rw [z]; exact hl))
  dis := S.dis
  nod := S.nod
  own := fun j a ha => ⟨by
    by_cases z : a = l
    · rw [z, upd_same]; exact fun q => nomatch q
    · rw [upd_ne z]; exact (S.own j a ha).1, (S.own j a ha).2⟩
  len := by rw [List.length_set]; exact S.len
theorem Fr0.change (f : Fr0 T G0 H0 G H A) {i : Nat} {l : Addr} {o : HO} (hl : l ∈ A i) : Fr0 T G0 H0 G (upd H l o) A where
  hh := fun b u e n => by
    have ne : b ≠ l := fun z => by
      rcases f.own i l hl with q | q
      · rw [z, q] at e; cases e
      · exact n (by rw [z]; exact q)
    rw [upd_ne ne]; exact f.hh b u e n
  gg := f.gg
  gn := f.gn
  own := f.own
  tt := fun t e h => by
    by_cases z : t = l
    · rw [z, upd_same]; exact fun q => nomatch q
    · rw [upd_ne z]; exact f.tt t e h
end
section
variable {X : Cx} {st : Stmt} {sts : List Stmt} {t u : TDS} {e : Expr} {te : TD} {pos : Pos}
/-! ### a, b = .. -/
def dAsg (t : TD) (g : TDG) : TDS := fun E ρ => t ρ fun d => g d ρ E.nx
theorem ds_asg {tg : Expr} {ws : List Nat} {g : TDG} (he : DP X e te) (hg : DG X tg ws g) (hs : swapsWithSole [tg] e pos.line X.env = pure false := by rfl) (hw : swappedStores [tg] e X.env = pure none := by rfl)
    (h1 : (assignEach [tg] X.env).map (·.2) = [assign tg X.env] := by rfl) : DS X (.Assign [tg] e pos) (dAsg te g) := PS.wk (ps_asg he hg hs hw h1) fun D σ H ⟨T, G0, H0, G, ρ, A, E, S, f, h, k⟩ =>
  ⟨G, ρ, A, _, S, h, fun d v G1 H1 p g1 r => ⟨G1, ρ, A, d, _, S.grow g1, r, p, fun σ' ρ' A' p' S' t' => k.1 _ _ _ _ _ p' S' ((f.grow S.gh g1).sub t'.ad)⟩⟩
def dPar (i j : Nat) (t1 t2 : TDE) : TDS := fun E ρ => t1 ρ fun s1 => t2 ρ fun s2 => E.nx ((ρ.set i s1).set j s2)
def dPar3 (i j l : Nat) (t1 t2 t3 : TDE) : TDS := fun E ρ => t1 ρ fun s1 => t2 ρ fun s2 => t3 ρ fun s3 => E.nx (((ρ.set i s1).set j s2).set l s3)
/-- what was handed over stays so while things are made -/
structure Hand (G H G' H' : Hp) (s : SV) (as : List Addr) (v : V) : Prop where
  ok : SlotOk G' H' (some (some v)) s as
  nd : as.Nodup
  ha : ∀ a ∈ as, H a = none ∧ H' a ≠ none ∧ G' a = none
theorem Hand.grow {G H G1 H1 G2 H2 : Hp} {s : SV} {as : List Addr} {v : V} (h : Hand G H G1 H1 s as v) (sm : Same G1 H1) (g : Grow G1 H1 G2 H2) : Hand G H G2 H2 s as v :=
  ⟨h.ok.mono (g.gg sm) fun l hl => sameEq g.hh (h.ha l hl).2.1, h.nd, fun a m => ⟨(h.ha a m).1, sameNe g.hh (h.ha a m).2.1, (g.gn a (h.ha a m).2.1).trans (h.ha a m).2.2⟩⟩
theorem Hand.low {G0 H0 G H G' H' : Hp} {s : SV} {as : List Addr} {v : V} (h : Hand G H G' H' s as v) (g : Same H0 H) : Hand G0 H0 G' H' s as v := ⟨h.ok, h.nd, fun a m => ⟨g.free (h.ha a m).1, (h.ha a m).2⟩⟩
theorem Hand.junk {G H G' H' : Hp} {s : SV} {as : List Addr} {v : V} (h : Hand G H G' H' s as v) {p : Addr} {o : HO} (hp : H' p = none) : Hand G H G' (upd H' p o) s as v :=
  ⟨h.ok.mono (fun _ _ q => q) fun l hl => upd_ne fun z => (h.ha l hl).2.1 (by rw [z]; exact hp), h.nd, fun a m => ⟨(h.ha a m).1, by rw [upd_ne fun z => (h.ha a m).2.1 (by rw [z]; exact hp)]; exact (h.ha a m).2.1, (h.ha a m).2.2⟩⟩
/-- two, one behind the other -/
theorem take2 {G H G' H' G0 H0 : Hp} {T : Addr → Prop} {σ : L2.St} {ρ : List SV} {A : Nat → List Addr} {s1 s2 : SV} {as1 as2 : List Addr} {v1 v2 : V} (S : SR G' H' σ ρ A) (f : Fr0 T G0 H0 G' H' A) (S0 : SR G H σ ρ A) (f0 : Fr0 T G0 H0 G H A)
    (h1 : Hand G H G' H' s1 as1 v1) (h2 : Hand G H G' H' s2 as2 v2) (hd : ∀ a, a ∈ as1 → a ∉ as2) (i j : Nat) :
    ∃ A', SR G' H' ((σ.set i (some v1)).set j (some v2)) ((ρ.set i s1).set j s2) A' ∧ Fr0 T G0 H0 G' H' A' := by
  have n1 : ∀ k a, a ∈ as1 → a ∈ A k → k = i := fun k a m m2 => absurd (h1.ha a m).1 (S0.own k a m2).1
  have n2 : ∀ k a, a ∈ as2 → a ∈ A k → k = j := fun k a m m2 => absurd (h2.ha a m).1 (S0.own k a m2).1
  have Sa := S.setOwn i h1.ok h1.nd n1 fun a m => (h1.ha a m).2
  have Sb := Sa.setOwn j h2.ok h2.nd (fun k a m m2 => by
    by_cases hk : k = i
    · subst hk; rw [setA_same] at m2; exact absurd m (hd a m2)
    · rw [setA_ne hk] at m2; exact n2 k a m m2) fun a m => (h2.ha a m).2
  refine ⟨_, Sb, f.hh, f.gg, f.gn, fun k a m => ?_, f.tt⟩
  by_cases hk : k = j
  · subst hk; rw [setA_same] at m; exact .inl (f0.back (h2.ha a m).1)
  · rw [setA_ne hk] at m
    by_cases hk2 : k = i
    · subst hk2; rw [setA_same] at m; exact .inl (f0.back (h1.ha a m).1)
    · rw [setA_ne hk2] at m; exact f.own k a m
theorem ds_par {i j : Nat} {x y : Str} {a b : Expr} {t1 t2 : TDE} {px py pt : Pos} {kt k2 pt2} (hc : X.calm = true) (hN : X.N.Nodup) (hi : X.N[i]? = some x) (hj : X.N[j]? = some y) (hij : i ≠ j)
    (hx : X.env.scope.names.lookup x = some .local) (hy : X.env.scope.names.lookup y = some .local) (h1 : DE X a t1) (h2 : DE X b t2)
    (hw : swappedStores [.Tuple [.Name x px, .Name y py] kt pt] (.Tuple [a, b] k2 pt2) X.env = pure (some [x, y]))
    (hs : swapsWithSole [.Tuple [.Name x px, .Name y py] kt pt] (.Tuple [a, b] k2 pt2) pos.line X.env = pure false := by rfl)
    (s1 : starEach [a, b] X.env = (false, eval a X.env) :: starEach [b] X.env := by rfl) (s2 : starEach [b] X.env = (false, eval b X.env) :: starEach [] X.env := by rfl) :
    DS X (.Assign [.Tuple [.Name x px, .Name y py] kt pt] (.Tuple [a, b] k2 pt2) pos) (dPar i j t1 t2) :=
  PS.wk (ps_par hc hN hi hj hij hx hy (pa_cons h1 (pa_cons h2 pa_nil s2) s1) hw hs) fun D σ H ⟨T, G0, H0, G, ρ, A, E, S, f, h, k⟩ =>
    ⟨G, ρ, A, _, S, h, fun sA asA vA G1 H1 pA gA okA ndA haA => ⟨G1, ρ, A, _, S.grow gA, pA, fun sB asB vB G2 H2 pB gB okB ndB haB => by
      have hA := (Hand.mk (G := G) (H := H) okA ndA haA).grow gA.gh gB
      have hB := (Hand.mk (G := G1) (H := H1) okB ndB haB).low (G0 := G) gA.hh
      obtain ⟨A', S', f'⟩ := take2 ((S.grow gA).grow gB) ((f.grow S.gh gA).grow gA.gh gB) S f hA hB (fun a m m2 => (haA a m).2.1 (haB a m2).1) i j
      exact ⟨vA, vB, rfl, k.1 _ _ _ _ _ pB S' f'⟩⟩⟩
theorem ds_tup2 {i j : Nat} {a b n1 n2 : Expr} {t1 t2 : TDE} {pt : Pos} {kt k2 pt2} (hc : X.calm = true) (g1 : PG X n1 (gName i)) (g2 : PG X n2 (gName j)) (h1 : DE X a t1) (h2 : DE X b t2)
    (hw : swappedStores [.Tuple [n1, n2] kt pt] (.Tuple [a, b] k2 pt2) X.env = pure none := by rfl)
    (hs : swapsWithSole [.Tuple [n1, n2] kt pt] (.Tuple [a, b] k2 pt2) pos.line X.env = pure false := by rfl)
    (s1 : starEach [a, b] X.env = (false, eval a X.env) :: starEach [b] X.env := by rfl) (s2 : starEach [b] X.env = (false, eval b X.env) :: starEach [] X.env := by rfl)
    (q0 : (assignEach [.Tuple [n1, n2] kt pt] X.env).map (·.2) = [assign (.Tuple [n1, n2] kt pt) X.env] := by rfl)
    (q1 : (assignEach [n1, n2] X.env).map (·.2) = assign n1 X.env :: (assignEach [n2] X.env).map (·.2) := by rfl) (q2 : (assignEach [n2] X.env).map (·.2) = assign n2 X.env :: (assignEach [] X.env).map (·.2) := by rfl)
    (hn : (assignEach [n1, n2] X.env).length = 2 := by rfl) (hst : (assignEach [n1, n2] X.env).findIdx? (·.1) = none := by rfl) :
    DS X (.Assign [.Tuple [n1, n2] kt pt] (.Tuple [a, b] k2 pt2) pos) (dPar i j t1 t2) :=
  PS.wk (ps_asg (pe_tup (pa_cons h1 (pa_cons h2 pa_nil s2) s1)) (pg_tup hc (pgs_cons g1 (pgs_cons g2 pgs_nil q2) q1) hn hst) hs hw q0) fun D σ H ⟨T, G0, H0, G, ρ, A, E, S, f, h, k⟩ =>
    ⟨G, ρ, A, _, S, h, fun sA asA vA G1 H1 pA gA okA ndA haA => ⟨G1, ρ, A, _, S.grow gA, pA, fun sB asB vB G2 H2 pB gB okB ndB haB => ⟨by show 2 ≤ sizeLine; decide, fun p hp => by
      have hA := ((Hand.mk (G := G) (H := H) okA ndA haA).grow gA.gh gB).junk (o := .tup [vA, vB]) hp
      have hB := ((Hand.mk (G := G1) (H := H1) okB ndB haB).low (G0 := G) gA.hh).junk (o := .tup [vA, vB]) hp
      obtain ⟨A', S', f'⟩ := take2 (((S.grow gA).grow gB).junk hp) (((f.grow S.gh gA).grow gA.gh gB).junk hp) S f hA hB (fun a m m2 => (haA a m).2.1 (haB a m2).1) i j
      exact ⟨p, [vA, vB], rfl, SqT.of upd_same, rfl, vA, [vB], rfl, vB, [], rfl, rfl, k.1 _ _ _ _ _ pB S' f'⟩⟩⟩⟩
/-! ### an own list changed -/
theorem SR.ow {G H : Hp} {σ : L2.St} {ρ : List SV} {A : Nat → List Addr} (S : SR G H σ ρ A) {i : Nat} {ds : List PyData} (e : ρ[i]? = some (.ow ds)) :
    ∃ l vs, σ[i]? = some (some (.ref l)) ∧ A i = [l] ∧ l ∈ A i ∧ H l = some (.lst vs) ∧ RA G vs ds := by
  obtain ⟨l, vs, e1, e2, e3, r⟩ := S.at_ i _ e
  exact ⟨l, vs, e1, e2, by rw [e2]; simp, e3, r⟩
theorem SR.lst {G H : Hp} {σ : L2.St} {ρ : List SV} {A : Nat → List Addr} (S : SR G H σ ρ A) {i : Nat} {l : Addr} (e1 : σ[i]? = some (some (.ref l))) (e2 : A i = [l]) {vs : List V} {ds : List PyData} (r : RA G vs ds) : SR G (upd H l (.lst vs)) σ (ρ.set i (.ow ds)) A :=
  S.change (by rw [e2]; simp) ⟨l, vs, e1, e2, upd_same, r⟩
/-- xs.append(e), xs the own list in slot i -/
def dApnd (i : Nat) (t : TD) : TDS := fun E ρ => ∃ ds, ρ[i]? = some (.ow ds) ∧ t ρ fun d => ds.length < 16777216 ∧ E.nx (ρ.set i (.ow (ds ++ [d])))
theorem ds_append {i : Nat} {o : Expr} {apos cpos : Pos} (ho : PE X o (tVar i)) (ha : DP X e te) (hbase : attributeBase o "append" X.env (eval o X.env) = eval o X.env := by rfl)
    (hfew : ((backTo cpos (starEach [e] X.env)).all (fun x => !x.1) && (backToKw cpos (keywordEach [] X.env)).all (fun x => x.1.isSome)
      && decide ([e].length + ([] : List Keyword).length + (if ([] : List Keyword).isEmpty then 0 else 1) < 30)) = true := by rfl)
    (hline : (apos.endLine == cpos.line) = true := by rfl) (hs : starEach [e] X.env = (false, eval e X.env) :: starEach [] X.env := by rfl) (hplain : (backTo cpos (starEach [] X.env)).any (·.1) = false := by rfl)
    (hsw : swapsWith (.Call (.Attribute o "append" apos) [e] [] cpos) none pos.line X.env = pure false := by rfl) :
    DS X (.Expr (.Call (.Attribute o "append" apos) [e] [] cpos) pos) (dApnd i te) :=
  PS.wk (ps_expr (pe_bm PySem.F.plainAttrs_list PySem.F.slot_list_append PySem.F.type_list_append mt_append ho (pa_cons ha pa_nil hs) hbase hfew hline hs hplain) hsw) fun D σ H ⟨T, G0, H0, G, ρ, A, E, S, f, ⟨ds, e0, h⟩, k⟩ => by
    obtain ⟨l, vs, e1, e2, hm, e3, r⟩ := S.ow e0
    refine ⟨.ref l, e1, .inl ⟨rfl, vs, SqL.of e3⟩, G, ρ, A, _, S, h, fun d v G1 H1 ⟨z, p⟩ g1 r1 => ?_⟩
    refine ⟨l, vs, v, rfl, rfl, g1.hh _ _ e3, by rw [r.length, sizeLine_eq]; exact z, ?_⟩
    exact k.1 _ _ _ _ _ p ((S.grow g1).lst e1 e2 ((r.mono (g1.gg S.gh)).append (.cons r1 .nil))) ((f.grow S.gh g1).change hm)
theorem ext_tup (l b : Addr) (its its2 : Array Value) (n n2 : Nat) (dd : Option Addr) (sl : Array (Option Value)) (k0 : ¬(!its.isEmpty && Builtin.List.listTooLong (its.size + its2.size)) = true) (k1 : its.size ≤ sizeLine) (k2 : its.size + its2.size ≤ sizeLine + 1) :
    Meets (Builtin.«list.extend» ⟨[.ref l, .ref b], []⟩) (fun _ R s => s.heap.get? l = some { cls := .type "list", dict := none, data := .seq its n, slots := #[] } ∧ s.heap.get? b = some { cls := .type "tuple", dict := dd, data := .seq its2 n2, slots := sl } ∧
      R (.ok (.ret Value.none)) { s with heap := s.heap.update l (Obj.mapSeq fun x => x ++ its2), toks := s.toks }) := .of_wp fun prog w A R s h => by
  obtain ⟨hp, g, d, tk, os⟩ := s
  obtain ⟨hl, hb, h⟩ := h
  have q1 := AutoSeq1.idx_int
  have q2 := AutoSeq1.sub_tuple_tuple
  have q3 := AutoSeq1.sub_list_list
  have q4 := AutoSeq1.sub_tuple_list
  have q5 := AutoSeq1.sub_list_tuple
  have z : (its ++ its2).size ≤ sizeLine + 1 := by rw [Array.size_append]; exact k2
  wp_walk using (wpAny_updateSeq hl rfl (hz := k1) (_hz' := z)), AutoSeq1.wpAny_loadPart' hl, AutoSeq1.wpAny_loadPart' hb
  exact ⟨_, rfl, h⟩
/-- xs.extend(e), e a list or a tuple -/
def rExtT (X : Cx) : V → List V → Hp → VK → Prop := fun x vs H Q => ∃ l b xs zs, x = .ref l ∧ vs = [.ref b] ∧ H l = some (.lst xs) ∧ SqT X.K H b zs ∧ xs.length + zs.length ≤ sizeLine ∧ Q .non (upd H l (.lst (xs ++ zs)))
theorem mt_extendT : MtM X "list.extend" (rExtT X) := by
  intro pins s σ H x vs v us Q I rx rv h
  obtain ⟨l, b, xs, zs, rfl, rfl, hH, hB, hz, q⟩ := h
  cases rx
  obtain ⟨u, rfl, ru⟩ := rv.one
  cases ru
  obtain ⟨z, its, n, r, hl, e⟩ := I.lstM hH
  obtain ⟨its2, r2, ⟨⟨cls, dd, dt, sl⟩, e2, hc, n2, hd⟩, hz2⟩ := I.tuple hB
  simp only at hc hd
  subst hc hd
  have hl2 := r2.length
  have hsz : its.toArray.size + its2.toArray.size ≤ sizeLine := by rw [List.size_toArray, List.size_toArray]; omega
  have hlong : ¬ (!its.toArray.isEmpty && Builtin.List.listTooLong (its.toArray.size + its2.toArray.size)) = true := by
    rw [notLongL hsz, Bool.and_false]
    exact Bool.false_ne_true
  refine call_meets F.slot_list_extend ⟨_, e, rfl⟩ F.entry_list_extend (F.args_list_extend_2 _ _)
    (ext_tup l b its.toArray its2.toArray n n2 dd sl hlong (by rw [List.size_toArray]; omega) (by omega)) ⟨e, e2, ?_⟩
  refine ⟨.non, _, I.lset (its' := its ++ its2) hH e (by simp) (r.append r2) ?_, rfl, q⟩
  rw [List.length_append]
  omega
def rExt2 (X : Cx) : V → List V → Hp → VK → Prop := fun x vs H Q => rExtend x vs H Q ∨ rExtT X x vs H Q
theorem mt_ext2 : MtR X "list.extend" (rExt2 X) := MtR.or (id := "list.extend") mt_extend mt_extendT
def dExtd (i : Nat) (t : TD) : TDS := fun E ρ => ∃ ds, ρ[i]? = some (.ow ds) ∧ t ρ fun d => ∃ es, itemsOf d = some es ∧ ds.length + es.length ≤ 16777216 ∧ E.nx (ρ.set i (.ow (ds ++ es)))
theorem ds_extend {i : Nat} {o : Expr} {apos cpos : Pos} (ho : PE X o (tVar i)) (ha : DP X e te) (hbase : attributeBase o "extend" X.env (eval o X.env) = eval o X.env := by rfl)
    (hfew : ((backTo cpos (starEach [e] X.env)).all (fun x => !x.1) && (backToKw cpos (keywordEach [] X.env)).all (fun x => x.1.isSome)
      && decide ([e].length + ([] : List Keyword).length + (if ([] : List Keyword).isEmpty then 0 else 1) < 30)) = true := by rfl)
    (hline : (apos.endLine == cpos.line) = true := by rfl) (hs : starEach [e] X.env = (false, eval e X.env) :: starEach [] X.env := by rfl) (hplain : (backTo cpos (starEach [] X.env)).any (·.1) = false := by rfl)
    (hsw : swapsWith (.Call (.Attribute o "extend" apos) [e] [] cpos) none pos.line X.env = pure false := by rfl) :
    DS X (.Expr (.Call (.Attribute o "extend" apos) [e] [] cpos) pos) (dExtd i te) :=
  PS.wk (ps_expr (pe_bm PySem.F.plainAttrs_list PySem.F.slot_list_extend PySem.F.type_list_extend mt_ext2 ho (pa_cons ha pa_nil hs) hbase hfew hline hs hplain) hsw) fun D σ H ⟨T, G0, H0, G, ρ, A, E, S, f, ⟨ds, e0, h⟩, k⟩ => by
    obtain ⟨l, vs, e1, e2, hm, e3, r⟩ := S.ow e0
    refine ⟨.ref l, e1, .inl ⟨rfl, vs, SqL.of e3⟩, G, ρ, A, _, S, h, fun d v G1 H1 ⟨es, ei, z, p⟩ g1 r1 => ?_⟩
    have r' := r.mono (g1.gg S.gh)
    have fin : ∀ ws, RA G1 ws es → D.nx σ (upd H1 l (.lst (vs ++ ws))) := fun ws rw' => k.1 _ _ _ _ _ p ((S.grow g1).lst e1 e2 (r'.append rw')) ((f.grow S.gh g1).change hm)
    cases d with
    | list xs =>
      cases ei
      obtain ⟨a, ws, rfl, ea, ra⟩ := r1.lst_of
      exact .inl ⟨l, a, vs, ws, rfl, rfl, g1.hh _ _ e3, g1.gh _ _ ea, by rw [r.length, ra.length, sizeLine_eq]; exact z, fin ws ra⟩
    | tuple xs =>
      cases ei
      obtain ⟨a, ws, rfl, ea, ra⟩ := r1.tup_of
      exact .inr ⟨l, a, vs, ws, rfl, rfl, g1.hh _ _ e3, ea.sq g1.gh, by rw [r.length, ra.length, sizeLine_eq]; exact z, fin ws ra⟩
    | _ => cases ei
/-- xs[k] = e, xs the own list in slot i -/
def dSetI (i : Nat) (tk t : TD) : TDS := fun E ρ => t ρ fun d => ∃ ds, ρ[i]? = some (.ow ds) ∧ tk ρ fun x => ∃ j : Int, x = .int j ∧ 0 ≤ j ∧ j < ds.length ∧ E.nx (ρ.set i (.ow (ds.set j.toNat d)))
end
/-! ### a def by its body, over data -/
def startD (N : List Str) (ds : List PyData) : List SV := ds.map .sh ++ List.replicate (N.length - ds.length) .un
theorem start_sr {G H : Hp} {N : List Str} {vs : List V} {ds : List PyData} (s : Same G H) (r : RA G vs ds) : SR G H (L2.start N vs) (startD N ds) (fun _ => []) where
  gh := s
  at_ := fun i sv e => by
    unfold startD at e
    unfold L2.start
    have hl := r.length
    by_cases hi : i < ds.length
    · rw [List.getElem?_append_left (by simpa using hi), List.getElem?_map] at e
      obtain ⟨d, hd⟩ : ∃ d, ds[i]? = some d := ⟨_, List.getElem?_eq_getElem hi⟩
      rw [hd] at e
      cases e
      obtain ⟨v, hv, rv⟩ := r.get hd
      refine ⟨rfl, v, ?_, rv⟩
      rw [List.getElem?_append_left (by rw [List.length_map, hl]; exact hi), List.getElem?_map, hv]
      rfl
    · rw [List.getElem?_append_right (by simpa using hi), List.getElem?_replicate] at e
      split at e
      · cases e; rfl
      · cases e
  dis := fun _ _ _ h => nomatch h
  nod := fun _ => List.nodup_nil
  own := fun _ _ h => nomatch h
  len := by simp [L2.start, startD, r.length]
theorem fn_dl {P : Program} {w : World} {K : PySem.W.Frag} {mg : Str → Option Value} {base : Heap} {x qual : Str} {params : Arguments} {body : List Stmt} {scope : Scope} {f : Addr} {fd : FuncData} {N ps : List Str} {k : Nat} {C : TF} {t : TDS}
    (F : FunD K x qual params body scope [] [] f fd) (S : FnScope N ps scope) (hl : ∀ ds Q, C ds Q → ds.length = ps.length)
    (hbody : ∀ (cdv : Value) (A : Around) (outer : List Env) (s : Shared) (H : Hp) (E : XK), Room k (A.deeper (envOfC qual scope s.heap.objs.size f cdv)) → DSs (cxOf CX0 P w K mg base N qual scope f cdv A outer s H E).nox body t)
    (hC : ∀ ds Q, C ds Q → t { nx := fun _ => Q .none, rt := fun d _ => Q d } (startD N ds)) : FnOk P w K mg base CX0 (k + 1) f fd ps (spC C) := by
  refine F.ok S (fun vs H Q E h => ?_) (fun cdv A outer s H vs Q E hr h => ?_)
  · obtain ⟨G, ds, P, s, r, c, _⟩ := h
    rw [r.length]
    exact hl ds P c
  · obtain ⟨G, ds, P, sm, r, c, fin⟩ := h
    refine ⟨_, PSs.nox (hbody cdv A outer s H E hr), fun _ => False, G, H, G, startD N ds, fun _ => [], _, start_sr sm r, ⟨fun _ _ e _ => e, fun _ _ e => e, fun _ _ _ => rfl, (fun _ _ h => nomatch h), fun _ h => False.elim h⟩, hC ds P c, ?_, ?_, ?_, ?_⟩
    · intro ρ σ G' H' A' p S' f'
      exact fin .none .non G' H' p ⟨fun b o e => f'.hh b o e (fun z => z), fun b h => f'.gn b h (fun z => z), S'.gh⟩ .non
    · intro d ρ σ v G' H' A' p S' f' r'
      exact fin d v G' H' p ⟨fun b o e => f'.hh b o e (fun z => z), fun b h => f'.gn b h (fun z => z), S'.gh⟩ r'
    · intro ρ σ G' H' A' p _ _
      exact False.elim p
    · intro ρ σ G' H' A' p _ _
      exact False.elim p
end DL

-- text DL7
set_option Elab.async false
set_option linter.all false
set_option maxRecDepth 100000
set_option maxHeartbeats 4000000
namespace DL
open PySem PySem.Spec PyProof.Rows L2
/-! ### isinstance -/
def isInt : PyData → Bool
  | .int _ => true
  | .bool _ => true
  | _ => false
def isBool : PyData → Bool
  | .bool _ => true
  | _ => false
def isTup : PyData → Bool
  | .tuple _ => true
  | _ => false
def isLst : PyData → Bool
  | .list _ => true
  | _ => false
def isSeq (d : PyData) : Bool := isLst d || isTup d
def isDic : PyData → Bool
  | .dict _ => true
  | _ => false
def tyName : PyData → String
  | .none => "NoneType"
  | .bool _ => "bool"
  | .int _ => "int"
  | .str _ => "str"
  | .list _ => "list"
  | .tuple _ => "tuple"
  | .dict _ => "dict"
section
variable {G H : Hp} {K : PySem.W.Frag}
theorem RD.ty {v : V} {d : PyData} (s : Same G H) (r : RD G v d) (hd : isDic d = false) : TyX K H v (.type (tyName d)) := by
  cases r with
  | non => exact .base .non
  | bl b => exact .base (.bl b)
  | int i => exact .base (.int i)
  | lst e _ => exact .base (.lst (s _ _ e))
  | tup e _ =>
    rcases e with e | ⟨o, _, e⟩
    · exact .base (.tup (s _ _ e))
    · exact .fTuple (s _ _ e)
  | dic e _ => cases hd
  | tupz e _ => cases hd
end
section
variable {X : Cx} {a : Expr} {ta : TD} {p p2 pos : Pos}
def dIsi (q : PyData → Bool) (t : TD) : TD := fun ρ P => t ρ fun d => isDic d = false ∧ P (.bool (q d))
/-- isinstance(x, T): tab tells the answers -/
theorem dp_isi {T : Str} {n : String} {q : PyData → Bool} (tab : ∀ d G v, RD G v d → kitB (tyName d) n = some (q d)) (ha : DP X a ta) (hg : Gl X "isinstance") (hm : X.mg "isinstance" = none) (hT : PE X (.Name T p2) (tC (.ty n)))
    (s1 : starEach [a, .Name T p2] X.env = (false, eval a X.env) :: starEach [.Name T p2] X.env := by rfl) (s2 : starEach [.Name T p2] X.env = (false, eval (.Name T p2) X.env) :: starEach [] X.env := by rfl)
    (hpl : (backTo pos (starEach [.Name T p2] X.env)).any (·.1) = false := by rfl) : DP X (.Call (.Name "isinstance" p) [a, .Name T p2] [] pos) (dIsi q ta) :=
  PE.wk (pe_callB call_isi hg hm (by decide +kernel) (pa_cons ha (pa_cons hT pa_nil s2) s1) (by decide) (by decide) s1 hpl) fun σ H Q ⟨G, ρ, A, P, S, h, k⟩ => ⟨G, ρ, A, _, S, h, fun d v G1 H1 ⟨hd, p1⟩ g1 r1 =>
    ⟨v, .ty n, .type (tyName d), .type n, q d, rfl, .ty n, r1.ty g1.gh hd, kit_ty (tab d G1 v r1), k _ _ G1 H1 p1 g1 (.bl _)⟩⟩
theorem kt_int : kitB "NoneType" "int" = some false ∧ kitB "bool" "int" = some true ∧ kitB "int" "int" = some true ∧ kitB "list" "int" = some false ∧ kitB "tuple" "int" = some false ∧ kitB "dict" "int" = some false := by decide +kernel
theorem kt_bool : kitB "NoneType" "bool" = some false ∧ kitB "bool" "bool" = some true ∧ kitB "int" "bool" = some false ∧ kitB "list" "bool" = some false ∧ kitB "tuple" "bool" = some false ∧ kitB "dict" "bool" = some false := by decide +kernel
theorem kt_tup : kitB "NoneType" "tuple" = some false ∧ kitB "bool" "tuple" = some false ∧ kitB "int" "tuple" = some false ∧ kitB "list" "tuple" = some false ∧ kitB "tuple" "tuple" = some true ∧ kitB "dict" "tuple" = some false := by decide +kernel
theorem kt_lst : kitB "NoneType" "list" = some false ∧ kitB "bool" "list" = some false ∧ kitB "int" "list" = some false ∧ kitB "list" "list" = some true ∧ kitB "tuple" "list" = some false ∧ kitB "dict" "list" = some false := by decide +kernel
theorem kt_str : kitB "NoneType" "str" = some false ∧ kitB "bool" "str" = some false ∧ kitB "int" "str" = some false ∧ kitB "list" "str" = some false ∧ kitB "tuple" "str" = some false ∧ kitB "dict" "str" = some false := by decide +kernel
theorem tab_int : ∀ d G v, RD G v d → kitB (tyName d) "int" = some (isInt d) := fun d G v r => by
  cases r
  · exact kt_int.1
  · exact kt_int.2.1
  · exact kt_int.2.2.1
  · exact kt_int.2.2.2.1
  · exact kt_int.2.2.2.2.1
  · exact kt_int.2.2.2.2.2
  · exact kt_int.2.2.2.2.2
theorem tab_bool : ∀ d G v, RD G v d → kitB (tyName d) "bool" = some (isBool d) := fun d G v r => by
  cases r
  · exact kt_bool.1
  · exact kt_bool.2.1
  · exact kt_bool.2.2.1
  · exact kt_bool.2.2.2.1
  · exact kt_bool.2.2.2.2.1
  · exact kt_bool.2.2.2.2.2
  · exact kt_bool.2.2.2.2.2
theorem tab_tup : ∀ d G v, RD G v d → kitB (tyName d) "tuple" = some (isTup d) := fun d G v r => by
  cases r
  · exact kt_tup.1
  · exact kt_tup.2.1
  · exact kt_tup.2.2.1
  · exact kt_tup.2.2.2.1
  · exact kt_tup.2.2.2.2.1
  · exact kt_tup.2.2.2.2.2
  · exact kt_tup.2.2.2.2.2
theorem tab_lst : ∀ d G v, RD G v d → kitB (tyName d) "list" = some (isLst d) := fun d G v r => by
  cases r
  · exact kt_lst.1
  · exact kt_lst.2.1
  · exact kt_lst.2.2.1
  · exact kt_lst.2.2.2.1
  · exact kt_lst.2.2.2.2.1
  · exact kt_lst.2.2.2.2.2
  · exact kt_lst.2.2.2.2.2
theorem tab_str : ∀ d G v, RD G v d → kitB (tyName d) "str" = some false := fun d G v r => by
  cases r
  · exact kt_str.1
  · exact kt_str.2.1
  · exact kt_str.2.2.1
  · exact kt_str.2.2.2.1
  · exact kt_str.2.2.2.2.1
  · exact kt_str.2.2.2.2.2
  · exact kt_str.2.2.2.2.2
/-- isinstance(x, (S, T)) -/
theorem dp_isi2 {S T : Str} {m n : String} {p3 tpos : Pos} {kk : Nat} {q : PyData → Bool} (tab : ∀ (K : PySem.W.Frag) d G v, RD G v d → PySem.W.kitAny K (.type (tyName d)) [.type m, .type n] = some (q d)) (ha : DP X a ta) (hg : Gl X "isinstance") (hm : X.mg "isinstance" = none)
    (hS : PE X (.Name S p2) (tC (.ty m))) (hT : PE X (.Name T p3) (tC (.ty n)))
    (s1 : starEach [a, .Tuple [.Name S p2, .Name T p3] kk tpos] X.env = (false, eval a X.env) :: starEach [.Tuple [.Name S p2, .Name T p3] kk tpos] X.env := by rfl)
    (s2 : starEach [.Tuple [.Name S p2, .Name T p3] kk tpos] X.env = (false, eval (.Tuple [.Name S p2, .Name T p3] kk tpos) X.env) :: starEach [] X.env := by rfl)
    (s3 : starEach [.Name S p2, .Name T p3] X.env = (false, eval (.Name S p2) X.env) :: starEach [.Name T p3] X.env := by rfl) (s4 : starEach [.Name T p3] X.env = (false, eval (.Name T p3) X.env) :: starEach [] X.env := by rfl)
    (hpl : (backTo pos (starEach [.Tuple [.Name S p2, .Name T p3] kk tpos] X.env)).any (·.1) = false := by rfl) :
    DP X (.Call (.Name "isinstance" p) [a, .Tuple [.Name S p2, .Name T p3] kk tpos] [] pos) (dIsi q ta) :=
  PE.wk (pe_callB call_isiT hg hm (by decide +kernel) (pa_cons ha (pa_cons (pe_tup (pa_cons hS (pa_cons hT pa_nil s4) s3)) pa_nil s2) s1) (by decide) (by decide) s1 hpl) fun σ H Q ⟨G, ρ, A, P, S, h, k⟩ => ⟨G, ρ, A, _, S, h, fun d v G1 H1 ⟨hd, p1⟩ g1 r1 =>
    ⟨by show 2 ≤ sizeLine; decide, fun tp htp => ⟨v, tp, [.ty m, .ty n], .type (tyName d), [.type m, .type n], q d, rfl, upd_same, .cons (.ty m) (.cons (.ty n) .nil), r1.ty (sameUpd g1.gh (g1.gh.free htp)) hd, tab X.K d G1 v r1,
      k _ _ G1 _ p1 ⟨fun b o e => by rw [upd_ne (ne_of_none (g1.hh b o e) htp)]; exact g1.hh b o e, g1.gn, sameUpd g1.gh (g1.gh.free htp)⟩ (.bl _)⟩⟩⟩
theorem kit2 {K : PySem.W.Frag} {t m n : String} {b c : Bool} (h1 : kitB t m = some b) (h2 : kitB t n = some c) : PySem.W.kitAny K (.type t) [.type m, .type n] = some (b || c) := by
  refine kitAny_cons (kit_ty h1) (fun e => ?_) (fun e => by rw [e]; rfl)
  subst e
  rw [Bool.false_or]
  exact kitAny_cons (kit_ty h2) (fun e => by rw [e]; rfl) (fun e => by rw [e])
theorem tab_seq : ∀ (K : PySem.W.Frag) d G v, RD G v d → PySem.W.kitAny K (.type (tyName d)) [.type "list", .type "tuple"] = some (isSeq d) := fun K d G v r => kit2 (tab_lst d G v r) (tab_tup d G v r)
theorem tab_bs : ∀ (K : PySem.W.Frag) d G v, RD G v d → PySem.W.kitAny K (.type (tyName d)) [.type "bool", .type "str"] = some (isBool d) := fun K d G v r => by
  have := kit2 (K := K) (tab_bool d G v r) (tab_str d G v r)
  rw [Bool.or_false] at this
  exact this
end
/-! ### len, tuple, list, all, any, sum, abs, min, max, int -/
section
variable {X : Cx}
def gLen : TF := fun ds P => ∃ d xs, ds = [d] ∧ itemsOf d = some xs ∧ P (.int (xs.length : Nat))
theorem cd_len : CallD (fun xs H Q => ∃ x n, xs = [x] ∧ LenV X.K x H n ∧ Q (.int n) H) gLen := by
  intro G H vs ds P Q s r ⟨d, xs, e, hi, p⟩ k
  subst e
  obtain ⟨v, rfl, rv⟩ := r.one
  cases d with
  | list ys =>
    cases hi
    obtain ⟨a, us, rfl, ea, ra⟩ := rv.lst_of
    exact ⟨_, us.length, rfl, .inl ⟨us, SqL.of (s _ _ ea), rfl⟩, by rw [ra.length]; exact k _ _ G H p (Grow.refl s) (.int _)⟩
  | tuple ys =>
    cases hi
    obtain ⟨a, us, rfl, ea, ra⟩ := rv.tup_of
    exact ⟨_, us.length, rfl, .inr ⟨us, ea.sq s, rfl⟩, by rw [ra.length]; exact k _ _ G H p (Grow.refl s) (.int _)⟩
  | _ => cases hi
def gTupOf : TF := fun ds P => ∃ d xs, ds = [d] ∧ itemsOf d = some xs ∧ P (.tuple xs)
theorem cd_tup : CallD (fun xs H Q => ∃ p ys, xs = [.ref p] ∧ ((SqL X.K H p ys ∧ ∀ l, H l = none → Q (.ref l) (upd H l (.tup ys))) ∨ (SqT X.K H p ys ∧ Q (.ref p) H))) gTupOf := by
  intro G H vs ds P Q s r ⟨d, xs, e, hi, p⟩ k
  subst e
  obtain ⟨v, rfl, rv⟩ := r.one
  cases d with
  | list ys =>
    cases hi
    obtain ⟨a, us, rfl, ea, ra⟩ := rv.lst_of
    exact ⟨a, us, rfl, .inl ⟨SqL.of (s _ _ ea), fun l hl => k _ _ (upd G l (.tup us)) _ p (Grow.new s hl) (.tup (.inl upd_same) (ra.upd (s.free hl)))⟩⟩
  | tuple ys =>
    cases hi
    obtain ⟨a, us, rfl, ea, ra⟩ := rv.tup_of
    exact ⟨a, us, rfl, .inr ⟨ea.sq s, k _ _ G H p (Grow.refl s) (.tup ea ra)⟩⟩
  | _ => cases hi
def gLstOf : TF := fun ds P => ∃ d xs, ds = [d] ∧ itemsOf d = some xs ∧ P (.list xs)
theorem cd_lst : CallD (fun xs H Q => ∃ p ys, xs = [.ref p] ∧ (SqL X.K H p ys ∨ SqT X.K H p ys) ∧ ∀ l, H l = none → Q (.ref l) (upd H l (.lst ys))) gLstOf := by
  intro G H vs ds P Q s r ⟨d, xs, e, hi, p⟩ k
  subst e
  obtain ⟨v, rfl, rv⟩ := r.one
  cases d with
  | list ys =>
    cases hi
    obtain ⟨a, us, rfl, ea, ra⟩ := rv.lst_of
    exact ⟨a, us, rfl, .inl (SqL.of (s _ _ ea)), fun l hl => k _ _ (upd G l (.lst us)) _ p (Grow.new s hl) (.lst upd_same (ra.upd (s.free hl)))⟩
  | tuple ys =>
    cases hi
    obtain ⟨a, us, rfl, ea, ra⟩ := rv.tup_of
    exact ⟨a, us, rfl, .inr (ea.sq s), fun l hl => k _ _ (upd G l (.lst us)) _ p (Grow.new s hl) (.lst upd_same (ra.upd (s.free hl)))⟩
  | _ => cases hi
def gAll : TF := fun ds P => ∃ bs : List Bool, ds = [.list (bs.map .bool)] ∧ P (.bool (bs.all id))
def gAny : TF := fun ds P => ∃ bs : List Bool, ds = [.list (bs.map .bool)] ∧ P (.bool (bs.any id))
theorem cd_all : CallD (rAll X.K) gAll := by
  intro G H vs ds P Q s r ⟨bs, e, p⟩ k
  subst e
  obtain ⟨v, rfl, rv⟩ := r.one
  obtain ⟨a, us, rfl, ea, ra⟩ := rv.lst_of
  rw [ra.bls] at ea
  exact ⟨a, bs, rfl, SqL.of (s _ _ ea), k _ _ G H p (Grow.refl s) (.bl _)⟩
theorem cd_any : CallD (rAny X.K) gAny := by
  intro G H vs ds P Q s r ⟨bs, e, p⟩ k
  subst e
  obtain ⟨v, rfl, rv⟩ := r.one
  obtain ⟨a, us, rfl, ea, ra⟩ := rv.lst_of
  rw [ra.bls] at ea
  exact ⟨a, bs, rfl, SqL.of (s _ _ ea), k _ _ G H p (Grow.refl s) (.bl _)⟩
def gSum : TF := fun ds P => ∃ ns : List Int, ds = [.list (ns.map .int)] ∧ P (.int ns.sum)
theorem cd_sum : CallD (rSum X.K) gSum := by
  intro G H vs ds P Q s r ⟨bs, e, p⟩ k
  subst e
  obtain ⟨v, rfl, rv⟩ := r.one
  obtain ⟨a, us, rfl, ea, ra⟩ := rv.lst_of
  rw [ra.ints] at ea
  exact ⟨a, bs, rfl, SqL.of (s _ _ ea), k _ _ G H p (Grow.refl s) (.int _)⟩
def gAbs : TF := fun ds P => ∃ i : Int, ds = [.int i] ∧ P (.int (if i < 0 then -i else i))
theorem cd_abs : CallD (fun xs H Q => ∃ i, xs = [.int i] ∧ Q (.int (if i < 0 then -i else i)) H) gAbs := by
  intro G H vs ds P Q s r ⟨i, e, p⟩ k
  subst e
  obtain ⟨v, rfl, rv⟩ := r.one
  exact ⟨i, by rw [rv.int_of], k _ _ G H p (Grow.refl s) (.int _)⟩
/-- min, max: two ints; a list of ints; a tuple of two ints -/
def gMin : TF := fun ds P => (∃ i j : Int, ds = [.int i, .int j] ∧ P (.int (if j < i then j else i))) ∨
  (∃ ns : List Int, ds = [.list (ns.map .int)] ∧ 0 < ns.length ∧ ∀ m, m ∈ ns → (∀ y, y ∈ ns → m ≤ y) → P (.int m))
def gMax : TF := fun ds P => (∃ i j : Int, ds = [.int i, .int j] ∧ P (.int (if j > i then j else i))) ∨
  (∃ ns : List Int, ds = [.list (ns.map .int)] ∧ 0 < ns.length ∧ ∀ m, m ∈ ns → (∀ y, y ∈ ns → y ≤ m) → P (.int m))
def rMin2 (K : PySem.W.Frag) : List V → Hp → VK → Prop := fun xs H Q => (∃ i j, xs = [.int i, .int j] ∧ Q (.int (if j < i then j else i)) H) ∨ rMin K xs H Q
def rMax2 (K : PySem.W.Frag) : List V → Hp → VK → Prop := fun xs H Q => (∃ i j, xs = [.int i, .int j] ∧ Q (.int (if j > i then j else i)) H) ∨ rMax K xs H Q
theorem cr_min2 (hc : X.calm = true) : CallR X (.builtin "min") (rMin2 X.K) := (call_min2 hc).or (cr_min hc)
theorem cr_max2 (hc : X.calm = true) : CallR X (.builtin "max") (rMax2 X.K) := (call_max2 hc).or (cr_max hc)
theorem cd_min : CallD (rMin2 X.K) gMin := by
  intro G H vs ds P Q s r h k
  rcases h with ⟨i, j, e, p⟩ | ⟨ns, e, h0, p⟩
  · subst e
    obtain ⟨v, w, rfl, rv, rw'⟩ := r.two
    exact .inl ⟨i, j, by rw [rv.int_of, rw'.int_of], k _ _ G H p (Grow.refl s) (.int _)⟩
  · subst e
    obtain ⟨v, rfl, rv⟩ := r.one
    obtain ⟨a, us, rfl, ea, ra⟩ := rv.lst_of
    rw [ra.ints] at ea
    exact .inr ⟨a, ns, rfl, SqL.of (s _ _ ea), h0, fun m hm hy => k _ _ G H (p m hm hy) (Grow.refl s) (.int _)⟩
theorem cd_max : CallD (rMax2 X.K) gMax := by
  intro G H vs ds P Q s r h k
  rcases h with ⟨i, j, e, p⟩ | ⟨ns, e, h0, p⟩
  · subst e
    obtain ⟨v, w, rfl, rv, rw'⟩ := r.two
    exact .inl ⟨i, j, by rw [rv.int_of, rw'.int_of], k _ _ G H p (Grow.refl s) (.int _)⟩
  · subst e
    obtain ⟨v, rfl, rv⟩ := r.one
    obtain ⟨a, us, rfl, ea, ra⟩ := rv.lst_of
    rw [ra.ints] at ea
    exact .inr ⟨a, ns, rfl, SqL.of (s _ _ ea), h0, fun m hm hy => k _ _ G H (p m hm hy) (Grow.refl s) (.int _)⟩
def gIntOf : TF := fun ds P => (∃ i : Int, ds = [.int i] ∧ P (.int i)) ∨ ∃ b : Bool, ds = [.bool b] ∧ P (.int (if b then 1 else 0))
theorem cd_int : CallD (fun xs H Q => (∃ i, xs = [.int i] ∧ Q (.int i) H) ∨ ∃ k, xs = [.bl k] ∧ Q (.int (if k then 1 else 0)) H) gIntOf := by
  intro G H vs ds P Q s r h k
  rcases h with ⟨i, e, p⟩ | ⟨b, e, p⟩
  · subst e
    obtain ⟨v, rfl, rv⟩ := r.one
    exact .inl ⟨i, by rw [rv.int_of], k _ _ G H p (Grow.refl s) (.int _)⟩
  · subst e
    obtain ⟨v, rfl, rv⟩ := r.one
    exact .inr ⟨b, by rw [rv.bl_of], k _ _ G H p (Grow.refl s) (.int _)⟩
end
/-! ### the module's names -/
structure TB (fa : List He.Fa) (fn : List He.DefD) (K : PySem.W.Frag) (mg : Str → Option Value) : Prop where
  says : He.SaysD fa fn K
  glo : ∀ x, (He.Fa.glo x).ok K = true → mg x = some (.ref (He.ga K x))
  fre : ∀ x, (He.Fa.free x).ok K = true → mg x = none
  int : ∀ x i, (He.Fa.int x i).ok K = true → ∃ t, mg x = some (.int i t)
/-- the def x keeps its contract C by at most level k -/
def Ok (P : Program) (w : World) (K : PySem.W.Frag) (mg : Str → Option Value) (base : Heap) (x : Str) (ps : List Str) (k : Nat) (C : TF) : Prop :=
  ∃ fd, FnOk P w K mg base CX0 k (He.ga K x) fd ps (spC C) ∧ Binds K fd ps [] ∧ PySem.W.keepIn K (.ref (He.ga K x)) = true ∧ mg x = some (.ref (He.ga K x))
section
variable {X : Cx} {e : Expr} {es : List Expr} {t : TDs} {x : Str} {p pos : Pos} {k j : Nat} {ps : List Str} {C : TF}
theorem dp_fn (F : Ok X.prog X.w X.K X.mg X.base x ps k C) (hr : Room j X.A) (hg : Gl X x) (ha : DA X (e :: es) t) (hkj : k ≤ j := by decide) (hdb : (x == ("__debug__" : Str)) = false := by decide) (he : starEach (e :: es) X.env = (false, eval e X.env) :: starEach es X.env := by rfl)
    (hpl : (backTo pos (starEach es X.env)).any (·.1) = false := by rfl) : DP X (.Call (.Name x p) (e :: es) [] pos) (dApp C t) := by
  obtain ⟨fd, F1, b, kp, m⟩ := F
  exact dp_call F1 (hr.mono hkj) hg m kp b ha hdb he hpl
theorem dp_fn0 (F : Ok X.prog X.w X.K X.mg X.base x ps k C) (hr : Room j X.A) (hg : Gl X x) (hkj : k ≤ j := by decide) (hdb : (x == ("__debug__" : Str)) = false := by decide) : DP X (.Call (.Name x p) [] [] pos) (dApp C dNil) := by
  obtain ⟨fd, F1, b, kp, m⟩ := F
  exact dp_call0 F1 (hr.mono hkj) hg m kp b hdb
end
end DL

-- text DL8
set_option Elab.async false
set_option linter.all false
set_option maxRecDepth 100000
set_option maxHeartbeats 4000000
namespace DL
open PySem PySem.Spec PyProof.Rows L2
section
variable {X : Cx} {a b c e : Expr} {ta tb tc te : TD} {p pos : Pos}
/-! ### chains, minus -/
theorem tChain_of {r r' : R2} {g g' : GD2} (o : OpD r g) (o' : OpD r' g') : ∀ σ H Q, tP (dChain g g' ta tb tc) σ H Q → tChain r r' (tP ta) (tP tb) (tP tc) σ H Q := fun σ H Q ⟨G, ρ, A, P, S, h, k⟩ =>
  ⟨G, ρ, A, _, S, h, fun d1 v1 G1 H1 p1 g1 r1 => ⟨G1, ρ, A, _, S.grow g1, p1, fun d2 v2 G2 H2 p2 g2 r2 =>
    o G2 H2 v1 v2 d1 d2 _ _ g2.gh (r1.mono (g2.gg g1.gh)) r2 p2 fun d v G3 H3 ⟨kk, ed, p3⟩ g3 r3 => by
      subst ed
      refine ⟨kk, r3.bl_of, ?_⟩
      have gt := (g1.trans g2).trans g3
      cases kk with
      | true => exact ⟨G3, ρ, A, _, ((S.grow g1).grow g2).grow g3, p3, fun d4 v4 G4 H4 p4 g4 r4 => o' G4 H4 v2 v4 d2 d4 P Q g4.gh ((r2.mono (g3.gg g2.gh)).mono (g4.gg g3.gh)) r4 p4 fun d v G' H' p g5 r => k d v G' H' p ((gt.trans g4).trans g5) r⟩
      | false => exact k _ _ G3 H3 p3 gt (.bl false)⟩⟩
theorem dp_chain {op op' : CmpOp} {r r' : R2} {g g' : GD2} (ho : OpR X (compareOp op) r) (o : OpD r g) (ho' : OpR X (compareOp op') r') (o' : OpD r' g') (ha : DP X a ta) (hb : DP X b tb) (hc : DP X c tc)
    (hm : lastMarks [op, op'] [b, c] = false := by with_unfolding_all rfl) : DP X (.Compare a [op, op'] [b, c] pos) (dChain g g' ta tb tc) := PE.wk (pe_chain ho ho' ha hb hc hm) (tChain_of o o')
theorem dt_chain {op op' : CmpOp} {r r' : R2} {g g' : GD2} (ho : OpR X (compareOp op) r) (o : OpD r g) (ho' : OpR X (compareOp op') r') (o' : OpD r' g') (ha : DP X a ta) (hb : DP X b tb) (hc : DP X c tc)
    (hm : lastMarks [op, op'] [b, c] = false := by with_unfolding_all rfl) : DT X (.Compare a [op, op'] [b, c] pos) (dB (dChain g g' ta tb tc)) := PT.wk (pt_chain ho ho' ha hb hc hm) (tTest_of (tChain_of o o'))
def dNeg (t : TD) : TD := fun ρ P => t ρ fun x => match x with
  | .int i => P (.int (-i))
  | _ => False
theorem dp_un (ha : DP X a ta) : DP X (.UnaryOp .USub a pos) (dNeg ta) := PE.wk (pe_un un_neg ha) fun σ H Q ⟨G, ρ, A, P, S, h, k⟩ => ⟨G, ρ, A, _, S, h, fun d v G' H' p g r => by
  cases d with
  | int i => exact ⟨i, r.int_of, k _ _ G' H' p g (.int _)⟩
  | _ => exact False.elim p⟩
/-- x is None -/
def isNone : PyData → Bool
  | .none => true
  | _ => false
theorem RD.isNone {G : Hp} {v : V} {d : PyData} (r : RD G v d) : decide (v = .non) = isNone d := by cases r <;> rfl
def dIsN (t : TD) : TD := fun ρ P => t ρ fun d => P (.bool (isNone d))
theorem dp_isN {j pos'} (ha : DP X a ta) : DP X (.Compare a [.Is] [.Constant .none j pos'] pos) (dIsN ta) := PE.wk (pe_cmp (pc_isN ha) rfl) fun σ H Q ⟨G, ρ, A, P, S, h, k⟩ => ⟨G, ρ, A, _, S, h, fun d v G' H' p g r => by
  show Q (.bl (decide (v = .non))) H'
  rw [r.isNone]
  exact k _ _ G' H' p g (.bl _)⟩
theorem dt_isN {j pos'} (ha : DP X a ta) : DT X (.Compare a [.Is] [.Constant .none j pos'] pos) (dB (dIsN ta)) := PT.wk (pt_cmp (pc_isN ha) rfl) fun σ H Q ⟨G, ρ, A, P, S, h, k⟩ => ⟨G, ρ, A, _, S, h, fun d v G' H' ⟨b, e, p⟩ g r => by
  refine ⟨decide (v = .non), rfl, ?_⟩
  rw [r.isNone]
  have e2 : isNone d = b := PyData.bool.inj e
  rw [e2]
  exact k _ G' H' p g⟩
/-! ### an own list read where it stands -/
def dLenO (i : Nat) : TD := fun ρ P => ∃ ds, ρ[i]? = some (.ow ds) ∧ P (.int (ds.length : Nat))
theorem dp_lenO {i : Nat} {x : Str} (ha : PE X a (tVar i)) (hg : Gl X "len") (hm : X.mg "len" = none) (he : starEach [a] X.env = (false, eval a X.env) :: starEach [] X.env := by rfl) (hpl : (backTo pos (starEach [] X.env)).any (·.1) = false := by rfl) :
    DP X (.Call (.Name "len" p) [a] [] pos) (dLenO i) := PE.wk (pe_callB call_len hg hm (by decide +kernel) (pa_cons ha pa_nil he) (by decide) (by decide) he hpl) fun σ H Q ⟨G, ρ, A, P, S, ⟨ds, e0, p⟩, k⟩ => by
  obtain ⟨l, vs, e1, e2, hm, e3, r⟩ := S.ow e0
  exact ⟨.ref l, e1, .ref l, vs.length, rfl, .inl ⟨vs, SqL.of e3, rfl⟩, by rw [r.length]; exact k _ _ G H p (Grow.refl S.gh) (.int _)⟩
def dIxO (i : Nat) (t : TD) : TD := fun ρ P => ∃ ds, ρ[i]? = some (.ow ds) ∧ t ρ fun x => ∃ (j : Int) (d : PyData), x = .int j ∧ 0 ≤ j ∧ ds[j.toNat]? = some d ∧ P d
theorem dp_ixO {i : Nat} (ha : PE X a (tVar i)) (hb : DP X b tb) (hs : PlainIx b) : DP X (.Subscript a b pos) (dIxO i tb) := PE.wk (pe_ix ix_list ha hb hs) fun σ H Q ⟨G, ρ, A, P, S, ⟨ds, e0, h⟩, k⟩ => by
  obtain ⟨l, vs, e1, e2, hm, e3, r⟩ := S.ow e0
  refine ⟨.ref l, e1, G, ρ, A, _, S, h, fun d v G1 H1 ⟨j, y, ej, h0, hy, p⟩ g1 r1 => ?_⟩
  subst ej
  obtain ⟨w, ew, rw'⟩ := (r.mono (g1.gg S.gh)).get hy
  exact ⟨l, vs, j, w, rfl, r1.int_of, SqL.of (g1.hh _ _ e3), atI_toNat h0 ew, k _ _ G1 H1 p g1 rw'⟩
/-- xs != [], xs an own list -/
def dNeNilO (i : Nat) : TD := fun ρ P => ∃ ds, ρ[i]? = some (.ow ds) ∧ SeqAt.shaped (.list ds) = true ∧ P (.bool (!ds.isEmpty))
theorem eqvAll_nil (ds : List PyData) : PyData.eqvAll ds [] = ds.isEmpty := by cases ds <;> simp [PyData.eqvAll]
theorem dt_neNilO {i : Nat} {l2 : Pos} (ha : PE X a (tVar i)) (hu : X.A.units + 64 < cLine) : DT X (.Compare a [.NotEq] [.List [] l2] pos) (dB (dNeNilO i)) :=
  PT.wk (pt_cmpR (op_neD hu) ha (pe_lst pa_nil) (nomark _)) fun σ H Q ⟨G, ρ, A, P, S, ⟨ds, e0, hsh, b, eb, p⟩, k⟩ => by
    obtain ⟨l, vs, e1, e2, hm, e3, r⟩ := S.ow e0
    refine ⟨.ref l, e1, by show 0 ≤ sizeLine; decide, fun q hq => ?_⟩
    have sm : Same G (upd H q (.lst [])) := sameUpd S.gh (S.gh.free hq)
    refine ⟨.list ds, .list [], .lst (SqL.of (by rw [upd_ne (ne_of_none e3 hq)]; exact e3)) (RA.dp sm (canLayL hsh) r), .lst (SqL.of upd_same) .nil, hsh, by decide, b, ?_, ?_⟩
    · have e2' : PyData.eqv (.list ds) (.list []) = ds.isEmpty := by rw [PyData.eqv, eqvAll_nil]
      rw [e2', ← PyData.bool.inj eb]
    · exact k b G _ p ⟨fun b o e => by rw [upd_ne (ne_of_none e hq)]; exact e, fun _ _ => rfl, sm⟩
/-! ### list(xs), a list so many times: fresh ones -/
def dItems (t : TD) : TDF := fun ρ P => t ρ fun d => ∃ ds, itemsOf d = some ds ∧ P ds
theorem df_list (hg : Gl X "list") (hm : X.mg "list" = none) (ha : DP X a ta) (he : starEach [a] X.env = (false, eval a X.env) :: starEach [] X.env := by rfl) (hpl : (backTo pos (starEach [] X.env)).any (·.1) = false := by rfl) :
    DF X (.Call (.Name "list" p) [a] [] pos) (dItems ta) := PE.wk (pe_callTy call_list_of hg hm (by decide +kernel) (pa_cons ha pa_nil he) (by decide) (by decide) he hpl) fun σ H Q ⟨G, ρ, A, P, S, h, k⟩ => ⟨G, ρ, A, _, S, h, fun d v G1 H1 ⟨ds, ei, p⟩ g1 r1 => by
  have fin : ∀ us, RA G1 us ds → ∀ l, H1 l = none → Q (.ref l) (upd H1 l (.lst us)) := fun us ra l hl =>
    k ds us l G1 _ p ⟨fun b o e => by rw [upd_ne (ne_of_none (g1.hh b o e) hl)]; exact g1.hh b o e, g1.gn, sameUpd g1.gh (g1.gh.free hl)⟩ (g1.hh.free hl) (g1.gh.free hl) upd_same ra
  cases d with
  | list ys =>
    cases ei
    obtain ⟨a, us, rfl, ea, ra⟩ := r1.lst_of
    exact ⟨a, us, rfl, .inl (SqL.of (g1.gh _ _ ea)), fin us ra⟩
  | tuple ys =>
    cases ei
    obtain ⟨a, us, rfl, ea, ra⟩ := r1.tup_of
    exact ⟨a, us, rfl, .inr (ea.sq g1.gh), fin us ra⟩
  | _ => cases ei⟩
def dRep (ta tb : TD) : TDF := fun ρ P => ta ρ fun x => tb ρ fun y => ∃ xs k, x = .list xs ∧ y = .int k ∧ 0 ≤ k ∧ k ≤ 1000 ∧ xs.length ≤ 1000 ∧ P (List.replicate k.toNat xs).flatten
theorem df_rep (ha : DP X a ta) (hb : DP X b tb) : DF X (.BinOp a .Mult b pos) (dRep ta tb) := PE.wk (pe_op op_rep ha hb) fun σ H Q ⟨G, ρ, A, P, S, h, k⟩ =>
  ⟨G, ρ, A, _, S, h, fun d1 v1 G1 H1 p1 g1 r1 => ⟨G1, ρ, A, _, S.grow g1, p1, fun d2 v2 G2 H2 ⟨xs, n, e1, e2, n0, n1, n2, p⟩ g2 r2 => by
    subst e1 e2
    obtain ⟨a, us, rfl, ea, ra⟩ := (r1.mono (g2.gg g1.gh)).lst_of
    have g := g1.trans g2
    exact ⟨a, n, us, rfl, r2.int_of, g2.gh _ _ ea, by omega, by omega, by rw [ra.length]; exact len_small n1 n2, fun l hl =>
      k _ _ l G2 _ p ⟨fun b o e => by rw [upd_ne (ne_of_none (g.hh b o e) hl)]; exact g.hh b o e, g.gn, sameUpd g.gh (g.gh.free hl)⟩ (g.hh.free hl) (g.gh.free hl) upd_same (ra.rep _)⟩⟩⟩
/-- list(range(i, j)) -/
def dLRange (ta tb : TD) : TDF := fun ρ P => ta ρ fun x => tb ρ fun y => ∃ i j, x = .int i ∧ y = .int j ∧ RgOk i j ∧ P (rgD i (j - i).toNat)
theorem RA.rg {G : Hp} (i : Int) (n : Nat) : RA G ((List.range n).map fun k => V.int (i + (k : Nat))) (rgD i n) := by
  unfold rgD
  have : ∀ l : List Nat, RA G (l.map fun k => V.int (i + (k : Nat))) (l.map fun k => PyData.int (i + (k : Nat))) := by
    intro l
    induction l with
    | nil => exact .nil
    | cons x l ih => exact .cons (.int _) ih
  exact this _
theorem df_lrange {p2 pos2 : Pos} (hc : X.calm = true) (hg : Gl X "list") (hm : X.mg "list" = none) (hg2 : Gl X "range") (hm2 : X.mg "range" = none) (ha : DP X a ta) (hb : DP X b tb)
    (n1 : starEach [a, b] X.env = (false, eval a X.env) :: starEach [b] X.env := by rfl) (n2 : starEach [b] X.env = (false, eval b X.env) :: starEach [] X.env := by rfl)
    (np : (backTo pos2 (starEach [b] X.env)).any (·.1) = false := by rfl) (n3 : starEach [.Call (.Name "range" p2) [a, b] [] pos2] X.env = (false, eval (.Call (.Name "range" p2) [a, b] [] pos2) X.env) :: starEach [] X.env := by rfl) :
    DF X (.Call (.Name "list" p) [.Call (.Name "range" p2) [a, b] [] pos2] [] pos) (dLRange ta tb) := PE.wk (pe_listRg hc hg hm (prg_2 hg2 hm2 ha hb n1 n2 np) n3) fun σ H Q ⟨G, ρ, A, P, S, h, k⟩ =>
  ⟨G, ρ, A, _, S, h, fun d1 v1 G1 H1 p1 g1 r1 => ⟨G1, ρ, A, _, S.grow g1, p1, fun d2 v2 G2 H2 ⟨i, j, e1, e2, ok, p⟩ g2 r2 => by
    subst e1 e2
    have g := g1.trans g2
    exact ⟨i, j, r1.int_of, r2.int_of, ok, fun l hl => k _ _ l G2 _ p ⟨fun b o e => by rw [upd_ne (ne_of_none (g.hh b o e) hl)]; exact g.hh b o e, g.gn, sameUpd g.gh (g.gh.free hl)⟩ (g.hh.free hl) (g.gh.free hl) upd_same (RA.rg i _)⟩⟩⟩
/-! ### range with a step; enumerate -/
variable {tg : Expr} {ts : TDs}
def dRg3 (ts : TDs) : TDI := fun ρ P => ts ρ fun ds => ∃ (i j c : Int) (n : Nat), ds = [.int i, .int j, .int c] ∧ RgC i j c n ∧ P (rgC i c n)
theorem di_range3 (hg : Gl X "range") (hm : X.mg "range" = none) (ha : DA X [a, b, c] ts) (hs : starEach [a, b, c] X.env = (false, eval a X.env) :: starEach [b, c] X.env := by rfl) (hpl : (backTo pos (starEach [b, c] X.env)).any (·.1) = false := by rfl) :
    DI X tg (.Call (.Name "range" p) [a, b, c] [] pos) (dRg3 ts) := PI.wk (pi_range3 hg hm ha hs hpl) fun σ H R ⟨G, ρ, A, P, S, h, k⟩ => ⟨G, ρ, A, _, S, h, fun ds vs G' H' ⟨i, j, c, n, e, q, p⟩ g r => by
  subst e
  obtain ⟨v1, v2, v3, rfl, r1, r2, r3⟩ := r.three
  exact ⟨i, j, c, n, by rw [r1.int_of, r2.int_of, r3.int_of], q, k _ _ G' H' p g itd_rangeC⟩⟩
def dEnum (ts : TDs) : TDI := fun ρ P => ts ρ fun ds => ∃ xs, ds = [.list xs] ∧ P (enumD xs)
theorem di_enum {elts : List Expr} {kk : Nat} {tpos : Pos} (hg : Gl X "enumerate") (hm : X.mg "enumerate" = none) (ha : DA X [a] ts) (hs : starEach [a] X.env = [(false, eval a X.env)] := by rfl) :
    DI X (.Tuple elts kk tpos) (.Call (.Name "enumerate" p) [a] [] pos) (dEnum ts) := PI.wk (pi_enum hg hm ha hs) fun σ H R ⟨G, ρ, A, P, S, h, k⟩ => ⟨G, ρ, A, _, S, h, fun ds vs G' H' ⟨xs, e, p⟩ g r => by
  subst e
  obtain ⟨v, rfl, rv⟩ := r.one
  obtain ⟨a, us, rfl, ea, ra⟩ := rv.lst_of
  exact ⟨a, us, rfl, SqL.of (g.gh _ _ ea), k _ _ G' H' p g (itd_enum ea ra)⟩⟩
end
section
variable {X : Cx} {e : Expr} {te tk : TD} {pos : Pos}
/-! ### an own list changed: a place, the last one taken -/
theorem ixN_ok {n : Nat} {j : Int} (h0 : 0 ≤ j) (h1 : j < n) : ixN n j = some j.toNat := by
  unfold ixN
  rw [if_pos h0, if_pos h1]
theorem ds_setI {i : Nat} {o k : Expr} {pos' : Pos} (ho : PE X o (tVar i)) (hk : DP X k tk) (he : DP X e te) (hs : swapsWithSole [.Subscript o k pos'] e pos.line X.env = pure false := by rfl) (hw : swappedStores [.Subscript o k pos'] e X.env = pure none := by rfl)
    (h1 : (assignEach [.Subscript o k pos'] X.env).map (·.2) = [assign (.Subscript o k pos') X.env] := by rfl)
    (ha : ∀ v, assign (.Subscript o k pos') X.env v = (do
      let ov ← holding [v] (eval o X.env)
      let iv ← holding [v, ov] (eval k X.env)
      standAt pos'
      holding [v, ov, iv] (setItem ov iv v)
      release [v, ov, iv] []) := by intro _; rfl) : DS X (.Assign [.Subscript o k pos'] e pos) (dSetI i tk te) := PS.wk (ps_asg he (pg_sub ho hk set_list ha) hs hw h1) fun D σ H ⟨T, G0, H0, G, ρ, A, E, S, f, h, kk⟩ =>
  ⟨G, ρ, A, _, S, h, fun d v G1 H1 ⟨ds, e0, h2⟩ g1 r1 => by
    have S1 := S.grow g1
    obtain ⟨l, vs, e1, e2, hm, e3, r⟩ := S1.ow e0
    refine ⟨.ref l, e1, G1, ρ, A, _, S1, h2, fun d2 v2 G2 H2 ⟨j, ej, j0, j1, p⟩ g2 r2 => ?_⟩
    subst ej
    refine ⟨l, vs, j, j.toNat, rfl, r2.int_of, g2.hh _ _ e3, by rw [r.length]; exact ixN_ok j0 j1, ?_⟩
    exact kk.1 _ _ _ _ _ p ((S1.grow g2).lst e1 e2 (RA.set (r1.mono (g2.gg g1.gh)) _ (r.mono (g2.gg g1.gh)))) (((f.grow S.gh g1).grow g1.gh g2).change hm)⟩
/-- name = xs.pop() -/
def dPop (i j : Nat) : TDS := fun E ρ => ∃ ds d, ρ[j]? = some (.ow (ds ++ [d])) ∧ E.nx ((ρ.set j (.ow ds)).set i (.sh d))
theorem ds_pop {i j : Nat} {x : Str} {o : Expr} {apos cpos pos' : Pos} (hN : X.N.Nodup) (hi : X.N[i]? = some x) (hx : Loc X.env.scope x) (ho : PE X o (tVar j)) (hbase : attributeBase o "pop" X.env (eval o X.env) = eval o X.env := by rfl) (hline : (apos.endLine == cpos.line) = true := by rfl)
    (hs : swapsWith (.Call (.Attribute o "pop" apos) [] [] cpos) (some (.Name x pos')) pos.line X.env = pure false := by rfl) (hf : X.fn x = true ∨ X.env.scope.names.lookup x = some .local := by first | exact .inl rfl | exact .inr rfl | assumption) :
    DS X (.Assign [.Name x pos'] (.Call (.Attribute o "pop" apos) [] [] cpos) pos) (dPop i j) :=
  PS.wk (ps_set hN hi hx (pe_bm0 PySem.F.plainAttrs_list PySem.F.slot_list_pop PySem.F.type_list_pop mt_pop ho hbase hline) hs hf) fun D σ H ⟨T, G0, H0, G, ρ, A, E, S, f, ⟨ds, d, e0, p⟩, k⟩ => by
    obtain ⟨l, vs, e1, e2, hm, e3, r⟩ := S.ow e0
    have hl := r.length
    rw [List.length_append, List.length_singleton] at hl
    have hd : (ds ++ [d])[vs.length - 1]? = some d := by rw [hl]; simp
    obtain ⟨v, hv, rv⟩ := r.get hd
    refine ⟨.ref l, e1, .inl ⟨rfl, vs, SqL.of e3⟩, l, vs, v, rfl, rfl, e3, hv, ?_⟩
    have r' : RA G vs.dropLast ds := by
      have := r.dropLast
      rwa [List.dropLast_concat] at this
    exact k.1 _ _ _ _ _ p ((S.lst e1 e2 r').set i rv) ((f.change hm).sub fun j' a m => by
      by_cases hj : j' = i
      · subst hj; rw [setA_same] at m; cases m
      · rw [setA_ne hj] at m; exact m)
end
/-! ### sorted lists of data -/
section
variable {X : Cx}
abbrev dLe {β : Type} (enc : β → PyData) : β → β → Bool := PySem.W.dataLe false enc
def rSortD (G : Hp) {β : Type} (enc : β → PyData) (bs : List β) : List V → Hp → VK → Prop := fun vs H Q => ∃ (a : Addr) (us : List V), vs = [.ref a] ∧ Same G H ∧ G a = some (.lst us) ∧ RA G us (bs.map enc) ∧ PySem.W.AllAlike (bs.map enc) ∧ PySem.W.Sortable (bs.map enc) ∧ (∀ b ∈ bs, SeqAt.shaped (enc b) = true) ∧
  ∀ (ws : List V) (p : Addr), H p = none → RA G ws ((bs.mergeSort (dLe enc)).map enc) → Q (.ref p) (upd H p (.lst ws))
theorem each_of {G : Hp} {P : Program} {w : World} {pins : List (Addr × Obj)} {σ : L2.St} {H : Hp} {s : Shared} (I : Inv X pins σ H s) (sm : Same G H) {β : Type} (enc : β → PyData) : ∀ {bs : List β} {us : List V} {vals : List Value}, RA G us (bs.map enc) → Vals us vals → (∀ b ∈ bs, SeqAt.shaped (enc b) = true) →
    PySem.W.EachIs (fun (v : Value) (b : β) => ∃ x, RelV x v ∧ RD G x (enc b)) vals bs ∧ PySem.W.EachIs (fun v b => ∃ as, Reads s.heap v (enc b) as) vals bs
  | [], _, _, ra, rv, _ => by
    have ra' : RA G _ [] := ra
    cases ra'
    cases rv
    exact ⟨.nil, .nil⟩
  | b :: bs, _, _, ra, rv, hs => by
    have ra' : RA G _ (enc b :: bs.map enc) := ra
    cases ra' with
    | cons r t =>
      cases rv with
      | cons q q' =>
        obtain ⟨h1, h2⟩ := each_of (P := P) (w := w) I sm enc t q' fun b' m => hs b' (List.mem_cons_of_mem _ m)
        have dp := r.dp (K := X.K) sm (canLay_of (hs b List.mem_cons_self))
        exact ⟨.cons ⟨_, q, r⟩ h1, .cons (Dp.reads I (enc b) _ _ dp q) h2⟩
theorem vals_each {G : Hp} {β : Type} (enc : β → PyData) : ∀ {bs : List β} {vals : List Value}, PySem.W.EachIs (fun (v : Value) (b : β) => ∃ x, RelV x v ∧ RD G x (enc b)) vals bs → ∃ us, Vals us vals ∧ RA G us (bs.map enc)
  | _, _, .nil => ⟨[], .nil, .nil⟩
  | _, _, .cons ⟨x, h1, h2⟩ t => by
    obtain ⟨us, q1, q2⟩ := vals_each enc t
    exact ⟨x :: us, .cons h1 q1, .cons h2 q2⟩
theorem cr_sortD (hu : X.A.units + 67 < cLine) {G : Hp} {β : Type} {enc : β → PyData} {bs : List β} : CallR X (.builtin "sorted") (rSortD G enc bs) := by
  intro pins s σ H vs us Q I r h
  obtain ⟨a, xs, rfl, sm, ea, ra, hal, hso, hsh, q⟩ := h
  rw [Vals.ref1 r]
  obtain ⟨its, rv, pl, hz⟩ := I.list (SqL.of (sm _ _ ea))
  obtain ⟨e1, e2⟩ := each_of (P := X.prog) (w := X.w) I sm enc ra rv hsh
  have hlen : bs.length = xs.length := by rw [ra.length, List.length_map]
  refine PySem.W.sorted_data pl.isList e1 e2 hal hso (by rw [hlen]; exact hz) (fun b hb => ?_) fun out ho eo => ?_
  · have := of_decide_eq_true (Bool.and_eq_true_iff.mp (hsh b hb)).2
    omega
  · obtain ⟨ws, w1, w2⟩ := vals_each enc eo
    obtain ⟨ep, he'⟩ := PyProof.Rows.sortedAll_at s.heap its out.toArray
    have hl2 : ws.length ≤ sizeLine := by rw [w1.length, ho, hlen]; exact hz
    exact ⟨.ref _, upd H (s.heap.objs.size + 1) (.lst ws), I.laid (t' := s.toks) (fun _ _ => PyProof.Rows.sortedAll_old) (Nat.le_succ _) ⟨hl2, out, ep, w1, by simpa using he'⟩, rfl, q ws _ (I.hok.fresh (Nat.le_succ _)) w2⟩
/-- .. whatever the items are -/
def rSortE : List V → Hp → VK → Prop := fun vs H Q => ∃ (G : Hp) (β : Type) (enc : β → PyData) (bs : List β), rSortD G enc bs vs H Q
theorem cr_sortE (hu : X.A.units + 67 < cLine) : CallR X (.builtin "sorted") rSortE := by
  intro pins s σ H vs us Q I r ⟨G, β, enc, bs, h⟩
  exact cr_sortD hu pins s σ H vs us Q I r h
def gSort : TF := fun ds P => ∃ (β : Type) (enc : β → PyData) (bs : List β), ds = [.list (bs.map enc)] ∧ PySem.W.AllAlike (bs.map enc) ∧ PySem.W.Sortable (bs.map enc) ∧ (∀ b ∈ bs, SeqAt.shaped (enc b) = true) ∧ P (.list ((bs.mergeSort (dLe enc)).map enc))
theorem cd_sortE : CallD rSortE gSort := by
  intro G H vs ds P Q s r ⟨β, enc, bs, e, h1, h2, h3, p⟩ k
  subst e
  obtain ⟨v, rfl, rv⟩ := r.one
  obtain ⟨a, us, rfl, ea, ra⟩ := rv.lst_of
  exact ⟨G, β, enc, bs, a, us, rfl, s, ea, ra, h1, h2, h3, fun ws q hq rw' => k _ _ (upd G q (.lst ws)) _ p (Grow.new s hq) (.lst upd_same (rw'.upd (s.free hq)))⟩
end
end DL

-- text DL9
set_option Elab.async false
set_option linter.all false
set_option maxRecDepth 100000
set_option maxHeartbeats 8000000
namespace DL
open PySem PySem.Spec PyProof.Rows L2
/-! ### set(xs) of a list, whatever its items are: J i tells the set behind i items -/
section
variable {P : Program} {w : World} {A : Around} {E : Value → Shared → Prop} {s : Shared}
/-- one item more -/
def AddsTo (P : Program) (w : World) (A : Around) (S : Addr) (h0 : Heap) (J : Nat → Heap → Prop) (i : Nat) (v : Value) : Prop := ∀ (s : Shared) (Q : Bool → Shared → Prop) (E : Value → Shared → Prop), J i s.heap → (∀ b o, h0.get? b = some o → s.heap.get? b = some o) →
  (∀ b h' t, Heap.SameBut S s.heap h' → s.toks ≤ t → J (i + 1) h' → Q b { s with heap := h', toks := t }) → wpAny (model P w) A (setAdd S v) Q E s
theorem set_fill {I : Addr} {fp wr : List Addr} {G : Array GenState → Array GenState → Prop} {n : Nat} {Pv : Nat → Value → Prop} {St : Nat → Shared → Prop} {R : Result → Shared → Prop} (W : WalksS P w A.in1 I fp wr G n Pv St) (S : Addr) (hSf : S ∉ fp)
    (h0 : Heap) (hS0 : h0.get? S = none) (hw0 : ∀ b ∈ wr, h0.get? b = none) (J : Nat → Heap → Prop) (stay : ∀ i h h', J i h → (∀ o, h.get? S = some o → h'.get? S = some o) → (∀ b o, h0.get? b = some o → h'.get? b = some o) → J i h')
    (step : ∀ i v, i < n → Pv i v → AddsTo P w A.in1 S h0 J i v) : ∀ (k i : Nat) (s : Shared), n - i = k → i ≤ n → St i s → (∀ b o, h0.get? b = some o → s.heap.get? b = some o) → J i s.heap →
      (∀ s', Moved (S :: wr) G s s' → J n s'.heap → (∀ b o, h0.get? b = some o → s'.heap.get? b = some o) → R (.ok (.ret .none)) s') → codeAny (model P w) A (.builtin "set.update.loop" ⟨[.ref S, .ref I], []⟩) R s := by
  have hSw : S ∉ wr := fun z => hSf (W.sub _ z)
  have sub : ∀ b ∈ wr, b ∈ S :: wr := fun b z => List.mem_cons_of_mem _ z
  have old : ∀ {s s' : Shared}, Moved wr G s s' → (∀ b o, h0.get? b = some o → s.heap.get? b = some o) → ∀ b o, h0.get? b = some o → s'.heap.get? b = some o := fun m kp b o e => m.heap b o (fun z => by rw [hw0 b z] at e; cases e) (kp b o e)
  intro k
  induction k with
  | zero =>
    intro i s hk hi st kp j fin
    obtain rfl : i = n := by omega
    refine codeAny_builtin F.entry_set_update_loop ?_
    rw [Around.under_plainId F.plain_set_update_loop _]
    refine wpAny_bind (m := pyNext (.ref I)) (W.done s _ _ st fun s' m => ?_)
    exact wpAny_pure (fin s' (m.mono sub) (stay _ _ _ j (fun o e => m.heap S o hSw e) (old m kp)) (old m kp))
  | succ k ih =>
    intro i s hk hi st kp j fin
    have lt : i < n := by omega
    refine codeAny_builtin F.entry_set_update_loop ?_
    rw [Around.under_plainId F.plain_set_update_loop _]
    refine wpAny_bind (m := pyNext (.ref I)) (W.item i s _ _ lt st fun v s' pv st' m => ?_)
    have kp' := old m kp
    have j' := stay _ _ _ j (fun o e => m.heap S o hSw e) kp'
    refine wpAny_bind (m := holding [v] (setAdd S v)) (wpAny_holding (step i v lt pv s' _ _ j' kp' fun b h' t sb ht j2 => ?_))
    have kp2 : ∀ b o, h0.get? b = some o → h'.get? b = some o := fun b o e => (sb.2 b (fun z => by rw [z, hS0] at e; cases e)).trans (kp' b o e)
    refine wpAny_pure ⟨plainId_quiet F.plain_set_update_loop _, ih (i + 1) _ (by omega) lt (W.frame _ s' _ _ st' ht fun b hb o e => ?_) kp2 j2 fun s2 m2 j3 kp3 => fin s2 (Moved.trans W.gtrans ((m.mono sub).then_heap ht fun b o hb e => ?_) m2) j3 kp3⟩
    · rw [sb.2 b (fun z : b = S => hSf (by rw [← z]; exact hb))]; exact e
    · rw [sb.2 b (fun z : b = S => hb (by rw [z]; exact List.mem_cons_self))]; exact e
/-- the set as it is made -/
abbrev setBare (w : World) : Obj := { cls := .type "set", dict := none, data := .set #[] 0 (.fresh 0 0 (!w.params.followText "set-order")) }
set_option maxRecDepth 100000 in
theorem set_of_list {l : Addr} {items : Array Value} {Q : Value → Shared → Prop} (hh : A.handled = none) (hl : s.heap.IsList l items) (J : Nat → Heap → Prop)
    (stay : ∀ i h h', J i h → (∀ o, h.get? s.heap.objs.size = some o → h'.get? s.heap.objs.size = some o) → (∀ b o, s.heap.get? b = some o → h'.get? b = some o) → J i h')
    (base : ∀ h' : Heap, h'.get? s.heap.objs.size = some (setBare w) → (∀ b o, s.heap.get? b = some o → h'.get? b = some o) → J 0 h')
    (step : ∀ i v, i < items.size → items[i]? = some v → AddsTo P w A.in1.in1.in1 s.heap.objs.size s.heap J i v)
    (h : ∀ (h' : Heap) (tk : Nat), J items.size h' → (∀ b o, s.heap.get? b = some o → h'.get? b = some o) → Q (.ref s.heap.objs.size) { s with heap := h', toks := tk }) : wpAny (model P w) A (call (.type "set") [.ref l]) Q E s := by
  obtain ⟨c, tl, hmro⟩ := F.called_set.mro
  have hmade := F.called_set.made
  have hsub := F.called_set.sub
  have h1 := F.called_set.notType
  have h2 := F.called_set.canCreate
  have hct := F.typeCall_set_1 (.ref l)
  refine wpAny_call (codeAny_of_tree ?_)
  show wpAny _ _ (callAny (.type "set") _) _ _ _
  refine wpAny_pure ⟨Code.quiet_builtin _ (by decide +kernel), codeAny_builtin F.entry_type_call ?_⟩
  rw [Around.under_plain (weight_type_call_type "set" [.ref l] []) rfl]
  repeat (any_goals (first | assumption | wp_step))
  refine codeAny_mono (code_set_led1 (.ref l) (E := E) (Q₁ := fun obj s1 => obj = .ref s.heap.objs.size ∧ s1 = { s with heap := s.heap.push (setBare w) }) ⟨rfl, rfl⟩) fun r s1 hr => ?_
  cases r with
  | error e => exact hr
  | ok fl =>
    cases fl with
    | ret obj =>
      obtain ⟨rfl, rfl⟩ := hr
      have hS : (s.heap.push (setBare w)).get? s.heap.objs.size = some (setBare w) := Heap.get?_push_size _ rfl
      have hT : Shared.TypeIs { s with heap := s.heap.push (setBare w) } (.ref s.heap.objs.size) "set" := ⟨_, hS, rfl⟩
      have hli := F.called_set.init.lookup
      have hbi := F.called_set.init.bind (.ref s.heap.objs.size)
      repeat (any_goals (first | assumption | wp_step))
      refine codeAny_mono (codeAny_call_builtin (R := wants (fun r s2 => r = .none ∧ ∃ h' tk, s2 = { s with heap := h', toks := tk } ∧ J items.size h' ∧ (∀ b o, s.heap.get? b = some o → h'.get? b = some o)) E) F.called_set.init.plain F.entry_set_init (check_set_init_1 hT ?_)) fun r2 s2 hr2 => ?_
      · obtain ⟨⟨ocls, odict, odata, oslots⟩, hol, hcl, nl, hdl⟩ := hl
        simp only at hcl hdl
        subst hcl
        subst hdl
        have hol' : (s.heap.push (setBare w)).get? l = some { cls := .type "list", dict := odict, data := .seq items nl, slots := oslots } := Heap.get?_push_of_some _ hol
        have q1 := F.sub_list_set
        have q2 := F.sub_list_frozenset
        have q3 : (Value.type "list" == Value.type "dict") = false := by decide
        have hl1 : (s.heap.push (setBare w)).IsList l items := ⟨_, hol', rfl, nl, rfl⟩
        unfold Builtin.«set.__init__» noKeywords Builtin.Frozenset.updateFrom
        generalize hPI : pyIter = PI
        wp_walk
        subst hPI
        refine wpAny_pyIter_list hl1 (wpAny_bind (wpAny_runValue ?_))
        have hlS : l < s.heap.objs.size := Heap.lt_size hol
        have hh3 : A.in1.in1.in1.handled = none := by simp [hh]
        have hneI : l ≠ (s.heap.push (setBare w)).objs.size := by rw [Heap.size_push]; exact Nat.ne_of_lt (Nat.lt_succ_of_lt hlS)
        have hSf : s.heap.objs.size ∉ [(s.heap.push (setBare w)).objs.size, l] := by
          rw [Heap.size_push]
          simp only [List.mem_cons, List.mem_singleton, List.not_mem_nil, or_false, not_or]
          exact ⟨Nat.ne_of_lt (Nat.lt_succ_self _), Nat.ne_of_gt hlS⟩
        have gone : ∀ b, s.heap.objs.size ≤ b → s.heap.get? b = none := fun b hb => by
          cases q : s.heap.get? b with
          | none => rfl
          | some o => exact absurd (Nat.lt_of_lt_of_le (Heap.lt_size q) hb) (Nat.lt_irrefl _)
        have kp0 : ∀ b o, s.heap.get? b = some o → ((s.heap.push (setBare w)).push { cls := .type "list_iterator", data := .fields #[.ref l, .int 0 0] }).get? b = some o := fun b o e => Heap.get?_push_of_some _ (Heap.get?_push_of_some _ e)
        refine set_fill ((Walks.list hh3 _ l hneI items).toS) s.heap.objs.size hSf s.heap (gone _ (Nat.le_refl _)) (fun b hb => gone b (by rw [List.mem_singleton.mp hb, Heap.size_push]; exact Nat.le_succ _)) J stay step (items.size - 0) 0 _ (by omega) (Nat.zero_le _)
          ⟨⟨_, Heap.get?_push_size _ rfl, rfl, rfl⟩, (hl1.push _)⟩ kp0 (base _ (Heap.get?_push_of_some _ hS) kp0) fun s' m j' kp => ?_
        obtain ⟨h', g2, d', tk', os'⟩ := s'
        obtain rfl : g2 = s.gens := m.gens
        obtain rfl : d' = s.drawn := m.drawn
        obtain rfl : os' = s.os := m.os
        exact wpAny_pure (wpAny_pure ⟨rfl, h', tk', rfl, j', kp⟩)
      · cases r2 with
        | error e => exact hr2
        | ok fl2 =>
          cases fl2 with
          | ret r =>
            obtain ⟨rfl, h', tk, rfl, j', kp⟩ := hr2
            repeat (any_goals (first | assumption | wp_step))
            exact h _ _ j' kp
          | _ => exact hr2.elim
    | _ => exact hr.elim
end
end DL

-- text DL10
set_option Elab.async false
set_option linter.all false
set_option maxRecDepth 100000
set_option maxHeartbeats 8000000
namespace DL
open PySem PySem.Spec PyProof.Rows L2
section
variable {P : Program} {w : World} {A : Around} {E : Value → Shared → Prop} {s : Shared}
theorem set_ints {l : Addr} {items : Array Value} {ns : List Int} {Q : Value → Shared → Prop} (hh : A.handled = none) (hl : s.heap.IsList l items) (hi : IntsAre items.toList ns) (hb : ns.length + 1 < scanBound)
    (h : ∀ (h' : Heap) (tk c : Nat), SetR w h' s.heap.objs.size (fun j => decide (j ∈ ns)) c → c ≤ ns.length → (∀ b o, s.heap.get? b = some o → h'.get? b = some o) → Q (.ref s.heap.objs.size) { s with heap := h', toks := tk }) :
    wpAny (model P w) A (call (.type "set") [.ref l]) Q E s := by
  have hsz : items.size = ns.length := by
    have q := IntsAre.length hi
    rwa [Array.length_toList] at q
  refine set_of_list hh hl (fun i h' => ∃ c, c ≤ i ∧ SetR w h' s.heap.objs.size (fun j => decide (j ∈ ns.take i)) c) (fun i h1 h2 ⟨c, hc, R⟩ k _ => ⟨c, hc, R.at k⟩) (fun h' e _ => ⟨0, Nat.le_refl 0, setR_new_at e⟩) (fun i v hi' hv s1 Q1 E1 ⟨c, hc, R⟩ kp fin => ?_) fun h' tk ⟨c, hc, R⟩ kp => ?_
  · have hin : i < ns.length := by omega
    obtain ⟨t, e⟩ := PyProof.Rows.IntsAre.int_at hi i v (by rw [Array.getElem?_toList]; exact hv)
    obtain ⟨z, hz⟩ : ∃ z, ns[i]? = some z := ⟨_, List.getElem?_eq_getElem hin⟩
    rw [List.getD_eq_getElem?_getD, hz, Option.getD_some] at e
    subst e
    unfold setAdd
    refine wpAny_holding (wpAny_bind ((intKind P w).pyHash (k := z) (intKind_is _ _ _ _) ?_))
    refine setR_add_hashed (s := { s1 with toks := s1.toks + 1 }) R (by omega) fun h' sb R2 => fin _ h' _ sb (Nat.le_succ _) ⟨_, ?_, R2.congr fun j => ?_⟩
    · split <;> omega
    · rw [List.take_add_one, hz]
      simp [List.mem_append]
  · rw [hsz] at R hc
    have e : ns.take ns.length = ns := List.take_length
    rw [e] at R
    exact h h' tk c R hc kp
theorem set_tups {l : Addr} {items : Array Value} (ks : List (Addr × List Int)) {Q : Value → Shared → Prop} (hh : A.handled = none) (hl : s.heap.IsList l items) (hit : items.toList = ks.map fun p => Value.ref p.1) (hk : ∀ p ∈ ks, IsT P w s.heap p.2 p.1)
    (hd : ∀ L : List (Addr × List Int), (L.map (·.2)).Nodup → (∀ p ∈ L, p ∈ ks) → L.length < 62) (hu : A.units + 3 < cLine)
    (h : ∀ (h' : Heap) (tk : Nat) L es ep t, SetTR P w h' s.heap.objs.size L es ep t → Got ks ks.length L → (∀ b o, s.heap.get? b = some o → h'.get? b = some o) → Q (.ref s.heap.objs.size) { s with heap := h', toks := tk }) :
    wpAny (model P w) A (call (.type "set") [.ref l]) Q E s := by
  have hsz : items.size = ks.length := by
    have q := congrArg List.length hit
    rwa [Array.length_toList, List.length_map] at q
  have sub : ∀ {i L}, Got ks i L → ∀ p ∈ L, p ∈ ks := fun g p hp => List.mem_of_mem_take (g.sub p hp)
  refine set_of_list hh hl (fun i h' => ∃ L es ep t, SetTR P w h' s.heap.objs.size L es ep t ∧ Got ks i L) (fun i h1 h2 ⟨L, es, ep, t, R, g⟩ k kp => ⟨L, es, ep, t, R.keep k fun p hp => isT_keep (hk p (sub g p hp)) kp, g⟩)
    (fun h' e _ => ⟨[], #[], 0, _, setTR_fresh e, Got.zero ks⟩) (fun i v hi hv s1 Q1 E1 ⟨L, es, ep, t, R, g⟩ kp fin => ?_) fun h' tk ⟨L, es, ep, t, R, g⟩ kp => ?_
  · have q : items.toList[i]? = some v := by rw [Array.getElem?_toList]; exact hv
    rw [hit, List.getElem?_map] at q
    obtain ⟨p, hp, rfl⟩ : ∃ p, ks[i]? = some p ∧ v = .ref p.1 := by
      cases e : ks[i]? with
      | none => rw [e] at q; cases q
      | some p => rw [e] at q; exact ⟨p, rfl, (Option.some.inj q).symm⟩
    have hx : IsT P w s1.heap p.2 p.1 := isT_keep (hk p (List.mem_of_getElem? hp)) kp
    have hu1 : A.in1.in1.in1.units < cLine := by show A.units + 1 + 1 + 1 < cLine; omega
    unfold setAdd
    refine wpAny_holding (wpAny_bind (wpAny_pyHash_tuple hu1 hx ?_))
    refine add_at (s := { s1 with toks := s1.toks + (p.2.length + 1) }) R hx hu1 (by have := hd L R.nd (sub g); omega) fun b h' L' es' ep' t' sb R2 c1 c2 => fin b h' _ sb (Nat.le_add_right _ _) ⟨L', es', ep', t', R2, ?_⟩
    rcases Classical.em (p.2 ∈ L.map (·.2)) with c | c
    · rw [c1 c]; exact g.same hp c
    · exact g.more hp (c2 c)
  · rw [hsz] at g
    exact h h' tk L es ep t R g kp
end
section
variable {X : Cx} {a : Expr} {ta : TD} {p p2 pos pos2 : Pos}
/-- set(xs), xs a list of ints -/
def rSetI (K : PySem.W.Frag) (w : World) : List V → Hp → VK → Prop := fun xs H Q => ∃ (l : Addr) (ns : List Int), xs = [V.ref l] ∧ SqL K H l (ns.map V.int) ∧ ns.length < 64 ∧ ∀ q c, H q = none → c ≤ ns.length → Q (.ref q) (upd H q (SetO w q (fun j => decide (j ∈ ns)) c))
theorem cr_setI (hc : X.calm = true) : CallR X (.type "set") (rSetI X.K X.w) := by
  intro pins s σ H xs us Q I r h
  obtain ⟨l, ns, rfl, hl, hf, q⟩ := h
  rw [Vals.ref1 r]
  obtain ⟨its, rv, pl, hz⟩ := I.list hl
  have hn : H s.heap.objs.size = none := I.hok.fresh (Nat.le_refl _)
  refine set_ints (P := X.prog) (w := X.w) (ns := ns) (I.ok.hd hc) pl.isList (by simpa using rv.ints) (by unfold scanBound; omega) fun h' tk c R hc' kp => ?_
  exact ⟨.ref s.heap.objs.size, _, I.laid (t' := tk) kp (Nat.le_refl _) (setO_new R), rfl, q _ c hn hc'⟩
/-- set(xs), xs a list of tuples of ints, of whatever length, few that differ -/
def rSetT (K : PySem.W.Frag) (P : Program) (w : World) : List V → Hp → VK → Prop := fun xs H Q => ∃ (l : Addr) (ks : List (Addr × List Int)), xs = [V.ref l] ∧ SqL K H l (ks.map fun p => V.ref p.1) ∧ (∀ p ∈ ks, SqT K H p.1 (p.2.map V.int)) ∧
  (∀ L : List (Addr × List Int), (L.map (·.2)).Nodup → (∀ p ∈ L, p ∈ ks) → L.length < 62) ∧ ∀ a L, H a = none → (∀ p ∈ L, p ∈ ks) → (∀ p ∈ ks, p.2 ∈ L.map (·.2)) → Q (.ref a) (upd H a (SetTO P w a L))
theorem cr_setT (hc : X.calm = true) (hu : X.A.units + 64 < cLine) : CallR X (.type "set") (rSetT X.K X.prog X.w) := by
  intro pins s σ H xs us Q I r h
  obtain ⟨l, ks, rfl, hl, hk, hf, q⟩ := h
  rw [Vals.ref1 r]
  obtain ⟨its, rv, pl, hz⟩ := I.list hl
  have hn : H s.heap.objs.size = none := I.hok.fresh (Nat.le_refl _)
  refine set_tups (P := X.prog) (w := X.w) ks (I.ok.hd hc) pl.isList (by simpa using refs_of_vals rv) (fun p hp => L2.Inv.isT I (hk p hp)) hf (by omega) fun h' tk L es ep t R g kp => ?_
  exact ⟨.ref s.heap.objs.size, upd H s.heap.objs.size (SetTO X.prog X.w s.heap.objs.size L), I.laid (t' := tk) kp (Nat.le_refl _) (setTO_new R.t0), rfl, q _ L hn (fun p hp => List.mem_of_mem_take (g.sub p hp)) fun p hp => g.all p (by rw [List.take_length]; exact hp)⟩
/-- sorted(set(xs)) -/
def dSSetI (t : TD) : TD := fun ρ P => t ρ fun d => ∃ ns : List Int, d = .list (ns.map .int) ∧ ns.length < 64 ∧ ∀ ms : List Int, ms.Pairwise (· < ·) → (∀ k, k ∈ ms ↔ k ∈ ns) → P (.list (ms.map .int))
theorem RA.of_ints {G : Hp} : ∀ ns : List Int, RA G (ns.map V.int) (ns.map .int)
  | [] => .nil
  | n :: ns => .cons (.int n) (RA.of_ints ns)
theorem dp_ssetI (hu : X.A.units + 65 < cLine) (hc : X.calm = true) (hg : Gl X "sorted") (hm : X.mg "sorted" = none) (hg2 : Gl X "set") (hm2 : X.mg "set" = none) (ha : DP X a ta) (n1 : starEach [a] X.env = (false, eval a X.env) :: starEach [] X.env := by rfl) (np : (backTo pos2 (starEach [] X.env)).any (·.1) = false := by rfl)
    (n2 : starEach [.Call (.Name "set" p2) [a] [] pos2] X.env = (false, eval (.Call (.Name "set" p2) [a] [] pos2) X.env) :: starEach [] X.env := by rfl) (np2 : (backTo pos (starEach [] X.env)).any (·.1) = false := by rfl) :
    DP X (.Call (.Name "sorted" p) [.Call (.Name "set" p2) [a] [] pos2] [] pos) (dSSetI ta) :=
  PE.wk (pe_callB (cr_sortedSet hc) hg hm (by decide +kernel) (pa_cons (pe_callTy (cr_setI hc) hg2 hm2 (by decide +kernel) (pa_cons ha pa_nil n1) (by decide) (by decide) n1 np) pa_nil n2) (by decide) (by decide) n2 np2) fun σ H Q ⟨G, ρ, A, P, S, h, k⟩ =>
    ⟨G, ρ, A, _, S, h, fun d v G1 H1 ⟨ns, e, hl, p⟩ g1 r1 => by
      subst e
      obtain ⟨l, us, rfl, ea, ra⟩ := r1.lst_of
      rw [ra.ints] at ea
      refine ⟨l, ns, rfl, SqL.of (g1.gh _ _ ea), hl, fun q c hq hcn => ?_⟩
      have gq : Grow G H G1 (upd H1 q (SetO X.w q (fun j => decide (j ∈ ns)) c)) := ⟨fun b o e => by rw [upd_ne (ne_of_none (g1.hh b o e) hq)]; exact g1.hh b o e, g1.gn, sameUpd g1.gh (g1.gh.free hq)⟩
      refine ⟨q, _, c, rfl, upd_same, by omega, fun ms l2 hp hm' _ hl2 => ?_⟩
      exact k _ _ (upd G1 l2 (.lst (ms.map V.int))) _ (p ms hp fun j => by rw [hm']; simp) (gq.trans (Grow.new gq.gh hl2)) (.lst upd_same (RA.of_ints ms))⟩
/-- .. of tuples of d ints in [0, B) -/
def dSSetT (t : TD) : TD := fun ρ P => t ρ fun x => ∃ (ks : List (List Int)) (d : Nat) (B : Int), x = .list (ks.map tupI) ∧ 1 ≤ d ∧ (∀ k ∈ ks, k.length = d ∧ TS.Bd B k) ∧ (∀ L : List (List Int), L.Nodup → (∀ k ∈ L, k ∈ ks) → L.length < 62) ∧
  ∀ ms : List (List Int), ms.Nodup → (∀ k, k ∈ ms ↔ k ∈ ks) → ms.Pairwise (fun x y => TS.code B x ≤ TS.code B y) → P (.list (ms.map tupI))
theorem RA.tups {G : Hp} : ∀ {ks : List (List Int)} {us : List V}, RA G us (ks.map tupI) → ∃ as : List (Addr × List Int), us = as.map (fun p => V.ref p.1) ∧ as.map (·.2) = ks ∧ ∀ p ∈ as, TupG G p.1 (p.2.map V.int)
  | [], _, h => by
    have h' : RA G _ [] := h
    cases h'
    exact ⟨[], rfl, rfl, fun _ z => nomatch z⟩
  | k :: ks, _, h => by
    have h' : RA G _ (tupI k :: ks.map tupI) := h
    cases h' with
    | cons r t =>
      obtain ⟨a, rfl, e⟩ := r.tupI_of
      obtain ⟨as, h1, h2, h3⟩ := RA.tups t
      refine ⟨(a, k) :: as, by rw [h1]; rfl, by rw [List.map_cons, h2], fun p hp => ?_⟩
      rcases List.mem_cons.mp hp with rfl | hp
      · exact e
      · exact h3 p hp
theorem RA.of_tups {G : Hp} : ∀ as : List (Addr × List Int), (∀ p ∈ as, TupG G p.1 (p.2.map V.int)) → RA G (as.map fun p => V.ref p.1) ((as.map (·.2)).map tupI)
  | [], _ => .nil
  | p :: as, h => .cons (.tup (h p List.mem_cons_self) (RA.of_ints p.2)) (RA.of_tups as fun q hq => h q (List.mem_cons_of_mem _ hq))
theorem dp_ssetT (hu : X.A.units + 65 < cLine) (hc : X.calm = true) (hg : Gl X "sorted") (hm : X.mg "sorted" = none) (hg2 : Gl X "set") (hm2 : X.mg "set" = none) (ha : DP X a ta) (n1 : starEach [a] X.env = (false, eval a X.env) :: starEach [] X.env := by rfl) (np : (backTo pos2 (starEach [] X.env)).any (·.1) = false := by rfl)
    (n2 : starEach [.Call (.Name "set" p2) [a] [] pos2] X.env = (false, eval (.Call (.Name "set" p2) [a] [] pos2) X.env) :: starEach [] X.env := by rfl) (np2 : (backTo pos (starEach [] X.env)).any (·.1) = false := by rfl) :
    DP X (.Call (.Name "sorted" p) [.Call (.Name "set" p2) [a] [] pos2] [] pos) (dSSetT ta) :=
  PE.wk (pe_callB (cr_sortedT hc) hg hm (by decide +kernel) (pa_cons (pe_callTy (cr_setT hc (by omega)) hg2 hm2 (by decide +kernel) (pa_cons ha pa_nil n1) (by decide) (by decide) n1 np) pa_nil n2) (by decide) (by decide) n2 np2) fun σ H Q ⟨G, ρ, A, P, S, h, k⟩ =>
    ⟨G, ρ, A, _, S, h, fun x v G1 H1 ⟨ks, d, B, e, hd, hB, hL, p⟩ g1 r1 => by
      subst e
      obtain ⟨l, us, rfl, ea, ra⟩ := r1.lst_of
      obtain ⟨as, rfl, rfl, has⟩ := ra.tups
      refine ⟨l, as, rfl, SqL.of (g1.gh _ _ ea), fun q hq => (has q hq).sq g1.gh, fun L hn hs => ?_, fun q L hq hs hcov => ?_⟩
      · have := hL (L.map (·.2)) hn fun k hk => by
          obtain ⟨y, hy, rfl⟩ := List.mem_map.mp hk
          exact List.mem_map_of_mem (hs y hy)
        rwa [List.length_map] at this
      have gq : Grow G H G1 (upd H1 q (SetTO X.prog X.w q L)) := ⟨fun b o e => by rw [upd_ne (ne_of_none (g1.hh b o e) hq)]; exact g1.hh b o e, g1.gn, sameUpd g1.gh (g1.gh.free hq)⟩
      refine ⟨q, L, d, B, rfl, upd_same, fun y hy => (has y (hs y hy)).sq gq.gh, hd, fun y hy => hB _ (List.mem_map_of_mem (hs y hy)), fun L' l2 pm nd _ pw hl2 => ?_⟩
      have hin : ∀ y ∈ L', y ∈ as := fun y hy => hs y (pm.mem_iff.mp hy)
      refine k _ _ (upd G1 l2 (.lst (L'.map fun q => V.ref q.1))) _ (p (L'.map (·.2)) nd (fun j => ⟨fun hj => ?_, fun hj => ?_⟩) ?_) (gq.trans (Grow.new gq.gh hl2)) (.lst upd_same ?_)
      · obtain ⟨y, hy, rfl⟩ := List.mem_map.mp hj
        exact List.mem_map_of_mem (hin y hy)
      · obtain ⟨y, hy, rfl⟩ := List.mem_map.mp hj
        have := hcov y hy
        exact ((pm.map (·.2)).mem_iff).mpr this
      · exact List.pairwise_map.mpr pw
      · exact (RA.of_tups L' fun y hy => has y (hin y hy)).upd (gq.gh.free hl2)⟩
end
end DL

-- text DL11
set_option Elab.async false
set_option linter.all false
set_option maxRecDepth 100000
/-! Data layer: dicts whose keys are tuples of ints. -/
namespace DL
open PySem PySem.Spec PyProof.Rows L2
abbrev kdT (P : Program) (w : World) : HeapKind P w (List Int) := tupleKind (intKind P w)
abbrev VnT := List Int × Addr × Value
abbrev EnR : EnT → VnT → Prop := fun p q => p.1 = q.1 ∧ p.2.1 = q.2.1 ∧ RelV p.2.2 q.2.2
section
variable {α β κ : Type} [DecidableEq κ] {R : α → β → Prop} {f : α → κ} {g : β → κ}
theorem pf_find (hk : ∀ a b, R a b → f a = g b) (k : κ) {xs : List α} {ys : List β} (h : Paired R xs ys) : (xs.find? (fun x => decide (f x = k)) = none ∧ ys.find? (fun x => decide (g x = k)) = none) ∨
    ∃ x y, xs.find? (fun x => decide (f x = k)) = some x ∧ ys.find? (fun x => decide (g x = k)) = some y ∧ R x y := by
  induction h with
  | nil => exact .inl ⟨rfl, rfl⟩
  | @cons a b as bs r t ih =>
    have e := hk _ _ r
    by_cases q : f a = k
    · exact .inr ⟨a, b, by simp [List.find?_cons, q], by simp [List.find?_cons, e ▸ q], r⟩
    · have q' : ¬ g b = k := fun z => q (e.trans z)
      have e1 : (a :: as).find? (fun x => decide (f x = k)) = as.find? (fun x => decide (f x = k)) := by simp [List.find?_cons, q]
      have e2 : (b :: bs).find? (fun x => decide (g x = k)) = bs.find? (fun x => decide (g x = k)) := by simp [List.find?_cons, q']
      rw [e1, e2]
      exact ih
end
def atE (xs : List EnT) (k : List Int) : Option V := (xs.find? fun x => decide (x.1 = k)).map (·.2.2)
def putE (xs : List EnT) (k : List Int) (b : Addr) (v : V) : List EnT := if (atE xs k).isSome then xs.map (fun x => if x.1 = k then (x.1, x.2.1, v) else x) else xs ++ [(k, b, v)]
def getL (l : List (List Int × PyData)) (k : List Int) : Option PyData := (l.find? fun x => decide (x.1 = k)).map (·.2)
def putL (l : List (List Int × PyData)) (k : List Int) (d : PyData) : List (List Int × PyData) := if (getL l k).isSome then l.map (fun x => if x.1 = k then (x.1, d) else x) else l ++ [(k, d)]
def ekD (l : List (List Int × PyData)) : PyData := .dict (l.map fun p => (tupI p.1, p.2))
theorem ekD_ne {l : List (List Int × PyData)} : ∀ y, (l.map fun p => (tupI p.1, p.2)) ≠ [(.bool true, y)] := by
  intro y
  cases l with
  | nil => exact fun h => nomatch h
  | cons p l =>
    intro h
    rw [List.map_cons] at h
    injection h with h1 _
    injection h1 with h1 _
    exact nomatch h1
abbrev RL (G : Hp) : List EnT → List (List Int × PyData) → Prop := Paired fun x p => x.1 = p.1 ∧ TupG G x.2.1 (x.1.map V.int) ∧ RD G x.2.2 p.2
theorem RK.rl {G : Hp} : ∀ {xs : List EnT} {l : List (List Int × PyData)}, RK G xs (l.map fun p => (tupI p.1, p.2)) → RL G xs l
  | _, [], h => by
    have h' : RK G _ [] := h
    cases h'; exact .nil
  | _, p :: l, h => by
    have h' : RK G _ ((tupI p.1, p.2) :: l.map fun p => (tupI p.1, p.2)) := h
    generalize e : tupI p.1 = q at h'
    cases h' with
    | @cons k b v kvs d kds h1 h2 h3 => exact .cons ⟨(tupI_inj e).symm, h1, h2⟩ (RK.rl h3)
theorem RL.rk {G : Hp} {xs : List EnT} {l : List (List Int × PyData)} (h : RL G xs l) : RK G xs (l.map fun p => (tupI p.1, p.2)) := by
  induction h with
  | nil => exact .nil
  | @cons x p xs l r t ih =>
    obtain ⟨k, b, v⟩ := x
    obtain ⟨k', d⟩ := p
    obtain ⟨r1, r2, r3⟩ := r
    have e : k = k' := r1
    subst e
    exact .cons r2 r3 ih
theorem RL.mono {G G' : Hp} (g : Same G G') {xs : List EnT} {l : List (List Int × PyData)} (h : RL G xs l) : RL G' xs l := Paired.mapP h fun _ _ z => ⟨z.1, z.2.1.mono g, z.2.2.mono g⟩
theorem RL.at {G : Hp} {xs : List EnT} {l : List (List Int × PyData)} (h : RL G xs l) (k : List Int) : (atE xs k = none ∧ getL l k = none) ∨ ∃ v d, atE xs k = some v ∧ getL l k = some d ∧ RD G v d := by
  unfold atE getL
  rcases pf_find (f := fun x : EnT => x.1) (g := fun p : List Int × PyData => p.1) (fun _ _ z => z.1) k h with ⟨a, b⟩ | ⟨x, y, a, b, r⟩
  · exact .inl ⟨by rw [a]; rfl, by rw [b]; rfl⟩
  · exact .inr ⟨x.2.2, y.2, by rw [a]; rfl, by rw [b]; rfl, r.2.2⟩
theorem paired_map {α β α' β' : Type} {R : α → β → Prop} {R' : α' → β' → Prop} {u : α → α'} {v : β → β'} (hr : ∀ a b, R a b → R' (u a) (v b)) {xs : List α} {ys : List β} (h : Paired R xs ys) : Paired R' (xs.map u) (ys.map v) := by
  induction h with
  | nil => exact .nil
  | cons r t ih => exact .cons (hr _ _ r) ih
theorem RL.put {G : Hp} {xs : List EnT} {l : List (List Int × PyData)} (h : RL G xs l) {k : List Int} {b : Addr} {v : V} {d : PyData} (hb : TupG G b (k.map V.int)) (r : RD G v d) : RL G (putE xs k b v) (putL l k d) := by
  unfold putE putL
  have e : (atE xs k).isSome = (getL l k).isSome := by
    rcases h.at k with ⟨a, c⟩ | ⟨_, _, a, c, _⟩
    · rw [a, c]; rfl
    · rw [a, c]; rfl
  rw [e]
  split
  · refine paired_map (fun x p z => ?_) h
    by_cases q : x.1 = k
    · rw [if_pos q, if_pos (z.1.symm.trans q)]
      exact ⟨z.1, z.2.1, r⟩
    · rw [if_neg q, if_neg (fun y => q (z.1.trans y))]
      exact z
  · exact Paired.snoc h ⟨rfl, hb, r⟩
theorem EnR.at {xs : List EnT} {vs : List VnT} (h : Paired EnR xs vs) (k : List Int) : RelO (atE xs k) ((atKey vs k).map (·.2)) := by
  unfold atE atKey
  rcases pf_find (f := fun x : EnT => x.1) (g := fun p : VnT => p.1) (fun _ _ z => z.1) k h with ⟨a, b⟩ | ⟨x, y, a, b, r⟩
  · rw [a, b]; exact True.intro
  · rw [a, b]; exact r.2.2
theorem EnR.put {xs : List EnT} {vs : List VnT} (h : Paired EnR xs vs) (k : List Int) (b : Addr) {v : V} {u : Value} (r : RelV v u) : Paired EnR (putE xs k b v) (storedH vs k b u) := by
  unfold putE storedH
  have e : (atE xs k).isSome = (atKey vs k).isSome := by rw [(EnR.at h k).isSome_eq, Option.isSome_map]
  rw [e]
  split
  · refine paired_map (fun x p z => ?_) h
    unfold putAt
    by_cases q : x.1 = k
    · rw [if_pos q, if_pos (z.1.symm.trans q)]
      exact ⟨z.1, z.2.1, r⟩
    · rw [if_neg q, if_neg (fun y => q (z.1.trans y))]
      exact z
  · exact Paired.snoc h ⟨rfl, rfl, r⟩
theorem EnR.length {xs : List EnT} {vs : List VnT} (h : Paired EnR xs vs) : xs.length = vs.length := Paired.length h
theorem putE_length (xs : List EnT) (k : List Int) (b : Addr) (v : V) : (putE xs k b v).length ≤ xs.length + 1 := by
  unfold putE; split <;> simp
def putsE (xs : List EnT) (es : List EnT) : List EnT := es.foldl (fun acc e => putE acc e.1 e.2.1 e.2.2) xs
def putsL (l : List (List Int × PyData)) (ps : List (List Int × PyData)) : List (List Int × PyData) := ps.foldl (fun acc p => putL acc p.1 p.2) l
theorem putsE_length : ∀ (es xs : List EnT), (putsE xs es).length ≤ xs.length + es.length
  | [], xs => Nat.le_refl _
  | e :: es, xs => by
    have h1 := putsE_length es (putE xs e.1 e.2.1 e.2.2)
    have h2 := putE_length xs e.1 e.2.1 e.2.2
    show (putsE (putE xs e.1 e.2.1 e.2.2) es).length ≤ _
    rw [List.length_cons]; omega
theorem EnR.puts {es : List EnT} {us : List VnT} (r : Paired EnR es us) : ∀ {xs : List EnT} {vs : List VnT}, Paired EnR xs vs → Paired EnR (putsE xs es) (storedAllH vs us) := by
  induction r with
  | nil => exact fun h => h
  | @cons p q ps qs h t ih =>
    intro xs vs hx
    obtain ⟨k, b, v⟩ := p
    obtain ⟨k', b', u⟩ := q
    obtain ⟨e1, e2, e3⟩ := h
    have e1' : k = k' := e1
    have e2' : b = b' := e2
    subst e1'; subst e2'
    exact ih (EnR.put hx k b e3)
theorem RL.puts {G : Hp} {es : List EnT} {ps : List (List Int × PyData)} (r : RL G es ps) : ∀ {xs : List EnT} {l : List (List Int × PyData)}, RL G xs l → RL G (putsE xs es) (putsL l ps) := by
  induction r with
  | nil => exact fun h => h
  | @cons p q ps qs h t ih =>
    intro xs l hx
    obtain ⟨k, b, v⟩ := p
    obtain ⟨k', d⟩ := q
    obtain ⟨e1, e2, e3⟩ := h
    have e1' : k = k' := e1
    subst e1'
    exact ih (RL.put hx e2 e3)
section
variable {X : Cx} {pins : List (Addr × Obj)} {σ : L2.St} {H : Hp} {s : Shared} {a : Addr} {xs : List EnT}
theorem DTO.dict (I : Inv X pins σ H s) (e : H a = some (DTO a xs)) (hk : ∀ x ∈ xs, SqT X.K H x.2.1 (x.1.map V.int)) : ∃ vs, Paired EnR xs vs ∧ s.heap.DictOfH (kdT X.prog X.w) a vs ∧ xs.length ≤ sizeLine ∧ (a == sysModules) = false := by
  obtain ⟨⟨z, hm, vs, r, o, es, ep, h1, h2, h3, h4, h5⟩, _⟩ := (show ObjOk X.prog X.w H s.heap a (.ext (DTok a xs)) from I.hok a _ e)
  refine ⟨vs, r, ⟨o, es, ep, h1, h2, h3, h4, ?_, h5⟩, z, hm⟩
  have all : ∀ {l : List EnT} {m : List VnT}, Paired EnR l m → (∀ x ∈ l, SqT X.K H x.2.1 (x.1.map V.int)) → ∀ x ∈ m, (kdT X.prog X.w).is s.heap x.1 x.2.1 := by
    intro l m q
    induction q with
    | nil => intro _ x hx; exact nomatch hx
    | @cons p q ps qs hq t ih =>
      intro hk x hx
      rcases List.mem_cons.mp hx with e | hx
      · subst e
        have := Inv.isT I (hk p List.mem_cons_self)
        rw [hq.1, hq.2.1] at this
        exact this
      · exact ih (fun y hy => hk y (List.mem_cons_of_mem _ hy)) x hx
  exact all r hk
theorem DTO.new {P : Program} {w : World} {H' : Hp} {h' : Heap} {vs : List VnT} (r : Paired EnR xs vs) (d : h'.DictOfH (kdT P w) a vs) (z : xs.length ≤ sizeLine) (hm : (a == sysModules) = false) : ObjOk P w H' h' a (DTO a xs) := by
  obtain ⟨o, es, ep, h1, h2, h3, h4, _, h5⟩ := d
  exact ⟨⟨z, hm, vs, r, o, es, ep, h1, h2, h3, h4, h5⟩, ⟨o, h1⟩, fun x y ⟨z, hm, vs, r, o, es, ep, h1, q⟩ k => ⟨z, hm, vs, r, o, es, ep, k o h1, q⟩⟩
end
def KeysIn (K : PySem.W.Frag) (H : Hp) (xs : List EnT) : Prop := ∀ x ∈ xs, SqT K H x.2.1 (x.1.map V.int)
theorem RL.keys {K : PySem.W.Frag} {G H : Hp} (s : Same G H) {xs : List EnT} {l : List (List Int × PyData)} (h : RL G xs l) : KeysIn K H xs := by
  induction h with
  | nil => exact fun _ h => nomatch h
  | cons r t ih =>
    intro y hy
    rcases List.mem_cons.mp hy with e | hy
    · subst e; exact r.2.1.sq s
    · exact ih y hy
section
variable {X : Cx} {pos : Pos}
/-- k in d -/
def rDIn (K : PySem.W.Frag) (n : Bool) : R2 := fun x y H Q => ∃ (b a : Addr) (k : List Int) (xs : List EnT), x = .ref b ∧ y = .ref a ∧ SqT K H b (k.map V.int) ∧ H a = some (DTO a xs) ∧ KeysIn K H xs ∧ Q (.bl ((atE xs k).isSome != n)) H
theorem op_dIn (hu : X.A.units + 1 < cLine) : OpR X (compareOp .In) (rDIn X.K false) := by
  intro pins s σ H x y v u Q I rx ry ⟨b, a, k, xs, e1, e2, hb, ha, hk, q⟩
  subst e1 e2
  obtain rfl : v = Value.ref b := rx
  obtain rfl : u = Value.ref a := ry
  obtain ⟨vs, r, dd, z, hm⟩ := DTO.dict I ha hk
  refine wpAny_in_heap (tupleKind_room_in1 hu) (Inv.isT I hb) hm dd ⟨.bl (atE xs k).isSome, H, I.tok _, ?_, by simpa using q⟩
  have := (EnR.at r k).isSome_eq
  rw [Option.isSome_map] at this
  rw [this]; exact rfl
theorem op_dNotIn (hu : X.A.units + 1 < cLine) : OpR X (compareOp .NotIn) (rDIn X.K true) := by
  intro pins s σ H x y v u Q I rx ry ⟨b, a, k, xs, e1, e2, hb, ha, hk, q⟩
  subst e1 e2
  obtain rfl : v = Value.ref b := rx
  obtain rfl : u = Value.ref a := ry
  obtain ⟨vs, r, dd, z, hm⟩ := DTO.dict I ha hk
  refine wpAny_notIn_heap (tupleKind_room_in1 hu) (Inv.isT I hb) hm dd ⟨.bl (!(atE xs k).isSome), H, I.tok _, ?_, by simpa using q⟩
  have := (EnR.at r k).isSome_eq
  rw [Option.isSome_map] at this
  rw [this]; exact rfl
def gDIn (n : Bool) : GD2 := fun x y P => ∃ k l, x = tupI k ∧ y = ekD l ∧ P (.bool ((getL l k).isSome != n))
theorem od_dIn {K : PySem.W.Frag} {n : Bool} : OpD (rDIn K n) (gDIn n) := by
  intro G H x y dx dy P Q s rx ry ⟨k, l, e1, e2, p⟩ h
  subst e1 e2
  obtain ⟨b, rfl, hb⟩ := rx.tupI_of
  obtain ⟨a, xs, rfl, ha, hr⟩ := ry.dic_of ekD_ne
  have rl := hr.rl
  refine ⟨b, a, k, xs, rfl, rfl, hb.sq s, s _ _ ha, rl.keys s, h _ _ _ _ p (Grow.refl s) ?_⟩
  have e : (atE xs k).isSome = (getL l k).isSome := by
    rcases rl.at k with ⟨a, c⟩ | ⟨_, _, a, c, _⟩
    · rw [a, c]; rfl
    · rw [a, c]; rfl
  rw [e]
  exact .bl _
/-- d[k] -/
def rDGetT (K : PySem.W.Frag) : R2 := fun x y H Q => ∃ (a b : Addr) (k : List Int) (xs : List EnT) (v : V), x = .ref a ∧ y = .ref b ∧ SqT K H b (k.map V.int) ∧ H a = some (DTO a xs) ∧ KeysIn K H xs ∧ atE xs k = some v ∧ Q v H
theorem pe_dgetT {o i : Expr} {td ty : TE} (hu : X.A.units + 1 < cLine) (ho : PE X o td) (hi : PE X i ty) (hs : NoSl i) : PE X (.Subscript o i pos) (tOp (rDGetT X.K) td ty) := by
  refine ⟨fun pins s σ H Q I h => ?_⟩
  refine subD_of PySem.F.slot_dict_getitem.lookup hs (thn (ho.run pins s σ H _ I h) fun u s1 ⟨x, H1, I1, rx, q1⟩ => thn (hi.run pins s1 σ H1 _ I1 q1) fun iv s2 ⟨y, H2, I2, ry, a, b, k, xs, v, ex, ey, hb, ha, hk, hv, q2⟩ => ?_)
  subst ex ey
  obtain rfl : u = Value.ref a := rx
  obtain rfl : iv = Value.ref b := ry
  obtain ⟨vs, r, dd, z, hm⟩ := DTO.dict I2 ha hk
  refine ⟨dd.typeIs, ?_⟩
  obtain ⟨w', hw, rw'⟩ := RelO.some_of (v := v) (o := (atKey vs k).map (·.2)) (by rw [← hv]; exact EnR.at r k)
  obtain ⟨p, hp, hp2⟩ := Option.map_eq_some_iff.mp hw
  refine wpAny_getItem_heap (tupleKind_room_in1 hu) (Inv.isT I2 hb) dd hp ?_
  rw [hp2]
  exact ⟨v, H2, I2.tok _, rw', q2⟩
def gDGet : GD2 := fun x y P => ∃ k l d, x = ekD l ∧ y = tupI k ∧ getL l k = some d ∧ P d
theorem od_dget {K : PySem.W.Frag} : OpD (rDGetT K) gDGet := by
  intro G H x y dx dy P Q s rx ry ⟨k, l, d, e1, e2, e3, p⟩ h
  subst e1 e2
  obtain ⟨b, rfl, hb⟩ := ry.tupI_of
  obtain ⟨a, xs, rfl, ha, hr⟩ := rx.dic_of ekD_ne
  have rl := hr.rl
  rcases rl.at k with ⟨_, c⟩ | ⟨v, d', c1, c2, rv⟩
  · rw [c] at e3; cases e3
  · rw [e3] at c2; cases c2
    exact ⟨a, b, k, xs, v, rfl, rfl, hb.sq s, s _ _ ha, rl.keys s, c1, h _ _ _ _ p (Grow.refl s) rv⟩
theorem dp_dget {a b : Expr} {ta tb : TD} (hu : X.A.units + 1 < cLine) (ha : DP X a ta) (hb : DP X b tb) (hs : NoSl b) : DP X (.Subscript a b pos) (dOp gDGet ta tb) := PE.wk (pe_dgetT hu ha hb hs) (tOp_of od_dget)
/-- {} -/
theorem pe_dnewX : PE X (.Dict [] [] pos) (fun _ H Q => ∀ p, H p = none → Q (.ref p) (upd H p (DTO p []))) := ⟨fun pins s σ H Q I h =>
  wpAny_Dict_empty ⟨.ref s.heap.objs.size, _, I.laid (a := s.heap.objs.size) (o := DTO s.heap.objs.size []) (t' := s.toks) (fun _ _ q => Heap.get?_push_of_some _ q) (Nat.le_refl _)
    (DTO.new (vs := []) .nil (Heap.DictOfH.new (knd := kdT X.prog X.w) s.heap) (Nat.zero_le _) (beq_eq_false_iff_ne.mpr (Ne.symm (Nat.ne_of_lt I.big)))), rfl, h _ (I.hok.fresh (Nat.le_refl _))⟩⟩
theorem de_dict : DE X (.Dict [] [] pos) (fun _ P => P (.od [])) := PE.wk pe_dnewX fun σ H Q ⟨G, ρ, A, P, S, h, k⟩ p hp =>
  k (.od []) [p] (.ref p) G (upd H p (DTO p [])) h ⟨fun b o e => by rw [upd_ne (ne_of_none e hp)]; exact e, fun _ _ => rfl, sameUpd S.gh (S.gh.free hp)⟩ ⟨p, [], rfl, rfl, upd_same, .nil⟩ (by simp) fun a ha => by
    have e : a = p := by simpa using ha
    subst e
    exact ⟨hp, by rw [upd_same]; simp, S.gh.free hp⟩
/-- dict(pairs) -/
def rDictT (K : PySem.W.Frag) : List V → Hp → VK → Prop := fun xs H Q => ∃ (a : Addr) (ps : List Addr) (es : List EnT), xs = [.ref a] ∧ SqL K H a (ps.map V.ref) ∧ Paired (fun p (e : EnT) => SqT K H p [.ref e.2.1, e.2.2] ∧ SqT K H e.2.1 (e.1.map V.int)) ps es ∧
  ∀ p, H p = none → Q (.ref p) (upd H p (DTO p (putsE [] es)))
theorem pairs_ofT {pins : List (Addr × Obj)} {σ : L2.St} {H : Hp} {s : Shared} (I : Inv X pins σ H s) : ∀ {ps : List Addr} {es : List EnT}, Paired (fun p (e : EnT) => SqT X.K H p [.ref e.2.1, e.2.2] ∧ SqT X.K H e.2.1 (e.1.map V.int)) ps es →
    ∃ us : List VnT, Paired EnR es us ∧ us.length = ps.length ∧ (∀ (j : Nat) (q : VnT), us[j]? = some q → ∃ p, ps[j]? = some p ∧ s.heap.IsTuple p #[.ref q.2.1, q.2.2]) ∧ ∀ x ∈ us, (kdT X.prog X.w).is s.heap x.1 x.2.1 := by
  intro ps es h
  induction h with
  | nil => exact ⟨[], .nil, rfl, fun j q e => by simp at e, fun x hx => nomatch hx⟩
  | @cons p e ps es r t ih =>
    obtain ⟨us, h1, h2, h3, h4⟩ := ih
    obtain ⟨its, rv, ht, _⟩ := I.tuple r.1
    obtain ⟨u, y, ei, ru, ry⟩ := vals2 rv
    subst ei
    obtain rfl : u = Value.ref e.2.1 := ru
    refine ⟨(e.1, e.2.1, y) :: us, .cons ⟨rfl, rfl, ry⟩ h1, by simp [h2], fun j q eq => ?_, fun x hx => ?_⟩
    · cases j with
      | zero =>
        simp at eq
        subst eq
        exact ⟨p, rfl, ht⟩
      | succ j =>
        obtain ⟨p', e1, e2⟩ := h3 j q (by simpa using eq)
        exact ⟨p', by simpa using e1, e2⟩
    · rcases List.mem_cons.mp hx with e1 | hx
      · subst e1; exact Inv.isT I r.2
      · exact h4 x hx
theorem cr_dictT (hu : X.A.units + 2 < cLine) (hc : X.calm = true) : CallR X (.type "dict") (rDictT X.K) := by
  intro pins s σ H xs us Q I r ⟨a, ps, es, ex, hq, hp, q⟩
  subst ex
  obtain ⟨u, eu, rx⟩ := vals1 r
  subst eu
  cases rx
  obtain ⟨its, rv, pl, hz⟩ := I.list hq
  have ei := refs_at rv
  subst ei
  rw [List.length_map] at hz
  obtain ⟨us, rel, hl, hpr, his⟩ := pairs_ofT I hp
  obtain ⟨o, n, ho, hoc, hd, hdat⟩ := pl
  have hm : (s.heap.objs.size == sysModules) = false := beq_eq_false_iff_ne.mpr (Nat.ne_of_gt I.big)
  refine call_dict_pairsH (knd := kdT X.prog X.w) (ps := us) (PairArg.list a (ps.map Value.ref).toArray (fun j => ps.getD j 0) (us.map fun x => (.ref x.2.1, x.2.2))) (I.ok.hd hc) (show X.A.in1.in1.units < cLine by unfold Around.in1; simp only []; omega)
    ⟨⟨o, n, ho, hoc, hd, hdat⟩, by simp [hl], fun j k v e => ?_⟩ ⟨by simp, fun i key v e => ?_⟩ (fun h' hk x hx => ?_) (by rw [List.length_map, hl]; exact hz) fun h' tk hd' k => ?_
  · rw [List.getElem?_map] at e
    cases hj : us[j]? with
    | none => rw [hj] at e; cases e
    | some x =>
      rw [hj] at e
      cases e
      obtain ⟨p, e1, e2⟩ := hpr j x hj
      have e3 : ps.getD j 0 = p := by rw [List.getD_eq_getElem?_getD, e1]; rfl
      refine ⟨?_, .inl ?_⟩
      · simp [e1, e3]
      · show s.heap.IsTuple (ps.getD j 0) _
        rw [e3]; exact e2
  · have e : (us.map fun x => (Value.ref x.2.1, x.2.2))[i]? = some (key, v) := e
    rw [List.getElem?_map] at e
    cases hj : us[i]? with
    | none => rw [hj] at e; cases e
    | some x =>
      rw [hj] at e
      cases e
      exact ⟨x.1, x.2.1, rfl, rfl⟩
  · exact tupleKind_stays.stays (fun b o vs n e _ => hk b o (Nat.ne_of_lt (Heap.lt_size e)) (fun z => nomatch z) e) (his x hx)
  · have rel2 := EnR.puts rel (xs := []) (vs := []) .nil
    have hlen : (putsE [] es).length ≤ sizeLine := by
      refine Nat.le_trans (putsE_length es []) ?_
      rw [List.length_nil, Nat.zero_add, EnR.length rel, hl]
      exact hz
    exact ⟨.ref s.heap.objs.size, upd H s.heap.objs.size (DTO s.heap.objs.size (putsE [] es)), I.laid (t' := tk) (fun b o e => k b o (fun z => nomatch z) e) (Nat.le_refl _) (DTO.new rel2 hd' hlen hm), rfl, q _ (I.hok.fresh (Nat.le_refl _))⟩
def pairD (p : List Int × PyData) : PyData := .tuple [tupI p.1, p.2]
theorem RA.pairs {K : PySem.W.Frag} {G H : Hp} (s : Same G H) : ∀ {l : List (List Int × PyData)} {us : List V}, RA G us (l.map pairD) → ∃ (ps : List Addr) (es : List EnT), us = ps.map V.ref ∧
    Paired (fun p (e : EnT) => SqT K H p [.ref e.2.1, e.2.2] ∧ SqT K H e.2.1 (e.1.map V.int)) ps es ∧ RL G es l
  | [], _, h => by
    have h' : RA G _ [] := h
    cases h'; exact ⟨[], [], rfl, .nil, .nil⟩
  | p :: l, _, h => by
    have h' : RA G _ (pairD p :: l.map pairD) := h
    cases h' with
    | cons r t =>
      obtain ⟨ps, es, e1, e2, e3⟩ := RA.pairs s t
      obtain ⟨a, ws, rfl, ea, ra⟩ := RD.tup_of (show RD G _ (.tuple [tupI p.1, p.2]) from r)
      obtain ⟨v1, v2, rfl, r1, r2⟩ := ra.two
      obtain ⟨b, rfl, eb⟩ := r1.tupI_of
      exact ⟨a :: ps, (p.1, b, v2) :: es, by rw [e1]; rfl, .cons ⟨ea.sq s, eb.sq s⟩ e2, .cons ⟨rfl, eb, r2⟩ e3⟩
def gDict : TF := fun ds P => ∃ l : List (List Int × PyData), ds = [.list (l.map pairD)] ∧ P (ekD (putsL [] l))
theorem cd_dict {K : PySem.W.Frag} : CallD (rDictT K) gDict := by
  intro G H vs ds P Q s r ⟨l, e, p⟩ k
  subst e
  obtain ⟨v, rfl, rv⟩ := r.one
  obtain ⟨a, us, rfl, ea, ra⟩ := rv.lst_of
  obtain ⟨ps, es, rfl, h1, h2⟩ := RA.pairs (K := K) s ra
  refine ⟨a, ps, es, rfl, SqL.of (s _ _ ea), h1, fun q hq => ?_⟩
  have g := Grow.new (o := DTO q (putsE [] es)) s hq
  exact k _ _ _ _ p g (.dic upd_same ((RL.puts h2 (xs := []) (l := []) .nil).mono (g.gg s)).rk)
/-- sorted(d): the keys, ascending -/
def rSortK (K : PySem.W.Frag) : List V → Hp → VK → Prop := fun vs H Q => ∃ (G : Hp) (a : Addr) (xs : List EnT), vs = [.ref a] ∧ Same G H ∧ H a = some (DTO a xs) ∧ (∀ x ∈ xs, TupG G x.2.1 (x.1.map V.int)) ∧
  (∀ x ∈ xs, SeqAt.shaped (tupI x.1) = true) ∧ PySem.W.AllAlike ((xs.map (·.1)).map tupI) ∧ PySem.W.Sortable ((xs.map (·.1)).map tupI) ∧
  ∀ (ws : List V) (p : Addr), H p = none → RA G ws (((xs.map (·.1)).mergeSort (dLe tupI)).map tupI) → Q (.ref p) (upd H p (.lst ws))
theorem readsI {P : Program} {w : World} {h : Heap} : ∀ {k : List Int} {us : List Value}, ItemsAre (intKind P w) k us → ReadsAll h us (k.map .int) []
  | _, _, .nil => .nil
  | n :: k, _, .cons r t => by
    obtain ⟨tk, rfl⟩ := Value.isInt_shape r
    exact .cons (as := []) (.int n tk) (readsI t)
theorem readsT {P : Program} {w : World} {h : Heap} {k : List Int} {b : Addr} (x : IsTupleKey (intKind P w) h k b) : Reads h (.ref b) (tupI k) [] := by
  obtain ⟨o, items, n, h1, h2, h3, h4⟩ := x
  exact .tuple h1 h2 h3 (readsI h4)
theorem each_keys {G : Hp} {P : Program} {w : World} {h : Heap} (keep : ∀ (k : List Int) (b : Addr), TupG G b (k.map V.int) → IsTupleKey (intKind P w) h k b) {xs : List EnT} {zs : List VnT} (r : Paired EnR xs zs) : (∀ x ∈ xs, TupG G x.2.1 (x.1.map V.int)) →
    PySem.W.EachIs (fun (v : Value) (k : List Int) => ∃ x, RelV x v ∧ RD G x (tupI k)) (zs.map fun z => Value.ref z.2.1) (xs.map (·.1)) ∧ ∀ D : Addr, PySem.W.EachIs (fun v k => ∃ as, Reads h v (tupI k) as ∧ D ∉ as) (zs.map fun z => Value.ref z.2.1) (xs.map (·.1)) := by
  induction r with
  | nil => exact fun _ => ⟨.nil, fun _ => .nil⟩
  | @cons p q ps qs r t ih =>
    intro hk
    obtain ⟨i1, i2⟩ := ih fun x hx => hk x (List.mem_cons_of_mem _ hx)
    have e := hk p List.mem_cons_self
    obtain ⟨k, b, v⟩ := p
    obtain ⟨k', b', u⟩ := q
    obtain ⟨r1, r2, r3⟩ := r
    have r1' : k = k' := r1
    have r2' : b = b' := r2
    subst r1'; subst r2'
    exact ⟨.cons ⟨.ref b, rfl, .tup e (RA.of_ints k)⟩ i1, fun D => .cons ⟨[], readsT (keep k b e), fun z => nomatch z⟩ (i2 D)⟩
theorem cr_sortK (hu : X.A.units + 67 < cLine) (hc : X.calm = true) : CallR X (.builtin "sorted") (rSortK X.K) := by
  intro pins s σ H vs us Q I r ⟨G, a, xs, ex, sm, ha, hk, hsh, hal, hso, q⟩
  subst ex
  rw [Vals.ref1 r]
  obtain ⟨zs, rel, dd, hz, hm⟩ := DTO.dict I ha (fun x hx => (hk x hx).sq sm)
  obtain ⟨o, es, ep, h1, h2, h3, h4, h5, h6⟩ := dd
  have hlen := EnR.length rel
  have hsz : es.size = zs.length := size_of_entries h4
  refine PySem.Calls.call_function_entry kind_sorted plain_sorted entry_sorted (args_sorted1 _) ?_
  unfold Builtin.«sorted»
  refine wpAny_bind (m := checkCount "sorted" 1 1 _) (wpAny_pure ?_)
  refine wpAny_bind (PySem.W.kdu_collect (A := X.A.in1) (kdl_raw hm h2 h3) (I.ok.hd hc) h1 (by omega) fun h' tk acc hk' hacc => ?_)
  have ea : acc.toList = zs.map fun z => Value.ref z.2.1 := by
    have hl : acc.toList.length = zs.length := by rw [Array.length_toList, hacc.1]; exact hsz
    apply List.ext_getElem?
    intro j
    rw [List.getElem?_map]
    cases hj : acc.toList[j]? with
    | none =>
      have h1 := List.getElem?_eq_none_iff.mp hj
      rw [List.getElem?_eq_none (by omega)]
      rfl
    | some v =>
      obtain ⟨en, hen, hv⟩ := hacc.2 j v (by rw [← Array.getElem?_toList]; exact hj)
      have qe := entry_at h4 j
      rw [hen] at qe
      cases hb : zs[j]? with
      | none => rw [hb] at qe; cases qe
      | some b =>
        rw [hb] at qe
        have e2 : en = entryOfKey (kdT X.prog X.w) b := Option.some.inj qe
        rw [hv, e2]
        rfl
  have hl : acc.toList.length = xs.length := by rw [ea, List.length_map, hlen]
  refine wpAny_bind (wpAny_newList ?_ (by rw [hl]; exact hz))
  have hob : (h'.push { cls := .type "list", data := .seq acc.toList.toArray }).get? h'.objs.size = some (seqObj "list" acc.toList.toArray 0) := Heap.get?_push_size _ rfl
  have kb : ∀ b o, s.heap.get? b = some o → (h'.push { cls := .type "list", data := .seq acc.toList.toArray }).get? b = some o := fun b o e => Heap.get?_push_of_some _ (hk' b o e)
  have lt : ∀ b o, s.heap.get? b = some o → b < h'.objs.size := fun b o e => Heap.lt_size (hk' b o e)
  have hn : s.heap.get? h'.objs.size = none := by
    cases e : s.heap.get? h'.objs.size with
    | none => rfl
    | some u => exact absurd (lt _ _ e) (Nat.lt_irrefl _)
  have hnH : H h'.objs.size = none := by
    cases e : H h'.objs.size with
    | none => rfl
    | some u =>
      obtain ⟨u', e'⟩ := objOk_get (I.hok _ _ e)
      rw [hn] at e'; cases e'
  generalize hh2 : h'.push { cls := .type "list", data := .seq acc.toList.toArray } = h2 at hob kb ⊢
  obtain ⟨e1, e2⟩ := each_keys (P := X.prog) (w := X.w) (h := h2) (fun k b e => by
    obtain ⟨o, its, n, a1, a2⟩ := Inv.isT I (e.sq sm)
    exact ⟨o, its, n, kb _ _ a1, a2⟩) rel hk
  rw [← ea] at e1 e2
  refine wpAny_bind (wpAny_holding (PySem.W.list_sort_data (enc := tupI) hob e1 (e2 _) hal hso (by rw [List.length_map]; exact hz) (fun b hb => ?_) fun out ho eo => ?_))
  · obtain ⟨x, hx, rfl⟩ := List.mem_map.mp hb
    have h9 := of_decide_eq_true (Bool.and_eq_true_iff.mp (hsh x hx)).2
    have : X.A.in1.units = X.A.units + 1 := rfl
    omega
  · obtain ⟨ws, w1, w2⟩ := vals_each tupI eo
    obtain ⟨ep', he'⟩ := PyProof.Rows.sortedHeap_at (vs := acc.toList) (out := out.toArray) hob
    have hl2 : ws.length ≤ sizeLine := by rw [w1.length, ho, List.length_map]; exact hz
    refine wpAny_pure ⟨_, rfl, ?_⟩
    exact ⟨.ref h'.objs.size, upd H h'.objs.size (.lst ws), I.laidN (t' := tk) (fun b o e => (PyProof.Rows.sortedHeap_old (Nat.ne_of_lt (lt b o e)) (Heap.lt_size (kb b o e))).trans (kb b o e)) hn hnH (show ObjOk X.prog X.w _ _ _ (.lst ws) from ⟨hl2, out, ep', w1, by simpa using he'⟩), rfl, q ws _ hnH w2⟩
theorem RL.gkeys {G : Hp} {xs : List EnT} {l : List (List Int × PyData)} (h : RL G xs l) : (∀ x ∈ xs, TupG G x.2.1 (x.1.map V.int)) ∧ xs.map (·.1) = l.map (·.1) := by
  induction h with
  | nil => exact ⟨(fun _ h => nomatch h), rfl⟩
  | cons r t ih =>
    refine ⟨fun y hy => ?_, by rw [List.map_cons, List.map_cons, ih.2, r.1]⟩
    rcases List.mem_cons.mp hy with e | hy
    · subst e; exact r.2.1
    · exact ih.1 y hy
def SortT (ks : List (List Int)) : Prop := PySem.W.AllAlike (ks.map tupI) ∧ PySem.W.Sortable (ks.map tupI) ∧ ∀ k ∈ ks, SeqAt.shaped (tupI k) = true
def gSortK : TF := fun ds P => ∃ l : List (List Int × PyData), ds = [ekD l] ∧ SortT (l.map (·.1)) ∧ P (.list (((l.map (·.1)).mergeSort (dLe tupI)).map tupI))
theorem cd_sortK {K : PySem.W.Frag} : CallD (rSortK K) gSortK := by
  intro G H vs ds P Q s r ⟨l, e, ⟨h1, h2, h3⟩, p⟩ k
  subst e
  obtain ⟨v, rfl, rv⟩ := r.one
  obtain ⟨a, xs, rfl, ea, ra⟩ := rv.dic_of ekD_ne
  obtain ⟨g1, g2⟩ := ra.rl.gkeys
  refine ⟨G, a, xs, rfl, s, s _ _ ea, g1, fun x hx => h3 _ (by rw [← g2]; exact List.mem_map.mpr ⟨x, hx, rfl⟩), by rw [g2]; exact h1, by rw [g2]; exact h2, fun ws a2 hp rw' => ?_⟩
  rw [g2] at rw'
  have g := Grow.new (o := .lst ws) s hp
  exact k _ _ _ _ p g (.lst upd_same (rw'.mono (g.gg s)))
end
end DL

-- text DL12
set_option Elab.async false
set_option linter.all false
set_option maxRecDepth 100000
set_option maxHeartbeats 4000000
/-! Data layer: enumerate of a tuple, t[::-1], tuples as they stand, t.index, min and max of two, frozen slots, dicts of one's own, pop(i). -/
namespace DL
open PySem PySem.Spec PyProof.Rows L2

/-! ### enumerate(tuple) -/
theorem meets_enumerate_newT (l : Addr) (items : Array Value) (n : Nat) (dct : Option Addr) (sl : Array (Option Value)) :
    Meets (Builtin.«enumerate.__new__» ⟨[.type "enumerate", .ref l], []⟩) (fun _ R s => s.heap.get? l = some { cls := .type "tuple", dict := dct, data := .seq items n, slots := sl } ∧
      R (.ok (.ret (.ref (s.heap.push { cls := .type "tuple_iterator", data := .fields #[.ref l, .int 0 0] }).objs.size)))
        { s with heap := (s.heap.push { cls := .type "tuple_iterator", data := .fields #[.ref l, .int 0 0] }).push { cls := .type "enumerate", data := .fields #[.none, .bool false, .ref s.heap.objs.size, rawInt 0, .none, .none] } }) :=
  .of_wp fun prog w A R s h => by
    obtain ⟨hp, g, d, tk, os⟩ := s; obtain ⟨hl, h⟩ := h
    have hsub := sub_enumerate
    have hL : Heap.IsTuple (Shared.heap ⟨hp, g, d, tk, os⟩) l items := ⟨_, hl, rfl, n, rfl⟩
    wp_walk using AutoSeq1.wpAny_loadPart' hl
    refine wpAny_stack_any fun st => wpAny_pure ?_
    split
    · rename_i c _ _ _ _ _
      cases (c == Value.type "enumerate")
      · wp_walk using AutoSeq1.wpAny_loadPart' hl, wpAny_pyIter_tuple hL
        exact ⟨_, rfl, h⟩
      · wp_walk using AutoSeq1.wpAny_loadPart' hl, wpAny_pyIter_tuple hL
        exact ⟨_, rfl, h⟩
    · wp_walk using AutoSeq1.wpAny_loadPart' hl, wpAny_pyIter_tuple hL
      exact ⟨_, rfl, h⟩
section
variable {prog : Program} {w : World} {A : Around} {E : Value → Shared → Prop} {s : Shared}
theorem call_enumerate_tuple {l : Addr} {items : Array Value} {Q : Value → Shared → Prop} (hL : s.heap.IsTuple l items)
    (h : ∀ h', IsEnum h' (s.heap.objs.size + 1) s.heap.objs.size 0 .none → h'.IsTupleIter s.heap.objs.size l 0 → h'.objs.size = s.heap.objs.size + 2 →
      (∀ b o, s.heap.get? b = some o → h'.get? b = some o) → Q (.ref (s.heap.objs.size + 1)) { s with heap := h' }) :
    wpAny (model prog w) A (call (.type "enumerate") [.ref l]) Q E s := by
  obtain ⟨⟨c, dct, dt, sl⟩, hl, hc, n, hd⟩ := hL
  replace hc : c = .type "tuple" := hc
  replace hd : dt = .seq items n := hd
  subst hc hd
  refine callType_new F.called_enumerate (by decide) (F.typeCall_enumerate_1 _) (F.newCall_enumerate_1 _) (fun obj => F.args_object_init_2 obj _) F.entry_enumerate_new
    (meets_enumerate_newT l items n dct sl) ⟨hl, ?_⟩
  have hz : (s.heap.push { cls := .type "tuple_iterator", data := .fields #[.ref l, .int 0 0] }).objs.size = s.heap.objs.size + 1 := Heap.size_push ..
  show _ ∧ _
  rw [hz]
  have he : IsEnum ((s.heap.push { cls := .type "tuple_iterator", data := .fields #[.ref l, .int 0 0] }).push
      { cls := .type "enumerate", data := .fields #[.none, .bool false, .ref s.heap.objs.size, rawInt 0, .none, .none] }) (s.heap.objs.size + 1) s.heap.objs.size 0 .none := by
    have := Heap.get?_push_size (s.heap.push { cls := .type "tuple_iterator", data := .fields #[.ref l, .int 0 0] })
      (o := { cls := .type "enumerate", data := .fields #[.none, .bool false, .ref s.heap.objs.size, rawInt 0, .none, .none] }) rfl
    rw [hz] at this; exact this
  refine ⟨⟨_, he, rfl⟩, h _ he ⟨_, Heap.get?_push_of_some _ (Heap.get?_push_size _ rfl), rfl, rfl⟩ (by rw [Heap.size_push, hz]) fun b o x => Heap.get?_push_of_some _ (Heap.get?_push_of_some _ x)⟩
end
/-- the tuple at a as it stands at each turn, each item in a new pair -/
def IteT (K : PySem.W.Frag) (a : Addr) : It :=
  ⟨fun i H => ∃ (xs : List V) (x : V), SqT K H a xs ∧ xs[i]? = some x, fun i H v H' => ∃ T x, v = .ref T ∧ H T = none ∧ H' = upd H T (.tup [.int (i : Nat), x]) ∧ ∀ xs, SqT K H a xs → xs[i]? = some x, fun i H => ∃ xs : List V, SqT K H a xs ∧ xs.length ≤ i⟩
theorem turn_enumT {P : Program} {w : World} {K : PySem.W.Frag} {elts : List Expr} {kk : Nat} {tpos : Pos} (a e it : Addr) (hai : a ≠ it) (hae : a ≠ e) :
    Turn P w K (.Tuple elts kk tpos) (IteT K a) [e, it] e (fun i h => (∃ old, IsEnum h e it ((i : Nat) : Int) old) ∧ h.IsTupleIter it a i ∧ e ≠ it) where
  mem := by simp
  obj := fun i h st b hb => by
    obtain ⟨⟨old, he⟩, ⟨o, ho, hc, hd⟩, _⟩ := st
    have e' : b = e ∨ b = it := by simpa using hb
    rcases e' with z | z
    · rw [z]; exact ⟨_, he, fun v q => nomatch q⟩
    · rw [z]; exact ⟨o, ho, fun v q => by rw [hd] at q; cases q⟩
  keep := fun i h h' st k => let ⟨⟨old, he⟩, hi, hne⟩ := st; ⟨⟨old, k e (by simp) _ he⟩, hi.at fun o q => k it (by simp) o q, hne⟩
  item := by
    intro X hP hw hK hc i pins s σ H E I hf st hg
    subst hP hw hK
    obtain ⟨⟨old, he⟩, hit, hne⟩ := st
    obtain ⟨xs, x, hq, hx⟩ := hg
    obtain ⟨its, rv, p, hz⟩ := I.tuple hq
    obtain ⟨u, hu, ru⟩ := rv.get hx
    have hel : e < s.heap.objs.size := Heap.lt_size he
    have hil : it < s.heap.objs.size := by obtain ⟨_, q, _⟩ := hit; exact Heap.lt_size q
    have hlt : i < its.toArray.size := by
      have := (List.getElem?_eq_some_iff.mp hu).1
      simpa using this
    refine wpAny_pyNext_enum_itemD (PySem.Draws.tuple (A := X.A.in1) (show X.A.in1.handled = none from I.ok.hd hc) it a hai its.toArray) he ⟨hit, p⟩ hlt hne (by simp [hne, Ne.symm hae]) fun y h' tk hy ho hst' hT hsz hk => ?_
    have hit' := hst'.1
    have hy' : y = u := by
      have e1 : its.toArray[i]? = some u := by simpa using hu
      rw [e1] at hy
      exact (Option.some.inj hy).symm
    subst hy'
    refine ⟨_, rfl, wpAny_letOwnedTupleGo_enum (s := { s with heap := h', toks := tk + 1 }) ho fun h'' he' sb => ?_⟩
    have hT2 : h''.get? s.heap.objs.size = some { cls := .type "tuple", data := .seq #[.int i tk, y] } := (sb.2 _ (Nat.ne_of_gt hel)).trans hT
    have new : ObjOk X.prog X.w (upd H s.heap.objs.size (.tup [.int (i : Nat), x])) h'' s.heap.objs.size (.tup [.int (i : Nat), x]) :=
      ⟨by show 2 ≤ sizeLine; decide, [.int i tk, y], .cons ⟨_, rfl⟩ (.cons ru .nil), ⟨_, hT2, rfl, _, rfl⟩⟩
    have I1 : Inv X pins σ (upd H s.heap.objs.size (.tup [.int (i : Nat), x])) { s with heap := h'', toks := tk + 1 } :=
      I.turnedNew (ch := [e, it]) (fun b ob hb q => (sb.2 b (fun z => hb (by simp [z]))).trans (hk b ob (fun z => hb (by simp [z])) (fun z => hb (by simp [z])) q)) hf (Nat.le_refl _) new
    refine ⟨.ref s.heap.objs.size, _, I1, rfl, ⟨_, x, rfl, I.hok.fresh (Nat.le_refl _), rfl, fun ys hy => by rw [I.tuple_inj hy hq]; exact hx⟩, ⟨⟨y, ?_⟩, hit'.at fun o q => (sb.2 it (Ne.symm hne)).trans q, hne⟩, fun b hb => ?_⟩
    · have e1 : ((i + 1 : Nat) : Int) = (i : Int) + 1 := by omega
      rw [e1]; exact he'
    · have hb' : b < s.heap.objs.size := by
        have e' : b = e ∨ b = it := by simpa using hb
        rcases e' with z | z
        · rw [z]; exact hel
        · rw [z]; exact hil
      rw [upd_ne (Nat.ne_of_lt hb')]
      exact (hf b hb).1
  done := by
    intro X hP hw hK hc i pins s σ H E I hf st hg
    subst hP hw hK
    obtain ⟨⟨old, he⟩, hit, hne⟩ := st
    obtain ⟨xs, hq, hx⟩ := hg
    obtain ⟨its, rv, p, hz⟩ := I.tuple hq
    obtain ⟨f0, f1, f2, f3, f4, f5⟩ := hf it (by simp)
    have hl := rv.length
    refine wpAny_pyNext_enum_endD (n := i) (P := fun _ _ => True) (St := fun j h => j = i ∧ h.IsTupleIter it a i ∧ h.IsTuple a its.toArray) (fp := [it, a]) ?_ he ⟨rfl, hit, p⟩ fun h' eb => ⟨rfl, I.turned (t' := s.toks) (fun b o hb q => eb b o hb q) f0 f1 f3 f4 f5⟩
    exact {
      live := fun _ _ st => let ⟨_, ⟨o, ho, _⟩, _⟩ := st; ⟨o, ho⟩
      frame := fun _ _ _ st hk => ⟨st.1, st.2.1.at fun o e => hk it (by simp) o e, st.2.2.at fun o e => hk a (by simp) o e⟩
      item := fun j s Q E hj st _ => absurd st.1 (Nat.ne_of_lt hj)
      done := fun s Q E st hE => wpAny_nextOf_tuple_end (I.ok.hd hc) st.2.1 st.2.2 (by simp; omega) hE }
  self := fun A i s Q E st h => let ⟨⟨_, he⟩, _⟩ := st; wpAny_pyIter_enum he h
def iEnumT (K : PySem.W.Frag) (ta : TA) : TI := fun σ H R => ta σ H fun vs H1 => ∃ a xs, vs = [.ref a] ∧ SqT K H1 a xs ∧ R (IteT K a) H1
theorem pi_enumT {X : Cx} {e : Expr} {ta : TA} {p pos tpos : Pos} {elts : List Expr} {kk : Nat} (hg : Gl X "enumerate") (hm : X.mg "enumerate" = none) (ha : PA X [e] ta) (hs : starEach [e] X.env = [(false, eval e X.env)] := by rfl) :
    PI X (.Tuple elts kk tpos) (.Call (.Name "enumerate" p) [e] [] pos) (iEnumT X.K ta) := by
  refine ⟨fun pins s σ H R I h => ?_⟩
  refine Call_ (ld_blt I hg hm boot_enumerate (PyProof.Rows.callWith_type1 (thn (ha.run pos pins s σ H _ I h) fun us s1 ⟨vs, H1, I1, r1, q1⟩ => ?_) hs rfl))
  obtain ⟨a, xs, ex, hq, q⟩ := q1
  subst ex
  cases r1 with
  | cons r rr =>
    cases rr
    cases r
    obtain ⟨its, rv, p', hz⟩ := I1.tuple hq
    have hal : a < s1.heap.objs.size := by obtain ⟨o, ho, _⟩ := p'; exact Heap.lt_size ho
    refine call_enumerate_tuple p' fun h' he hit hsz hk => wpAny_pyIter_enum he ?_
    have I2 : Inv X pins σ H1 { s1 with heap := h' } := I1.kept (t' := s1.toks) hk
    refine ⟨s1.heap.objs.size + 1, [s1.heap.objs.size + 1, s1.heap.objs.size], _, _, H1, rfl, I2, turn_enumT a (s1.heap.objs.size + 1) s1.heap.objs.size (Nat.ne_of_lt hal) (Nat.ne_of_lt (Nat.lt_succ_of_lt hal)), ⟨⟨.none, he⟩, hit, Nat.succ_ne_self _⟩, fun b hb => ?_, q⟩
    have e' : b = s1.heap.objs.size + 1 ∨ b = s1.heap.objs.size := by simpa using hb
    have hle : s1.heap.objs.size ≤ b := by
      rcases e' with z | z
      · rw [z]; exact Nat.le_add_right _ _
      · rw [z]; exact Nat.le_refl _
    exact I1.fpOk hle (I1.hok.fresh hle)
theorem itd_enumT {K : PySem.W.Frag} {G : Hp} {a : Addr} {us : List V} {xs : List PyData} (ea : TupG G a us) (ra : RA G us xs) : ItD (IteT K a) G (enumD xs) := fun G1 H1 s1 s2 => by
  have e1 : SqT K H1 a us := (ea.mono s1).sq s2
  refine ⟨fun i d hd => ?_, fun i hi => ⟨us, e1, by rw [enumD_length] at hi; rw [ra.length]; exact hi⟩⟩
  obtain ⟨x, hx, rfl⟩ := enumD_get hd
  obtain ⟨u, hu, ru⟩ := ra.get hx
  refine ⟨⟨us, u, e1, hu⟩, fun v H2 ⟨T, u', ev, hT, eH, h1⟩ => ?_⟩
  have q1 := h1 us e1
  rw [hu] at q1
  cases q1
  rw [ev, eH]
  exact ⟨_, pair_new s2 hT (.int _) (ru.mono s1)⟩
def dEnumT (ts : TDs) : TDI := fun ρ P => ts ρ fun ds => ∃ xs, ds = [.tuple xs] ∧ P (enumD xs)
theorem di_enumT {X : Cx} {a : Expr} {ts : TDs} {p pos : Pos} {elts : List Expr} {kk : Nat} {tpos : Pos} (hg : Gl X "enumerate") (hm : X.mg "enumerate" = none) (ha : DA X [a] ts) (hs : starEach [a] X.env = [(false, eval a X.env)] := by rfl) :
    DI X (.Tuple elts kk tpos) (.Call (.Name "enumerate" p) [a] [] pos) (dEnumT ts) := PI.wk (pi_enumT hg hm ha hs) fun σ H R ⟨G, ρ, A, P, S, h, k⟩ => ⟨G, ρ, A, _, S, h, fun ds vs G' H' ⟨xs, e, p⟩ g r => by
  subst e
  obtain ⟨v, rfl, rv⟩ := r.one
  obtain ⟨a, us, rfl, ea, ra⟩ := rv.tup_of
  exact ⟨a, us, rfl, ea.sq g.gh, k _ _ G' H' p g (itd_enumT ea ra)⟩⟩

/-! ### t[::-1] -/
section
variable {prog : Program} {w : World} {A : Around} {E : Value → Shared → Prop} {s : Shared}
theorem applied_rev {sl : Addr} {vl vu vs : Value} {n : Nat} {Q : Int × Int × Nat → Shared → Prop} (hs : s.heap.IsSliceOf sl vl vu vs) (pl : IsPart vl none) (pu : IsPart vu none) (ps : IsPart vs (some (-1)))
    (h : Q ((n : Int) - 1, -1, n) s) : wpAny (model prog w) A (Builtin.Slice.sliceApplied (.ref sl) (pure (n : Int))) Q E s := by
  obtain ⟨os, hos, hcs, hds⟩ := id hs
  unfold Builtin.Slice.sliceApplied Builtin.Slice.sliceFields
  refine wpAny_bind (wpAny_bind (wpAny_field hos hds (x := vl) rfl (wpAny_bind (wpAny_field hos hds (x := vu) rfl (wpAny_bind (wpAny_field hos hds (x := vs) rfl (wpAny_pure ?_)))))))
  refine wpAny_bind (HT.slicePart_ ps ?_)
  show wpAny _ _ (if ((-1 : Int) == 0) = true then _ else _) _ _ s
  rw [if_neg (by decide)]
  refine wpAny_bind (HT.slicePart_ pl (wpAny_bind (HT.slicePart_ pu (wpAny_bind (wpAny_pure ?_)))))
  have e1 : Builtin.Slice.sliceAdjust none none (-1) (n : Int) = ((n : Int) - 1, -1) := by
    first
    | rfl
    | simp [Builtin.Slice.sliceAdjust]
  have e2 : Builtin.Slice.slicePlaces ((n : Int) - 1) (-1) (-1) = n := by
    unfold Builtin.Slice.slicePlaces
    rw [if_neg (by decide)]
    by_cases hn : (n : Int) - 1 > -1
    · rw [if_pos hn]
      have : ((n : Int) - 1 - -1 - 1) / (- -1) + 1 = n := by
        rw [show (- -1 : Int) = 1 by decide, Int.ediv_one]; omega
      rw [this]; omega
    · rw [if_neg hn]; omega
  show wpAny _ _ (match Builtin.Slice.sliceAdjust none none (-1) (n : Int) with | (lo, hi) => pure (lo, (-1 : Int), Builtin.Slice.slicePlaces lo hi (-1))) _ _ s
  rw [e1]
  show wpAny _ _ (pure ((n : Int) - 1, (-1 : Int), Builtin.Slice.slicePlaces ((n : Int) - 1) (-1) (-1))) _ _ s
  rw [e2]
  exact wpAny_pure h
theorem pick_rev (xs : Array Value) : ((List.range xs.size).filterMap fun (k : Nat) => xs[(((xs.size : Nat) : Int) - 1 + (k : Int) * (-1)).toNat]?).toArray = xs.toList.reverse.toArray := by
  have e1 : (List.range xs.size).map (fun k => xs.size - 1 - k) = (List.range xs.size).reverse := PySem.W.krv_range xs.size
  have e2 : (List.range xs.size).filterMap (fun (k : Nat) => xs[(((xs.size : Nat) : Int) - 1 + (k : Int) * (-1)).toNat]?) = ((List.range xs.size).map (fun k => xs.size - 1 - k)).filterMap (xs[·]?) := by
    rw [List.filterMap_map]
    have gen : ∀ l : List Nat, (∀ k ∈ l, k < xs.size) → l.filterMap (fun (k : Nat) => xs[(((xs.size : Nat) : Int) - 1 + (k : Int) * (-1)).toNat]?) = l.filterMap ((xs[·]?) ∘ fun k => xs.size - 1 - k) := by
      intro l
      induction l with
      | nil => exact fun _ => rfl
      | cons k l ih =>
        intro h
        have hk := h k List.mem_cons_self
        have e : (((xs.size : Nat) : Int) - 1 + (k : Int) * (-1)).toNat = xs.size - 1 - k := by omega
        rw [List.filterMap_cons, List.filterMap_cons, ih fun j hj => h j (List.mem_cons_of_mem _ hj), e]
        rfl
    exact gen _ fun k hk => List.mem_range.mp hk
  rw [e2, e1, List.filterMap_reverse, PySem.W.krv_all]
theorem getItem_tuple_rev {t sl : Addr} {items : Array Value} {vl vu vs : Value} {Q : Value → Shared → Prop} (ht : IsTup s.heap t items) (hs : s.heap.IsSliceOf sl vl vu vs) (pl : IsPart vl none) (pu : IsPart vu none) (ps : IsPart vs (some (-1)))
    (h : Q (.ref s.heap.objs.size) { s with heap := s.heap.push { cls := .type "tuple", data := .seq items.toList.reverse.toArray } })
    (hsz : items.size ≤ sizeLine) : wpAny (model prog w) A (getItem (.ref t) (.ref sl)) Q E s := by
  have htake : sizeOk (.seq items.toList.reverse.toArray) := by
    show items.toList.reverse.toArray.size ≤ sizeLine
    rw [List.size_toArray, List.length_reverse, Array.length_toList]
    exact hsz
  obtain ⟨os, hos, hcs, hds⟩ := id hs
  have hTs : s.TypeIs (.ref sl) "slice" := ⟨os, hos, hcs⟩
  unfold getItem
  try with_reducible refine wpAny_holding ?_
  first | refine wpAny_bind (wpAny_pure ?_) | skip
  refine wpAny_bind (wpAny_sequenceKey ht.typeIs (by decide) ?_)
  refine wpAny_bind (wpAny_callSpecial?_slot (name := Str.ofString "__getitem__") ht.typeIs PyProof.Rows.slot_tuple_getitem
    (wpAny_call_entry PyProof.Rows.slot_tuple_getitem ht.typeIs entry_tuple_getitem ?_ (args_tuple_getitem _ _)))
  show wpAny _ _ (Builtin.Tuple.tupleItemsOf (.ref t) >>= _) _ _ s
  refine wpAny_bind (PyProof.Rows.tupleItemsOf_ ht ?_)
  refine wpAny_bind (wpAny_typeOf hTs ?_)
  rw [if_pos (by decide)]
  refine wpAny_bind (applied_rev hs pl pu ps ?_)
  show wpAny _ _ (if ((((items.size : Nat) : Int) - 1) == 0 && (-1 : Int) == 1 && items.size == items.size) = true then _ else _) _ _ s
  rw [show ((-1 : Int) == 1) = false from rfl, Bool.and_false, Bool.false_and, if_neg Bool.false_ne_true, pick_rev]
  first
    | exact wpAny_bind (m := Builtin.Tuple.tupleExact _) (wpAny_newObj_type (wpAny_pure ⟨_, rfl, wpAny_pure h⟩) htake)
    | exact wpAny_bind (m := Builtin.Tuple.tupleExact _) (wpAny_newObj_type (wpAny_bind (wpAny_pure (wpAny_pure ⟨_, rfl, wpAny_pure h⟩))) htake)
    | exact wpAny_bind (wpAny_bind (m := Builtin.Tuple.tupleExact _) (wpAny_newObj_type (wpAny_pure (wpAny_pure ⟨_, rfl, wpAny_pure h⟩)) htake))
    | exact wpAny_bind (wpAny_bind (m := Builtin.Tuple.tupleExact _) (wpAny_newObj_type (wpAny_pure ⟨_, rfl, wpAny_pure h⟩) htake))
end
def tRevT (K : PySem.W.Frag) (te : TE) : TE := fun σ H Q => te σ H fun x H1 => ∃ a xs, x = .ref a ∧ SqT K H1 a xs ∧ ∀ p, H1 p = none → Q (.ref p) (upd H1 p (.tup xs.reverse))
theorem pe_revT {X : Cx} {e : Expr} {te : TE} {k : Nat} {p1 p2 p3 pos : Pos} (he : PE X e te) : PE X (.Subscript e (.Slice none none (some (.UnaryOp .USub (.Constant (.int 1) k p1) p2)) p3) pos) (tRevT X.K te) := by
  refine ⟨fun pins s σ H Q I h => ?_⟩
  refine Subscript_ (thn (he.run pins s σ H _ I h) fun v s1 ⟨x, H1, I1, r1, q1⟩ => ?_)
  obtain ⟨a, xs, ex, hx, q⟩ := q1
  subst ex
  cases r1
  have hst : PO X (some (.UnaryOp .USub (.Constant (.int 1) k p1) p2)) (tPart (tUn (rU fun i => .int (-i)) (tC (.int 1)))) := po_some (pe_un un_neg pe_int)
  refine wpAny_Slice (thn (po_none.run pins s1 σ H1 (fun o H2 => o = none ∧ H2 = H1) I1 ⟨rfl, rfl⟩) fun vl s2 ⟨l, H2, I2, pl, el, e2⟩ => ?_)
  subst el e2
  refine thn (po_none.run pins s2 σ H2 (fun o H3 => o = none ∧ H3 = H2) I2 ⟨rfl, rfl⟩) fun vu s3 ⟨u, H3, I3, pu, eu, e3⟩ => ?_
  subst eu e3
  refine thn (hst.run pins s3 σ H3 (fun o H4 => o = some (-1) ∧ H4 = H3) I3 ⟨1, rfl, -1, rfl, rfl, rfl⟩) fun vs s4 ⟨o, H4, I4, ps, eo, e4⟩ => ?_
  subst eo e4
  have I5 : Inv X pins σ H4 { s4 with heap := s4.heap.push { cls := .type "slice", data := .fields #[vl, vu, vs] } } := I4.kept (t' := s4.toks) fun b ob q => Heap.get?_push_of_some _ q
  obtain ⟨its, r, ht, hz⟩ := I5.tuple hx
  have hlen := r.length
  show wpAny (model X.prog X.w) X.A (subscriptTail e (.Slice none none (some (.UnaryOp .USub (.Constant (.int 1) k p1) p2)) p3) (.ref a) (.ref s4.heap.objs.size)) (EP X pins σ Q) X.xe { s4 with heap := s4.heap.push { cls := .type "slice", data := .fields #[vl, vu, vs] } }
  refine tail_any (ops := [.ref a, .ref s4.heap.objs.size]) ht.typeIs (PyProof.Rows.slot_tuple_getitem.lookup) ?_ (by with_unfolding_all rfl)
  refine getItem_tuple_rev ht (Heap.IsSliceOf.new _ vl vu vs) pl pu ps ?_ (by rw [List.size_toArray]; omega)
  refine ⟨.ref _, _, I5.laid (t' := s4.toks) (o := .tup xs.reverse) (fun b ob q => Heap.get?_push_of_some _ q) (Nat.le_refl _) ?_, rfl, q _ (I5.hok.fresh (Nat.le_refl _))⟩
  exact ⟨by rw [List.length_reverse]; exact hz, its.reverse, r.reverse, IsTup.new _ _⟩
def dRev (t : TD) : TD := fun ρ P => t ρ fun d => ∃ ds, d = .tuple ds ∧ P (.tuple ds.reverse)
theorem dp_rev {X : Cx} {e : Expr} {te : TD} {k : Nat} {p1 p2 p3 pos : Pos} (he : DP X e te) : DP X (.Subscript e (.Slice none none (some (.UnaryOp .USub (.Constant (.int 1) k p1) p2)) p3) pos) (dRev te) :=
  PE.wk (pe_revT he) fun σ H Q ⟨G, ρ, A, P, S, h, k⟩ => ⟨G, ρ, A, _, S, h, fun d v G1 H1 ⟨ds, e, p⟩ g r => by
    subst e
    obtain ⟨a, us, rfl, ea, ra⟩ := r.tup_of
    refine ⟨a, us, rfl, ea.sq g.gh, fun q hq => ?_⟩
    have g2 := Grow.new (o := .tup us.reverse) g.gh hq
    exact k _ _ _ _ p (g.trans g2) (.tup (.inl upd_same) (ra.reverse.mono (g2.gg g.gh)))⟩

/-! ### min, max of two ints in a tuple -/
def rMM (K : PySem.W.Frag) (f : Int → Int → Int) : List V → Hp → VK → Prop := fun vs H Q => ∃ a i j, vs = [.ref a] ∧ SqT K H a [.int i, .int j] ∧ Q (.int (f i j)) H
theorem two_reads {h : Heap} {its : List Value} {i j : Int} (r : Vals [.int i, .int j] its) : ReadsAll h its [.int i, .int j] [] := by
  obtain ⟨u, y, ei, ⟨t, ru⟩, ⟨t2, ry⟩⟩ := vals2 r
  subst ei ru ry
  exact .cons (as := []) (.int i t) (.cons (as := []) (.int j t2) .nil)
theorem cr_minT {X : Cx} (hc : X.calm = true) (hu : X.A.units + 65 < cLine) : CallR X (.builtin "min") (rMM X.K min) := by
  intro pins s σ H xs us Q I r ⟨a, i, j, e, hq, q⟩
  subst e
  rw [Vals.ref1 r]
  obtain ⟨its, rv, p, hz⟩ := I.tuple hq
  have hd : PyData.depthAll [.int i, .int j] ≤ 1 := by simp [PyData.depthAll, PyData.depth]
  refine PySem.W.min_tuple_data (x := .int i) (xs := [.int j]) (as := []) (I.ok.hd hc) p (by simpa using two_reads rv) (by simp [PySem.W.AlikeAll, PySem.W.alike]) (by omega) fun k v h' tk bs hv rd kp => ?_
  have e : PySem.W.minD (.int i) [.int j] = .int (min i j) := by
    exact PySem.W.minD_ints i [j]
  rw [e] at rd
  cases rd with
  | int _ t => exact ⟨.int (min i j), H, I.kept (t' := tk) kp, ⟨t, rfl⟩, q⟩
end DL

-- text DL13
set_option Elab.async false
set_option linter.all false
set_option maxRecDepth 100000
set_option maxHeartbeats 4000000
namespace DL
open PySem PySem.Spec PyProof.Rows L2
/-! ### min, max -/
theorem cr_maxT {X : Cx} (hc : X.calm = true) (hu : X.A.units + 65 < cLine) : CallR X (.builtin "max") (rMM X.K max) := by
  intro pins s σ H xs us Q I r ⟨a, i, j, e, hq, q⟩
  subst e
  rw [Vals.ref1 r]
  obtain ⟨its, rv, p, hz⟩ := I.tuple hq
  have hd : PyData.depthAll [.int i, .int j] ≤ 1 := by simp [PyData.depthAll, PyData.depth]
  refine PySem.W.max_tuple_data (x := .int i) (xs := [.int j]) (as := []) (I.ok.hd hc) p (by simpa using two_reads rv) (by simp [PySem.W.AlikeAll, PySem.W.alike]) (by omega) fun k v h' tk bs hv rd kp => ?_
  have e : PySem.W.maxD (.int i) [.int j] = .int (max i j) := by
    exact PySem.W.maxD_ints i [j]
  rw [e] at rd
  cases rd with
  | int _ t => exact ⟨.int (max i j), H, I.kept (t' := tk) kp, ⟨t, rfl⟩, q⟩
def gMM (f : Int → Int → Int) : TF := fun ds P => ∃ i j, ds = [.tuple [.int i, .int j]] ∧ P (.int (f i j))
theorem cd_MM {K : PySem.W.Frag} {f : Int → Int → Int} : CallD (rMM K f) (gMM f) := by
  intro G H vs ds P Q s r ⟨i, j, e, p⟩ k
  subst e
  obtain ⟨v, rfl, rv⟩ := r.one
  obtain ⟨a, us, rfl, ea, ra⟩ := rv.tup_of
  rw [RA.ints (ns := [i, j]) ra] at ea
  exact ⟨a, i, j, rfl, ea.sq s, k _ _ G H p (Grow.refl s) (.int _)⟩
/-! ### tuples as they stand -/
section
variable {X : Cx} {a b e : Expr} {es : List Expr} {ta tb te : TD} {t : TDs} {pos : Pos}
theorem TupZ.new {p : Addr} {G : Hp} {us : List V} {o : Obj} (h : o.dict = none) : TupZ (upd G p (.frz o (.tup us))) p us := ⟨o, h, upd_same⟩
def dUnz (t : TD) : TD := fun ρ P => t ρ fun d => ∃ ds, d = zD ds ∧ P (.tuple ds)
theorem dp_unz (h : DP X a ta) : DP X a (dUnz ta) := PE.wk h fun σ H Q ⟨G, ρ, A, P, S, h, k⟩ => ⟨G, ρ, A, _, S, h, fun d v G1 H1 ⟨ds, e, p⟩ g r => by
  subst e
  exact k _ _ _ _ p g r.z⟩
theorem RA.z {G : Hp} : ∀ {dss : List (List PyData)} {us : List V}, RA G us (dss.map zD) → RA G us (dss.map .tuple)
  | [], _, h => by
    have h' : RA G _ [] := h
    cases h'; exact .nil
  | d :: dss, _, h => by
    have h' : RA G _ (zD d :: dss.map zD) := h
    cases h' with
    | cons r t => exact .cons (RD.z r) (RA.z t)
def dUnzL (t : TD) : TD := fun ρ P => t ρ fun d => ∃ dss : List (List PyData), d = .list (dss.map zD) ∧ P (.list (dss.map .tuple))
theorem dp_unzL (h : DP X a ta) : DP X a (dUnzL ta) := PE.wk h fun σ H Q ⟨G, ρ, A, P, S, h, k⟩ => ⟨G, ρ, A, _, S, h, fun d v G1 H1 ⟨dss, e, p⟩ g r => by
  subst e
  obtain ⟨l, us, rfl, ea, ra⟩ := r.lst_of
  exact k _ _ _ _ p g (.lst ea ra.z)⟩
/-- a display, as it stands -/
def tTupZ (t : TA) : TE := fun σ H Q => t σ H fun xs H1 => xs.length ≤ sizeLine ∧ ∀ p o, H1 p = none → o.dict = none → Q (.ref p) (upd H1 p (.frz o (.tup xs)))
theorem pe_tupZ {x1} {t : TA} (h : PA X es t) : PE X (.Tuple es x1 pos) (tTupZ t) := by
  refine ⟨fun pins s σ H Q I hq => ?_⟩
  refine wpAny_Tuple_spliced (thn (h.run pos pins s σ H _ I hq) fun us s1 ⟨xs, H1, I1, r, z, q⟩ => ⟨by rw [← r.length]; exact z, ?_⟩)
  have hf : H1 s1.heap.objs.size = none := I1.hok.fresh (Nat.le_refl _)
  refine ⟨.ref s1.heap.objs.size, upd H1 s1.heap.objs.size (.frz { cls := .type "tuple", data := .seq us.toArray } (.tup xs)), I1.laid (t' := s1.toks) (fun b u e => Heap.get?_push_of_some _ e) (Nat.le_refl _) ?_, rfl, q _ _ hf rfl⟩
  exact ⟨Heap.get?_push_size _ rfl, z, us, r, ⟨_, Heap.get?_push_size _ rfl, rfl, _, rfl⟩⟩
def dTupZ (t : TDs) : TD := fun ρ P => t ρ fun ds => ds.length ≤ 16777216 ∧ P (zD ds)
theorem dp_tupZ {x1} (h : DA X es t) : DP X (.Tuple es x1 pos) (dTupZ t) := PE.wk (pe_tupZ h) fun σ H Q ⟨G, ρ, A, P, S, h, k⟩ => ⟨G, ρ, A, _, S, h, fun ds vs G1 H1 ⟨z, p⟩ g r => by
  refine ⟨by rw [r.length, sizeLine_eq]; exact z, fun q o hq ho => ?_⟩
  have g2 := Grow.new (o := .frz o (.tup vs)) g.gh hq
  exact k _ _ _ _ p (g.trans g2) (.tupz (TupZ.new ho) (r.mono (g2.gg g.gh)))⟩
/-- + of two -/
def rCatZ : R2 := fun x y H Q => ∃ a b oa ob xs ys, x = .ref a ∧ y = .ref b ∧ H a = some (.frz oa (.tup xs)) ∧ H b = some (.frz ob (.tup ys)) ∧ xs.length + ys.length ≤ sizeLine ∧
  (xs = [] → Q (.ref b) H) ∧ (xs ≠ [] → ys = [] → Q (.ref a) H) ∧ (xs ≠ [] → ys ≠ [] → ∀ p o, H p = none → o.dict = none → Q (.ref p) (upd H p (.frz o (.tup (xs ++ ys)))))
theorem op_catZ : OpR X (binaryOp .Add) rCatZ := by
  intro pins s σ H x y v u Q I rx ry h
  obtain ⟨a, b, oa, ob, xs, ys, rfl, rfl, ha, hb, hz, q0, q1, q2⟩ := h
  cases rx
  cases ry
  obtain ⟨its, r1, p1, _⟩ := I.tuple (a := a) (xs := xs) (.inl (.inr ⟨oa, ha⟩))
  obtain ⟨its2, r2, p2, _⟩ := I.tuple (a := b) (xs := ys) (.inl (.inr ⟨ob, hb⟩))
  by_cases hx : xs = []
  · subst hx
    cases r1
    exact cat_tup0 p1 p2 ⟨.ref b, H, I, rfl, q0 rfl⟩
  · refine HT.cat_tup p1 p2 (fun z => hx (r1.nil_iff.mp z)) (fun z => ⟨.ref a, H, I, rfl, q1 hx (r2.nil_iff.mp z)⟩) (fun z => ?_) (by rw [← r1.length, ← r2.length]; exact hz)
    refine ⟨.ref s.heap.objs.size, _, I.laid (t' := s.toks) (o := .frz { cls := .type "tuple", data := .seq (its ++ its2).toArray } (.tup (xs ++ ys))) (fun b ob q => Heap.get?_push_of_some _ q) (Nat.le_refl _) ?_, rfl, q2 hx (fun w => z (r2.nil_iff.mpr w)) _ _ (I.hok.fresh (Nat.le_refl _)) rfl⟩
    refine ⟨?_, by rw [List.length_append]; exact hz, _, r1.append r2, IsTup.new _ _⟩
    exact Heap.get?_push_size _ rfl
def gCatZ : GD2 := fun x y P => ∃ xs ys, x = zD xs ∧ y = zD ys ∧ xs.length + ys.length ≤ 16777216 ∧ P (zD (xs ++ ys))
theorem od_catZ : OpD rCatZ gCatZ := by
  intro G H x y dx dy P Q s rx ry ⟨xs, ys, e1, e2, z, p⟩ k
  subst e1 e2
  obtain ⟨a, us, rfl, ⟨oa, da, ea⟩, ra⟩ := rx.z_of
  obtain ⟨b, ws, rfl, ⟨ob, db, eb⟩, rb⟩ := ry.z_of
  refine ⟨a, b, oa, ob, us, ws, rfl, rfl, s _ _ ea, s _ _ eb, by rw [ra.length, rb.length, sizeLine_eq]; exact z, fun e => ?_, fun _ e => ?_, fun _ _ q o hq ho => ?_⟩
  · have e2 := ra.nil_iff.mp e
    subst e2
    exact k _ _ _ _ p (Grow.refl s) ry
  · have e2 := rb.nil_iff.mp e
    subst e2
    rw [List.append_nil] at p
    exact k _ _ _ _ p (Grow.refl s) rx
  · have g2 := Grow.new (o := .frz o (.tup (us ++ ws))) s hq
    exact k _ _ _ _ p g2 (.tupz (TupZ.new ho) ((ra.append rb).mono (g2.gg s)))
/-- t.index(x) -/
def rTIx (K : PySem.W.Frag) : V → List V → Hp → VK → Prop := fun x vs H Q => ∃ (a : Addr) (o : Obj) (us : List V) (y : V) (d : PyData) (ds : List PyData) (j : Nat) (z : PyData), x = V.ref a ∧ vs = [y] ∧ H a = some (.frz o (.tup us)) ∧ o.dict = none ∧ DpAll K H us ds ∧ Dp K H y d ∧
  SeqAt.shaped (.tuple ds) = true ∧ SeqAt.shaped d = true ∧ ds[j]? = some z ∧ PyData.eqv z d = true ∧ (∀ (m : Nat) (z' : PyData), m < j → ds[m]? = some z' → PyData.eqv z' d = false) ∧ Q (.int (j : Nat)) H
theorem mt_tixD (hu : X.A.units + 65 < cLine) : MtR X "tuple.index" (rTIx X.K) := by
  intro pins s σ H x xs v us0 Q I rx rxs h
  obtain ⟨a, o, us, y, d, ds, j, z, rfl, rfl, hl, hod, hds, hy, sl, sd, hz, hzj, hno, q⟩ := h
  cases rx
  obtain ⟨uy, rfl, ry⟩ := rxs.one
  obtain ⟨bs, r1⟩ := Dp.reads I d y uy hy ry
  have hxs : PyData.canLayAll0 ds = true := SeqAt.canLay_of_shaped sl
  have hroom : X.A.units + 1 + min (PyData.depthAll ds) d.depth < cLine := room_in_shaped sd hu
  obtain ⟨its, rv, ⟨⟨cls, dd, dt, sls⟩, ho, hc, n, hdt⟩, hlen⟩ := I.tuple (a := a) (xs := us) (.inl (.inr ⟨o, hl⟩))
  simp only at hc hdt
  subst hc hdt
  obtain ⟨as, h4⟩ := Dp.readsAll I ds _ its hds rv
  have hn : its.length = ds.length := SeqAt.ReadsAll.length ds its as h4
  have hmap : its.map (SeqAt.readOf s.heap) = ds := SeqAt.readsAll_map ds its as hxs h4
  have hsl := sizeLine_eq
  obtain ⟨hjd, _⟩ := List.getElem?_eq_some_iff.mp hz
  have hjl : j < its.length := by omega
  have hj : j < its.toArray.size := by simpa using hjl
  have at_ : ∀ (m : Nat) (hm : m < its.toArray.size) (z' : PyData), ds[m]? = some z' → SeqAt.readOf s.heap its.toArray[m] = z' := by
    intro m hm z' hz'
    have hml : m < its.length := by simpa using hm
    rw [← hmap, List.getElem?_map, List.getElem?_eq_getElem hml] at hz'
    have e1 : SeqAt.readOf s.heap its[m] = z' := Option.some.inj (show some (SeqAt.readOf s.heap its[m]) = some z' from hz')
    simpa using e1
  refine call_meets PySem.F.slot_tuple_index ⟨_, ho, rfl⟩ PySem.F.entry_tuple_index (PySem.F.args_tuple_index_2 _ _)
    (TI.tuple_indexAt a its.toArray n dd sls uy (fun u => PyData.eqv (SeqAt.readOf s.heap u) d) j hj ?_ ?_) ⟨ho, SeqAt.items_eqAt (vs := its.toArray) (show ReadsAll s.heap its.toArray.toList ds as from h4) r1 hxs (SeqAt.canLay_of_shaped sd) hroom, ?_⟩
  · show PyData.eqv (SeqAt.readOf s.heap its.toArray[j]) d = true
    rw [at_ j hj z hz]
    exact hzj
  · intro m hm hmj
    have hmd : m < ds.length := by omega
    have hz' : ds[m]? = some ds[m] := List.getElem?_eq_getElem hmd
    show PyData.eqv (SeqAt.readOf s.heap its.toArray[m]) d = false
    rw [at_ m hm _ hz']
    exact hno m _ hmj hz'
  · exact ⟨.int (j : Nat), H, I.tok _, ⟨_, rfl⟩, q⟩
/-- a method of a tuple as it stands -/
def tZM (r : V → List V → Hp → VK → Prop) (to : TE) (t : TA) : TE := fun σ H Q => to σ H fun x H1 => (∃ a o us, x = .ref a ∧ H1 a = some (.frz o (.tup us)) ∧ o.dict = none) ∧ t σ H1 fun xs H2 => r x xs H2 Q
theorem pe_zm {o : Expr} {to : TE} {t : TA} {name : Str} {apos cpos : Pos} {id : String} {r : V → List V → Hp → VK → Prop} (slot : Slot "tuple" name id) (hty : typeOf (.builtin id) = pure (.type "method_descriptor")) (hm : MtR X id r) (ho : PE X o to) (ha : PA X (e :: es) t)
    (hbase : attributeBase o name X.env (eval o X.env) = eval o X.env := by rfl)
    (hfew : ((backTo cpos (starEach (e :: es) X.env)).all (fun x => !x.1) && (backToKw cpos (keywordEach [] X.env)).all (fun x => x.1.isSome)
      && decide ((e :: es).length + ([] : List Keyword).length + (if ([] : List Keyword).isEmpty then 0 else 1) < 30)) = true := by rfl)
    (hline : (apos.endLine == cpos.line) = true := by rfl) (hs : starEach (e :: es) X.env = (false, eval e X.env) :: starEach es X.env := by rfl) (hplain : (backTo cpos (starEach es X.env)).any (·.1) = false := by rfl) :
    PE X (.Call (.Attribute o name apos) (e :: es) [] cpos) (tZM r to t) := by
  refine ⟨fun pins s σ H Q I h => ?_⟩
  refine wpAny_Call_method_late hbase hfew hline rfl (thn (ho.run pins s σ H _ I h) fun v s1 ⟨x, H1, I1, r1, ⟨a, ob, us, ex, hx, hd⟩, q1⟩ => ?_)
  subst ex
  cases r1
  obtain ⟨g1, g2⟩ := (show ObjOk X.prog X.w H1 s1.heap a (.frz ob (.tup us)) from I1.hok a _ hx)
  obtain ⟨_, its, rv, ht⟩ := g2
  refine ⟨"tuple", id, PySem.F.plainAttrs_tuple, slot, hty, ht.typeIs, fun b q => ?_, ?_⟩
  · cases q
    exact ⟨ob, g1, hd⟩
  have hA := ha.run cpos pins s1 σ H1 _ I1 q1
  rw [hs] at hA ⊢
  refine Calls.callWith_builtin (by show (false || (backTo cpos (starEach es X.env)).any (·.1)) = false; rw [hplain] <;> rfl) (Calls.evalArgs_plain ?_)
  exact thn hA fun us2 s2 ⟨xs, H2, I2, r2, q2⟩ => hm pins s2 σ H2 (.ref a) xs _ us2 Q I2 rfl r2 q2
end
end DL

-- text DL14
set_option Elab.async false
set_option linter.all false
set_option maxRecDepth 100000
set_option maxHeartbeats 4000000
namespace DL
open PySem PySem.Spec PyProof.Rows L2
section
variable {X : Cx} {a b e o : Expr} {es : List Expr} {ta tb te tk : TD} {t : TDs} {pos : Pos}
def dTIx (ta te : TD) : TD := fun ρ P => ta ρ fun x => ∃ ds : List PyData, x = zD ds ∧ te ρ fun d => ∃ (j : Nat) (z : PyData), SeqAt.shaped (.tuple ds) = true ∧ SeqAt.shaped d = true ∧ ds[j]? = some z ∧ PyData.eqv z d = true ∧
  (∀ (m : Nat) (z' : PyData), m < j → ds[m]? = some z' → PyData.eqv z' d = false) ∧ P (.int (j : Nat))
theorem dp_tindex (hu : X.A.units + 65 < cLine) (ho : DP X a ta) (he : DP X e te) {apos cpos : Pos} (hbase : attributeBase a "index" X.env (eval a X.env) = eval a X.env := by rfl)
    (hfew : ((backTo cpos (starEach [e] X.env)).all (fun x => !x.1) && (backToKw cpos (keywordEach [] X.env)).all (fun x => x.1.isSome)
      && decide ([e].length + ([] : List Keyword).length + (if ([] : List Keyword).isEmpty then 0 else 1) < 30)) = true := by rfl)
    (hline : (apos.endLine == cpos.line) = true := by rfl) (hs : starEach [e] X.env = (false, eval e X.env) :: starEach [] X.env := by rfl) (hplain : (backTo cpos (starEach [] X.env)).any (·.1) = false := by rfl) :
    DP X (.Call (.Attribute a "index" apos) [e] [] cpos) (dTIx ta te) :=
  PE.wk (pe_zm PySem.F.slot_tuple_index PySem.F.type_tuple_index (mt_tixD hu) ho (pa_cons he pa_nil hs) hbase hfew hline hs hplain) fun σ H Q ⟨G, ρ, A, P, S, h, k⟩ =>
    ⟨G, ρ, A, _, S, h, fun x v G1 H1 ⟨ds, ex, p1⟩ g1 r1 => by
      subst ex
      obtain ⟨q, us, rfl, ⟨ob, hd, eo⟩, ra⟩ := r1.z_of
      refine ⟨⟨q, ob, us, rfl, g1.gh _ _ eo, hd⟩, G1, ρ, A, _, S.grow g1, p1, fun d w G2 H2 ⟨j, z, s1, s2, h1, h2, h3, p2⟩ g2 r2 => ?_⟩
      have hl : PyData.canLayAll0 ds = true := SeqAt.canLay_of_shaped s1
      exact ⟨q, ob, us, w, d, ds, j, z, rfl, rfl, g2.hh _ _ (g1.gh _ _ eo), hd, RA.dp g2.gh hl (ra.mono (g2.gg g1.gh)), RD.dp g2.gh (SeqAt.canLay_of_shaped s2) r2, s1, s2, h1, h2, h3, k _ _ _ _ p2 (g1.trans g2) (.int _)⟩⟩
/-! ### sorted of such tuples -/
def rSortZ : List V → Hp → VK → Prop := fun vs H Q => ∃ (G : Hp) (bs : List (List PyData)) (a : Addr) (us : List V), vs = [.ref a] ∧ Same G H ∧ G a = some (.lst us) ∧ RA G us (bs.map zD) ∧ PySem.W.AllAlike (bs.map .tuple) ∧ PySem.W.Sortable (bs.map .tuple) ∧ (∀ b ∈ bs, SeqAt.shaped (.tuple b) = true) ∧
  ∀ (ws : List V) (p : Addr), H p = none → RA G ws ((bs.mergeSort (dLe .tuple)).map zD) → Q (.ref p) (upd H p (.lst ws))
theorem each_ofZ {G : Hp} {pins : List (Addr × Obj)} {σ : L2.St} {H : Hp} {s : Shared} (I : Inv X pins σ H s) (sm : Same G H) : ∀ {bs : List (List PyData)} {us : List V} {vals : List Value}, RA G us (bs.map zD) → Vals us vals → (∀ b ∈ bs, SeqAt.shaped (.tuple b) = true) →
    PySem.W.EachIs (fun (v : Value) (b : List PyData) => ∃ x, RelV x v ∧ RD G x (zD b)) vals bs ∧ PySem.W.EachIs (fun v b => ∃ as, Reads s.heap v (.tuple b) as) vals bs
  | [], _, _, ra, rv, _ => by
    have ra' : RA G _ [] := ra
    cases ra'
    cases rv
    exact ⟨.nil, .nil⟩
  | b :: bs, _, _, ra, rv, hs => by
    have ra' : RA G _ (zD b :: bs.map zD) := ra
    cases ra' with
    | cons r t =>
      cases rv with
      | cons q q' =>
        obtain ⟨h1, h2⟩ := each_ofZ I sm t q' fun b' m => hs b' (List.mem_cons_of_mem _ m)
        have dp := (RD.z r).dp (K := X.K) sm (canLay_of (hs b List.mem_cons_self))
        exact ⟨.cons ⟨_, q, r⟩ h1, .cons (Dp.reads I (.tuple b) _ _ dp q) h2⟩
theorem vals_eachZ {G : Hp} : ∀ {bs : List (List PyData)} {vals : List Value}, PySem.W.EachIs (fun (v : Value) (b : List PyData) => ∃ x, RelV x v ∧ RD G x (zD b)) vals bs → ∃ us, Vals us vals ∧ RA G us (bs.map zD)
  | _, _, .nil => ⟨[], .nil, .nil⟩
  | _, _, .cons ⟨x, h1, h2⟩ t => by
    obtain ⟨us, q1, q2⟩ := vals_eachZ t
    exact ⟨x :: us, .cons h1 q1, .cons h2 q2⟩
theorem cr_sortZ (hu : X.A.units + 67 < cLine) : CallR X (.builtin "sorted") rSortZ := by
  intro pins s σ H vs us Q I r h
  obtain ⟨G, bs, a, xs, rfl, sm, ea, ra, hal, hso, hsh, q⟩ := h
  rw [Vals.ref1 r]
  obtain ⟨its, rv, pl, hz⟩ := I.list (SqL.of (sm _ _ ea))
  obtain ⟨e1, e2⟩ := each_ofZ I sm ra rv hsh
  have hlen : bs.length = xs.length := by rw [ra.length, List.length_map]
  refine PySem.W.sorted_data (enc := PyData.tuple) pl.isList e1 e2 hal hso (by rw [hlen]; exact hz) (fun b hb => ?_) fun out ho eo => ?_
  · have := of_decide_eq_true (Bool.and_eq_true_iff.mp (hsh b hb)).2
    omega
  · obtain ⟨ws, w1, w2⟩ := vals_eachZ eo
    obtain ⟨ep, he'⟩ := PyProof.Rows.sortedAll_at s.heap its out.toArray
    have hl2 : ws.length ≤ sizeLine := by rw [w1.length, ho, hlen]; exact hz
    exact ⟨.ref _, upd H (s.heap.objs.size + 1) (.lst ws), I.laid (t' := s.toks) (fun _ _ => PyProof.Rows.sortedAll_old) (Nat.le_succ _) ⟨hl2, out, ep, w1, by simpa using he'⟩, rfl, q ws _ (I.hok.fresh (Nat.le_succ _)) w2⟩
def gSortZ : TF := fun ds P => ∃ bs : List (List PyData), ds = [.list (bs.map zD)] ∧ PySem.W.AllAlike (bs.map .tuple) ∧ PySem.W.Sortable (bs.map .tuple) ∧ (∀ b ∈ bs, SeqAt.shaped (.tuple b) = true) ∧ P (.list ((bs.mergeSort (dLe .tuple)).map zD))
theorem cd_sortZ : CallD rSortZ gSortZ := by
  intro G H vs ds P Q s r ⟨bs, e, h1, h2, h3, p⟩ k
  subst e
  obtain ⟨v, rfl, rv⟩ := r.one
  obtain ⟨a, us, rfl, ea, ra⟩ := rv.lst_of
  refine ⟨G, bs, a, us, rfl, s, ea, ra, h1, h2, h3, fun ws q hq rw' => ?_⟩
  have g := Grow.new (o := .lst ws) s hq
  exact k _ _ _ _ p g (.lst upd_same (rw'.mono (g.gg s)))
/-! ### freezing -/
open Classical in
/-- G, and what H holds at as -/
noncomputable def fzG (G H : Hp) (as : List Addr) : Hp := fun b => if b ∈ as then H b else G b
theorem fz_in {G H : Hp} {as : List Addr} {b : Addr} (h : b ∈ as) : fzG G H as b = H b := by unfold fzG; rw [if_pos h]
theorem fz_out {G H : Hp} {as : List Addr} {b : Addr} (h : b ∉ as) : fzG G H as b = G b := by unfold fzG; rw [if_neg h]
theorem SR.frzG {G H : Hp} {σ : L2.St} {ρ : List SV} {A : Nat → List Addr} (S : SR G H σ ρ A) {i : Nat} {v : V} {d : PyData} (hv : σ[i]? = some (some v)) (rd : RD (fzG G H (A i)) v d) :
    SR (fzG G H (A i)) H σ (ρ.set i (.sh d)) (setA A i []) where
  gh := fun b o q => by
    by_cases hb : b ∈ A i
    · rw [fz_in hb] at q; exact q
    · rw [fz_out hb] at q; exact S.gh b o q
  at_ := fun j s q => by
    by_cases hj : j = i
    · subst hj
      rw [setA_same]
      have hl : j < ρ.length := by rw [← S.len]; exact (List.getElem?_eq_some_iff.mp hv).1
      rw [List.getElem?_set_self hl] at q
      cases q
      exact ⟨rfl, v, hv, rd⟩
    · rw [setA_ne hj]
      rw [List.getElem?_set_ne (Ne.symm hj)] at q
      refine (S.at_ j s q).mono (fun b o q => ?_) fun _ _ => rfl
      by_cases hb : b ∈ A i
      · rw [(S.own i b hb).2] at q; cases q
      · rw [fz_out hb]; exact q
  dis := fun j k a h1 h2 => by
    by_cases hj : j = i
    · subst hj; rw [setA_same] at h1; cases h1
    · by_cases hk : k = i
      · subst hk; rw [setA_same] at h2; cases h2
      · rw [setA_ne hj] at h1; rw [setA_ne hk] at h2; exact S.dis j k a h1 h2
  nod := fun j => by
    by_cases hj : j = i
    · subst hj; rw [setA_same]; exact List.nodup_nil
    · rw [setA_ne hj]; exact S.nod j
  own := fun j a h => by
    by_cases hj : j = i
    · subst hj; rw [setA_same] at h; cases h
    · rw [setA_ne hj] at h
      have : a ∉ A i := fun z => hj (S.dis j i a h z)
      exact ⟨(S.own j a h).1, by rw [fz_out this]; exact (S.own j a h).2⟩
  len := by rw [List.length_set]; exact S.len
theorem Fr0.frzG {T : Addr → Prop} {G0 H0 G H : Hp} {σ : L2.St} {ρ : List SV} {A : Nat → List Addr} (f : Fr0 T G0 H0 G H A) (S : SR G H σ ρ A) (i : Nat) : Fr0 T G0 H0 (fzG G H (A i)) H (setA A i []) where
  hh := f.hh
  gg := fun b o q => by
    have q' := f.gg b o q
    by_cases hb : b ∈ A i
    · rw [(S.own i b hb).2] at q'; cases q'
    · rw [fz_out hb]; exact q'
  gn := fun b hb n => by
    have : b ∉ A i := fun z => by
      rcases f.own i b z with q | q
      · exact hb q
      · exact n q
    rw [fz_out this]; exact f.gn b hb n
  own := fun j a m => by
    by_cases hj : j = i
    · subst hj; rw [setA_same] at m; cases m
    · rw [setA_ne hj] at m; exact f.own j a m
  tt := f.tt
/-- what a slot's own thing is as data -/
def frzD : SV → Option PyData
  | .ow ds => some (.list ds)
  | .od kds => some (.dict kds)
  | .oo dss => some (.list (dss.map .list))
  | .dl kds => some (ekD (kds.map fun p => (p.1, .list p.2)))
  | _ => none
theorem OO.ra {G H : Hp} {as : List Addr} (hG : Same G (fzG G H as)) : ∀ {ls : List Addr} {dss : List (List PyData)}, (∀ l ∈ ls, l ∈ as) → OO G H ls dss → RA (fzG G H as) (ls.map .ref) (dss.map .list)
  | [], [], _, _ => .nil
  | l :: ls, ds :: dss, k, ⟨⟨vs, e, r⟩, t⟩ => .cons (.lst (by rw [fz_in (k l List.mem_cons_self)]; exact e) (r.mono hG)) (OO.ra hG (fun x hx => k x (List.mem_cons_of_mem _ hx)) t)
  | [], _ :: _, _, h => h.elim
  | _ :: _, [], _, h => h.elim
theorem OK.rk {G H : Hp} {as : List Addr} (hG : Same G (fzG G H as)) : ∀ {kvs : List EnT} {ls : List Addr} {kds : List (List Int × List PyData)}, (∀ l ∈ ls, l ∈ as) → OK G H kvs ls kds → RL (fzG G H as) kvs (kds.map fun p => (p.1, .list p.2))
  | [], [], [], _, _ => .nil
  | kv :: kvs, l :: ls, kd :: kds, k, ⟨⟨⟨b, e0, e1⟩, vs, e, r⟩, t⟩ => by
    subst e0
    exact .cons ⟨rfl, e1.mono hG, .lst (by rw [fz_in (k l List.mem_cons_self)]; exact e) (r.mono hG)⟩ (OK.rk hG (fun x hx => k x (List.mem_cons_of_mem _ hx)) t)
  | [], [], _ :: _, _, h => h.elim
  | [], _ :: _, _, _, h => h.elim
  | _ :: _, [], _, _, h => h.elim
  | _ :: _, _ :: _, [], _, h => h.elim
theorem SlotOk.frz {G H : Hp} {o : Option (Option V)} {s : SV} {as : List Addr} {d : PyData} (h : SlotOk G H o s as) (ho : ∀ a ∈ as, G a = none) (e : frzD s = some d) : ∃ v, o = some (some v) ∧ RD (fzG G H as) v d := by
  have hG : Same G (fzG G H as) := fun b ob q => by
    by_cases hb : b ∈ as
    · rw [ho b hb] at q; cases q
    · rw [fz_out hb]; exact q
  cases s with
  | ow ds =>
    cases e
    obtain ⟨l, vs, e1, e2, e3, r⟩ := h
    subst e2
    exact ⟨.ref l, e1, .lst (by rw [fz_in (by simp)]; exact e3) (r.mono hG)⟩
  | od kds =>
    cases e
    obtain ⟨l, vs, e1, e2, e3, r⟩ := h
    subst e2
    exact ⟨.ref l, e1, .dic (by rw [fz_in (by simp)]; exact e3) (r.mono hG)⟩
  | oo dss =>
    cases e
    obtain ⟨l, ls, e1, e2, e3, r⟩ := h
    subst e2
    exact ⟨.ref l, e1, .lst (by rw [fz_in (by simp)]; exact e3) (r.ra hG fun x hx => List.mem_cons_of_mem _ hx)⟩
  | dl kds =>
    cases e
    obtain ⟨l, ls, kvs, e1, e2, e3, r⟩ := h
    subst e2
    exact ⟨.ref l, e1, .dic (by rw [fz_in (by simp)]; exact e3) (r.rk hG fun x hx => List.mem_cons_of_mem _ hx).rk⟩
  | _ => cases e
def dFrzS (i : Nat) (t : TDS) : TDS := fun E ρ => ∃ s d, ρ[i]? = some s ∧ frzD s = some d ∧ t E (ρ.set i (.sh d))
theorem dss_frzS {sts : List Stmt} {t : TDS} (i : Nat) (h : DSs X sts t) : DSs X sts (dFrzS i t) := PSs.wk h fun D σ H ⟨T, G0, H0, G, ρ, A, E, S, f, ⟨s, d, e, e2, p⟩, k⟩ => by
  obtain ⟨v, hv, rd⟩ := (S.at_ i s e).frz (fun a ha => (S.own i a ha).2) e2
  exact ⟨T, G0, H0, _, _, _, E, S.frzG hv rd, f.frzG S i, p, k⟩
/-- a statement, slot i frozen behind it -/
def dFrzA (i : Nat) (t : TDS) : TDS := fun E ρ => t { E with nx := fun ρ' => ∃ s d, ρ'[i]? = some s ∧ frzD s = some d ∧ E.nx (ρ'.set i (.sh d)) } ρ
theorem ds_frzA {st : Stmt} {t : TDS} (i : Nat) (h : DS X st t) : DS X st (dFrzA i t) := PS.wk h fun D σ H ⟨T, G0, H0, G, ρ, A, E, S, f, p, k⟩ =>
  ⟨T, G0, H0, G, ρ, A, _, S, f, p, ⟨fun ρ' σ' G' H' A' ⟨s, d, e, e2, p'⟩ S' f' => by
    obtain ⟨v, hv, rd⟩ := (S'.at_ i s e).frz (fun a ha => (S'.own i a ha).2) e2
    exact k.1 _ _ _ _ _ p' (S'.frzG hv rd) (f'.frzG S' i), k.2.1, k.2.2.1, k.2.2.2⟩⟩
end
end DL

-- text DL15
set_option Elab.async false
set_option linter.all false
set_option maxRecDepth 100000
set_option maxHeartbeats 4000000
namespace DL
open PySem PySem.Spec PyProof.Rows L2
section
variable {X : Cx} {a b c e o : Expr} {es : List Expr} {ta tb te tk : TD} {t : TDs} {pos : Pos}
/-! ### dicts of one's own -/
theorem SR.od {G H : Hp} {σ : L2.St} {ρ : List SV} {A : Nat → List Addr} (S : SR G H σ ρ A) {i : Nat} {l : List (List Int × PyData)} (e : ρ[i]? = some (.od (l.map fun p => (tupI p.1, p.2)))) :
    ∃ q xs, σ[i]? = some (some (.ref q)) ∧ A i = [q] ∧ q ∈ A i ∧ H q = some (DTO q xs) ∧ RL G xs l := by
  obtain ⟨q, xs, e1, e2, e3, r⟩ := S.at_ i _ e
  exact ⟨q, xs, e1, e2, by rw [e2]; simp, e3, r.rl⟩
/-- k in d, k not in d -/
def dDInO (n : Bool) (i : Nat) (tk : TD) : TD := fun ρ P => tk ρ fun x => ∃ k l, x = tupI k ∧ ρ[i]? = some (.od (l.map fun p => (tupI p.1, p.2))) ∧ P (.bool ((getL l k).isSome != n))
theorem tDIn_of {n : Bool} {i : Nat} : ∀ σ H Q, tP (dDInO n i tk) σ H Q → tOp (rDIn X.K n) (tP tk) (tVar i) σ H Q := fun σ H Q ⟨G, ρ, A, P, S, h, k⟩ =>
  ⟨G, ρ, A, _, S, h, fun x v G1 H1 ⟨kk, l, ex, e0, p⟩ g1 r1 => by
    subst ex
    obtain ⟨q, xs, e1, e2, hm, e3, rl⟩ := (S.grow g1).od e0
    obtain ⟨b, rfl, hb⟩ := r1.tupI_of
    refine ⟨.ref q, e1, b, q, kk, xs, rfl, rfl, hb.sq g1.gh, e3, rl.keys g1.gh, ?_⟩
    have e : (atE xs kk).isSome = (getL l kk).isSome := by
      rcases rl.at kk with ⟨a, c⟩ | ⟨_, _, a, c, _⟩
      · rw [a, c]; rfl
      · rw [a, c]; rfl
    rw [e]
    exact k _ _ _ _ p g1 (.bl _)⟩
theorem dp_dInO {i : Nat} (hu : X.A.units + 1 < cLine) (ha : DP X a tk) (hb : PE X b (tVar i)) (hmk : behindInMarks .In b = false := by rfl) : DP X (.Compare a [.In] [b] pos) (dDInO false i tk) := PE.wk (pe_cmpR (op_dIn hu) ha hb hmk) tDIn_of
theorem dp_dNotInO {i : Nat} (hu : X.A.units + 1 < cLine) (ha : DP X a tk) (hb : PE X b (tVar i)) (hmk : behindInMarks .NotIn b = false := by rfl) : DP X (.Compare a [.NotIn] [b] pos) (dDInO true i tk) := PE.wk (pe_cmpR (op_dNotIn hu) ha hb hmk) tDIn_of
/-- d.update(pairs) -/
def rUpdT (K : PySem.W.Frag) : V → List V → Hp → VK → Prop := fun x vs H Q => ∃ (d a : Addr) (ps : List Addr) (es xs : List EnT), x = .ref d ∧ vs = [.ref a] ∧ H d = some (DTO d xs) ∧ KeysIn K H xs ∧ SqL K H a (ps.map V.ref) ∧ Paired (fun p (e : EnT) => SqT K H p [.ref e.2.1, e.2.2] ∧ SqT K H e.2.1 (e.1.map V.int)) ps es ∧
  xs.length + es.length ≤ 16777216 ∧ Q .non (upd H d (DTO d (putsE xs es)))
theorem mt_updT (hu : X.A.units + 1 < cLine) (hc : X.calm = true) : MtR X "dict.update" (rUpdT X.K) := by
  intro pins s σ H x vs v us0 Q I rx rvs ⟨d, a, ps, es, xs, ex, ev, hd, hk, hq, hp, hz0, q⟩
  subst ex ev
  cases rx
  obtain ⟨u, eu, ru⟩ := vals1 rvs
  subst eu
  cases ru
  obtain ⟨its, rv, pl, hz⟩ := I.list hq
  have ei := refs_at rv
  subst ei
  rw [List.length_map] at hz
  obtain ⟨us, rel, hl, hpr, his⟩ := pairs_ofT I hp
  obtain ⟨vs, r0, dd, hz1, hm⟩ := DTO.dict I hd hk
  obtain ⟨o, n, ho, hoc, hdn, hdat⟩ := pl
  obtain ⟨od, _, _, hod, hex, hdd, _⟩ := dd
  have tup_ne : ∀ p items, s.heap.IsTuple p items → p ≠ d := fun p items ⟨o2, h2, c2, _⟩ e => by
    subst e
    rw [hod] at h2
    cases h2
    rw [hex.1] at c2
    injection c2 with c2
    exact absurd c2 (by decide)
  have a_ne : a ≠ d := fun e => by
    subst e
    rw [hod] at ho
    cases ho
    rw [hex.1] at hoc
    injection hoc with hoc
    exact absurd hoc (by decide)
  obtain ⟨vs, r0, dd, hz1, hm⟩ := DTO.dict I hd hk
  refine call_update_pairsH (knd := kdT X.prog X.w) (ps := us) (acc := vs) (PairArg.list a (ps.map Value.ref).toArray (fun j => ps.getD j 0) (us.map fun x => (.ref x.2.1, x.2.2))) (I.ok.hd hc) (show X.A.in1.units < cLine by unfold Around.in1; simp only []; omega)
    ⟨⟨o, n, ho, hoc, hdn, hdat⟩, by simp [hl], fun j k v e => ?_⟩ (fun hmem => ?_) ⟨by simp, fun i key v e => ?_⟩ (fun h' hk' x hx => ?_) dd (by rw [List.length_map, ← EnR.length r0, ← EnR.length rel, sizeLine_eq]; exact hz0) fun h' tk hd' kk => ?_
  · rw [List.getElem?_map] at e
    cases hj : us[j]? with
    | none => rw [hj] at e; cases e
    | some x =>
      rw [hj] at e
      cases e
      obtain ⟨p, e1, e2⟩ := hpr j x hj
      have e3 : ps.getD j 0 = p := by rw [List.getD_eq_getElem?_getD, e1]; rfl
      refine ⟨?_, .inl ?_⟩
      · simp [e1, e3]
      · show s.heap.IsTuple (ps.getD j 0) _
        rw [e3]; exact e2
  · rcases List.mem_cons.mp hmem with e | hmem
    · exact a_ne e.symm
    · obtain ⟨j, hj, e⟩ := List.mem_map.mp hmem
      rw [List.mem_range, List.length_map] at hj
      obtain ⟨p, e1, e2⟩ := hpr j _ (List.getElem?_eq_getElem hj)
      have e3 : ps.getD j 0 = p := by rw [List.getD_eq_getElem?_getD, e1]; rfl
      exact tup_ne p _ e2 (e3.symm.trans e)
  · have e : (us.map fun x => (Value.ref x.2.1, x.2.2))[i]? = some (key, v) := e
    rw [List.getElem?_map] at e
    cases hj : us[i]? with
    | none => rw [hj] at e; cases e
    | some x =>
      rw [hj] at e
      cases e
      exact ⟨x.1, x.2.1, rfl, rfl⟩
  · have his2 : (kdT X.prog X.w).is s.heap x.1 x.2.1 := by
      rcases List.mem_append.mp hx with hx | hx
      · obtain ⟨_, _, _, _, _, _, _, h5, _⟩ := dd
        exact h5 x hx
      · exact his x hx
    obtain ⟨o3, i3, n3, h31, h32, h33⟩ := his2
    have ne : x.2.1 ≠ d := tup_ne _ i3 ⟨o3, h31, h32, n3, h33.1⟩
    exact ⟨o3, i3, n3, hk' _ _ ne (fun z => nomatch z) h31, h32, h33⟩
  · have rel2 := EnR.puts rel r0
    have hlen : (putsE xs es).length ≤ sizeLine := by
      refine Nat.le_trans (putsE_length es xs) ?_
      rw [sizeLine_eq]; exact hz0
    have he : ∃ q, h'.get? d = some q := let ⟨q, _, _, hq, _⟩ := hd'; ⟨q, hq⟩
    exact ⟨.non, upd H d (DTO d (putsE xs es)), I.write (x := d) (e := d) (t' := tk) (by rw [hd]; exact True.intro) (.inl rfl) (fun b u hb e => kk b u hb (fun z => nomatch z) e) he (DTO.new rel2 hd' hlen hm), rfl, q⟩
theorem dt_dNotInO {i : Nat} (hu : X.A.units + 1 < cLine) (ha : DP X a tk) (hb : PE X b (tVar i)) (hmk : behindInMarks .NotIn b = false := by rfl) : DT X (.Compare a [.NotIn] [b] pos) (dB (dDInO true i tk)) := PT.wk (pt_cmpR (op_dNotIn hu) ha hb hmk) (tTest_of tDIn_of)
theorem dt_dInO {i : Nat} (hu : X.A.units + 1 < cLine) (ha : DP X a tk) (hb : PE X b (tVar i)) (hmk : behindInMarks .In b = false := by rfl) : DT X (.Compare a [.In] [b] pos) (dB (dDInO false i tk)) := PT.wk (pt_cmpR (op_dIn hu) ha hb hmk) (tTest_of tDIn_of)
theorem dp_dIn (hu : X.A.units + 1 < cLine) (ha : DP X a ta) (hb : DP X b tb) (hmk : behindInMarks .In b = false := by rfl) : DP X (.Compare a [.In] [b] pos) (dOp (gDIn false) ta tb) := dp_cmp (op_dIn hu) od_dIn ha hb hmk
theorem dp_dNotIn (hu : X.A.units + 1 < cLine) (ha : DP X a ta) (hb : DP X b tb) (hmk : behindInMarks .NotIn b = false := by rfl) : DP X (.Compare a [.NotIn] [b] pos) (dOp (gDIn true) ta tb) := dp_cmp (op_dNotIn hu) od_dIn ha hb hmk
theorem dt_dIn (hu : X.A.units + 1 < cLine) (ha : DP X a ta) (hb : DP X b tb) (hmk : behindInMarks .In b = false := by rfl) : DT X (.Compare a [.In] [b] pos) (dB (dOp (gDIn false) ta tb)) := dt_cmp (op_dIn hu) od_dIn ha hb hmk
theorem dt_dNotIn (hu : X.A.units + 1 < cLine) (ha : DP X a ta) (hb : DP X b tb) (hmk : behindInMarks .NotIn b = false := by rfl) : DT X (.Compare a [.NotIn] [b] pos) (dB (dOp (gDIn true) ta tb)) := dt_cmp (op_dNotIn hu) od_dIn ha hb hmk
/-- a method of a dict of ours -/
def tDM (r : V → List V → Hp → VK → Prop) (to : TE) (t : TA) : TE := fun σ H Q => to σ H fun x H1 => (∃ a xs, x = .ref a ∧ H1 a = some (DTO a xs)) ∧ t σ H1 fun xs H2 => r x xs H2 Q
theorem pe_dm {to : TE} {t : TA} {name : Str} {apos cpos : Pos} {id : String} {r : V → List V → Hp → VK → Prop} (slot : Slot "dict" name id) (hty : typeOf (.builtin id) = pure (.type "method_descriptor")) (hm : MtR X id r) (ho : PE X o to) (ha : PA X (e :: es) t)
    (hbase : attributeBase o name X.env (eval o X.env) = eval o X.env := by rfl)
    (hfew : ((backTo cpos (starEach (e :: es) X.env)).all (fun x => !x.1) && (backToKw cpos (keywordEach [] X.env)).all (fun x => x.1.isSome)
      && decide ((e :: es).length + ([] : List Keyword).length + (if ([] : List Keyword).isEmpty then 0 else 1) < 30)) = true := by rfl)
    (hline : (apos.endLine == cpos.line) = true := by rfl) (hs : starEach (e :: es) X.env = (false, eval e X.env) :: starEach es X.env := by rfl) (hplain : (backTo cpos (starEach es X.env)).any (·.1) = false := by rfl) :
    PE X (.Call (.Attribute o name apos) (e :: es) [] cpos) (tDM r to t) := by
  refine ⟨fun pins s σ H Q I h => ?_⟩
  refine wpAny_Call_method_late hbase hfew hline rfl (thn (ho.run pins s σ H _ I h) fun v s1 ⟨x, H1, I1, r1, ⟨a, xs, ex, hx⟩, q1⟩ => ?_)
  subst ex
  cases r1
  obtain ⟨⟨_, _, _, _, ob, _, _, g1, g2, _⟩, _⟩ := (show ObjOk X.prog X.w H1 s1.heap a (.ext (DTok a xs)) from I1.hok a _ hx)
  refine ⟨"dict", id, PySem.F.plainAttrs_dict, slot, hty, ⟨ob, g1, g2.1⟩, fun b q => ?_, ?_⟩
  · cases q
    exact ⟨ob, g1, g2.2.1⟩
  have hA := ha.run cpos pins s1 σ H1 _ I1 q1
  rw [hs] at hA ⊢
  refine Calls.callWith_builtin (by show (false || (backTo cpos (starEach es X.env)).any (·.1)) = false; rw [hplain] <;> rfl) (Calls.evalArgs_plain ?_)
  exact thn hA fun us2 s2 ⟨xs, H2, I2, r2, q2⟩ => hm pins s2 σ H2 (.ref a) xs _ us2 Q I2 rfl r2 q2
def dUpd (i : Nat) (t : TD) : TDS := fun E ρ => ∃ l : List (List Int × PyData), ρ[i]? = some (.od (l.map fun p => (tupI p.1, p.2))) ∧ t ρ fun d => ∃ ps : List (List Int × PyData), d = .list (ps.map pairD) ∧ l.length + ps.length ≤ 16777216 ∧ E.nx (ρ.set i (.od ((putsL l ps).map fun p => (tupI p.1, p.2))))
theorem ds_update {i : Nat} {apos cpos : Pos} (hu : X.A.units + 1 < cLine) (hc : X.calm = true) (ho : PE X o (tVar i)) (ha : DP X e te) (hbase : attributeBase o "update" X.env (eval o X.env) = eval o X.env := by rfl)
    (hfew : ((backTo cpos (starEach [e] X.env)).all (fun x => !x.1) && (backToKw cpos (keywordEach [] X.env)).all (fun x => x.1.isSome)
      && decide ([e].length + ([] : List Keyword).length + (if ([] : List Keyword).isEmpty then 0 else 1) < 30)) = true := by rfl)
    (hline : (apos.endLine == cpos.line) = true := by rfl) (hs : starEach [e] X.env = (false, eval e X.env) :: starEach [] X.env := by rfl) (hplain : (backTo cpos (starEach [] X.env)).any (·.1) = false := by rfl)
    (hsw : swapsWith (.Call (.Attribute o "update" apos) [e] [] cpos) none pos.line X.env = pure false := by rfl) :
    DS X (.Expr (.Call (.Attribute o "update" apos) [e] [] cpos) pos) (dUpd i te) :=
  PS.wk (ps_expr (pe_dm PySem.F.slot_dict_update PySem.F.type_dict_update (mt_updT hu hc) ho (pa_cons ha pa_nil hs) hbase hfew hline hs hplain) hsw) fun D σ H ⟨T, G0, H0, G, ρ, A, E, S, f, ⟨l, e0, h⟩, k⟩ => by
    obtain ⟨q, xs, e1, e2, hm, e3, rl⟩ := S.od e0
    refine ⟨.ref q, e1, ⟨q, xs, rfl, e3⟩, G, ρ, A, _, S, h, fun d v G1 H1 ⟨ps, ed, z, p⟩ g1 r1 => ?_⟩
    subst ed
    obtain ⟨a, us, rfl, ea, ra⟩ := r1.lst_of
    obtain ⟨as, es, rfl, h1, h2⟩ := RA.pairs (K := X.K) g1.gh ra
    have rl1 := rl.mono (g1.gg S.gh)
    refine ⟨q, a, as, es, xs, rfl, rfl, g1.hh _ _ e3, rl1.keys g1.gh, SqL.of (g1.gh _ _ ea), h1, by rw [Paired.length rl, Paired.length h2]; exact z, ?_⟩
    exact k.1 _ _ _ _ _ p ((S.grow g1).change hm ⟨q, putsE xs es, e1, e2, upd_same, ((RL.puts h2 rl1)).rk⟩) ((f.grow S.gh g1).change hm)
/-! ### three at once -/
def dPar3S (i j l : Nat) (t : TDs) : TDS := fun E ρ => t ρ fun ds => ∃ d1 d2 d3, ds = [d1, d2, d3] ∧ E.nx (((ρ.set i (.sh d1)).set j (.sh d2)).set l (.sh d3))
theorem ds_par3 {i j l : Nat} {x y z : Str} {px py pz pt : Pos} {kt k2 pt2} (hc : X.calm = true) (hN : X.N.Nodup) (hi : X.N[i]? = some x) (hj : X.N[j]? = some y) (hl : X.N[l]? = some z) (hij : i ≠ j) (hil : i ≠ l) (hjl : j ≠ l)
    (hx : X.env.scope.names.lookup x = some .local) (hy : X.env.scope.names.lookup y = some .local) (hz : X.env.scope.names.lookup z = some .local) (ha : DA X [a, b, c] t)
    (hw : swappedStores [.Tuple [.Name x px, .Name y py, .Name z pz] kt pt] (.Tuple [a, b, c] k2 pt2) X.env = pure (some [x, y, z]))
    (hs : swapsWithSole [.Tuple [.Name x px, .Name y py, .Name z pz] kt pt] (.Tuple [a, b, c] k2 pt2) pos.line X.env = pure false := by rfl) :
    DS X (.Assign [.Tuple [.Name x px, .Name y py, .Name z pz] kt pt] (.Tuple [a, b, c] k2 pt2) pos) (dPar3S i j l t) :=
  PS.wk (ps_par3 hc hN hi hj hl hij hil hjl hx hy hz ha hw hs) fun D σ H ⟨T, G0, H0, G, ρ, A, E, S, f, h, k⟩ => ⟨G, ρ, A, _, S, h, fun ds vs G1 H1 ⟨d1, d2, d3, e, p⟩ g r => by
    subst e
    obtain ⟨v1, v2, v3, rfl, r1, r2, r3⟩ := r.three
    exact ⟨v1, v2, v3, rfl, k.1 _ _ _ _ _ p ((((S.grow g).set i r1).set j r2).set l r3) ((f.grow S.gh g).sub fun m a hm => by
      have sub : ∀ (A : Nat → List Addr) q, a ∈ setA A q [] m → a ∈ A m := fun A q h => by
        by_cases hq : m = q
        · subst hq; rw [setA_same] at h; cases h
        · rw [setA_ne hq] at h; exact h
      exact sub _ _ (sub _ _ (sub _ _ hm)))⟩⟩
/-- a dict, an own dict and an own list -/
def dTup3 (i j l : Nat) (t1 t2 t3 : TDE) : TDS := fun E ρ => t1 ρ fun s1 => t2 ρ fun s2 => t3 ρ fun s3 => E.nx (((ρ.set i s1).set j s2).set l s3)
theorem take1 {G H G' H' G0 H0 : Hp} {T : Addr → Prop} {σ : L2.St} {ρ : List SV} {A : Nat → List Addr} {s : SV} {as : List Addr} {v : V} (S : SR G' H' σ ρ A) (f : Fr0 T G0 H0 G' H' A) (f0 : ∀ {b : Addr}, H b = none → H0 b = none) (n1 : ∀ k a, a ∈ as → a ∉ A k)
    (h1 : Hand G H G' H' s as v) (i : Nat) : SR G' H' (σ.set i (some v)) (ρ.set i s) (setA A i as) ∧ Fr0 T G0 H0 G' H' (setA A i as) := by
  refine ⟨S.setOwn i h1.ok h1.nd (fun k a m m2 => absurd m2 (n1 k a m)) fun a m => (h1.ha a m).2, f.hh, f.gg, f.gn, fun k a m => ?_, f.tt⟩
  by_cases hk : k = i
  · subst hk; rw [setA_same] at m; exact .inl (f0 (h1.ha a m).1)
  · rw [setA_ne hk] at m; exact f.own k a m
theorem ds_tup3 {i j l : Nat} {n1 n2 n3 : Expr} {t1 t2 t3 : TDE} {pt : Pos} {kt k2 pt2} (hc : X.calm = true) (g1 : PG X n1 (gName i)) (g2 : PG X n2 (gName j)) (g3 : PG X n3 (gName l)) (h1 : DE X a t1) (h2 : DE X b t2) (h3 : DE X c t3)
    (hw : swappedStores [.Tuple [n1, n2, n3] kt pt] (.Tuple [a, b, c] k2 pt2) X.env = pure none := by rfl)
    (hs : swapsWithSole [.Tuple [n1, n2, n3] kt pt] (.Tuple [a, b, c] k2 pt2) pos.line X.env = pure false := by rfl)
    (s1 : starEach [a, b, c] X.env = (false, eval a X.env) :: starEach [b, c] X.env := by rfl) (s2 : starEach [b, c] X.env = (false, eval b X.env) :: starEach [c] X.env := by rfl) (s3 : starEach [c] X.env = (false, eval c X.env) :: starEach [] X.env := by rfl)
    (q0 : (assignEach [.Tuple [n1, n2, n3] kt pt] X.env).map (·.2) = [assign (.Tuple [n1, n2, n3] kt pt) X.env] := by rfl)
    (q1 : (assignEach [n1, n2, n3] X.env).map (·.2) = assign n1 X.env :: (assignEach [n2, n3] X.env).map (·.2) := by rfl) (q2 : (assignEach [n2, n3] X.env).map (·.2) = assign n2 X.env :: (assignEach [n3] X.env).map (·.2) := by rfl)
    (q3 : (assignEach [n3] X.env).map (·.2) = assign n3 X.env :: (assignEach [] X.env).map (·.2) := by rfl)
    (hn : (assignEach [n1, n2, n3] X.env).length = 3 := by rfl) (hst : (assignEach [n1, n2, n3] X.env).findIdx? (·.1) = none := by rfl) :
    DS X (.Assign [.Tuple [n1, n2, n3] kt pt] (.Tuple [a, b, c] k2 pt2) pos) (dTup3 i j l t1 t2 t3) :=
  PS.wk (ps_asg (pe_tup (pa_cons h1 (pa_cons h2 (pa_cons h3 pa_nil s3) s2) s1)) (pg_tup hc (pgs_cons g1 (pgs_cons g2 (pgs_cons g3 pgs_nil q3) q2) q1) hn hst) hs hw q0) fun D σ H ⟨T, G0, H0, G, ρ, A, E, S, f, h, k⟩ =>
    ⟨G, ρ, A, _, S, h, fun sA asA vA G1 H1 pA gA okA ndA haA => ⟨G1, ρ, A, _, S.grow gA, pA, fun sB asB vB G2 H2 pB gB okB ndB haB => ⟨G2, ρ, A, _, (S.grow gA).grow gB, pB, fun sC asC vC G3 H3 pC gC okC ndC haC => ⟨by show 3 ≤ sizeLine; decide, fun p hp => by
      have hA := (((Hand.mk (G := G) (H := H) okA ndA haA).grow gA.gh gB).grow gB.gh gC).junk (o := .tup [vA, vB, vC]) hp
      have hB := (((Hand.mk (G := G1) (H := H1) okB ndB haB).low (G0 := G) gA.hh).grow gB.gh gC).junk (o := .tup [vA, vB, vC]) hp
      have hC := ((Hand.mk (G := G2) (H := H2) okC ndC haC).low (G0 := G) (fun b o e => gB.hh _ _ (gA.hh _ _ e))).junk (o := .tup [vA, vB, vC]) hp
      have S3 := ((((S.grow gA).grow gB).grow gC).junk (o := .tup [vA, vB, vC]) hp)
      have f3 := ((((f.grow S.gh gA).grow gA.gh gB).grow gB.gh gC).junk (o := .tup [vA, vB, vC]) hp)
      have off : ∀ as : List Addr, (∀ a ∈ as, H a = none) → ∀ (k : Nat) (a : Addr), a ∈ as → a ∉ A k := fun as hs k a m m2 => absurd (hs a m) (S.own k a m2).1
      obtain ⟨S4, f4⟩ := take1 S3 f3 f.back (off asA fun a m => (hA.ha a m).1) hA i
      obtain ⟨S5, f5⟩ := take1 S4 f4 f.back (fun k a m m2 => by
        by_cases hk : k = i
        · subst hk; rw [setA_same] at m2; exact (haA a m2).2.1 (haB a m).1
        · rw [setA_ne hk] at m2; exact off asB (fun a m => (hB.ha a m).1) k a m m2) hB j
      obtain ⟨S6, f6⟩ := take1 S5 f5 f.back (fun k a m m2 => by
        by_cases hk : k = j
        · subst hk; rw [setA_same] at m2; exact (haB a m2).2.1 (haC a m).1
        · rw [setA_ne hk] at m2
          by_cases hk2 : k = i
          · subst hk2; rw [setA_same] at m2
            have : H2 a ≠ none := sameNe gB.hh (haA a m2).2.1
            exact this (haC a m).1
          · rw [setA_ne hk2] at m2; exact off asC (fun a m => (hC.ha a m).1) k a m m2) hC l
      exact ⟨p, [vA, vB, vC], rfl, SqT.of upd_same, rfl, vA, [vB, vC], rfl, vB, [vC], rfl, vC, [], rfl, rfl, k.1 _ _ _ _ _ pC S6 f6⟩⟩⟩⟩⟩
end
end DL

-- text DL16
set_option Elab.async false
set_option linter.all false
set_option maxRecDepth 100000
set_option maxHeartbeats 4000000
namespace DL
open PySem PySem.Spec PyProof.Rows L2
/-! ### comprehensions whose items own things -/
section
variable {Y : Type}
/-- what an item is: told over G and H, its own addresses ls -/
structure Itm (I : Hp → Hp → Y → V → List Addr → Prop) : Prop where
  mono : ∀ {G G' H H' : Hp} {D : Addr} {us : List V} {y : Y} {w : V} {ls : List Addr}, Same G G' → H D = some (.lst us) → (∀ b o, b ≠ D → H b = some o → H' b = some o) → D ∉ ls → I G H y w ls → I G' H' y w ls
inductive Its (I : Hp → Hp → Y → V → List Addr → Prop) (G H : Hp) : List Y → List V → List Addr → Prop
  | nil : Its I G H [] [] []
  | snoc {ys : List Y} {us : List V} {ls : List Addr} {y : Y} {w : V} {l1 : List Addr} : Its I G H ys us ls → I G H y w l1 → Its I G H (ys ++ [y]) (us ++ [w]) (ls ++ l1)
theorem Its.mono {I : Hp → Hp → Y → V → List Addr → Prop} (M : Itm I) {G G' H H' : Hp} {D : Addr} {us0 : List V} (g : Same G G') (hD : H D = some (.lst us0)) (k : ∀ b o, b ≠ D → H b = some o → H' b = some o) {ys : List Y} {us : List V} {ls : List Addr} (h : Its I G H ys us ls) (hn : D ∉ ls) : Its I G' H' ys us ls := by
  induction h with
  | nil => exact .nil
  | snoc t i ih => exact .snoc (ih fun z => hn (List.mem_append_left _ z)) (M.mono g hD k (fun z => hn (List.mem_append_right _ z)) i)
theorem Its.length {I : Hp → Hp → Y → V → List Addr → Prop} {G H : Hp} {ys : List Y} {us : List V} {ls : List Addr} (h : Its I G H ys us ls) : us.length = ys.length := by
  induction h with
  | nil => rfl
  | snoc t i ih => simp [ih]
abbrev TDX (Y : Type) := List SV → (Y → Prop) → Prop
def tXt (I : Hp → Hp → Y → V → List Addr → Prop) (t : TDX Y) : TE := fun σ H Q => ∃ G ρ A P, SR G H σ ρ A ∧ t ρ P ∧ ∀ y w ls G' H', P y → Grow G H G' H' → I G' H' y w ls → ls.Nodup → (∀ l ∈ ls, H l = none ∧ H' l ≠ none ∧ G' l = none) → Q w H'
def dLcX (ti : TDI) (g : TDG) (te : TDX Y) (vs : List Nat) : List SV → (List Y → Prop) → Prop := fun ρ P => ti ρ fun xs => ∃ R : Nat → List Y → Prop, R 0 [] ∧
  (∀ i x acc, xs[i]? = some x → R i acc → acc.length < 16777216 ∧ g x (wipeD ρ vs) fun ρ2 => te ρ2 fun y => R (i + 1) (acc ++ [y])) ∧ ∀ acc, R xs.length acc → P acc
def tFrX (I : Hp → Hp → Y → V → List Addr → Prop) (t : List SV → (List Y → Prop) → Prop) : TE := fun σ H Q => ∃ G ρ A P, SR G H σ ρ A ∧ t ρ P ∧ ∀ ys us ls D G' H', P ys → Grow G H G' H' → H D = none → G' D = none → H' D = some (.lst us) → Its I G' H' ys us ls → ls.Nodup → D ∉ ls → (∀ l ∈ ls, H l = none ∧ H' l ≠ none ∧ G' l = none) → Q (.ref D) H'
theorem lcX_of {I : Hp → Hp → Y → V → List Addr → Prop} (M : Itm I) {ti : TDI} {ws vs : List Nat} {g : TDG} {te : TDX Y} (hws : ∀ i ∈ ws, i ∈ vs) : ∀ σ H Q, tFrX I (dLcX ti g te vs) σ H Q → tLc (tIt ti) (tGt ws g) (tPT dYes) (tXt I te) vs σ H Q := fun σ H Q ⟨G, ρ, A, P, S, h, k⟩ =>
  ⟨G, ρ, A, _, S, h, fun xs J G1 H1 ⟨R, r0, turn, fin⟩ g1 it D hD => by
    refine ⟨fun i m H' => m = xs.length - i ∧ i ≤ xs.length ∧ ∃ G' acc us ls, Grow G1 H1 G' H' ∧ G' D = none ∧ H' D = some (.lst us) ∧ Its I G' H' acc us ls ∧ ls.Nodup ∧ D ∉ ls ∧ (∀ l ∈ ls, H1 l = none ∧ H' l ≠ none ∧ G' l = none) ∧ R i acc, ⟨xs.length, by simp, Nat.zero_le _, G1, [], [], [], ?_, g1.gh.free hD, upd_same, .nil, List.nodup_nil, (fun z => nomatch z), (fun _ z => nomatch z), r0⟩, ?_⟩
    · exact ⟨fun b o e => by rw [upd_ne (ne_of_none e hD)]; exact e, fun _ _ => rfl, sameUpd g1.gh (g1.gh.free hD)⟩
    rintro i m H2 ⟨rfl, hi, G2, acc, us, ls, g2, d1, d2, ra, nd, nD, fr, ri⟩
    obtain ⟨it1, it2⟩ := it G2 H2 (g2.gg g1.gh) g2.gh
    by_cases hlt : i < xs.length
    · obtain ⟨x, hx⟩ : ∃ x, xs[i]? = some x := ⟨_, List.getElem?_eq_getElem hlt⟩
      obtain ⟨go, yl⟩ := it1 i x hx
      obtain ⟨hz, tr⟩ := turn i x acc hx ri
      refine .inr ⟨go, fun H' => i + 1 ≤ xs.length ∧ ∃ G' acc us ls, Grow G1 H1 G' H' ∧ G' D = none ∧ H' D = some (.lst us) ∧ Its I G' H' acc us ls ∧ ls.Nodup ∧ D ∉ ls ∧ (∀ l ∈ ls, H1 l = none ∧ H' l ≠ none ∧ G' l = none) ∧ R (i + 1) acc, fun H' ⟨a, b⟩ => ⟨xs.length - (i + 1), by omega, rfl, a, b⟩, fun v H3 yv => ?_⟩
      obtain ⟨G3, g3, rv⟩ := yl v H3 yv
      have S3 := (((S.grow g1).grow g2).grow g3).wipe vs
      have d1' : G3 D = none := (g3.gn D (by rw [d2]; exact fun z => nomatch z)).trans d1
      have d2' : H3 D = some (.lst us) := g3.hh _ _ d2
      refine ⟨G3, _, _, x, _, S3, rv, tr, fun σ4 ρ4 A4 p4 S4 t4 => ⟨wipe_eq t4 hws, G3, ρ4, A4, (fun b => b = true ∧ te ρ4 fun y => R (i + 1) (acc ++ [y])), S4, ⟨rfl, p4⟩, fun b G5 H5 ⟨hb, p5⟩ g5 => ?_⟩⟩
      subst hb
      have d1'' : G5 D = none := (g5.gn D (by rw [d2']; exact fun z => nomatch z)).trans d1'
      have d2'' : H5 D = some (.lst us) := g5.hh _ _ d2'
      refine ⟨G5, ρ4, A4, _, S4.grow g5, p5, fun y w l1 G6 H6 p6 g6 i6 nd6 f6 => ?_⟩
      have d16 : G6 D = none := (g6.gn D (by rw [d2'']; exact fun z => nomatch z)).trans d1''
      have d26 : H6 D = some (.lst us) := g6.hh _ _ d2''
      have gall := ((g2.trans g3).trans g5).trans g6
      have g26 := (g3.trans g5).trans g6
      have nD1 : D ∉ l1 := fun z => by
        have := (f6 D z).1
        rw [d2''] at this; cases this
      have up : ∀ b o, b ≠ D → H6 b = some o → upd H6 D (.lst (us ++ [w])) b = some o := fun b o hb e => by rw [upd_ne hb]; exact e
      refine ⟨us, d26, by rw [ra.length, sizeLine_eq]; exact hz, hlt, G6, acc ++ [y], us ++ [w], ls ++ l1, ⟨fun b o e => ?_, gall.gn, sameUpd gall.gh d16⟩, d16, upd_same,
        .snoc ((ra.mono M (g26.gg g2.gh) d2 (fun b o _ e => g26.hh _ _ e) nD).mono M (fun _ _ e => e) d26 up nD) (M.mono (fun _ _ e => e) d26 up nD1 i6), ?_, ?_, ?_, p6⟩
      · rw [upd_ne (ne_of_none e hD)]
        exact gall.hh b o e
      · rw [List.nodup_append]
        refine ⟨nd, nd6, fun a ha b hb e => ?_⟩
        subst e
        exact sameNe (g3.trans g5).hh (fr a ha).2.1 (f6 a hb).1
      · intro z
        rcases List.mem_append.mp z with z | z
        · exact nD z
        · exact nD1 z
      · intro l hl
        have hlD : l ≠ D := fun z => by
          subst z
          rcases List.mem_append.mp hl with z | z
          · exact nD z
          · exact nD1 z
        rcases List.mem_append.mp hl with z | z
        · exact ⟨(fr l z).1, by rw [upd_ne hlD]; exact sameNe g26.hh (fr l z).2.1, (g26.gn l (fr l z).2.1).trans (fr l z).2.2⟩
        · exact ⟨(g2.trans (g3.trans g5)).hh.free (f6 l z).1, by rw [upd_ne hlD]; exact (f6 l z).2.1, (f6 l z).2.2⟩
    · have e : i = xs.length := by omega
      subst e
      exact .inl ⟨it2 _ (Nat.le_refl _), k acc us ls D G2 H2 (fin acc ri) (g1.trans g2) (g1.hh.free hD) d1 d2 ra nd nD fun l hl => ⟨g1.hh.free (fr l hl).1, (fr l hl).2⟩⟩⟩
end
/-! ### a list of own lists, a dict of own lists -/
def IO (_ H : Hp) (_ : Unit) (w : V) (ls : List Addr) : Prop := ∃ l, w = .ref l ∧ ls = [l] ∧ H l = some (.lst [])
theorem itm_IO : Itm IO where
  mono := by
    rintro G G' H H' D us y w ls g hD k n ⟨l, e1, e2, e3⟩
    subst e2
    exact ⟨l, e1, rfl, k _ _ (fun z => n (by simp [z])) e3⟩
theorem Its.oo {G H : Hp} {ys : List Unit} {us : List V} {ls : List Addr} (h : Its IO G H ys us ls) : us = ls.map V.ref ∧ OO G H ls (List.replicate ys.length []) := by
  have app : ∀ {ls ms : List Addr} {ds es : List (List PyData)}, OO G H ls ds → OO G H ms es → OO G H (ls ++ ms) (ds ++ es) := by
    intro ls
    induction ls with
    | nil =>
      intro ms ds es h1 h2
      cases ds with
      | nil => exact h2
      | cons _ _ => exact h1.elim
    | cons l ls ih =>
      intro ms ds es h1 h2
      cases ds with
      | nil => exact h1.elim
      | cons d ds => exact ⟨h1.1, ih h1.2 h2⟩
  induction h with
  | nil => exact ⟨rfl, trivial⟩
  | snoc t i ih =>
    obtain ⟨l, e1, e2, e3⟩ := i
    subst e1 e2
    refine ⟨by rw [ih.1]; simp, ?_⟩
    rw [List.length_append, List.length_singleton, List.replicate_succ']
    exact app ih.2 ⟨⟨[], e3, .nil⟩, trivial⟩
section
variable {X : Cx} {e o : Expr} {pos p2 : Pos} {te tk : TD}
theorem pe_newL : PE X (.List [] pos) (tXt IO (fun _ P => P ())) := PE.wk (pe_lst pa_nil) fun σ H Q ⟨G, ρ, A, P, S, h, k⟩ => ⟨by show 0 ≤ sizeLine; omega, fun p hp =>
  k () (.ref p) [p] G _ h ⟨fun b o e => by rw [upd_ne (ne_of_none e hp)]; exact e, fun _ _ => rfl, sameUpd S.gh (S.gh.free hp)⟩ ⟨p, rfl, rfl, upd_same⟩ (by simp) fun l hl => by
    have e : l = p := by simpa using hl
    subst e
    exact ⟨hp, by rw [upd_same]; simp, S.gh.free hp⟩⟩
def dOO (ti : TDI) (g : TDG) (vs : List Nat) : TDE := fun ρ P => dLcX ti g (fun _ P => P ()) vs ρ fun ys => P (.oo (List.replicate ys.length []))
theorem de_oo {tg iter : Expr} {scope : Scope} {own : List (Str × Nat)} {ti : TDI} {ws : List Nat} {g : TDG} (hc : X.calm = true) (hN : X.N.Nodup) (hi : DI X tg iter ti) (ok : BlkOk X.N X.env.scope scope own) (hws : ∀ i ∈ ws, i ∈ own.map (·.2))
    (hg : ∀ (s : Shared) (H : Hp) (C : Addr) (cl : List (Str × Addr)) (fp : List Addr), DG (X.blk s H scope (compEnvC scope cl C X.env) fp) tg ws g) (hs : ∀ x, foldedSetIterable iter X.env x = pure x := by intro _; rfl) :
    DE X (.ListComp (.List [] p2) [⟨tg, iter, [], 0⟩] scope pos) (dOO ti g (own.map (·.2))) :=
  PE.wk (pe_lc hc hN hi ok hg (fun _ _ _ _ _ => dts_nil) (fun _ _ _ _ _ => pe_newL) hs) fun σ H Q ⟨G, ρ, A, P, S, h, k⟩ => lcX_of itm_IO hws σ H Q
    ⟨G, ρ, A, _, S, h, fun ys us ls D G' H' p g hD hG e its nd nD fr => by
      obtain ⟨e1, e2⟩ := its.oo
      subst e1
      refine k _ (D :: ls) (.ref D) G' H' p g ⟨D, ls, rfl, rfl, e, e2⟩ (List.nodup_cons.mpr ⟨nD, nd⟩) fun a ha => ?_
      rcases List.mem_cons.mp ha with z | z
      · subst z; exact ⟨hD, by rw [e]; simp, hG⟩
      · exact fr a z⟩
/-! the dict -/
def IK (G H : Hp) (y : List Int) (w : V) (ls : List Addr) : Prop := ∃ T b l, w = .ref T ∧ ls = [l] ∧ H T = some (.tup [.ref b, .ref l]) ∧ TupG G b (y.map V.int) ∧ H l = some (.lst [])
theorem itm_IK : Itm IK where
  mono := by
    rintro G G' H H' D us y w ls g hD k n ⟨T, b, l, e1, e2, e3, e4, e5⟩
    subst e2
    exact ⟨T, b, l, e1, rfl, k _ _ (fun z => by rw [z, hD] at e3; cases e3) e3, e4.mono g, k _ _ (fun z => n (by simp [z])) e5⟩
theorem Its.ik {K : PySem.W.Frag} {G H : Hp} (s : Same G H) {ys : List (List Int)} {us : List V} {ls : List Addr} (h : Its IK G H ys us ls) : ∃ (ps : List Addr) (es : List EnT), us = ps.map V.ref ∧ es.map (·.1) = ys ∧
    Paired (fun p (e : EnT) => SqT K H p [.ref e.2.1, e.2.2] ∧ SqT K H e.2.1 (e.1.map V.int)) ps es ∧ OK G H es ls (ys.map fun k => (k, [])) := by
  have app : ∀ {es fs : List EnT} {ls ms : List Addr} {ds ks : List (List Int × List PyData)}, OK G H es ls ds → OK G H fs ms ks → OK G H (es ++ fs) (ls ++ ms) (ds ++ ks) := by
    intro es
    induction es with
    | nil =>
      intro fs ls ms ds ks h1 h2
      cases ls with
      | nil => cases ds with
        | nil => exact h2
        | cons _ _ => exact h1.elim
      | cons _ _ => cases ds <;> exact h1.elim
    | cons x es ih =>
      intro fs ls ms ds ks h1 h2
      cases ls with
      | nil => cases ds <;> exact h1.elim
      | cons l ls =>
        cases ds with
        | nil => exact h1.elim
        | cons d ds => exact ⟨h1.1, ih h1.2 h2⟩
  induction h with
  | nil => exact ⟨[], [], rfl, rfl, .nil, trivial⟩
  | @snoc ys us ls y w l1 t i ih =>
    obtain ⟨ps, es, i1, i2, i3, i4⟩ := ih
    obtain ⟨T, b, l, e1, e2, e3, e4, e5⟩ := i
    subst e1 e2
    refine ⟨ps ++ [T], es ++ [(y, b, .ref l)], by rw [i1]; simp, by simp [i2], Paired.snoc i3 ⟨SqT.of e3, e4.sq s⟩, ?_⟩
    rw [List.map_append]
    exact app i4 ⟨⟨⟨b, rfl, e4⟩, [], e5, .nil⟩, trivial⟩
theorem atE_none {xs : List EnT} {k : List Int} (h : k ∉ xs.map (·.1)) : atE xs k = none := by
  unfold atE
  rw [List.find?_eq_none.mpr fun x hx => by
    intro e
    exact h (List.mem_map.mpr ⟨x, hx, of_decide_eq_true e⟩)]
  rfl
theorem putsE_nodup : ∀ (es xs : List EnT), (xs.map (·.1) ++ es.map (·.1)).Nodup → putsE xs es = xs ++ es
  | [], xs, _ => by simp [putsE]
  | e :: es, xs, h => by
    have h1 : e.1 ∉ xs.map (·.1) := fun z => by
      rw [List.nodup_append] at h
      exact h.2.2 _ z _ (by simp) rfl
    have h2 : putE xs e.1 e.2.1 e.2.2 = xs ++ [e] := by
      unfold putE
      rw [atE_none h1]
      rfl
    show putsE (putE xs e.1 e.2.1 e.2.2) es = _
    rw [h2, putsE_nodup es (xs ++ [e]) (by simpa using h)]
    simp
def dDL (ti : TDI) (g : TDG) (te : TD) (vs : List Nat) : TDE := fun ρ P => dLcX ti g (fun ρ P => te ρ fun d => ∃ k, d = tupI k ∧ P k) vs ρ fun ks => ks.Nodup ∧ P (.dl (ks.map fun k => (k, [])))
theorem pe_newP {kk : Nat} {p3 : Pos} (h : DP X e te) (s1 : starEach [e, .List [] p3] X.env = (false, eval e X.env) :: starEach [.List [] p3] X.env := by rfl) (s2 : starEach [.List [] p3] X.env = (false, eval (.List [] p3) X.env) :: starEach [] X.env := by rfl) :
    PE X (.Tuple [e, .List [] p3] kk pos) (tXt IK (fun ρ P => te ρ fun d => ∃ k, d = tupI k ∧ P k)) :=
  PE.wk (pe_tup (pa_cons h (pa_cons (pe_lst pa_nil) pa_nil s2) s1)) fun σ H Q ⟨G, ρ, A, P, S, h, k⟩ => ⟨G, ρ, A, _, S, h, fun d v G1 H1 ⟨kk, e, p⟩ g r => by
    subst e
    obtain ⟨b, rfl, hb⟩ := r.tupI_of
    refine ⟨by show 0 ≤ sizeLine; omega, fun l hl => ⟨by show 2 ≤ sizeLine; decide, fun T hT => ?_⟩⟩
    have hTl : T ≠ l := fun z => by rw [z, upd_same] at hT; cases hT
    have hT1 : H1 T = none := by rw [upd_ne hTl] at hT; exact hT
    have g2 : Grow G H G1 (upd (upd H1 l (.lst [])) T (.tup [.ref b, .ref l])) := by
      refine ⟨fun c o e => ?_, g.gn, ?_⟩
      · rw [upd_ne (ne_of_none (g.hh c o e) hT1), upd_ne (ne_of_none (g.hh c o e) hl)]; exact g.hh c o e
      · exact sameUpd (sameUpd g.gh (g.gh.free hl)) (g.gh.free hT1)
    refine k kk (.ref T) [l] G1 _ p g2 ⟨T, b, l, rfl, rfl, upd_same, hb, by rw [upd_ne (Ne.symm hTl)]; exact upd_same⟩ (by simp) fun a ha => ?_
    have e : a = l := by simpa using ha
    subst e
    exact ⟨g.hh.free hl, by rw [upd_ne (Ne.symm hTl), upd_same]; simp, g.gh.free hl⟩⟩
theorem de_dl {tg iter : Expr} {scope : Scope} {own : List (Str × Nat)} {ti : TDI} {ws : List Nat} {g : TDG} {kk : Nat} {p3 p4 p5 : Pos} (hu : X.A.units + 2 < cLine) (hc : X.calm = true) (hN : X.N.Nodup) (hgl : Gl X "dict") (hm : X.mg "dict" = none) (hi : DI X tg iter ti) (ok : BlkOk X.N X.env.scope scope own) (hws : ∀ i ∈ ws, i ∈ own.map (·.2))
    (hg : ∀ (s : Shared) (H : Hp) (C : Addr) (cl : List (Str × Addr)) (fp : List Addr), DG (X.blk s H scope (compEnvC scope cl C X.env) fp) tg ws g)
    (he : ∀ (s : Shared) (H : Hp) (C : Addr) (cl : List (Str × Addr)) (fp : List Addr), PE (X.blk s H scope (compEnvC scope cl C X.env) fp) (.Tuple [e, .List [] p3] kk p4) (tXt IK (fun ρ P => te ρ fun d => ∃ k, d = tupI k ∧ P k)))
    (n1 : starEach [.ListComp (.Tuple [e, .List [] p3] kk p4) [⟨tg, iter, [], 0⟩] scope p5] X.env = (false, eval (.ListComp (.Tuple [e, .List [] p3] kk p4) [⟨tg, iter, [], 0⟩] scope p5) X.env) :: starEach [] X.env := by rfl)
    (np : (backTo pos (starEach [] X.env)).any (·.1) = false := by rfl) (hs : ∀ x, foldedSetIterable iter X.env x = pure x := by intro _; rfl) :
    DE X (.Call (.Name "dict" p2) [.ListComp (.Tuple [e, .List [] p3] kk p4) [⟨tg, iter, [], 0⟩] scope p5] [] pos) (dDL ti g te (own.map (·.2))) :=
  PE.wk (pe_callTy (cr_dictT hu hc) hgl hm (by decide +kernel) (pa_cons (pe_lc hc hN hi ok hg (fun _ _ _ _ _ => dts_nil) he hs) pa_nil n1) (by decide) (by decide) n1 np) fun σ H Q ⟨G, ρ, A, P, S, h, k⟩ => lcX_of itm_IK hws σ H (fun x H1 => rDictT X.K [x] H1 Q)
    ⟨G, ρ, A, _, S, h, fun ks us ls D G' H' ⟨hnd, p⟩ g hD hG e its nd nD fr => by
      obtain ⟨ps, es, e1, e2, e3, e4⟩ := its.ik (K := X.K) g.gh
      subst e1
      refine ⟨D, ps, es, rfl, SqL.of e, e3, fun q hq => ?_⟩
      have ep : putsE [] es = es := by
        rw [putsE_nodup es [] (by simpa [e2] using hnd)]
        rfl
      rw [ep]
      have qls : ∀ l ∈ ls, l ≠ q := fun l hl z => by
        subst z
        exact (fr _ hl).2.1 hq
      refine k _ (q :: ls) (.ref q) G' (upd H' q (DTO q es)) p ⟨fun b o e => by rw [upd_ne (ne_of_none (g.hh b o e) hq)]; exact g.hh b o e, g.gn, sameUpd g.gh (g.gh.free hq)⟩
        ⟨q, ls, es, rfl, rfl, upd_same, OK.mono (fun _ _ e => e) (fun l hl => upd_ne (qls l hl)) e4⟩ (List.nodup_cons.mpr ⟨fun z => qls q z rfl, nd⟩) fun a ha => ?_
      rcases List.mem_cons.mp ha with z | z
      · subst z; exact ⟨g.hh.free hq, by rw [upd_same]; simp, g.gh.free hq⟩
      · exact ⟨(fr a z).1, by rw [upd_ne (qls a z)]; exact (fr a z).2.1, (fr a z).2.2⟩⟩
/-! append to one of them -/
theorem OO.set {G H : Hp} : ∀ {ls : List Addr} {dss : List (List PyData)} {j : Nat} {l : Addr} {vs : List V} {ds : List PyData}, OO G H ls dss → ls.Nodup → ls[j]? = some l → RA G vs ds → OO G (upd H l (.lst vs)) ls (dss.set j ds)
  | [], [], _, _, _, _, _, _, h, _ => by simp at h
  | a :: ls, d :: dss, 0, l, vs, ds, ⟨h1, h2⟩, nd, e, r => by
    have e' : a = l := by simpa using e
    subst e'
    refine ⟨⟨vs, upd_same, r⟩, OO.mono (fun _ _ q => q) (fun x hx => upd_ne fun z => ?_) h2⟩
    subst z
    exact (List.nodup_cons.mp nd).1 hx
  | a :: ls, d :: dss, j + 1, l, vs, ds, ⟨⟨ws, h1, h1'⟩, h2⟩, nd, e, r => by
    have e' : ls[j]? = some l := by simpa using e
    have ne : a ≠ l := fun z => by
      subst z
      exact (List.nodup_cons.mp nd).1 (List.mem_of_getElem? e')
    exact ⟨⟨ws, by rw [upd_ne ne]; exact h1, h1'⟩, OO.set h2 (List.nodup_cons.mp nd).2 e' r⟩
  | [], _ :: _, _, _, _, _, h, _, _, _ => h.elim
  | _ :: _, [], _, _, _, _, h, _, _, _ => h.elim
theorem OO.get {G H : Hp} : ∀ {ls : List Addr} {dss : List (List PyData)} {j : Nat} {ds : List PyData}, OO G H ls dss → dss[j]? = some ds → ∃ l vs, ls[j]? = some l ∧ H l = some (.lst vs) ∧ RA G vs ds
  | [], [], _, _, _, h => by simp at h
  | a :: ls, d :: dss, 0, ds, ⟨⟨ws, h1, h1'⟩, h2⟩, e => by
    have e' : d = ds := by simpa using e
    subst e'
    exact ⟨a, ws, rfl, h1, h1'⟩
  | a :: ls, d :: dss, j + 1, ds, ⟨_, h2⟩, e => by
    obtain ⟨l, vs, q⟩ := OO.get h2 (by simpa using e : dss[j]? = some ds)
    exact ⟨l, vs, by simpa using q.1, q.2⟩
  | [], _ :: _, _, _, h, _ => h.elim
  | _ :: _, [], _, _, h, _ => h.elim
theorem OK.set {G H : Hp} : ∀ {es : List EnT} {ls : List Addr} {kds : List (List Int × List PyData)} {j : Nat} {l : Addr} {vs : List V} {k : List Int} {ds ds0 : List PyData}, OK G H es ls kds → ls.Nodup → ls[j]? = some l → kds[j]? = some (k, ds0) → RA G vs ds → OK G (upd H l (.lst vs)) es ls (kds.set j (k, ds))
  | [], [], [], _, _, _, _, _, _, _, _, h, _, _ => by simp at h
  | x :: es, a :: ls, d :: kds, 0, l, vs, k, ds, ds0, ⟨⟨h0, h1⟩, h2⟩, nd, e, ek, r => by
    have e' : a = l := by simpa using e
    subst e'
    have ek' : d = (k, ds0) := by simpa using ek
    subst ek'
    refine ⟨⟨h0, vs, upd_same, r⟩, OK.mono (fun _ _ q => q) (fun x hx => upd_ne fun z => ?_) h2⟩
    subst z
    exact (List.nodup_cons.mp nd).1 hx
  | x :: es, a :: ls, d :: kds, j + 1, l, vs, k, ds, ds0, ⟨⟨h0, ws, h1, h1'⟩, h2⟩, nd, e, ek, r => by
    have e' : ls[j]? = some l := by simpa using e
    have ne : a ≠ l := fun z => by
      subst z
      exact (List.nodup_cons.mp nd).1 (List.mem_of_getElem? e')
    exact ⟨⟨h0, ws, by rw [upd_ne ne]; exact h1, h1'⟩, OK.set h2 (List.nodup_cons.mp nd).2 e' (by simpa using ek) r⟩
  | [], [], _ :: _, _, _, _, _, _, _, h, _, _, _, _ => h.elim
  | [], _ :: _, _, _, _, _, _, _, _, h, _, _, _, _ => h.elim
  | _ :: _, [], _, _, _, _, _, _, _, h, _, _, _, _ => h.elim
  | _ :: _, _ :: _, [], _, _, _, _, _, _, h, _, _, _, _ => h.elim
theorem OK.get {G H : Hp} : ∀ {es : List EnT} {ls : List Addr} {kds : List (List Int × List PyData)} {j : Nat} {k : List Int} {ds : List PyData}, OK G H es ls kds → kds[j]? = some (k, ds) → (∀ m q, m < j → kds[m]? = some q → q.1 ≠ k) → ∃ l vs, ls[j]? = some l ∧ atE es k = some (.ref l) ∧ H l = some (.lst vs) ∧ RA G vs ds
  | [], [], [], _, _, _, _, h, _ => by simp at h
  | x :: es, a :: ls, d :: kds, 0, k, ds, ⟨⟨⟨b, h0, _⟩, ws, h1, h1'⟩, h2⟩, e, _ => by
    have e' : d = (k, ds) := by simpa using e
    subst e'
    subst h0
    exact ⟨a, ws, rfl, by simp [atE], h1, h1'⟩
  | x :: es, a :: ls, d :: kds, j + 1, k, ds, ⟨⟨⟨b, h0, _⟩, _⟩, h2⟩, e, hn => by
    obtain ⟨l, vs, q1, q2, q3⟩ := OK.get h2 (by simpa using e : kds[j]? = some (k, ds)) fun m q hm hq => hn (m + 1) q (by omega) (by simpa using hq)
    have := hn 0 d (by omega) rfl
    subst h0
    refine ⟨l, vs, by simpa using q1, ?_, q3⟩
    unfold atE at q2 ⊢
    rw [List.find?_cons, decide_eq_false this]
    exact q2
  | [], [], _ :: _, _, _, _, h, _, _ => h.elim
  | [], _ :: _, _, _, _, _, h, _, _ => h.elim
  | _ :: _, [], _, _, _, _, h, _, _ => h.elim
  | _ :: _, _ :: _, [], _, _, _, h, _, _ => h.elim
theorem OK.keys {K : PySem.W.Frag} {G H : Hp} (s : Same G H) : ∀ {es : List EnT} {ls : List Addr} {kds : List (List Int × List PyData)}, OK G H es ls kds → KeysIn K H es
  | [], [], [], _ => fun _ h => nomatch h
  | x :: es, a :: ls, d :: kds, ⟨⟨⟨b, h0, hb⟩, _⟩, h2⟩ => fun y hy => by
    rcases List.mem_cons.mp hy with z | z
    · subst z; subst h0; exact hb.sq s
    · exact OK.keys s h2 y z
  | [], [], _ :: _, h => h.elim
  | [], _ :: _, _, h => h.elim
  | _ :: _, [], _, h => h.elim
  | _ :: _, _ :: _, [], h => h.elim
def dApO (i : Nat) (tk te : TD) : TDS := fun E ρ => ∃ dss, ρ[i]? = some (.oo dss) ∧ tk ρ fun x => ∃ (j : Int) (ds : List PyData), x = .int j ∧ 0 ≤ j ∧ dss[j.toNat]? = some ds ∧ te ρ fun d => ds.length < 16777216 ∧ E.nx (ρ.set i (.oo (dss.set j.toNat (ds ++ [d]))))
theorem ds_appendO {i : Nat} {k : Expr} {apos cpos spos : Pos} (ho : PE X o (tVar i)) (hk : DP X k tk) (hpx : PlainIx k) (ha : DP X e te) (hbase : attributeBase (.Subscript o k spos) "append" X.env (eval (.Subscript o k spos) X.env) = eval (.Subscript o k spos) X.env := by rfl)
    (hfew : ((backTo cpos (starEach [e] X.env)).all (fun x => !x.1) && (backToKw cpos (keywordEach [] X.env)).all (fun x => x.1.isSome)
      && decide ([e].length + ([] : List Keyword).length + (if ([] : List Keyword).isEmpty then 0 else 1) < 30)) = true := by rfl)
    (hline : (apos.endLine == cpos.line) = true := by rfl) (hs : starEach [e] X.env = (false, eval e X.env) :: starEach [] X.env := by rfl) (hplain : (backTo cpos (starEach [] X.env)).any (·.1) = false := by rfl)
    (hsw : swapsWith (.Call (.Attribute (.Subscript o k spos) "append" apos) [e] [] cpos) none pos.line X.env = pure false := by rfl) :
    DS X (.Expr (.Call (.Attribute (.Subscript o k spos) "append" apos) [e] [] cpos) pos) (dApO i tk te) :=
  PS.wk (ps_expr (pe_bm PySem.F.plainAttrs_list PySem.F.slot_list_append PySem.F.type_list_append mt_append (pe_ix ix_list ho hk hpx) (pa_cons ha pa_nil hs) hbase hfew hline hs hplain) hsw) fun D σ H ⟨T, G0, H0, G, ρ, A, E, S, f, ⟨dss, e0, h⟩, kk⟩ => by
    obtain ⟨l, ls, e1, e2, e3, r⟩ := S.at_ i _ e0
    refine ⟨.ref l, e1, G, ρ, A, _, S, h, fun x v G1 H1 ⟨j, ds, ex, j0, hj, p1⟩ g1 r1 => ?_⟩
    subst ex
    have S1 := S.grow g1
    obtain ⟨l', ls', e1', e2', e3', r'⟩ := S1.at_ i _ e0
    rw [e1] at e1'
    cases e1'
    rw [e2] at e2'
    injection e2' with _ e2'
    subst e2'
    obtain ⟨lj, vs, q1, q2, q3⟩ := r'.get hj
    have nd := S.nod i
    rw [e2] at nd
    refine ⟨l, ls.map V.ref, j, .ref lj, rfl, r1.int_of, SqL.of e3', atI_toNat j0 (by rw [List.getElem?_map, q1]; rfl), .inl ⟨rfl, vs, SqL.of q2⟩, G1, ρ, A, _, S1, p1, fun d w G2 H2 ⟨z, p2⟩ g2 r2 => ?_⟩
    have S2 := S1.grow g2
    obtain ⟨l', ls', e1', e2', e3'', r''⟩ := S2.at_ i _ e0
    rw [e1] at e1'
    cases e1'
    rw [e2] at e2'
    injection e2' with _ e2'
    subst e2'
    refine ⟨lj, vs, w, rfl, rfl, g2.hh _ _ q2, by rw [q3.length, sizeLine_eq]; exact z, ?_⟩
    have hm : lj ∈ A i := by rw [e2]; exact List.mem_cons_of_mem _ (List.mem_of_getElem? q1)
    have ne : l ≠ lj := fun z => by
      subst z
      exact (List.nodup_cons.mp nd).1 (List.mem_of_getElem? q1)
    exact kk.1 _ _ _ _ _ p2 (S2.change hm ⟨l, ls, e1, e2, by rw [upd_ne ne]; exact e3'', r''.set (List.nodup_cons.mp nd).2 q1 ((q3.mono (g2.gg g1.gh)).append (.cons r2 .nil))⟩) (((f.grow S.gh g1).grow g1.gh g2).change hm)
def dApK (i : Nat) (tk te : TD) : TDS := fun E ρ => ∃ kds, ρ[i]? = some (.dl kds) ∧ tk ρ fun x => ∃ (k : List Int) (j : Nat) (ds : List PyData), x = tupI k ∧ kds[j]? = some (k, ds) ∧ (∀ m q, m < j → kds[m]? = some q → q.1 ≠ k) ∧ te ρ fun d => ds.length < 16777216 ∧ E.nx (ρ.set i (.dl (kds.set j (k, ds ++ [d]))))
theorem ds_appendK {i : Nat} {k : Expr} {apos cpos spos : Pos} (hu : X.A.units + 1 < cLine) (ho : PE X o (tVar i)) (hk : DP X k tk) (hpx : NoSl k) (ha : DP X e te) (hbase : attributeBase (.Subscript o k spos) "append" X.env (eval (.Subscript o k spos) X.env) = eval (.Subscript o k spos) X.env := by rfl)
    (hfew : ((backTo cpos (starEach [e] X.env)).all (fun x => !x.1) && (backToKw cpos (keywordEach [] X.env)).all (fun x => x.1.isSome)
      && decide ([e].length + ([] : List Keyword).length + (if ([] : List Keyword).isEmpty then 0 else 1) < 30)) = true := by rfl)
    (hline : (apos.endLine == cpos.line) = true := by rfl) (hs : starEach [e] X.env = (false, eval e X.env) :: starEach [] X.env := by rfl) (hplain : (backTo cpos (starEach [] X.env)).any (·.1) = false := by rfl)
    (hsw : swapsWith (.Call (.Attribute (.Subscript o k spos) "append" apos) [e] [] cpos) none pos.line X.env = pure false := by rfl) :
    DS X (.Expr (.Call (.Attribute (.Subscript o k spos) "append" apos) [e] [] cpos) pos) (dApK i tk te) :=
  PS.wk (ps_expr (pe_bm PySem.F.plainAttrs_list PySem.F.slot_list_append PySem.F.type_list_append mt_append (pe_dgetT hu ho hk hpx) (pa_cons ha pa_nil hs) hbase hfew hline hs hplain) hsw) fun D σ H ⟨T, G0, H0, G, ρ, A, E, S, f, ⟨kds, e0, h⟩, kk⟩ => by
    obtain ⟨l, ls, es, e1, e2, e3, r⟩ := S.at_ i _ e0
    refine ⟨.ref l, e1, G, ρ, A, _, S, h, fun x v G1 H1 ⟨k, j, ds, ex, hj, hn, p1⟩ g1 r1 => ?_⟩
    subst ex
    obtain ⟨b, rfl, hb⟩ := r1.tupI_of
    have S1 := S.grow g1
    have al : ∀ a ∈ l :: ls, a ∈ A i := fun a ha => by rw [e2]; exact ha
    have r1' := OK.mono (g1.gg S.gh) (fun a ha => sameEq g1.hh (S.own i a (al a (List.mem_cons_of_mem _ ha))).1) r
    obtain ⟨lj, vs, q1, q2, q3, q4⟩ := r1'.get hj hn
    have nd := S.nod i
    rw [e2] at nd
    refine ⟨l, b, k, es, .ref lj, rfl, rfl, hb.sq g1.gh, g1.hh _ _ e3, r1'.keys g1.gh, q2, .inl ⟨rfl, vs, SqL.of q3⟩, G1, ρ, A, _, S1, p1, fun d w G2 H2 ⟨z, p2⟩ g2 r2 => ?_⟩
    have S2 := S1.grow g2
    have r2' := OK.mono (g2.gg g1.gh) (fun a ha => sameEq g2.hh (S1.own i a (al a (List.mem_cons_of_mem _ ha))).1) r1'
    refine ⟨lj, vs, w, rfl, rfl, g2.hh _ _ q3, by rw [q4.length, sizeLine_eq]; exact z, ?_⟩
    have hm : lj ∈ A i := al _ (List.mem_cons_of_mem _ (List.mem_of_getElem? q1))
    have ne : l ≠ lj := fun z => by
      subst z
      exact (List.nodup_cons.mp nd).1 (List.mem_of_getElem? q1)
    exact kk.1 _ _ _ _ _ p2 (S2.change hm ⟨l, ls, es, e1, e2, by rw [upd_ne ne]; exact g2.hh _ _ (g1.hh _ _ e3), r2'.set (List.nodup_cons.mp nd).2 q1 hj ((q4.mono (g2.gg g1.gh)).append (.cons r2 .nil))⟩) (((f.grow S.gh g1).grow g1.gh g2).change hm)
end
end DL

-- text DL17
set_option Elab.async false
set_option linter.all false
set_option maxRecDepth 100000
set_option maxHeartbeats 4000000
/-! Draws: expressions that turn the source of draws in slot 0. A reading t ρ n P: ρ without slot 0, n what was counted; P takes the value and the new count. -/
namespace DL
open PySem PySem.Spec PyProof.Rows L2
structure GrowT (a : Addr) (G H G' H' : Hp) : Prop where
  hh : ∀ b o, b ≠ a → H b = some o → H' b = some o
  gg : Same G G'
  gn : ∀ b, b ≠ a → H b ≠ none → G' b = G b
  gh : Same G' H'
  ga : G' a = none
section
variable {a : Addr} {G H G' H' G1 H1 G2 H2 : Hp} {σ : L2.St} {ρ : List SV} {A : Nat → List Addr} {n m : Nat}
theorem TinAt.ne (h : TinAt H a n) : H a ≠ none := by obtain ⟨_, _, _, e, _⟩ := h; rw [e]; exact fun z => nomatch z
theorem TinAt.keep (h : TinAt H a n) (e : H' a = H a) : TinAt H' a n := by obtain ⟨x, y, z, q, r⟩ := h; exact ⟨x, y, z, e.trans q, r⟩
theorem GrowT.alive (g : GrowT a G H G' H') {b : Addr} (hb : b ≠ a) (h : H b ≠ none) : H' b ≠ none := by
  cases e : H b with
  | none => exact absurd e h
  | some o => rw [g.hh b o hb e]; exact fun z => nomatch z
theorem GrowT.eq (g : GrowT a G H G' H') {b : Addr} (hb : b ≠ a) (h : H b ≠ none) : H' b = H b := by
  cases e : H b with
  | none => exact absurd e h
  | some o => exact g.hh b o hb e
theorem GrowT.free (g : GrowT a G H G' H') {b : Addr} (hb : b ≠ a) (h : H' b = none) : H b = none := by
  cases e : H b with
  | none => rfl
  | some o => rw [g.hh b o hb e] at h; cases h
theorem GrowT.refl (s : Same G H) (ha : G a = none) : GrowT a G H G H := ⟨fun _ _ _ e => e, fun _ _ e => e, fun _ _ _ => rfl, s, ha⟩
theorem GrowT.of (g : Grow G H G' H') (s : Same G H) (ha : G a = none) (hh : H a ≠ none) : GrowT a G H G' H' := ⟨fun b o _ e => g.hh b o e, g.gg s, fun b _ h => g.gn b h, g.gh, (g.gn a hh).trans ha⟩
theorem GrowT.trans (g : GrowT a G H G1 H1) (g2 : GrowT a G1 H1 G2 H2) : GrowT a G H G2 H2 :=
  ⟨fun b o hb e => g2.hh b o hb (g.hh b o hb e), fun b o e => g2.gg _ _ (g.gg _ _ e), fun b hb h => (g2.gn b hb (g.alive hb h)).trans (g.gn b hb h), g2.gh, g2.ga⟩
/-- slot 0 is the source -/
theorem SR.tin (S : SR G H σ ρ A) (e : ρ[0]? = some (.tin a n)) : σ[0]? = some (some (.ref a)) ∧ A 0 = [a] ∧ TinAt H a n ∧ G a = none := by
  obtain ⟨h1, h2, h3⟩ := S.at_ 0 _ e
  exact ⟨h1, h2, h3, (S.own 0 a (by rw [h2]; simp)).2⟩
theorem SR.turn (S : SR G H σ ρ A) (e : ρ[0]? = some (.tin a n)) (g : GrowT a G H G' H') (h : TinAt H' a m) : SR G' H' σ (ρ.set 0 (.tin a m)) A := by
  obtain ⟨h1, h2, h3, h4⟩ := S.tin e
  have off : ∀ j b, b ∈ A j → j ≠ 0 → b ≠ a := fun j b hb hj z => by
    subst z
    exact hj (S.dis j 0 b hb (by rw [h2]; simp))
  exact {
    gh := g.gh
    at_ := fun j s q => by
      by_cases hj : j = 0
      · subst hj
        have hl : 0 < ρ.length := (List.getElem?_eq_some_iff.mp e).1
        rw [List.getElem?_set_self hl] at q
        cases q
        exact ⟨h1, h2, h⟩
      · rw [List.getElem?_set_ne (Ne.symm hj)] at q
        exact (S.at_ j s q).mono g.gg fun l hl => g.eq (off j l hl hj) (S.own j l hl).1
    dis := S.dis
    nod := S.nod
    own := fun j b hb => by
      by_cases hz : b = a
      · subst hz; exact ⟨h.ne, g.ga⟩
      · exact ⟨g.alive hz (S.own j b hb).1, (g.gn b hz (S.own j b hb).1).trans (S.own j b hb).2⟩
    len := by rw [List.length_set]; exact S.len }
theorem SR.unTin (S : SR G H σ ρ A) : SR G H σ (ρ.set 0 .un) (setA A 0 []) where
  gh := S.gh
  at_ := fun j s q => by
    by_cases hj : j = 0
    · subst hj
      by_cases hl : 0 < ρ.length
      · rw [List.getElem?_set_self hl] at q; cases q; exact setA_same
      · rw [List.getElem?_eq_none (by simpa using hl)] at q; cases q
    · rw [List.getElem?_set_ne (Ne.symm hj)] at q
      rw [setA_ne hj]
      exact S.at_ j s q
  dis := fun j k b h1 h2 => by
    by_cases hj : j = 0
    · subst hj; rw [setA_same] at h1; cases h1
    · by_cases hk : k = 0
      · subst hk; rw [setA_same] at h2; cases h2
      · rw [setA_ne hj] at h1; rw [setA_ne hk] at h2; exact S.dis j k b h1 h2
  nod := fun j => by
    by_cases hj : j = 0
    · subst hj; rw [setA_same]; exact List.nodup_nil
    · rw [setA_ne hj]; exact S.nod j
  own := fun j b h => by
    by_cases hj : j = 0
    · subst hj; rw [setA_same] at h; cases h
    · rw [setA_ne hj] at h; exact S.own j b h
  len := by rw [List.length_set]; exact S.len
theorem SR.addTin (S : SR G H σ ρ A) (h0 : σ[0]? = some (some (.ref a))) (ht : TinAt H a n) (hg : G a = none) (ha : ∀ i, a ∉ A i) : SR G H σ (ρ.set 0 (.tin a n)) (setA A 0 [a]) := by
  have := S.setOwn 0 (v := .ref a) (s := .tin a n) (as := [a]) ⟨rfl, rfl, ht⟩ (by simp) (fun j b hb h => by
    have e : b = a := by simpa using hb
    subst e
    exact absurd h (ha j)) fun b hb => by
      have e : b = a := by simpa using hb
      subst e
      exact ⟨ht.ne, hg⟩
  have e : σ.set 0 (some (.ref a)) = σ := by
    cases σ with
    | nil => rfl
    | cons x r =>
      have : x = some (.ref a) := by simpa using h0
      rw [this]; rfl
  rwa [e] at this
theorem set_tin (ρ : List SV) (x : SV) : (ρ.set 0 x).set 0 .un = ρ.set 0 .un := by rw [List.set_set]
theorem get_tin {ρ : List SV} {s x : SV} (e : ρ[0]? = some s) : (ρ.set 0 x)[0]? = some x := List.getElem?_set_self (List.getElem?_eq_some_iff.mp e).1
end
abbrev TM := List SV → Nat → (PyData → Nat → Prop) → Prop
abbrev TMs := List SV → Nat → (List PyData → Nat → Prop) → Prop
abbrev TMT := List SV → Nat → (Bool → Nat → Prop) → Prop
def tM (t : TM) : TE := fun σ H Q => ∃ G ρ A a n P, SR G H σ ρ A ∧ ρ[0]? = some (.tin a n) ∧ t (ρ.set 0 .un) n P ∧ ∀ d v m G' H', P d m → GrowT a G H G' H' → TinAt H' a m → RD G' v d → Q v H'
def tMs (t : TMs) : TA := fun σ H Q => ∃ G ρ A a n P, SR G H σ ρ A ∧ ρ[0]? = some (.tin a n) ∧ t (ρ.set 0 .un) n P ∧ ∀ ds vs m G' H', P ds m → GrowT a G H G' H' → TinAt H' a m → RA G' vs ds → Q vs H'
def tMT (t : TMT) : TT := fun σ H Q => ∃ G ρ A a n P, SR G H σ ρ A ∧ ρ[0]? = some (.tin a n) ∧ t (ρ.set 0 .un) n P ∧ ∀ b m G' H', P b m → GrowT a G H G' H' → TinAt H' a m → Q b H'
def DM (X : Cx) (e : Expr) (t : TM) : Prop := PE X e (tM t)
def DMA (X : Cx) (es : List Expr) (t : TMs) : Prop := PA X es (tMs t)
def DMT (X : Cx) (e : Expr) (t : TMT) : Prop := PT X e (tMT t)
def DMW (X : Cx) (e : Expr) (t : TMT) : Prop := PW X e (tMT t)
section
variable {X : Cx} {a b e : Expr} {es rest : List Expr} {ta tb t : TM} {ts tr : TMs} {tA tB' : TMT} {pos : Pos}
/-- what does not draw -/
def mP (t : TD) : TM := fun ρ n P => t ρ fun d => P d n
def mPT (t : TDT) : TMT := fun ρ n P => t ρ fun d => P d n
theorem tP_tM {t : TD} : ∀ σ H Q, tM (mP t) σ H Q → tP t σ H Q := fun σ H Q ⟨G, ρ, A, a, n, P, S, e0, h, k⟩ =>
  let ⟨_, _, h3, h4⟩ := S.tin e0
  ⟨G, ρ.set 0 .un, _, _, S.unTin, h, fun d v G' H' p g r => k d v n G' H' p (.of g S.gh h4 h3.ne) (h3.keep (sameEq g.hh h3.ne)) r⟩
theorem dm_of {t : TD} (h : DP X e t) : DM X e (mP t) := PE.wk h tP_tM
theorem dmt_of {t : TDT} (h : DT X e t) : DMT X e (mPT t) := PT.wk h fun σ H Q ⟨G, ρ, A, a, n, P, S, e0, h, k⟩ =>
  let ⟨_, _, h3, h4⟩ := S.tin e0
  ⟨G, ρ.set 0 .un, _, _, S.unTin, h, fun d G' H' p g => k d n G' H' p (.of g S.gh h4 h3.ne) (h3.keep (sameEq g.hh h3.ne))⟩
def mOp (g : GD2) (ta tb : TM) : TM := fun ρ n P => ta ρ n fun x n1 => tb ρ n1 fun y n2 => g x y fun d => P d n2
theorem tM_op {r : R2} {g : GD2} (o : OpD r g) : ∀ σ H Q, tM (mOp g ta tb) σ H Q → tOp r (tM ta) (tM tb) σ H Q := fun σ H Q ⟨G, ρ, A, a, n, P, S, e0, h, k⟩ =>
  ⟨G, ρ, A, a, n, _, S, e0, h, fun x v1 n1 G1 H1 p1 g1 t1 r1 => ⟨G1, _, A, a, n1, _, S.turn e0 g1 t1, get_tin e0, by rw [set_tin]; exact p1, fun y v2 n2 G2 H2 p2 g2 t2 r2 =>
    o G2 H2 v1 v2 x y _ Q g2.gh (r1.mono g2.gg) r2 p2 fun d v G3 H3 p3 g3 r3 => k d v n2 G3 H3 p3 ((g1.trans g2).trans (.of g3 g2.gh g2.ga t2.ne)) (t2.keep (sameEq g3.hh t2.ne)) r3⟩⟩
theorem dm_op {op : Operator} {r : R2} {g : GD2} (ho : OpR X (binaryOp op) r) (o : OpD r g) (ha : DM X a ta) (hb : DM X b tb) : DM X (.BinOp a op b pos) (mOp g ta tb) := PE.wk (pe_op ho ha hb) (tM_op o)
theorem dm_cmp {op : CmpOp} {r : R2} {g : GD2} (ho : OpR X (compareOp op) r) (o : OpD r g) (ha : DM X a ta) (hb : DM X b tb) (hm : behindInMarks op b = false) : DM X (.Compare a [op] [b] pos) (mOp g ta tb) := PE.wk (pe_cmpR ho ha hb hm) (tM_op o)
def mB (t : TM) : TMT := fun ρ n P => t ρ n fun d m => ∃ b, d = .bool b ∧ P b m
theorem dmt_cmp {op : CmpOp} {r : R2} {g : GD2} (ho : OpR X (compareOp op) r) (o : OpD r g) (ha : DM X a ta) (hb : DM X b tb) (hm : behindInMarks op b = false) : DMT X (.Compare a [op] [b] pos) (mB (mOp g ta tb)) :=
  PT.wk (pt_cmpR ho ha hb hm) fun σ H Q ⟨G, ρ, A, a, n, P, S, e0, h, k⟩ => tM_op o σ H _ ⟨G, ρ, A, a, n, _, S, e0, h, fun d v m G' H' ⟨b, e, p⟩ g t r => by subst e; exact ⟨b, r.bl_of, k b m G' H' p g t⟩⟩
def mAnd (tA tB : TMT) : TMT := fun ρ n P => tA ρ n fun c m => if c = true then tB ρ m P else P false m
theorem dmw_and1 (ha : DMT X a tA) : DMW X (.BoolOp .And [a] pos) tA := pw_and1 ha
theorem dmw_and (ha : DMT X a tA) (hb : DMW X (.BoolOp .And (b :: rest) pos) tB') : DMW X (.BoolOp .And (a :: b :: rest) pos) (mAnd tA tB') :=
  PW.wk (pw_and ha hb) fun σ H Q ⟨G, ρ, A, a, n, P, S, e0, h, k⟩ => ⟨G, ρ, A, a, n, _, S, e0, h, fun c m G' H' p g t => by
    cases c with
    | true => exact ⟨G', _, A, a, m, P, S.turn e0 g t, get_tin e0, by rw [set_tin]; exact p, fun b m2 G2 H2 q g2 t2 => k b m2 G2 H2 q (g.trans g2) t2⟩
    | false => exact k false m G' H' p g t⟩
theorem DMW.dt {t : TMT} (h : DMW X e t) : DMT X e t := PW.pt h
def mIf (c : TMT) (ta tb : TM) : TM := fun ρ n P => c ρ n fun x m => if x = true then ta ρ m P else tb ρ m P
theorem dm_if {c : Expr} (hc : DMT X c tA) (ha : DM X a ta) (hb : DM X b tb) : DM X (.IfExp c a b pos) (mIf tA ta tb) :=
  PE.wk (pe_ifExp hc ha hb) fun σ H Q ⟨G, ρ, A, a, n, P, S, e0, h, k⟩ => ⟨G, ρ, A, a, n, _, S, e0, h, fun c m G' H' p g t => by
    cases c with
    | true => exact ⟨G', _, A, a, m, P, S.turn e0 g t, get_tin e0, by rw [set_tin]; exact p, fun d v m2 G2 H2 q g2 t2 r2 => k d v m2 G2 H2 q (g.trans g2) t2 r2⟩
    | false => exact ⟨G', _, A, a, m, P, S.turn e0 g t, get_tin e0, by rw [set_tin]; exact p, fun d v m2 G2 H2 q g2 t2 r2 => k d v m2 G2 H2 q (g.trans g2) t2 r2⟩⟩
/-! argument lists -/
def mNil : TMs := fun _ n P => P [] n
def mCons (ta : TM) (tr : TMs) : TMs := fun ρ n P => ta ρ n fun x m => tr ρ m fun xs m2 => P (x :: xs) m2
theorem dma_nil : DMA X [] mNil := PA.wk pa_nil fun σ H Q ⟨G, ρ, A, a, n, P, S, e0, h, k⟩ =>
  let ⟨_, _, h3, h4⟩ := S.tin e0
  k [] [] n G H h (.refl S.gh h4) h3 .nil
theorem dma_cons (ha : DM X e ta) (hr : DMA X es tr) (hs : starEach (e :: es) X.env = (false, eval e X.env) :: starEach es X.env := by rfl) : DMA X (e :: es) (mCons ta tr) :=
  PA.wk (pa_cons ha hr hs) fun σ H Q ⟨G, ρ, A, a, n, P, S, e0, h, k⟩ => ⟨G, ρ, A, a, n, _, S, e0, h, fun x v m G1 H1 p g t r => ⟨G1, _, A, a, m, _, S.turn e0 g t, get_tin e0, by rw [set_tin]; exact p,
    fun xs vs m2 G2 H2 p2 g2 t2 r2 => k (x :: xs) (v :: vs) m2 G2 H2 p2 (g.trans g2) t2 (.cons (r.mono g2.gg) r2)⟩⟩
def mTup (t : TMs) : TM := fun ρ n P => t ρ n fun ds m => ds.length ≤ 16777216 ∧ P (.tuple ds) m
theorem dm_tup {x1} (h : DMA X es ts) : DM X (.Tuple es x1 pos) (mTup ts) :=
  PE.wk (pe_tup h) fun σ H Q ⟨G, ρ, A, a, n, P, S, e0, h, k⟩ => ⟨G, ρ, A, a, n, _, S, e0, h, fun ds vs m G1 H1 ⟨z, p⟩ g t r => ⟨by rw [r.length, sizeLine_eq]; exact z, fun l hl => by
    have g2 := Grow.new (o := .tup vs) g.gh hl
    exact k _ _ m _ _ p (g.trans (.of g2 g.gh g.ga t.ne)) (t.keep (sameEq g2.hh t.ne)) (.tup (.inl upd_same) (r.mono (g2.gg g.gh)))⟩⟩
def mApp (g : TF) (t : TMs) : TM := fun ρ n P => t ρ n fun ds m => g ds fun d => P d m
theorem tM_cb {r : List V → Hp → VK → Prop} {g : TF} (o : CallD r g) : ∀ σ H Q, tM (mApp g ts) σ H Q → tCB r (tMs ts) σ H Q := fun σ H Q ⟨G, ρ, A, a, n, P, S, e0, h, k⟩ =>
  ⟨G, ρ, A, a, n, _, S, e0, h, fun ds vs m G1 H1 p g t r => o G1 H1 vs ds _ Q g.gh r p fun d v G2 H2 p2 g2 r2 => k d v m G2 H2 p2 (g.trans (.of g2 g.gh g.ga t.ne)) (t.keep (sameEq g2.hh t.ne)) r2⟩
theorem dm_callB {x : Str} {id : String} {p : Pos} {r : List V → Hp → VK → Prop} {g : TF} (hc : CallR X (.builtin id) r) (o : CallD r g) (hg : Gl X x) (hm : X.mg x = none) (hv : bootBuiltins x = some (.builtin id)) (ha : DMA X (e :: es) ts) (hn : x ≠ "__name__" := by decide) (hdb : (x == ("__debug__" : Str)) = false := by decide)
    (he : starEach (e :: es) X.env = (false, eval e X.env) :: starEach es X.env := by rfl) (hpl : (backTo pos (starEach es X.env)).any (·.1) = false := by rfl) : DM X (.Call (.Name x p) (e :: es) [] pos) (mApp g ts) := PE.wk (pe_callB hc hg hm hv ha hn hdb he hpl) (tM_cb o)
theorem dm_callTy {x : Str} {T : String} {p : Pos} {r : List V → Hp → VK → Prop} {g : TF} (hc : CallR X (.type T) r) (o : CallD r g) (hg : Gl X x) (hm : X.mg x = none) (hv : bootBuiltins x = some (.type T)) (ha : DMA X (e :: es) ts) (hn : x ≠ "__name__" := by decide) (hdb : (x == ("__debug__" : Str)) = false := by decide)
    (he : starEach (e :: es) X.env = (false, eval e X.env) :: starEach es X.env := by rfl) (hpl : (backTo pos (starEach es X.env)).any (·.1) = false := by rfl) : DM X (.Call (.Name x p) (e :: es) [] pos) (mApp g ts) := PE.wk (pe_callTy hc hg hm hv ha hn hdb he hpl) (tM_cb o)
theorem dm_ix (ha : DM X a ta) (hb : DM X b tb) (hs : PlainIx b) : DM X (.Subscript a b pos) (mOp gIx ta tb) := PE.wk (pe_ix ix_2 ha hb hs) (tM_op od_ix)
theorem dm_unz (h : DM X a ta) : DM X a (fun ρ n P => ta ρ n fun d m => ∃ ds, d = zD ds ∧ P (.tuple ds) m) := PE.wk h fun σ H Q ⟨G, ρ, A, a, n, P, S, e0, h, k⟩ => ⟨G, ρ, A, a, n, _, S, e0, h, fun d v m G1 H1 ⟨ds, e, p⟩ g t r => by
  subst e
  exact k _ _ _ _ _ p g t r.z⟩
/-! ### defs that draw -/
abbrev TFM := List PyData → Nat → (PyData → Nat → Prop) → Prop
def spT (C : TFM) : Sp := fun vs H Q _ => ∃ G ds n P a ws, vs = .ref a :: ws ∧ Same G H ∧ G a = none ∧ TinAt H a n ∧ RA G ws ds ∧ C ds n P ∧ ∀ d v m G' H', P d m → GrowT a G H G' H' → TinAt H' a m → RD G' v d → Q v H'
def OkT (P : Program) (w : World) (K : PySem.W.Frag) (mg : Str → Option Value) (base : Heap) (x : Str) (ps : List Str) (k : Nat) (C : TFM) : Prop :=
  ∃ fd, FnOk P w K mg base CX0 k (He.ga K x) fd ps (spT C) ∧ Binds K fd ps [] ∧ PySem.W.keepIn K (.ref (He.ga K x)) = true ∧ mg x = some (.ref (He.ga K x))
def mFn (C : TFM) (ts : TMs) : TM := fun ρ n P => ts ρ n fun ds m => C ds m P
theorem dm_fn {x : Str} {p : Pos} {k j : Nat} {ps : List Str} {C : TFM} (F : OkT X.prog X.w X.K X.mg X.base x ps k C) (hr : Room j X.A) (hg : Gl X x) (h0 : PE X e (tVar 0)) (ha : DMA X es ts) (hkj : k ≤ j := by decide)
    (hdb : (x == ("__debug__" : Str)) = false := by decide) (he : starEach (e :: es) X.env = (false, eval e X.env) :: starEach es X.env := by rfl) (hpl : (backTo pos (starEach es X.env)).any (·.1) = false := by rfl) :
    DM X (.Call (.Name x p) (e :: es) [] pos) (mFn C ts) := by
  obtain ⟨fd, F, hb, hk, hm⟩ := F
  exact PE.wk (pe_call F (hr.mono hkj) hg hm hk hb .nil pass0 (pa_cons h0 ha he) hdb he hpl) fun σ H Q ⟨G, ρ, A, a, n, P, S, e0, h, kk⟩ => by
    obtain ⟨h1, h2, h3, h4⟩ := S.tin e0
    refine ⟨.ref a, h1, G, ρ, A, a, n, _, S, e0, h, fun ds vs m G1 H1 p g t r => ?_⟩
    exact ⟨G1, ds, m, P, a, vs, by rw [List.append_nil], g.gh, g.ga, t, r, p, fun d v m2 G2 H2 p2 g2 t2 r2 => kk d v m2 G2 H2 p2 (g.trans g2) t2 r2⟩
end
end DL

-- text DL18
set_option Elab.async false
set_option linter.all false
set_option maxRecDepth 100000
set_option maxHeartbeats 4000000
/-! Draws: fresh lists, statements, defs; the source itself. -/
namespace DL
open PySem PySem.Spec PyProof.Rows L2
section
variable {a : Addr} {G H G' H' G0 H0 : Hp} {T : Addr → Prop} {σ : L2.St} {ρ : List SV} {A : Nat → List Addr} {n m : Nat}
theorem Fr0.turn (f : Fr0 T G0 H0 G H A) (h0 : A 0 = [a]) (g : GrowT a G H G' H') (h : TinAt H' a m) : Fr0 T G0 H0 G' H' A where
  hh := fun b o e nT => by
    have hb : b ≠ a := fun z => by
      subst z
      rcases f.own 0 b (by rw [h0]; simp) with q | q
      · rw [q] at e; cases e
      · exact nT q
    exact g.hh b o hb (f.hh b o e nT)
  gg := fun b o e => g.gg _ _ (f.gg _ _ e)
  gn := fun b hb nT => by
    have hb' : b ≠ a := fun z => by
      subst z
      rcases f.own 0 b (by rw [h0]; simp) with q | q
      · exact hb q
      · exact nT q
    have hH : H b ≠ none := by
      cases e : H0 b with
      | none => exact absurd e hb
      | some o => rw [f.hh b o e nT]; exact fun z => nomatch z
    exact (g.gn b hb' hH).trans (f.gn b hb nT)
  own := f.own
  tt := fun t ht hn => by
    by_cases z : t = a
    · subst z; exact h.ne
    · exact g.alive z (f.tt t ht hn)
end
abbrev TMF := List SV → Nat → (List PyData → Nat → Prop) → Prop
def tMF (t : TMF) : TE := fun σ H Q => ∃ G ρ A a n P, SR G H σ ρ A ∧ ρ[0]? = some (.tin a n) ∧ t (ρ.set 0 .un) n P ∧ ∀ ds vs l m G' H', P ds m → GrowT a G H G' H' → TinAt H' a m → H l = none → G' l = none → H' l = some (.lst vs) → RA G' vs ds → Q (.ref l) H'
def MF (X : Cx) (e : Expr) (t : TMF) : Prop := PE X e (tMF t)
section
variable {X : Cx} {b e o : Expr} {es rest : List Expr} {t te tk : TM} {ts : TMs} {tA : TMT} {pos : Pos}
theorem mf_of {t : TDF} (h : DF X e t) : MF X e (fun ρ n P => t ρ fun ds => P ds n) := PE.wk h fun σ H Q ⟨G, ρ, A, a, n, P, S, e0, h, k⟩ =>
  let ⟨_, _, h3, h4⟩ := S.tin e0
  ⟨G, ρ.set 0 .un, _, _, S.unTin, h, fun ds vs l G' H' p g hl gl e r => k ds vs l n G' H' p (.of g S.gh h4 h3.ne) (h3.keep (sameEq g.hh h3.ne)) hl gl e r⟩
theorem mf_lst (h : DMA X es ts) : MF X (.List es pos) (fun ρ n P => ts ρ n fun ds m => ds.length ≤ 16777216 ∧ P ds m) := PE.wk (pe_lst h) fun σ H Q ⟨G, ρ, A, a, n, P, S, e0, h, k⟩ =>
  let ⟨_, _, h3, h4⟩ := S.tin e0
  ⟨G, ρ, A, a, n, _, S, e0, h, fun ds vs m G1 H1 ⟨z, p⟩ g t r => ⟨by rw [r.length, sizeLine_eq]; exact z, fun l hl => by
    have hla : l ≠ a := fun z => by subst z; exact t.ne hl
    have g2 : GrowT a G1 H1 G1 (upd H1 l (.lst vs)) := ⟨fun b o _ e => by rw [upd_ne (ne_of_none e hl)]; exact e, fun _ _ e => e, fun _ _ _ => rfl, sameUpd g.gh (g.gh.free hl), g.ga⟩
    exact k ds vs l m G1 _ p (g.trans g2) (t.keep (upd_ne (Ne.symm hla))) (g.free hla hl) (g.gh.free hl) upd_same r⟩⟩
/-- freezing -/
theorem GrowT.freeze {a : Addr} {G H G' H' : Hp} {l : Addr} {vs : List V} (g : GrowT a G H G' H') (hla : l ≠ a) (h0 : H l = none) (h1 : H' l = some (.lst vs)) (hg : G' l = none) : GrowT a G H (upd G' l (.lst vs)) H' :=
  ⟨g.hh, fun b o e => by
    have ne : b ≠ l := fun z => by
      subst z
      rw [g.gg _ _ e] at hg; cases hg
    rw [upd_ne ne]; exact g.gg _ _ e, fun b hb h => by rw [upd_ne (fun z => h (by rw [z]; exact h0))]; exact g.gn b hb h, fun b o e => by
    by_cases z : b = l
    · subst z; rw [upd_same] at e; cases e; exact h1
    · rw [upd_ne z] at e; exact g.gh b o e, by rw [upd_ne (Ne.symm hla)]; exact g.ga⟩
theorem MF.dm {t : TMF} (h : MF X e t) : DM X e (fun ρ n P => t ρ n fun ds m => P (.list ds) m) := PE.wk h fun σ H Q ⟨G, ρ, A, a, n, P, S, e0, h, k⟩ =>
  let ⟨_, _, h3, h4⟩ := S.tin e0
  ⟨G, ρ, A, a, n, _, S, e0, h, fun ds vs l m G' H' p g t hl gl e r => by
    have hla : l ≠ a := fun z => by subst z; exact h3.ne hl
    refine k (.list ds) (.ref l) m _ H' p (g.freeze hla hl e gl) t (.lst upd_same (r.mono fun b o q => ?_))
    rw [upd_ne (ne_of_none q gl)]; exact q⟩
/-- comprehensions whose items draw -/
def mLc (ti : TDI) (g : TDG) (te : TM) (vs : List Nat) : TMF := fun ρ n P => ti ρ fun xs => ∃ R : Nat → List PyData → Nat → Prop, R 0 [] n ∧
  (∀ i x acc n1, xs[i]? = some x → R i acc n1 → acc.length < 16777216 ∧ g x (wipeD ρ vs) fun ρ2 => te (ρ2.set 0 .un) n1 fun y n2 => R (i + 1) (acc ++ [y]) n2) ∧ ∀ acc n1, R xs.length acc n1 → P acc n1
theorem wipeA_zero {A : Nat → List Addr} {vs : List Nat} (h : 0 ∉ vs) : wipeA A vs 0 = A 0 := by unfold wipeA; rw [if_neg h]
theorem wipe_zero {σ : L2.St} {vs : List Nat} (h : 0 ∉ vs) : (wipe σ vs)[0]? = σ[0]? := by rw [wipe_at, if_neg fun z => h z.1]
theorem mlc_of {ti : TDI} {ws vs : List Nat} {g : TDG} {te : TM} (hws : ∀ i ∈ ws, i ∈ vs) (hz : 0 ∉ vs) : ∀ σ H Q, tMF (mLc ti g te vs) σ H Q → tLc (tIt ti) (tGt ws g) (tPT dYes) (tM te) vs σ H Q := fun σ H Q ⟨G, ρ, A, a, n, P, S, e0, h, k⟩ =>
  ⟨G, ρ.set 0 .un, _, _, S.unTin, h, fun xs J G1 H1 ⟨R, r0, turn, fin⟩ g1 it D hD => by
    obtain ⟨s1, s2, s3, s4⟩ := S.tin e0
    have gT1 : GrowT a G H G1 H1 := .of g1 S.gh s4 s3.ne
    have t1 : TinAt H1 a n := s3.keep (sameEq g1.hh s3.ne)
    have hDa : D ≠ a := fun z => by subst z; exact t1.ne hD
    refine ⟨fun i m H' => m = xs.length - i ∧ i ≤ xs.length ∧ ∃ G' acc us n', GrowT a G1 H1 G' H' ∧ TinAt H' a n' ∧ G' D = none ∧ H' D = some (.lst us) ∧ RA G' us acc ∧ R i acc n', ⟨xs.length, by simp, Nat.zero_le _, G1, [], [], n, ?_, t1.keep (upd_ne (Ne.symm hDa)), g1.gh.free hD, upd_same, .nil, r0⟩, ?_⟩
    · exact ⟨fun b o _ e => by rw [upd_ne (ne_of_none e hD)]; exact e, fun _ _ e => e, fun _ _ _ => rfl, sameUpd g1.gh (g1.gh.free hD), gT1.ga⟩
    rintro i m H2 ⟨rfl, hi, G2, acc, us, n2, g2, t2, d1, d2, ra, ri⟩
    obtain ⟨it1, it2⟩ := it G2 H2 g2.gg g2.gh
    by_cases hlt : i < xs.length
    · obtain ⟨x, hx⟩ : ∃ x, xs[i]? = some x := ⟨_, List.getElem?_eq_getElem hlt⟩
      obtain ⟨go, yl⟩ := it1 i x hx
      obtain ⟨hzl, tr⟩ := turn i x acc n2 hx ri
      refine .inr ⟨go, fun H' => i + 1 ≤ xs.length ∧ ∃ G' acc us n', GrowT a G1 H1 G' H' ∧ TinAt H' a n' ∧ G' D = none ∧ H' D = some (.lst us) ∧ RA G' us acc ∧ R (i + 1) acc n', fun H' ⟨p, q⟩ => ⟨xs.length - (i + 1), by omega, rfl, p, q⟩, fun v H3 yv => ?_⟩
      obtain ⟨G3, g3, rv⟩ := yl v H3 yv
      have g3T : GrowT a G2 H2 G3 H3 := .of g3 g2.gh g2.ga t2.ne
      have t3 : TinAt H3 a n2 := t2.keep (sameEq g3.hh t2.ne)
      have gall3 := (gT1.trans g2).trans g3T
      have S3 : SR G3 H3 (wipe σ vs) (wipeD (ρ.set 0 .un) vs) (wipeA (setA A 0 []) vs) := by
        have := ((S.turn e0 gall3 t3).unTin).wipe vs
        rwa [set_tin] at this
      have d1' : G3 D = none := (g3.gn D (by rw [d2]; exact fun z => nomatch z)).trans d1
      have d2' : H3 D = some (.lst us) := g3.hh _ _ d2
      refine ⟨G3, _, _, x, _, S3, rv, tr, fun σ4 ρ4 A4 p4 S4 t4 => ⟨wipe_eq t4 hws, G3, ρ4, A4, (fun b => b = true ∧ te (ρ4.set 0 .un) n2 fun y n3 => R (i + 1) (acc ++ [y]) n3), S4, ⟨rfl, p4⟩, fun b G5 H5 ⟨hb, p5⟩ g5 => ?_⟩⟩
      subst hb
      have d1'' : G5 D = none := (g5.gn D (by rw [d2']; exact fun z => nomatch z)).trans d1'
      have d2'' : H5 D = some (.lst us) := g5.hh _ _ d2'
      have g5T : GrowT a G3 H3 G5 H5 := .of g5 g3T.gh g3T.ga t3.ne
      have t5 : TinAt H5 a n2 := t3.keep (sameEq g5.hh t3.ne)
      have z4 : σ4[0]? = some (some (.ref a)) := by
        rw [t4.sl 0 (fun z => hz (hws 0 z)), wipe_zero hz]; exact s1
      have a4 : ∀ i, a ∉ A4 i := fun i hi => by
        have := t4.ad i a hi
        have q : a ∈ setA A 0 [] i := wipeA_sub this
        by_cases z : i = 0
        · subst z; rw [setA_same] at q; cases q
        · rw [setA_ne z] at q
          exact z (S.dis i 0 a q (by rw [s2]; simp))
      have S5 := (S4.grow g5).addTin z4 t5 g5T.ga a4
      have l4 : 0 < ρ4.length := by
        rw [← S4.len]
        exact (List.getElem?_eq_some_iff.mp z4).1
      refine ⟨G5, _, _, a, n2, _, S5, List.getElem?_set_self l4, by rw [set_tin]; exact p5, fun y w n3 G6 H6 p6 g6 t6 r6 => ?_⟩
      have hDD : H5 D ≠ none := by rw [d2'']; exact fun z => nomatch z
      have d16 : G6 D = none := (g6.gn D hDa hDD).trans d1''
      have d26 : H6 D = some (.lst us) := (g6.eq hDa hDD).trans d2''
      have gall := ((g2.trans g3T).trans g5T).trans g6
      have g26 := (g3T.trans g5T).trans g6
      refine ⟨us, d26, by rw [ra.length, sizeLine_eq]; exact hzl, hlt, G6, acc ++ [y], us ++ [w], n3, ⟨fun b o hb e => ?_, gall.gg, gall.gn, sameUpd gall.gh d16, gall.ga⟩, t6.keep (upd_ne (Ne.symm hDa)), d16, upd_same, (ra.mono g26.gg).append (.cons r6 .nil), p6⟩
      rw [upd_ne (ne_of_none e hD)]
      exact gall.hh b o hb e
    · have e : i = xs.length := by omega
      subst e
      exact .inl ⟨it2 _ (Nat.le_refl _), k acc us D n2 G2 H2 (fin acc n2 ri) (gT1.trans g2) t2 (g1.hh.free hD) d1 d2 ra⟩⟩
theorem mf_lc {elt tg iter : Expr} {scope : Scope} {own : List (Str × Nat)} {ti : TDI} {ws : List Nat} {g : TDG} (hc : X.calm = true) (hN : X.N.Nodup) (hi : DI X tg iter ti) (ok : BlkOk X.N X.env.scope scope own) (hws : ∀ i ∈ ws, i ∈ own.map (·.2)) (hz : 0 ∉ own.map (·.2))
    (hg : ∀ (s : Shared) (H : Hp) (C : Addr) (cl : List (Str × Addr)) (fp : List Addr), DG (X.blk s H scope (compEnvC scope cl C X.env) fp) tg ws g)
    (he : ∀ (s : Shared) (H : Hp) (C : Addr) (cl : List (Str × Addr)) (fp : List Addr), DM (X.blk s H scope (compEnvC scope cl C X.env) fp) elt te) (hs : ∀ x, foldedSetIterable iter X.env x = pure x := by intro _; rfl) :
    MF X (.ListComp elt [⟨tg, iter, [], 0⟩] scope pos) (mLc ti g te (own.map (·.2))) := PE.wk (pe_lc hc hN hi ok hg (fun _ _ _ _ _ => dts_nil) he hs) (mlc_of hws hz)
/-! ### statements -/
variable {st : Stmt} {sts : List Stmt}
theorem dsm_ret (h : DM X e te) : DS X (.Return (some e) pos) (fun E ρ => ∃ a n, ρ[0]? = some (.tin a n) ∧ te (ρ.set 0 .un) n fun d m => E.rt d (ρ.set 0 (.tin a m))) := PS.wk (ps_ret h) fun D σ H ⟨T, G0, H0, G, ρ, A, E, S, f, ⟨a, n, e0, h⟩, k⟩ =>
  ⟨G, ρ, A, a, n, _, S, e0, h, fun d v m G' H' p g t r => k.2.1 d _ σ v G' H' A p (S.turn e0 g t) (f.turn (S.tin e0).2.1 g t) r⟩
theorem dsm_if {c : Expr} {x y : List Stmt} {t u : TDS} (hc : DMT X c tA) (ha : DSs X x t) (hb : DSs X y u) : DS X (.If c x y pos) (fun E ρ => ∃ a n, ρ[0]? = some (.tin a n) ∧ tA (ρ.set 0 .un) n fun b m => if b = true then t E (ρ.set 0 (.tin a m)) else u E (ρ.set 0 (.tin a m))) :=
  PS.wk (ps_if hc ha hb) fun D σ H ⟨T, G0, H0, G, ρ, A, E, S, f, ⟨a, n, e0, h⟩, k⟩ => ⟨G, ρ, A, a, n, _, S, e0, h, fun b m G' H' p g t => by
    cases b with
    | true => exact ⟨T, G0, H0, G', _, A, E, S.turn e0 g t, f.turn (S.tin e0).2.1 g t, p, k⟩
    | false => exact ⟨T, G0, H0, G', _, A, E, S.turn e0 g t, f.turn (S.tin e0).2.1 g t, p, k⟩⟩
theorem dsm_set {i : Nat} {x : Str} {pos' : Pos} (hN : X.N.Nodup) (hi : X.N[i]? = some x) (hx : Loc X.env.scope x) (he : DM X e te) (hs : swapsWith e (some (.Name x pos')) pos.line X.env = pure false := by rfl) (hf : X.fn x = true ∨ X.env.scope.names.lookup x = some .local := by first | exact .inl rfl | exact .inr rfl | assumption) :
    DS X (.Assign [.Name x pos'] e pos) (fun E ρ => ∃ a n, ρ[0]? = some (.tin a n) ∧ te (ρ.set 0 .un) n fun d m => E.nx ((ρ.set 0 (.tin a m)).set i (.sh d))) :=
  PS.wk (ps_set hN hi hx he hs hf) fun D σ H ⟨T, G0, H0, G, ρ, A, E, S, f, ⟨a, n, e0, h⟩, k⟩ => ⟨G, ρ, A, a, n, _, S, e0, h, fun d v m G' H' p g t r =>
    k.1 _ _ _ _ _ p ((S.turn e0 g t).set i r) ((f.turn (S.tin e0).2.1 g t).sub fun j a hm => by
      by_cases hj : j = i
      · subst hj; rw [setA_same] at hm; cases hm
      · rw [setA_ne hj] at hm; exact hm)⟩
theorem dsm_setF {i : Nat} {x : Str} {pos' : Pos} {t : TMF} (hN : X.N.Nodup) (hi : X.N[i]? = some x) (hx : Loc X.env.scope x) (he : MF X e t) (hs : swapsWith e (some (.Name x pos')) pos.line X.env = pure false := by rfl) (hf : X.fn x = true ∨ X.env.scope.names.lookup x = some .local := by first | exact .inl rfl | exact .inr rfl | assumption) :
    DS X (.Assign [.Name x pos'] e pos) (fun E ρ => ∃ a n, ρ[0]? = some (.tin a n) ∧ t (ρ.set 0 .un) n fun ds m => E.nx ((ρ.set 0 (.tin a m)).set i (.ow ds))) :=
  PS.wk (ps_set hN hi hx he hs hf) fun D σ H ⟨T, G0, H0, G, ρ, A, E, S, f, ⟨a, n, e0, h⟩, k⟩ => ⟨G, ρ, A, a, n, _, S, e0, h, fun ds vs l m G' H' p g t hl gl e r => by
    obtain ⟨S2, f2⟩ := take1 (S.turn e0 g t) (f.turn (S.tin e0).2.1 g t) f.back (as := [l]) (fun j b hb hj => by
      have q : b = l := by simpa using hb
      subst q
      exact (S.own j b hj).1 hl) (Hand.mk (G := G) (H := H) (s := .ow ds) (v := .ref l) ⟨l, vs, rfl, rfl, e, r⟩ (by simp) fun b hb => by
        have q : b = l := by simpa using hb
        subst q
        exact ⟨hl, by rw [e]; exact (fun z => nomatch z), gl⟩) i
    exact k.1 _ _ _ _ _ p S2 f2⟩
theorem dsm_setLc {i : Nat} {y : Str} {py : Pos} {elt tg iter : Expr} {scope : Scope} {own : List (Str × Nat)} {spos : Pos} {ti : TDI} {ws : List Nat} {g : TDG} (hc : X.calm = true) (hN : X.N.Nodup) (hy : X.N[i]? = some y) (hyl : X.env.scope.names.lookup y = some .local)
    (hsw : swapsWith (.ListComp elt [⟨tg, iter, [], 0⟩] scope pos) (some (.Name y py)) spos.line X.env = pure true) (hi : DI X tg iter ti) (ok : BlkOk X.N X.env.scope scope own) (hws : ∀ i ∈ ws, i ∈ own.map (·.2)) (hz : 0 ∉ own.map (·.2))
    (hg : ∀ (s : Shared) (H : Hp) (C : Addr) (cl : List (Str × Addr)) (fp : List Addr), DG (X.blk s H scope (compEnvC scope cl C X.env) fp) tg ws g)
    (he : ∀ (s : Shared) (H : Hp) (C : Addr) (cl : List (Str × Addr)) (fp : List Addr), DM (X.blk s H scope (compEnvC scope cl C X.env) fp) elt te) (hs : ∀ x, foldedSetIterable iter X.env x = pure x := by intro _; rfl) :
    DS X (.Assign [.Name y py] (.ListComp elt [⟨tg, iter, [], 0⟩] scope pos) spos) (fun E ρ => ∃ a n, ρ[0]? = some (.tin a n) ∧ mLc ti g te (own.map (·.2)) (ρ.set 0 .un) n fun ds m => E.nx ((ρ.set 0 (.tin a m)).set i (.ow ds))) :=
  PS.wk (ps_setLc hc hN hy hyl hsw hi ok hg (fun _ _ _ _ _ => dts_nil) he hs) fun D σ H ⟨T, G0, H0, G, ρ, A, E, S, f, ⟨a, n, e0, h⟩, k⟩ =>
    mlc_of hws hz σ H _ ⟨G, ρ, A, a, n, _, S, e0, h, fun ds vs l m G' H' p g t hl gl e r => by
      obtain ⟨S2, f2⟩ := take1 (S.turn e0 g t) (f.turn (S.tin e0).2.1 g t) f.back (as := [l]) (fun j b hb hj => by
        have q : b = l := by simpa using hb
        subst q
        exact (S.own j b hj).1 hl) (Hand.mk (G := G) (H := H) (s := .ow ds) (v := .ref l) ⟨l, vs, rfl, rfl, e, r⟩ (by simp) fun b hb => by
          have q : b = l := by simpa using hb
          subst q
          exact ⟨hl, by rw [e]; exact (fun z => nomatch z), gl⟩) i
      exact k.1 _ _ _ _ _ p S2 f2⟩
theorem dsm_asg {tg : Expr} {ws : List Nat} {g : TDG} (he : DM X e te) (hg : DG X tg ws g) (hs : swapsWithSole [tg] e pos.line X.env = pure false := by rfl) (hw : swappedStores [tg] e X.env = pure none := by rfl)
    (h1 : (assignEach [tg] X.env).map (·.2) = [assign tg X.env] := by rfl) : DS X (.Assign [tg] e pos) (fun E ρ => ∃ a n, ρ[0]? = some (.tin a n) ∧ te (ρ.set 0 .un) n fun d m => g d (ρ.set 0 (.tin a m)) E.nx) :=
  PS.wk (ps_asg he hg hs hw h1) fun D σ H ⟨T, G0, H0, G, ρ, A, E, S, f, ⟨a, n, e0, h⟩, k⟩ =>
    ⟨G, ρ, A, a, n, _, S, e0, h, fun d v m G1 H1 p g1 t r => ⟨G1, _, A, d, _, S.turn e0 g1 t, r, p, fun σ' ρ' A' p' S' t' => k.1 _ _ _ _ _ p' S' ((f.turn (S.tin e0).2.1 g1 t).sub t'.ad)⟩⟩
/-- a, b = x, y, both data -/
theorem dsm_par {i j : Nat} {x y : Str} {a b : Expr} {t1 t2 : TM} {px py pt : Pos} {kt k2 pt2} (hc : X.calm = true) (hN : X.N.Nodup) (hi : X.N[i]? = some x) (hj : X.N[j]? = some y) (hij : i ≠ j)
    (hx : X.env.scope.names.lookup x = some .local) (hy : X.env.scope.names.lookup y = some .local) (h1 : DM X a t1) (h2 : DM X b t2)
    (hw : swappedStores [.Tuple [.Name x px, .Name y py] kt pt] (.Tuple [a, b] k2 pt2) X.env = pure (some [x, y]))
    (hs : swapsWithSole [.Tuple [.Name x px, .Name y py] kt pt] (.Tuple [a, b] k2 pt2) pos.line X.env = pure false := by rfl)
    (s1 : starEach [a, b] X.env = (false, eval a X.env) :: starEach [b] X.env := by rfl) (s2 : starEach [b] X.env = (false, eval b X.env) :: starEach [] X.env := by rfl) :
    DS X (.Assign [.Tuple [.Name x px, .Name y py] kt pt] (.Tuple [a, b] k2 pt2) pos) (fun E ρ => ∃ q n, ρ[0]? = some (.tin q n) ∧ t1 (ρ.set 0 .un) n fun d1 m1 => t2 (ρ.set 0 .un) m1 fun d2 m2 => E.nx (((ρ.set 0 (.tin q m2)).set i (.sh d1)).set j (.sh d2))) :=
  PS.wk (ps_par hc hN hi hj hij hx hy (pa_cons h1 (pa_cons h2 pa_nil s2) s1) hw hs) fun D σ H ⟨T, G0, H0, G, ρ, A, E, S, f, ⟨q, n, e0, h⟩, k⟩ =>
    ⟨G, ρ, A, q, n, _, S, e0, h, fun d1 v1 m1 G1 H1 p1 g1 t1 r1 => ⟨G1, _, A, q, m1, _, S.turn e0 g1 t1, get_tin e0, by rw [set_tin]; exact p1, fun d2 v2 m2 G2 H2 p2 g2 t2 r2 => by
      have g := g1.trans g2
      refine ⟨v1, v2, rfl, k.1 _ _ _ _ _ p2 (((S.turn e0 g t2).set i (r1.mono g2.gg)).set j r2) ((f.turn (S.tin e0).2.1 g t2).sub fun m a hm => ?_)⟩
      have sub : ∀ (A : Nat → List Addr) q, a ∈ setA A q [] m → a ∈ A m := fun A q h => by
        by_cases hq : m = q
        · subst hq; rw [setA_same] at h; cases h
        · rw [setA_ne hq] at h; exact h
      exact sub _ _ (sub _ _ hm)⟩⟩
end
end DL

-- text DL19
set_option Elab.async false
set_option linter.all false
set_option maxRecDepth 100000
set_option maxHeartbeats 4000000
namespace DL
open PySem PySem.Spec PyProof.Rows L2
/-! ### for over range(what draws) -/
abbrev TMI := List SV → Nat → (List PyData → Nat → Prop) → Prop
def tMI (t : TMI) : TI := fun σ H R => ∃ G ρ A a n P, SR G H σ ρ A ∧ ρ[0]? = some (.tin a n) ∧ t (ρ.set 0 .un) n P ∧ ∀ xs J m G' H', P xs m → GrowT a G H G' H' → TinAt H' a m → ItD J G' xs → R J H'
def MI (X : Cx) (tg e : Expr) (t : TMI) : Prop := PI X tg e (tMI t)
section
variable {X : Cx} {a b e o tg : Expr} {ts : TMs} {te t1 t2 : TM} {p pos : Pos}
def mRg1 (ts : TMs) : TMI := fun ρ n P => ts ρ n fun ds m => ∃ j : Int, ds = [.int j] ∧ (-(2 ^ 62) ≤ j ∧ j < 2 ^ 62) ∧ P (rgD 0 j.toNat) m
theorem mi_range1 (hg : Gl X "range") (hm : X.mg "range" = none) (ha : DMA X [a] ts) (hs : starEach [a] X.env = [(false, eval a X.env)] := by rfl) : MI X tg (.Call (.Name "range" p) [a] [] pos) (mRg1 ts) :=
  PI.wk (pi_range1 hg hm ha hs) fun σ H R ⟨G, ρ, A, q, n, P, S, e0, h, k⟩ => ⟨G, ρ, A, q, n, _, S, e0, h, fun ds vs m G' H' ⟨j, e, ⟨q1, q2⟩, p⟩ g t r => by
    subst e
    obtain ⟨v, rfl, rv⟩ := r.one
    exact ⟨j, by rw [rv.int_of], q1, q2, k _ _ m G' H' p g t itd_range⟩⟩
theorem dsm_for {iter : Expr} {body : List Stmt} {ti : TMI} {ws : List Nat} {g : TDG} {tb : TDS} (hp : PassesOwn (model X.prog X.w) X.A X.env X.xe) (hc : X.calm = true) (hi : MI X tg iter ti) (hg : DG X tg ws g) (hb : DSs X body tb)
    (hs : ∀ x, foldedSetIterable iter X.env x = pure x := by intro _; rfl) : DS X (.For tg iter body [] pos) (fun E ρ => ∃ q n, ρ[0]? = some (.tin q n) ∧ ti (ρ.set 0 .un) n fun xs m => ∃ I : Nat → List SV → Prop, I 0 (ρ.set 0 (.tin q m)) ∧
      (∀ i x ρ1, xs[i]? = some x → I i ρ1 → g x ρ1 fun ρ2 => tb { nx := I (i + 1), rt := E.rt, bk := E.nx, ct := I (i + 1) } ρ2) ∧ ∀ ρ1, I xs.length ρ1 → E.nx ρ1) := PS.wk (ps_for hp hc hi hg hb hs) fun D σ H ⟨T, G0, H0, G, ρ, A, E, S, f, ⟨q, n, e0, h⟩, k⟩ =>
  ⟨G, ρ, A, q, n, _, S, e0, h, fun xs J mm G1 H1 ⟨I, i0, turn, fin⟩ gT t1 it => by
    have f1 := f.turn (S.tin e0).2.1 gT t1
    have S1 := S.turn e0 gT t1
    refine ⟨fun i m σ' H' => m = xs.length - i ∧ i ≤ xs.length ∧ ∃ G' ρ' A', SR G' H' σ' ρ' A' ∧ Fr0 (TL T A) G1 H1 G' H' A' ∧ I i ρ', ⟨xs.length, by simp, Nat.zero_le _, G1, _, A, S1, Fr0.start, i0⟩, ?_⟩
    rintro i m σ2 H2 ⟨rfl, hi', G2, ρ2, A2, S2, f2, p2⟩
    obtain ⟨it1, it2⟩ := it G2 H2 f2.gg S2.gh
    by_cases hlt : i < xs.length
    · obtain ⟨x, hx⟩ : ∃ x, xs[i]? = some x := ⟨_, List.getElem?_eq_getElem hlt⟩
      obtain ⟨go, yl⟩ := it1 i x hx
      refine .inr ⟨go, fun σ' H' => i + 1 ≤ xs.length ∧ ∃ G' ρ' A', SR G' H' σ' ρ' A' ∧ Fr0 (TL T A) G1 H1 G' H' A' ∧ I (i + 1) ρ', fun σ' H' ⟨a, b⟩ => ⟨xs.length - (i + 1), by omega, rfl, a, b⟩, fun v H3 yv => ?_⟩
      obtain ⟨G3, g3, rv⟩ := yl v H3 yv
      refine ⟨G3, ρ2, A2, x, _, S2.grow g3, rv, turn i x ρ2 hx p2, fun σ4 ρ4 A4 p4 S4 t4 => ?_⟩
      exact ⟨TL T A, G1, H1, G3, ρ4, A4, _, S4, (f2.grow S2.gh g3).sub t4.ad, p4, fun ρ5 σ5 G5 H5 A5 p5 S5 f5 => ⟨hlt, G5, ρ5, A5, S5, f5, p5⟩, fun d ρ5 σ5 v G5 H5 A5 p5 S5 f5 r5 => k.2.1 d ρ5 σ5 v G5 H5 A5 p5 S5 (f1.out f5) r5,
        fun ρ5 σ5 G5 H5 A5 p5 S5 f5 => k.1 _ _ _ _ _ p5 S5 (f1.out f5), fun ρ5 σ5 G5 H5 A5 p5 S5 f5 => ⟨hlt, G5, ρ5, A5, S5, f5, p5⟩⟩
    · have e : i = xs.length := by omega
      subst e
      exact .inl ⟨it2 _ (Nat.le_refl _), k.1 _ _ _ _ _ (fin _ p2) S2 (f1.out f2)⟩⟩
/-! ### ys.append(xs.pop(e)) -/
theorem ds_apop {i j : Nat} {k ox oy : Expr} {apos cpos apos2 cpos2 : Pos} (hx : PE X ox (tVar i)) (hy : PE X oy (tVar j)) (he : DM X e te) (hij : i ≠ j) (hi0 : i ≠ 0) (hj0 : j ≠ 0)
    (hb1 : attributeBase oy "append" X.env (eval oy X.env) = eval oy X.env := by rfl) (hb2 : attributeBase ox "pop" X.env (eval ox X.env) = eval ox X.env := by rfl)
    (hf1 : ((backTo cpos (starEach [.Call (.Attribute ox "pop" apos2) [e] [] cpos2] X.env)).all (fun x => !x.1) && (backToKw cpos (keywordEach [] X.env)).all (fun x => x.1.isSome)
      && decide ([Expr.Call (.Attribute ox "pop" apos2) [e] [] cpos2].length + ([] : List Keyword).length + (if ([] : List Keyword).isEmpty then 0 else 1) < 30)) = true := by rfl)
    (hf2 : ((backTo cpos2 (starEach [e] X.env)).all (fun x => !x.1) && (backToKw cpos2 (keywordEach [] X.env)).all (fun x => x.1.isSome)
      && decide ([e].length + ([] : List Keyword).length + (if ([] : List Keyword).isEmpty then 0 else 1) < 30)) = true := by rfl)
    (hl1 : (apos.endLine == cpos.line) = true := by rfl) (hl2 : (apos2.endLine == cpos2.line) = true := by rfl)
    (hs1 : starEach [.Call (.Attribute ox "pop" apos2) [e] [] cpos2] X.env = (false, eval (.Call (.Attribute ox "pop" apos2) [e] [] cpos2) X.env) :: starEach [] X.env := by rfl) (hs2 : starEach [e] X.env = (false, eval e X.env) :: starEach [] X.env := by rfl)
    (hp1 : (backTo cpos (starEach [] X.env)).any (·.1) = false := by rfl) (hp2 : (backTo cpos2 (starEach [] X.env)).any (·.1) = false := by rfl)
    (hsw : swapsWith (.Call (.Attribute oy "append" apos) [.Call (.Attribute ox "pop" apos2) [e] [] cpos2] [] cpos) none pos.line X.env = pure false := by rfl) :
    DS X (.Expr (.Call (.Attribute oy "append" apos) [.Call (.Attribute ox "pop" apos2) [e] [] cpos2] [] cpos) pos)
      (fun E ρ => ∃ q n ds es, ρ[0]? = some (.tin q n) ∧ ρ[i]? = some (.ow ds) ∧ ρ[j]? = some (.ow es) ∧ te (ρ.set 0 .un) n fun d m => ∃ (x : Int) (y : PyData), d = .int x ∧ 0 ≤ x ∧ x < 2 ^ 62 ∧ ds[x.toNat]? = some y ∧ es.length < 16777216 ∧ E.nx (((ρ.set 0 (.tin q m)).set i (.ow (ds.eraseIdx x.toNat))).set j (.ow (es ++ [y])))) :=
  PS.wk (ps_expr (pe_bm PySem.F.plainAttrs_list PySem.F.slot_list_append PySem.F.type_list_append mt_append hy (pa_cons (pe_bm PySem.F.plainAttrs_list PySem.F.slot_list_pop PySem.F.type_list_pop mt_popAt hx (pa_cons he pa_nil hs2) hb2 hf2 hl2 hs2 hp2) pa_nil hs1) hb1 hf1 hl1 hs1 hp1) hsw)
    fun D σ H ⟨T, G0, H0, G, ρ, A, E, S, f, ⟨q, n, ds, es, e0, ei, ej, h⟩, k⟩ => by
    obtain ⟨ly, ys, y1, y2, y3, y4, y5⟩ := S.ow ej
    obtain ⟨lx, xs, x1, x2, x3, x4, x5⟩ := S.ow ei
    refine ⟨.ref ly, y1, .inl ⟨rfl, ys, SqL.of y4⟩, .ref lx, x1, .inl ⟨rfl, xs, SqL.of x4⟩, G, ρ, A, q, n, _, S, e0, h, fun d v m G1 H1 ⟨x, y, ed, h0, h1, hy, hl, p⟩ g t r => ?_⟩
    subst ed
    have S1 := S.turn e0 g t
    have f1 := f.turn (S.tin e0).2.1 g t
    have ei1 : (ρ.set 0 (.tin q m))[i]? = some (.ow ds) := by rw [List.getElem?_set_ne (Ne.symm hi0)]; exact ei
    have ej1 : (ρ.set 0 (.tin q m))[j]? = some (.ow es) := by rw [List.getElem?_set_ne (Ne.symm hj0)]; exact ej
    obtain ⟨lx', xs', x1', x2', x3', x4', x5'⟩ := S1.ow ei1
    rw [x1] at x1'
    cases x1'
    obtain ⟨v', hv', rv'⟩ := x5'.get hy
    refine ⟨lx, xs', x, x.toNat, v', rfl, by rw [r.int_of], x4', by omega, by omega, seqIndex_of h0 ?_, hv', ?_⟩
    · have := (List.getElem?_eq_some_iff.mp hv').1
      omega
    have S2 := S1.lst x1 x2' (x5'.eraseIdx x.toNat)
    have f2 := f1.change (o := .lst (xs'.eraseIdx x.toNat)) x3'
    have ej2 : ((ρ.set 0 (.tin q m)).set i (.ow (ds.eraseIdx x.toNat)))[j]? = some (.ow es) := by rw [List.getElem?_set_ne hij]; exact ej1
    obtain ⟨ly', ys', y1', y2', y3', y4', y5'⟩ := S2.ow ej2
    rw [y1] at y1'
    cases y1'
    refine ⟨ly, ys', v', rfl, rfl, y4', by rw [y5'.length, sizeLine_eq]; exact hl, ?_⟩
    exact k.1 _ _ _ _ _ p (S2.lst y1 y2' (y5'.append (.cons rv' .nil))) (f2.change y3')
/-! ### the source itself -/
def dTin (t : TD) : TD := fun ρ P => ∃ (a : Addr) (n : Nat), ρ[0]? = some (.tin a n) ∧ t ρ fun d => ∃ j : Int, d = .int j ∧ ((j = 0 ∧ ∀ x : Int, P (.int x)) ∨ (j = 1 ∧ ∀ x : Int, 0 ≤ x → x < 2 ^ 62 → P (.int x)) ∨ (j = 2 ∧ ∀ x : Int, 0 ≤ x → x ≤ (n : Int) → P (.int x)))
theorem dp_tin {tb : TD} (ha : PE X a (tVar 0)) (hb : DP X b tb) (hs : PlainIx b) : DP X (.Subscript a b pos) (dTin tb) := PE.wk (pe_ix ix_list ha hb hs) fun σ H Q ⟨G, ρ, A, P, S, ⟨q, n, e0, h⟩, k⟩ => by
  obtain ⟨s1, s2, s3, s4⟩ := S.tin e0
  refine ⟨.ref q, s1, G, ρ, A, _, S, h, fun d v G1 H1 ⟨j, ed, hj⟩ g r => ?_⟩
  subst ed
  obtain ⟨x, y, z, e, c1, c2, c3, c4⟩ := s3.keep (sameEq g.hh s3.ne)
  have fin : ∀ (i : Nat) (w : Int), [V.int x, .int y, .int z][i]? = some (.int w) → j = (i : Int) → Q (.int w) H1 → ∃ p xs i v, V.ref q = .ref p ∧ (V.int j) = .int i ∧ SqL X.K H1 p xs ∧ atI xs i = some v ∧ Q v H1 := fun i w hw hj qw => ⟨q, _, j, .int w, rfl, rfl, SqL.of e, by rw [hj]; exact atI_nat hw, qw⟩
  rw [r.int_of]
  rcases hj with ⟨hj, p⟩ | ⟨hj, p⟩ | ⟨hj, p⟩
  · exact fin 0 x rfl hj (k _ _ _ _ (p x) g (.int _))
  · exact fin 1 y rfl hj (k _ _ _ _ (p y c3 c4) g (.int _))
  · exact fin 2 z rfl hj (k _ _ _ _ (p z c1 c2) g (.int _))
theorem ds_tinSet {te tk : TD} {k : Expr} {pos' : Pos} (ho : PE X o (tVar 0)) (hk : DP X k tk) (he : DP X e te) (hs : swapsWithSole [.Subscript o k pos'] e pos.line X.env = pure false := by rfl) (hw : swappedStores [.Subscript o k pos'] e X.env = pure none := by rfl)
    (h1 : (assignEach [.Subscript o k pos'] X.env).map (·.2) = [assign (.Subscript o k pos') X.env] := by rfl)
    (ha : ∀ v, assign (.Subscript o k pos') X.env v = (do
      let ov ← holding [v] (eval o X.env)
      let iv ← holding [v, ov] (eval k X.env)
      standAt pos'
      holding [v, ov, iv] (setItem ov iv v)
      release [v, ov, iv] []) := by intro _; rfl) : DS X (.Assign [.Subscript o k pos'] e pos)
    (fun E ρ => te ρ fun d => ∃ x : Int, d = .int x ∧ ∃ a n, ρ[0]? = some (.tin a n) ∧ tk ρ fun kk => ∃ (j : Int) (m : Nat), kk = .int j ∧ ((j = 0 ∧ m = n) ∨ (j = 2 ∧ 0 ≤ x ∧ x ≤ m)) ∧ E.nx (ρ.set 0 (.tin a m))) :=
  PS.wk (ps_asg he (pg_sub ho hk set_list ha) hs hw h1) fun D σ H ⟨T, G0, H0, G, ρ, A, E, S, f, h, kk⟩ =>
  ⟨G, ρ, A, _, S, h, fun d v G1 H1 ⟨x, ed, q, n, e0, h2⟩ g1 r1 => by
    subst ed
    have S1 := S.grow g1
    obtain ⟨s1, s2, s3, s4⟩ := S1.tin e0
    refine ⟨.ref q, s1, G1, ρ, A, _, S1, h2, fun d2 v2 G2 H2 ⟨j, m, ej, hj, p⟩ g2 r2 => ?_⟩
    subst ej
    have S2 := S1.grow g2
    obtain ⟨s1, s2, s3, s4⟩ := S2.tin e0
    have hmem : q ∈ A 0 := by rw [s2]; simp
    obtain ⟨y0, y1, y2, e, c1, c2, c3, c4⟩ := s3
    have f2 := (f.grow S.gh g1).grow g1.gh g2
    rw [r1.int_of]
    rcases hj with ⟨hj, hm⟩ | ⟨hj, hx0, hxm⟩
    · subst hm
      refine ⟨q, [.int y0, .int y1, .int y2], j, 0, rfl, r2.int_of, e, by rw [hj]; rfl, ?_⟩
      exact kk.1 _ _ _ _ _ p (S2.change hmem ⟨s1, s2, x, y1, y2, upd_same, c1, c2, c3, c4⟩) (f2.change hmem)
    · refine ⟨q, [.int y0, .int y1, .int y2], j, 2, rfl, r2.int_of, e, by rw [hj]; rfl, ?_⟩
      exact kk.1 _ _ _ _ _ p (S2.change hmem ⟨s1, s2, y0, y1, x, upd_same, hx0, hxm, c3, c4⟩) (f2.change hmem)⟩
end
/-! ### a def that draws, by its body -/
def startT (a : Addr) (n : Nat) (N : List Str) (ds : List PyData) : List SV := .tin a n :: (ds.map .sh ++ List.replicate (N.length - (ds.length + 1)) .un)
theorem start_tin {G H : Hp} {N : List Str} {vs : List V} {ds : List PyData} {a : Addr} {n : Nat} (s : Same G H) (r : RA G vs ds) (ha : G a = none) (ht : TinAt H a n) : SR G H (L2.start N (.ref a :: vs)) (startT a n N ds) (fun i => if i = 0 then [a] else []) where
  gh := s
  at_ := fun i sv e => by
    cases i with
    | zero =>
      have e' : sv = .tin a n := by simpa [startT] using e.symm
      subst e'
      exact ⟨rfl, rfl, ht⟩
    | succ i =>
      have e1 : (ds.map SV.sh ++ List.replicate (N.length - (ds.length + 1)) .un)[i]? = some sv := by simpa [startT] using e
      have e2 : (L2.start N (.ref a :: vs))[i + 1]? = (vs.map some ++ List.replicate (N.length - (vs.length + 1)) none)[i]? := by
        unfold L2.start
        simp
      rw [e2]
      rw [if_neg (Nat.succ_ne_zero i)]
      have hl := r.length
      by_cases hi : i < ds.length
      · rw [List.getElem?_append_left (by simpa using hi), List.getElem?_map] at e1
        obtain ⟨d, hd⟩ : ∃ d, ds[i]? = some d := ⟨_, List.getElem?_eq_getElem hi⟩
        rw [hd] at e1
        cases e1
        obtain ⟨v, hv, rv⟩ := r.get hd
        refine ⟨rfl, v, ?_, rv⟩
        rw [List.getElem?_append_left (by rw [List.length_map, hl]; exact hi), List.getElem?_map, hv]
        rfl
      · rw [List.getElem?_append_right (by simpa using hi), List.getElem?_replicate] at e1
        split at e1
        · cases e1; rfl
        · cases e1
  dis := fun i j b h1 h2 => by
    by_cases hi : i = 0
    · by_cases hj : j = 0
      · rw [hi, hj]
      · rw [if_neg hj] at h2; cases h2
    · rw [if_neg hi] at h1; cases h1
  nod := fun i => by split <;> simp
  own := fun i b h => by
    split at h
    · have e : b = a := by simpa using h
      subst e
      exact ⟨ht.ne, ha⟩
    · cases h
  len := by simp [L2.start, startT, r.length]
theorem fn_dm {P : Program} {w : World} {K : PySem.W.Frag} {mg : Str → Option Value} {base : Heap} {x qual : Str} {params : Arguments} {body : List Stmt} {scope : Scope} {f : Addr} {fd : FuncData} {N ps : List Str} {k : Nat} {C : TFM} {t : TDS}
    (F : FunD K x qual params body scope [] [] f fd) (S : FnScope N ps scope) (hl : ∀ ds n Q, C ds n Q → ds.length + 1 = ps.length)
    (hbody : ∀ (cdv : Value) (A : Around) (outer : List Env) (s : Shared) (H : Hp) (E : XK), Room k (A.deeper (envOfC qual scope s.heap.objs.size f cdv)) → DSs (cxOf CX0 P w K mg base N qual scope f cdv A outer s H E).nox body t)
    (hC : ∀ a ds n Q, C ds n Q → t { nx := fun _ => False, rt := fun d ρ => ∃ m, ρ[0]? = some (.tin a m) ∧ Q d m } (startT a n N ds)) : FnOk P w K mg base CX0 (k + 1) f fd ps (spT C) := by
  refine F.ok S (fun vs H Q E h => ?_) (fun cdv A outer s H vs Q E hr h => ?_)
  · obtain ⟨G, ds, n, P, a, ws, e, s, ha, ht, r, c, _⟩ := h
    rw [e, List.length_cons, r.length]
    exact hl ds n P c
  · obtain ⟨G, ds, n, P, a, ws, e, sm, ha, ht, r, c, fin⟩ := h
    subst e
    refine ⟨_, PSs.nox (hbody cdv A outer s H E hr), fun b => b = a, G, H, G, startT a n N ds, _, _, start_tin sm r ha ht, ⟨fun _ _ e _ => e, fun _ _ e => e, fun _ _ _ => rfl, fun i b h => ?_, fun t e h => h⟩, hC a ds n P c, ?_, ?_, ?_, ?_⟩
    · split at h
      · exact .inr (by simpa using h)
      · cases h
    · exact fun _ _ _ _ _ h => h.elim
    · rintro d ρ σ v G' H' A' ⟨m, e0, p⟩ S' f' r'
      obtain ⟨s1, s2, s3, s4⟩ := S'.tin e0
      exact fin d v m G' H' p ⟨fun b o hb e => f'.hh b o e hb, f'.gg, fun b hb h => f'.gn b h hb, S'.gh, s4⟩ s3 r'
    · exact fun _ _ _ _ _ h => h.elim
    · exact fun _ _ _ _ _ h => h.elim
end DL

-- text DL20
set_option Elab.async false
set_option linter.all false
set_option maxRecDepth 100000
set_option maxHeartbeats 4000000
namespace DL
open PySem PySem.Spec PyProof.Rows L2
section
variable {X : Cx} {a b e o : Expr} {tb : TD} {p pos : Pos}
/-! ### {2: 5, 3: 3, 4: 2}[k] -/
def dMenu (tb : TD) : TD := fun ρ P => tb ρ fun x => (x = .int 2 ∧ P (.int 5)) ∨ (x = .int 3 ∧ P (.int 3)) ∨ (x = .int 4 ∧ P (.int 2))
theorem dp_menu {j1 j2 j3 k1 k2 k3 p1 p2 p3 q1 q2 q3} (hu : X.A.units + 1 < cLine) (hb : DP X b tb) (hs : NoSl b) :
    DP X (.Subscript (.Dict [some (.Constant (.int 2) j1 p1), some (.Constant (.int 3) j2 p2), some (.Constant (.int 4) j3 p3)] [.Constant (.int 5) k1 q1, .Constant (.int 3) k2 q2, .Constant (.int 2) k3 q3] p) b pos) (dMenu tb) :=
  PE.wk (pe_dget hu (pe_disp (pps_cons pe_int pe_int (pps_cons pe_int pe_int (pps_cons pe_int pe_int pps_nil))) (by rfl) (by rfl) (fun z => nomatch z) (by show 3 ≤ 15; decide)) hb hs) fun σ H Q ⟨G, ρ, A, P, S, h, k⟩ q hq => by
    refine ⟨upd_same, [(.inl 2, .int 5), (.inl 3, .int 3), (.inl 4, .int 2)], rfl, by show 3 ≤ 15; decide, ?_⟩
    have hh : Grow G H G (upd (upd H q (.dK [])) q (.dK (mergeK [] [(.inl 2, .int 5), (.inl 3, .int 3), (.inl 4, .int 2)]))) := ⟨fun b o e => by rw [upd_ne (ne_of_none e hq), upd_ne (ne_of_none e hq)]; exact e, fun _ _ => rfl, sameUpd (sameUpd S.gh (S.gh.free hq)) (S.gh.free hq)⟩
    refine ⟨G, ρ, A, _, S.grow hh, h, fun d v G1 H1 p1 g1 r1 => ?_⟩
    have e1 : H1 q = some (.dK (mergeK [] [((.inl 2 : Key), V.int 5), (.inl 3, .int 3), (.inl 4, .int 2)])) := g1.hh _ _ upd_same
    rcases p1 with ⟨ed, p1⟩ | ⟨ed, p1⟩ | ⟨ed, p1⟩
    · subst ed
      rw [r1.int_of]
      exact ⟨q, .int 5, rfl, DGet.k (k := .inl 2) e1, k _ _ G1 H1 p1 (hh.trans g1) (.int _)⟩
    · subst ed
      rw [r1.int_of]
      exact ⟨q, .int 3, rfl, DGet.k (k := .inl 3) e1, k _ _ G1 H1 p1 (hh.trans g1) (.int _)⟩
    · subst ed
      rw [r1.int_of]
      exact ⟨q, .int 2, rfl, DGet.k (k := .inl 4) e1, k _ _ G1 H1 p1 (hh.trans g1) (.int _)⟩
/-! ### f(k = v, ..), keywords alone -/
def DK (X : Cx) (kws : List Keyword) (t : TDs) : Prop := PK X kws (tPs t)
theorem PK.wk {e : List Keyword} {t t' : TA} (h : PK X e t) (w : ∀ σ H Q, t' σ H Q → t σ H Q) : PK X e t' := ⟨fun pos pins s σ H Q I q => h.run pos pins s σ H Q I (w _ _ _ q)⟩
theorem dk_nil : DK X [] dNil := PK.wk pk_nil fun σ H Q ⟨G, ρ, A, P, S, h, k⟩ => k [] [] G H h (Grow.refl S.gh) .nil
theorem dk_cons {nm : Option Str} {kpos : Pos} {kws : List Keyword} {te : TD} {tr : TDs} (he : DP X e te) (hr : DK X kws tr) : DK X (⟨nm, e, kpos⟩ :: kws) (dCons te tr) := PK.wk (pk_cons he hr) fun σ H Q ⟨G, ρ, A, P, S, h, k⟩ =>
  ⟨G, ρ, A, _, S, h, fun d v G1 H1 p1 g1 r1 => ⟨G1, ρ, A, _, S.grow g1, p1, fun ds vs G2 H2 p2 g2 r2 => k (d :: ds) (v :: vs) G2 H2 p2 (g1.trans g2) (.cons (r1.mono (g2.gg g1.gh)) r2)⟩⟩
/-- the keywords in the parameters' order turned round -/
def OkK (P : Program) (w : World) (K : PySem.W.Frag) (mg : Str → Option Value) (base : Heap) (x : Str) (ps ks : List Str) (k : Nat) (C : TF) : Prop :=
  ∃ fd, FnOk P w K mg base CX0 k (He.ga K x) fd ps (spC C) ∧ KBinds K fd ps ks (fun us ws => us ++ ws.reverse) (fun vs zs => vs ++ zs.reverse) ∧ PySem.W.keepIn K (.ref (He.ga K x)) = true ∧ mg x = some (.ref (He.ga K x))
theorem pe_callK0 {x : Str} {CX : CXT} {k : Nat} {f : Addr} {fd : FuncData} {ps ks : List Str} {sp : Sp} {E : XK} {kws : List Keyword} {tk : TA} {g : List Value → List Value → List Value} {gV : List V → List V → List V}
    (F : FnOk X.prog X.w X.K X.mg X.base CX k f fd ps sp) (hr : Room k X.A) (hg : Gl X x) (hm : X.mg x = some (.ref f)) (hk : PySem.W.keepIn X.K (.ref f) = true) (hb : KBinds X.K fd ps ks g gV) (hx : Passes CX X E)
    (hkw : PK X kws tk) (hall : (backToKw pos (keywordEach kws X.env)).all (·.1.isSome) = true := by rfl) (hks : (backToKw pos (keywordEach kws X.env)).filterMap (·.1) = ks := by rfl)
    (hdb : (x == ("__debug__" : Str)) = false := by decide)
    (hpl : ((backTo pos (starEach [] X.env)).any (·.1) || (backToKw pos (keywordEach kws X.env)).any (·.1.isNone)) = false := by rfl) :
    PE X (.Call (.Name x p) [] kws pos) (fun σ H Q => tk σ H fun zs H2 => sp (gV [] zs) H2 Q E) := by
  refine ⟨fun pins s σ H Q I h => ?_⟩
  refine wpAny_Call_Name_kw (ld_glob I hg hm ?_ hdb)
  refine PySem.W.callWith_KW0 (h₀ := X.base) I.ok.mod.kin hk hall ?_ hpl
  refine thn (hkw.run pos pins s σ H _ I h) fun ws s2 ⟨zs, H2, I2, rz, q2⟩ => ⟨I2.kIn, ?_⟩
  rw [hks]
  exact run_fnk F hr hb hx I2 .nil rz q2
theorem vals_app {vs ws : List V} {us zs : List Value} (r : Vals vs us) (r2 : Vals ws zs) : Vals (vs ++ ws) (us ++ zs) := by
  induction r with
  | nil => exact r2
  | cons h t ih => exact .cons h ih
theorem vals_rev {vs : List V} {us : List Value} (r : Vals vs us) : Vals vs.reverse us.reverse := by
  induction r with
  | nil => exact .nil
  | cons h t ih =>
    rw [List.reverse_cons, List.reverse_cons]
    exact vals_app ih (.cons h .nil)
theorem bindsKR {K : PySem.W.Frag} {x qual : Str} {params : Arguments} {body : List Stmt} {scope : Scope} {kws : List (Str × V)} {f : Addr} {fd : FuncData} {ps ks : List Str} (F : FunD K x qual params body scope [] kws f fd)
    (h : ∀ (kV doc pm : Value) (an : Option Addr) (cdv ct : Value) (us ws : List Value), us.length + ws.length = ps.length → bindArgs (PySem.W.fnOf x qual params body scope .none kV doc pm an cdv ct) ⟨us, ks.zip ws⟩ = pure (ps.zip (us ++ ws.reverse))) :
    KBinds K fd ps ks (fun us ws => us ++ ws.reverse) (fun vs zs => vs ++ zs.reverse) := by
  obtain ⟨oc, od, dV, kV, doc, pm, an, cdv, ct, osl, rfl, lk, hcd, hD, hK⟩ := F.ex
  rcases hD with ⟨_, rfl⟩ | ⟨e, _⟩
  · exact ⟨fun s us ws _ hl => .of_eq (h kV doc pm an cdv ct us ws (by simpa using hl)), fun r r2 => vals_app r (vals_rev r2)⟩
  · exact absurd rfl e
theorem RA.rev {G : Hp} {vs : List V} {ds : List PyData} (r : RA G vs ds) : RA G vs.reverse ds.reverse := RA.reverse r
theorem dp_fnK {x : Str} {k j : Nat} {ps ks : List Str} {C : TF} {kws : List Keyword} {t : TDs} (F : OkK X.prog X.w X.K X.mg X.base x ps ks k C) (hr : Room j X.A) (hg : Gl X x) (ha : DK X kws t) (hkj : k ≤ j := by decide)
    (hall : (backToKw pos (keywordEach kws X.env)).all (·.1.isSome) = true := by rfl) (hks : (backToKw pos (keywordEach kws X.env)).filterMap (·.1) = ks := by rfl) (hdb : (x == ("__debug__" : Str)) = false := by decide)
    (hpl : ((backTo pos (starEach [] X.env)).any (·.1) || (backToKw pos (keywordEach kws X.env)).any (·.1.isNone)) = false := by rfl) :
    DP X (.Call (.Name x p) [] kws pos) (fun ρ P => t ρ fun ds => C ds.reverse P) := by
  obtain ⟨fd, F, hb, hk, hm⟩ := F
  exact PE.wk (pe_callK0 F (hr.mono hkj) hg hm hk hb pass0 ha hall hks hdb hpl) fun σ H Q ⟨G, ρ, A, P, S, h, kk⟩ =>
    ⟨G, ρ, A, _, S, h, fun ds vs G1 H1 p1 g1 r1 => ⟨G1, ds.reverse, P, g1.gh, r1.rev, p1, fun d v G2 H2 p2 g2 r2 => kk d v G2 H2 p2 (g1.trans g2) r2⟩⟩
/-! ### comprehensions of two clauses -/
def dLc2 (ti tj : TDI) (g g1 : TDG) (te : TD) (vs vs1 : List Nat) : TDF := fun ρ P => ti ρ fun xs => ∃ R : Nat → List PyData → Prop, R 0 [] ∧
  (∀ i x acc, xs[i]? = some x → R i acc → g x (wipeD ρ vs) fun ρ2 => tj ρ2 fun ys => ∃ R1 : Nat → List PyData → Prop, R1 0 acc ∧
    (∀ j y acc1, ys[j]? = some y → R1 j acc1 → acc1.length < 16777216 ∧ g1 y (wipeD ρ2 vs1) fun ρ3 => te ρ3 fun z => R1 (j + 1) (acc1 ++ [z])) ∧ ∀ acc1, R1 ys.length acc1 → R (i + 1) acc1) ∧ ∀ acc, R xs.length acc → P acc
theorem lc2_of {ti tj : TDI} {ws vs ws1 vs1 : List Nat} {g gi : TDG} {te : TD} (hws : ∀ i ∈ ws, i ∈ vs) (hws1 : ∀ i ∈ ws1, i ∈ vs1) : ∀ σ H Q, tFr (dLc2 ti tj g gi te vs vs1) σ H Q → tLc2 (tIt ti) (tGt ws g) (tPT dYes) (tIt tj) (tGt ws1 gi) (tPT dYes) (tP te) vs vs1 σ H Q := fun σ H Q ⟨G, ρ, A, P, S, h, k⟩ =>
  ⟨G, ρ, A, _, S, h, fun xs J G1 H1 ⟨R, r0, turn, fin⟩ g1 it D hD => by
    refine ⟨fun i m H' => m = xs.length - i ∧ i ≤ xs.length ∧ ∃ G' acc us, Grow G1 H1 G' H' ∧ G' D = none ∧ H' D = some (.lst us) ∧ RA G' us acc ∧ R i acc, ⟨xs.length, by simp, Nat.zero_le _, G1, [], [], ?_, g1.gh.free hD, upd_same, .nil, r0⟩, ?_⟩
    · exact ⟨fun b o e => by rw [upd_ne (ne_of_none e hD)]; exact e, fun _ _ => rfl, sameUpd g1.gh (g1.gh.free hD)⟩
    rintro i m H2 ⟨rfl, hi, G2, acc, us, g2, d1, d2, ra, ri⟩
    obtain ⟨it1, it2⟩ := it G2 H2 (g2.gg g1.gh) g2.gh
    by_cases hlt : i < xs.length
    · obtain ⟨x, hx⟩ : ∃ x, xs[i]? = some x := ⟨_, List.getElem?_eq_getElem hlt⟩
      obtain ⟨go, yl⟩ := it1 i x hx
      refine .inr ⟨go, fun H' => i + 1 ≤ xs.length ∧ ∃ G' acc us, Grow G1 H1 G' H' ∧ G' D = none ∧ H' D = some (.lst us) ∧ RA G' us acc ∧ R (i + 1) acc, fun H' ⟨a, b⟩ => ⟨xs.length - (i + 1), by omega, rfl, a, b⟩, fun v H3 yv => ?_⟩
      obtain ⟨G3, g3, rv⟩ := yl v H3 yv
      have S3 := (((S.grow g1).grow g2).grow g3).wipe vs
      have d1' : G3 D = none := (g3.gn D (by rw [d2]; exact fun z => nomatch z)).trans d1
      have d2' : H3 D = some (.lst us) := g3.hh _ _ d2
      refine ⟨G3, _, _, x, _, S3, rv, turn i x acc hx ri, fun σ4 ρ4 A4 p4 S4 t4 => ⟨wipe_eq t4 hws, G3, ρ4, A4, (fun b => b = true ∧ tj ρ4 fun ys => ∃ R1 : Nat → List PyData → Prop, R1 0 acc ∧
        (∀ j y acc1, ys[j]? = some y → R1 j acc1 → acc1.length < 16777216 ∧ gi y (wipeD ρ4 vs1) fun ρ3 => te ρ3 fun z => R1 (j + 1) (acc1 ++ [z])) ∧ ∀ acc1, R1 ys.length acc1 → R (i + 1) acc1), S4, ⟨rfl, p4⟩, fun b G5 H5 ⟨hb, p5⟩ g5 => ?_⟩⟩
      subst hb
      have d1'' : G5 D = none := (g5.gn D (by rw [d2']; exact fun z => nomatch z)).trans d1'
      have d2'' : H5 D = some (.lst us) := g5.hh _ _ d2'
      refine ⟨G5, ρ4, A4, _, S4.grow g5, p5, fun ys J1 G6 H6 ⟨R1, r10, turn1, fin1⟩ g6 jt => ?_⟩
      have g26 := (g3.trans g5).trans g6
      have d16 : G6 D = none := (g6.gn D (by rw [d2'']; exact fun z => nomatch z)).trans d1''
      have d26 : H6 D = some (.lst us) := g6.hh _ _ d2''
      have gall := g2.trans g26
      -- within: the heap grows but at D
      refine ⟨fun j m H' => m = ys.length - j ∧ j ≤ ys.length ∧ ∃ G' acc1 us1, Same G6 G' ∧ (∀ b o, b ≠ D → H6 b = some o → H' b = some o) ∧ (∀ b, H6 b ≠ none → G' b = G6 b) ∧ Same G' H' ∧ G' D = none ∧ H' D = some (.lst us1) ∧ RA G' us1 acc1 ∧ R1 j acc1,
        ⟨ys.length, by simp, Nat.zero_le _, G6, acc, us, (fun _ _ e => e), (fun _ _ _ e => e), (fun _ _ => rfl), g6.gh, d16, d26, ra.mono (g26.gg g2.gh), r10⟩, ?_⟩
      rintro j m H7 ⟨rfl, hj, G7, acc1, us1, s7, hh7, gn7, gh7, d17, d27, ra7, rj⟩
      obtain ⟨jt1, jt2⟩ := jt G7 H7 s7 gh7
      have SR7 : SR G7 H7 σ4 ρ4 A4 := by
        have S6 := (S4.grow g5).grow g6
        exact {
          gh := gh7
          at_ := fun i s e => (S6.at_ i s e).mono s7 fun l hl => by
            have n1 : l ≠ D := fun z => by
              subst z
              have h3 := (S4.own i l hl).1
              have hA : l ∈ A i := by
                have := t4.ad i l hl
                exact wipeA_sub this
              have hD' := (((S.grow g1)).own i l hA).1
              exact hD' hD
            cases e : H6 l with
            | none => exact absurd e (S6.own i l hl).1
            | some o => exact hh7 l o n1 e
          dis := S6.dis
          nod := S6.nod
          own := fun i l hl => by
            have n1 : l ≠ D := fun z => by
              subst z
              have hA : l ∈ A i := by
                have := t4.ad i l hl
                exact wipeA_sub this
              exact (((S.grow g1)).own i l hA).1 hD
            refine ⟨?_, (gn7 l (S6.own i l hl).1).trans (S6.own i l hl).2⟩
            cases e : H6 l with
            | none => exact absurd e (S6.own i l hl).1
            | some o => rw [hh7 l o n1 e]; exact fun z => nomatch z
          len := S6.len }
      by_cases hlt1 : j < ys.length
      · obtain ⟨y, hy⟩ : ∃ y, ys[j]? = some y := ⟨_, List.getElem?_eq_getElem hlt1⟩
        obtain ⟨go1, yl1⟩ := jt1 j y hy
        obtain ⟨hz, tr⟩ := turn1 j y acc1 hy rj
        refine .inr ⟨go1, fun H' => j + 1 ≤ ys.length ∧ ∃ G' acc1 us1, Same G6 G' ∧ (∀ b o, b ≠ D → H6 b = some o → H' b = some o) ∧ (∀ b, H6 b ≠ none → G' b = G6 b) ∧ Same G' H' ∧ G' D = none ∧ H' D = some (.lst us1) ∧ RA G' us1 acc1 ∧ R1 (j + 1) acc1, fun H' ⟨a, b⟩ => ⟨ys.length - (j + 1), by omega, rfl, a, b⟩, fun v1 H8 yv1 => ?_⟩
        obtain ⟨G8, g8, rv1⟩ := yl1 v1 H8 yv1
        have S8 := (SR7.grow g8).wipe vs1
        refine ⟨G8, _, _, y, _, S8, rv1, tr, fun σ9 ρ9 A9 p9 S9 t9 => ⟨wipe_eq t9 hws1, G8, ρ9, A9, (fun b => b = true ∧ te ρ9 fun z => R1 (j + 1) (acc1 ++ [z])), S9, ⟨rfl, p9⟩, fun b G10 H10 ⟨hb, p10⟩ g10 => ?_⟩⟩
        subst hb
        refine ⟨G10, ρ9, A9, _, S9.grow g10, p10, fun z w G11 H11 p11 g11 r11 => ?_⟩
        have gg := (g8.trans g10).trans g11
        have dn : H7 D ≠ none := by rw [d27]; exact fun z => nomatch z
        have d1b : G11 D = none := (gg.gn D dn).trans d17
        have d2b : H11 D = some (.lst us1) := gg.hh _ _ d27
        have gg7 : Same G7 G11 := gg.gg gh7
        refine ⟨us1, d2b, by rw [ra7.length, sizeLine_eq]; exact hz, hlt1, G11, acc1 ++ [z], us1 ++ [w], fun b o e => gg7 _ _ (s7 _ _ e), fun b o hb e => ?_, fun b hb => ?_, sameUpd gg.gh d1b, d1b, upd_same, (ra7.mono gg7).append (.cons r11 .nil), p11⟩
        · rw [upd_ne hb]
          exact gg.hh _ _ (hh7 b o hb e)
        · by_cases z : b = D
          · subst z; rw [d1b, d16]
          · refine (gg.gn b ?_).trans (gn7 b hb)
            cases e : H6 b with
            | none => exact absurd e hb
            | some o => rw [hh7 b o z e]; exact fun z => nomatch z
      · have e : j = ys.length := by omega
        subst e
        refine .inl ⟨jt2 _ (Nat.le_refl _), hlt, G7, acc1, us1, ⟨fun b o e => ?_, fun b hb => ?_, gh7⟩, d17, d27, ra7, fin1 acc1 rj⟩
        · exact hh7 b o (ne_of_none e hD) (gall.hh b o e)
        · exact (gn7 b (sameNe gall.hh hb)).trans (gall.gn b hb)
    · have e : i = xs.length := by omega
      subst e
      exact .inl ⟨it2 _ (Nat.le_refl _), k acc us D G2 H2 (fin acc ri) (g1.trans g2) (g1.hh.free hD) d1 d2 ra⟩⟩
theorem df_lc2 {elt tg iter tg1 iter1 : Expr} {scope : Scope} {own : List (Str × Nat)} {ti tj : TDI} {ws ws1 vs1 : List Nat} {g gi : TDG} {te : TD} (hc : X.calm = true) (hN : X.N.Nodup) (hi : DI X tg iter ti) (ok : BlkOk X.N X.env.scope scope own) (hws : ∀ i ∈ ws, i ∈ own.map (·.2)) (hws1 : ∀ i ∈ ws1, i ∈ vs1) (hv : ∀ i ∈ vs1, i ∈ own.map (·.2))
    (hg : ∀ (s : Shared) (H : Hp) (C : Addr) (cl : List (Str × Addr)) (fp : List Addr), DG (X.blk s H scope (compEnvC scope cl C X.env) fp) tg ws g)
    (hi1 : ∀ (s : Shared) (H : Hp) (C : Addr) (cl : List (Str × Addr)) (fp : List Addr), DI (X.blk s H scope (compEnvC scope cl C X.env) fp) tg1 iter1 tj)
    (hg1 : ∀ (s : Shared) (H : Hp) (C : Addr) (cl : List (Str × Addr)) (fp : List Addr), DG (X.blk s H scope (compEnvC scope cl C X.env) fp) tg1 ws1 gi)
    (he : ∀ (s : Shared) (H : Hp) (C : Addr) (cl : List (Str × Addr)) (fp : List Addr), DP (X.blk s H scope (compEnvC scope cl C X.env) fp) elt te) (hs : ∀ x, foldedSetIterable iter X.env x = pure x := by intro _; rfl) (hs1 : ∀ env x, foldedSetIterable iter1 env x = pure x := by intro _ _; rfl) :
    DF X (.ListComp elt [⟨tg, iter, [], 0⟩, ⟨tg1, iter1, [], 0⟩] scope pos) (dLc2 ti tj g gi te (own.map (·.2)) vs1) := PE.wk (pe_lc2 hc hN hi ok hv hg (fun _ _ _ _ _ => dts_nil) hi1 hg1 (fun _ _ _ _ _ => dts_nil) he hs hs1) (lc2_of hws hws1)
theorem ds_setLc2 {i : Nat} {y : Str} {py : Pos} {elt tg iter tg1 iter1 : Expr} {scope : Scope} {own : List (Str × Nat)} {spos : Pos} {ti tj : TDI} {ws ws1 vs1 : List Nat} {g gi : TDG} {te : TD} (hc : X.calm = true) (hN : X.N.Nodup) (hy : X.N[i]? = some y) (hyl : X.env.scope.names.lookup y = some .local)
    (hsw : swapsWith (.ListComp elt [⟨tg, iter, [], 0⟩, ⟨tg1, iter1, [], 0⟩] scope pos) (some (.Name y py)) spos.line X.env = pure true) (hi : DI X tg iter ti) (ok : BlkOk X.N X.env.scope scope own) (hws : ∀ i ∈ ws, i ∈ own.map (·.2)) (hws1 : ∀ i ∈ ws1, i ∈ vs1) (hv : ∀ i ∈ vs1, i ∈ own.map (·.2))
    (hg : ∀ (s : Shared) (H : Hp) (C : Addr) (cl : List (Str × Addr)) (fp : List Addr), DG (X.blk s H scope (compEnvC scope cl C X.env) fp) tg ws g)
    (hi1 : ∀ (s : Shared) (H : Hp) (C : Addr) (cl : List (Str × Addr)) (fp : List Addr), DI (X.blk s H scope (compEnvC scope cl C X.env) fp) tg1 iter1 tj)
    (hg1 : ∀ (s : Shared) (H : Hp) (C : Addr) (cl : List (Str × Addr)) (fp : List Addr), DG (X.blk s H scope (compEnvC scope cl C X.env) fp) tg1 ws1 gi)
    (he : ∀ (s : Shared) (H : Hp) (C : Addr) (cl : List (Str × Addr)) (fp : List Addr), DP (X.blk s H scope (compEnvC scope cl C X.env) fp) elt te) (hs : ∀ x, foldedSetIterable iter X.env x = pure x := by intro _; rfl) (hs1 : ∀ env x, foldedSetIterable iter1 env x = pure x := by intro _ _; rfl) :
    DS X (.Assign [.Name y py] (.ListComp elt [⟨tg, iter, [], 0⟩, ⟨tg1, iter1, [], 0⟩] scope pos) spos) (dSet i (dOwE (dLc2 ti tj g gi te (own.map (·.2)) vs1))) :=
  PS.wk (ps_setLc2 hc hN hy hyl hsw hi ok hv hg (fun _ _ _ _ _ => dts_nil) hi1 hg1 (fun _ _ _ _ _ => dts_nil) he hs hs1) fun D σ H ⟨T, G0, H0, G, ρ, A, E, S, f, h, k⟩ =>
    lc2_of hws hws1 σ H _ (DF.frE _ _ _ ⟨G, ρ, A, _, S, h, fun s as v G' H' p g ok nd ha => k.1 _ _ _ _ _ p (take S f g ok nd ha i).1 (take S f g ok nd ha i).2⟩)
end
end DL

-- text DL21
set_option Elab.async false
set_option linter.all false
set_option maxRecDepth 100000
set_option maxHeartbeats 4000000
/-! Data layer: sorted of tuples, an empty one first: rearranged, that is all we ask. -/
namespace DL
open PySem PySem.Spec PyProof.Rows L2
theorem swo_data (f : Value → PyData) : SrtO.Swo fun v u => PySem.W.dataLt (f v) (f u) := by
  refine ⟨fun x y h => ?_, fun x y z h1 h2 => ?_⟩
  · cases e : PySem.W.dataLt (f y) (f x) with
    | false => rfl
    | true =>
      have := lex_trans _ _ _ h e
      rw [lex_irrefl] at this; cases this
  · cases e : PySem.W.dataLt (f z) (f x) with
    | false => rfl
    | true =>
      rcases lex_negTrans _ (PySem.W.keyToks (f y)) _ e with q | q
      · exact h2.symm.trans q |>.symm ▸ rfl
      · exact h1.symm.trans q |>.symm ▸ rfl
section
variable {prog : Program} {w : World} {A : Around} {E : Value → Shared → Prop} {s : Shared}
open PySem.W PySem.SeqAt
theorem oneLt_tup {xs ys : List PyData} {a b : Value} {as bs : List Addr} {Q : Bool → Shared → Prop} (ra : Reads s.heap a (.tuple xs) as) (rb : Reads s.heap b (.tuple ys) bs) (hal : alikeAll xs ys = true)
    (hu : A.units + min (PyData.tuple xs).depth (PyData.tuple ys).depth < cLine) (hq : Q (dataLt (.tuple xs) (.tuple ys)) s) : wpAny (model prog w) A (oneLt' true a b) Q E s := by
  cases ra with
  | @tuple l o vs n _ as₁ h1 h2 h3 h4 =>
    cases rb with
    | @tuple l' o' vs' n' _ bs₁ k1 k2 k3 k4 =>
      have n1 : vs.size = xs.length := by simpa using ReadsAll.length _ _ _ h4
      have n2 : vs'.size = ys.length := by simpa using ReadsAll.length _ _ _ k4
      rw [dataLt_tuple, ← firstLt_toks xs ys hal, ← n1, ← n2] at hq
      rw [oneLt'_eq]
      simp only [if_true]
      refine wpAny_bind (wpAny_cRoomFor (room_here hu) ?_)
      obtain ⟨cls, dd, data, sl⟩ := o
      obtain ⟨cls2, dd2, data2, sl2⟩ := o'
      simp only at h2 h3 k2 k3
      subst h2 h3 k2 k3
      refine wpAny_bind (wpAny_callSpecialIfBound?_slot (T := "tuple") ⟨_, h1, rfl⟩ F.slot_tuple_lt (call_meets F.slot_tuple_lt ⟨_, h1, rfl⟩ F.entry_tuple_lt (F.args_tuple_lt_2 _ _) (SeqAt.tuple_ltAt l l' vs vs' n n' dd dd2 sl sl2 (pairEq xs ys) (fun j => dataLt (xs.getD j .none) (ys.getD j .none))) ⟨h1, k1, fun j j1 j2 => ?_, fun j j1 j2 hj => ?_, ?_⟩))
      · have := eqAt_alikeAll xs ys A.in1 s vs.toList vs'.toList _ _ h4 k4 hal (room_in hu) j (by simpa using j1) (by simpa using j2)
        simpa using this
      · have := rcLt_alikeAll xs ys A.in1 s vs.toList vs'.toList _ _ h4 k4 hal (room_in hu) j (by simpa using j1) (by simpa using j2) hj
        simpa using this
      · exact wpAny_truthy_bool hq
theorem firstsZ : ∀ (vs : List Value) {Q : List (Option Value) → Shared → Prop}, (∀ v ∈ vs, ∃ a o xs n, v = Value.ref a ∧ s.heap.get? a = some o ∧ o.cls = .type "tuple" ∧ o.data = .seq xs n) →
    (∀ fs : List (Option Value), fs.length = vs.length → (∀ (a : Addr) (o : Obj) (n : Nat) (r : List Value), vs = Value.ref a :: r → s.heap.get? a = some o → o.data = .seq #[] n → fs[0]? = some none) → Q fs s) → wpAny (model prog w) A (vs.mapM firstOfTuple') Q E s
  | [], Q, _, h => by rw [List.mapM_nil]; exact wpAny_pure (h [] rfl fun _ _ _ _ e => nomatch e)
  | v :: vs, Q, hv, h => by
    obtain ⟨a, o, xs, n, rfl, ho, hc, hd⟩ := hv _ List.mem_cons_self
    rw [List.mapM_cons]
    refine wpAny_bind ?_
    rw [kas_first_eq]
    refine wpAny_bind (Looks.here (show Looks _ s.heap (typeOf (.ref a)) o.cls from (Looks.ld ho).andThen .now) ?_)
    rw [hc, if_neg (by first | decide | simp)]
    refine wpAny_bind (listItems_at ho hd (wpAny_pure ?_))
    refine wpAny_bind (firstsZ vs (fun u hu => hv u (List.mem_cons_of_mem _ hu)) fun fs hl _ => wpAny_pure (h (xs[0]? :: fs) (by simp [hl]) fun a' o' n' r e e1 e2 => ?_))
    injection e with e3 _
    injection e3 with e3
    subst e3
    rw [ho] at e1
    cases e1
    rw [hd] at e2
    injection e2 with e2 _
    subst e2
    rfl
theorem kindZ {vs : List Value} {a : Addr} {o : Obj} {n : Nat} {r : List Value} {Q : SortKind → Shared → Prop} (hv : ∀ v ∈ vs, ∃ a o xs n, v = Value.ref a ∧ s.heap.get? a = some o ∧ o.cls = .type "tuple" ∧ o.data = .seq xs n)
    (e : vs = Value.ref a :: r) (ho : s.heap.get? a = some o) (hd : o.data = .seq #[] n) (h : Q oneType' s) : wpAny (model prog w) A (keyKind' vs.toArray) Q E s := by
  rw [keyKind'_eq, List.mapM_toArray, map_eq_pure_bind]
  refine wpAny_bind (wpAny_bind (firstsZ vs hv fun fs hl h0 => wpAny_pure ?_))
  have f0 := h0 a o n r e ho hd
  obtain ⟨fr, rfl⟩ : ∃ fr, fs = none :: fr := by
    cases fs with
    | nil => cases f0
    | cons x fr => exact ⟨fr, by simpa using f0⟩
  rw [if_neg (by simp), if_neg (by simp)]
  rw [oneTypeOnly'_eq, List.mapM_toArray, map_eq_pure_bind]
  refine wpAny_bind (wpAny_bind (wpAny_bind (kas_mapM (r := Value.type "tuple") _ (fun v hv' Q' hq => ?_) (wpAny_pure ?_))))
  · obtain ⟨a', o', xs, n', rfl, ho', hc', _⟩ := hv v hv'
    refine Looks.here (show Looks _ s.heap (typeOf (.ref a')) (Value.type "tuple") from ?_) hq
    rw [← hc']
    exact (Looks.ld ho').andThen .now
  · subst e
    have hall : ((List.map (fun _ => Value.type "tuple") (Value.ref a :: r)).toArray.all fun x => x == Value.type "tuple") = true := by
      simp only [List.all_toArray, List.all_map, List.all_eq_true]
      intro _ _
      show (Value.type "tuple" == Value.type "tuple") = true
      decide
    have h0 : (List.map (fun _ => Value.type "tuple") (Value.ref a :: r)).toArray[0]? = some (Value.type "tuple") := by simp
    rw [h0]
    simp only [hall, if_true]
    exact wpAny_pure (wpAny_pure h)
end
theorem each_perm {α β : Type} {R : α → β → Prop} {l m : List α} (p : l.Perm m) : ∀ bs : List β, PySem.W.EachIs R m bs → ∃ es, es.Perm bs ∧ PySem.W.EachIs R l es := by
  induction p with
  | nil => intro bs h; exact ⟨bs, .refl _, h⟩
  | cons x p ih =>
    intro bs h
    cases h with
    | @cons _ b _ bs' r t =>
      obtain ⟨es, p1, e1⟩ := ih _ t
      exact ⟨b :: es, p1.cons b, .cons r e1⟩
  | swap x y l =>
    intro bs h
    cases h with
    | @cons _ b _ bs' r t =>
      cases t with
      | @cons _ c _ bs'' r2 t2 => exact ⟨c :: b :: bs'', .swap _ _ _, .cons r2 (.cons r t2)⟩
  | trans p1 p2 ih1 ih2 =>
    intro bs h
    obtain ⟨es, q1, e1⟩ := ih2 bs h
    obtain ⟨fs, q2, e2⟩ := ih1 es e1
    exact ⟨fs, q2.trans q1, e2⟩
theorem each_mem {α β : Type} {R : α → β → Prop} {l : List α} {bs : List β} (h : PySem.W.EachIs R l bs) : ∀ x ∈ l, ∃ b ∈ bs, R x b := by
  induction h with
  | nil => exact fun _ z => nomatch z
  | @cons a b as bs r t ih =>
    intro x hx
    rcases List.mem_cons.mp hx with e | hx
    · subst e; exact ⟨b, List.mem_cons_self, r⟩
    · obtain ⟨c, hc, q⟩ := ih x hx
      exact ⟨c, List.mem_cons_of_mem _ hc, q⟩
def rSortP : List V → Hp → VK → Prop := fun vs H Q => ∃ (G : Hp) (a : Addr) (us : List V) (ds : List (List PyData)), vs = [.ref a] ∧ Same G H ∧ G a = some (.lst us) ∧ RA G us (ds.map .tuple) ∧ ds.head? = some [] ∧ (∀ x ∈ ds, ∀ y ∈ ds, PySem.W.alikeAll x y = true) ∧ (∀ x ∈ ds, SeqAt.shaped (.tuple x) = true) ∧
  ∀ (es : List (List PyData)) (ws : List V) (p : Addr), es.Perm ds → H p = none → RA G ws (es.map .tuple) → Q (.ref p) (upd H p (.lst ws))
theorem cr_sortP {X : Cx} (hu : X.A.units + 67 < cLine) : CallR X (.builtin "sorted") rSortP := by
  intro pins s σ H vs us Q I r ⟨G, a, xs, ds, ex, sm, ea, ra, hd, hal, hsh, q⟩
  subst ex
  rw [Vals.ref1 r]
  obtain ⟨its, rv, pl, hz⟩ := I.list (SqL.of (sm _ _ ea))
  obtain ⟨e1, e2⟩ := each_of (P := X.prog) (w := X.w) I sm PyData.tuple ra rv hsh
  have hlen : its.length = xs.length := rv.length.symm
  have tup : ∀ v ∈ its, ∃ b ∈ ds, ∃ as, Reads s.heap v (.tuple b) as := each_mem e2
  have rdo : ∀ {v : Value} {b : List PyData} {as : List Addr}, b ∈ ds → Reads s.heap v (.tuple b) as → SeqAt.readOf s.heap v = .tuple b := fun hb r => SeqAt.readOf_eq (SeqAt.canLay_of_shaped (hsh _ hb)) r
  refine SrtO.sorted_ord (swo_data (SeqAt.readOf s.heap)) pl.isList (by rw [hlen]; exact hz) (fun h2 h₁ a0 ha0 kk => ?_) fun out hs hb => ?_
  · intro h' keep
    have all : ∀ b o, s.heap.get? b = some o → h'.get? b = some o := fun b o e => keep b o (kk b o e).1 (kk b o e).2
    refine ⟨oneType', fun Q2 E2 hq => ?_, fun p q hp hq' => ?_⟩
    · cases ds with
      | nil => cases hd
      | cons d0 dr =>
        have hd0 : d0 = [] := by simpa using hd
        subst hd0
        cases its with
        | nil => rw [List.length_nil] at h2; omega
        | cons v0 ir =>
          cases e2 with
          | cons r0 _ =>
            obtain ⟨as, r0⟩ := r0
            cases r0 with
            | @tuple b0 o0 vs0 n0 _ _ h1 h2' h3 h4 =>
              cases h4v : vs0.toList with
              | cons _ _ => rw [h4v] at h4; cases h4
              | nil =>
                have ev : vs0 = #[] := by
                  apply Array.ext'
                  rw [h4v]
                subst ev
                refine kindZ (s := { s with heap := h' }) (fun v hv => ?_) rfl (all _ _ h1) h3 hq
                obtain ⟨b, hb, as', r'⟩ := tup v hv
                cases r' with
                | @tuple b1 o1 vs1 n1 _ _ g1 g2 g3 g4 => exact ⟨b1, o1, vs1, n1, rfl, all _ _ g1, g2, g3⟩
    · obtain ⟨b, hb, as, r1⟩ := tup _ hp
      obtain ⟨c, hc, bs, r2⟩ := tup _ hq'
      have d1 := SeqAt.depth_of_shaped (hsh b hb)
      rw [keyLt'_oneType]
      refine oneLt_tup (s := { s with heap := h' }) (PyProof.Rows.Reads.keeps all r1) (PyProof.Rows.Reads.keeps all r2) (hal b hb c hc) ?_ ⟨rfl, ?_⟩
      · have : X.A.in1.in1.units = X.A.units + 2 := rfl
        omega
      · show _ = PySem.W.dataLt (SeqAt.readOf s.heap p.1) (SeqAt.readOf s.heap q.1)
        rw [rdo hb r1, rdo hc r2]
  · obtain ⟨es, p1, eo⟩ := each_perm hb.perm ds e1
    obtain ⟨ws, w1, w2⟩ := vals_each PyData.tuple eo
    obtain ⟨ep, he'⟩ := PyProof.Rows.sortedAll_at s.heap its out.toArray
    have hl2 : ws.length ≤ sizeLine := by rw [w1.length, hb.len, hlen]; exact hz
    exact ⟨.ref _, upd H (s.heap.objs.size + 1) (.lst ws), I.laid (t' := s.toks) (fun _ _ => PyProof.Rows.sortedAll_old) (Nat.le_succ _) ⟨hl2, out, ep, w1, by simpa using he'⟩, rfl, q es ws _ p1 (I.hok.fresh (Nat.le_succ _)) w2⟩
def gSortP : TF := fun qs P => ∃ ds : List (List PyData), qs = [.list (ds.map .tuple)] ∧ ds.head? = some [] ∧ (∀ x ∈ ds, ∀ y ∈ ds, PySem.W.alikeAll x y = true) ∧ (∀ x ∈ ds, SeqAt.shaped (.tuple x) = true) ∧ ∀ es : List (List PyData), es.Perm ds → P (.list (es.map .tuple))
theorem cd_sortP : CallD rSortP gSortP := by
  intro G H vs qs P Q s r ⟨ds, e, h1, h2, h3, p⟩ k
  subst e
  obtain ⟨v, rfl, rv⟩ := r.one
  obtain ⟨a, us, rfl, ea, ra⟩ := rv.lst_of
  refine ⟨G, a, us, ds, rfl, s, ea, ra, h1, h2, h3, fun es ws q hp hq rw' => ?_⟩
  have g := Grow.new (o := .lst ws) s hq
  exact k _ _ _ _ (p es hp) g (.lst upd_same (rw'.mono (g.gg s)))
end DL

-- text DL22
set_option Elab.async false
set_option linter.all false
set_option maxRecDepth 100000
set_option maxHeartbeats 4000000
/-! Data layer: an expression as a statement; comprehensions, loops told by plain functions. -/
namespace DL
open PySem PySem.Spec PyProof.Rows L2
section
variable {X : Cx} {e : Expr} {te : TD} {pos : Pos}
theorem ds_expr (h : DP X e te) (hs : swapsWith e none pos.line X.env = pure false := by rfl) : DS X (.Expr e pos) (fun E ρ => te ρ fun _ => E.nx ρ) := PS.wk (ps_expr h hs) fun D σ H ⟨T, G0, H0, G, ρ, A, E, S, f, h, k⟩ =>
  ⟨G, ρ, A, _, S, h, fun d v G1 H1 p g r => k.1 _ _ _ _ _ p (S.grow g) (f.grow S.gh g)⟩
end
/-! ### plain comprehensions: what is taken (p), what is made of it (f) -/
theorem take_succ_map {α β : Type} (f : α → β) {xs : List α} {i : Nat} {x : α} (h : xs[i]? = some x) : (xs.take (i + 1)).map f = (xs.take i).map f ++ [f x] := by
  rw [List.take_add_one, h, List.map_append]; rfl
/-- over encoded items: each is taken or not, and told -/
theorem lcF {α β : Type} {ti : TDI} {g : TDG} {tt : TDT} {te : TD} {vs : List Nat} {ρ : List SV} {P : List PyData → Prop} (bs : List α) (enc : α → PyData) (p : α → Bool) (f : α → β) (enc2 : β → PyData)
    (hi : ∀ Q : List PyData → Prop, Q (bs.map enc) → ti ρ Q) (hl : bs.length < 16777216)
    (h : ∀ x ∈ bs, ∀ Q : PyData → Prop, (p x = true → Q (enc2 (f x))) → ∀ R : Prop, (p x = false → R) → g (enc x) (wipeD ρ vs) fun ρ2 => tt ρ2 fun b => if b = true then te ρ2 Q else R)
    (hP : P (((bs.filter p).map f).map enc2)) : dLc ti g tt te vs ρ P := by
  refine hi _ ⟨fun i acc => acc = (((bs.take i).filter p).map f).map enc2, by simp, fun i x acc hx hacc => ?_, fun acc hacc => ?_⟩
  · rw [List.getElem?_map] at hx
    obtain ⟨y, hy, rfl⟩ : ∃ y, bs[i]? = some y ∧ enc y = x := by
      cases q : bs[i]? with
      | none => rw [q] at hx; cases hx
      | some y => rw [q] at hx; exact ⟨y, rfl, Option.some.inj hx⟩
    have hlen : acc.length < 16777216 := by
      rw [hacc, List.length_map, List.length_map]
      have h1 := List.length_filter_le p (bs.take i)
      have h2 := List.length_take_le i bs
      have h3 : (bs.take i).length ≤ bs.length := by rw [List.length_take]; omega
      omega
    refine ⟨hlen, h y (List.mem_of_getElem? hy) _ (fun hp => ?_) _ fun hp => ?_⟩
    · show _ = List.map enc2 (List.map f (List.filter p (List.take (i + 1) bs)))
      rw [hacc, List.take_add_one, hy]
      simp [List.filter_append, hp]
    · show _ = List.map enc2 (List.map f (List.filter p (List.take (i + 1) bs)))
      rw [hacc, List.take_add_one, hy]
      simp [List.filter_append, hp]
  · rw [hacc, List.length_map, List.take_length]
    exact hP
/-- .. all are taken -/
theorem lcM {α β : Type} {ti : TDI} {g : TDG} {te : TD} {vs : List Nat} {ρ : List SV} {P : List PyData → Prop} (bs : List α) (enc : α → PyData) (f : α → β) (enc2 : β → PyData)
    (hi : ∀ Q : List PyData → Prop, Q (bs.map enc) → ti ρ Q) (hl : bs.length < 16777216)
    (h : ∀ x ∈ bs, ∀ Q : PyData → Prop, Q (enc2 (f x)) → g (enc x) (wipeD ρ vs) fun ρ2 => te ρ2 Q)
    (hP : P ((bs.map f).map enc2)) : dLc ti g dYes te vs ρ P := by
  refine hi _ ⟨fun i acc => acc = ((bs.take i).map f).map enc2, by simp, fun i x acc hx hacc => ?_, fun acc hacc => ?_⟩
  · rw [List.getElem?_map] at hx
    obtain ⟨y, hy, rfl⟩ : ∃ y, bs[i]? = some y ∧ enc y = x := by
      cases q : bs[i]? with
      | none => rw [q] at hx; cases hx
      | some y => rw [q] at hx; exact ⟨y, rfl, Option.some.inj hx⟩
    have hlen : acc.length < 16777216 := by
      rw [hacc, List.length_map, List.length_map, List.length_take]
      omega
    refine ⟨hlen, ?_⟩
    have := h y (List.mem_of_getElem? hy) (fun z => acc ++ [z] = ((bs.take (i + 1)).map f).map enc2) (by rw [hacc, take_succ_map f hy]; simp)
    exact this
  · rw [hacc, List.length_map, List.take_length]
    exact hP
/-- ranges as encoded items -/
theorem rgD_enc (lo : Int) (n : Nat) : rgD lo n = ((List.range n).map fun i : Nat => lo + (i : Int)).map PyData.int := by simp [rgD]
theorem zip_map_zipD {α β : Type} (xs : List α) (ys : List β) (f : α → PyData) (g : β → PyData) : zipD (xs.map f) (ys.map g) = (xs.zip ys).map fun p => .tuple [f p.1, g p.2] := by
  simp [zipD, List.zip_map', List.zip_map, List.map_map, Function.comp_def]
theorem enumD_enc {α : Type} (xs : List α) (f : α → PyData) : enumD (xs.map f) = ((List.range xs.length).zip xs).map fun p => .tuple [.int (p.1 : Nat), f p.2] := by
  unfold enumD
  rw [List.length_map]
  have : rgD 0 xs.length = (List.range xs.length).map fun i : Nat => PyData.int (i : Nat) := by simp [rgD]
  rw [this, zip_map_zipD]
/-- a walk over encoded items -/
theorem forI {α : Type} {ti : TDI} {g : TDG} {tb : TDS} {ρ : List SV} {E : EndsD} (bs : List α) (enc : α → PyData) (hi : ∀ Q : List PyData → Prop, Q (bs.map enc) → ti ρ Q) (I : Nat → List SV → Prop) (h0 : I 0 ρ)
    (h : ∀ i x ρ1, bs[i]? = some x → I i ρ1 → g (enc x) ρ1 fun ρ2 => tb { nx := I (i + 1), rt := E.rt, bk := E.nx, ct := I (i + 1) } ρ2) (hf : ∀ ρ1, I bs.length ρ1 → E.nx ρ1) : dFor ti g tb E ρ := by
  refine hi _ ⟨I, h0, fun i x ρ1 hx hI => ?_, fun ρ1 hI => hf ρ1 (by rwa [List.length_map] at hI)⟩
  rw [List.getElem?_map] at hx
  obtain ⟨y, hy, rfl⟩ : ∃ y, bs[i]? = some y ∧ enc y = x := by
    cases q : bs[i]? with
    | none => rw [q] at hx; cases hx
    | some y => rw [q] at hx; exact ⟨y, rfl, Option.some.inj hx⟩
  exact h i y ρ1 hy hI
end DL

-- text D0
set_option Elab.async false
set_option linter.all false
set_option maxRecDepth 100000
set_option maxHeartbeats 4000000
namespace EvL
open PySem PySem.Spec PyProof.Rows L2 DL
abbrev B0 (K : PySem.W.Frag) (mg : Str → Option Value) : Prop := TB fal fnl K mg
section
variable {K : PySem.W.Frag} {mg : Str → Option Value}
theorem f_abs (B : B0 K mg) : mg "abs" = none := B.fre _ (B.says.fact 60 (f := .free "abs") rfl)
theorem f_all (B : B0 K mg) : mg "all" = none := B.fre _ (B.says.fact 61 (f := .free "all") rfl)
theorem f_any (B : B0 K mg) : mg "any" = none := B.fre _ (B.says.fact 62 (f := .free "any") rfl)
theorem f_bool (B : B0 K mg) : mg "bool" = none := B.fre _ (B.says.fact 63 (f := .free "bool") rfl)
theorem f_dict (B : B0 K mg) : mg "dict" = none := B.fre _ (B.says.fact 64 (f := .free "dict") rfl)
theorem f_enumerate (B : B0 K mg) : mg "enumerate" = none := B.fre _ (B.says.fact 65 (f := .free "enumerate") rfl)
theorem f_int (B : B0 K mg) : mg "int" = none := B.fre _ (B.says.fact 66 (f := .free "int") rfl)
theorem f_isinstance (B : B0 K mg) : mg "isinstance" = none := B.fre _ (B.says.fact 67 (f := .free "isinstance") rfl)
theorem f_len (B : B0 K mg) : mg "len" = none := B.fre _ (B.says.fact 68 (f := .free "len") rfl)
theorem f_list (B : B0 K mg) : mg "list" = none := B.fre _ (B.says.fact 69 (f := .free "list") rfl)
theorem f_max (B : B0 K mg) : mg "max" = none := B.fre _ (B.says.fact 70 (f := .free "max") rfl)
theorem f_min (B : B0 K mg) : mg "min" = none := B.fre _ (B.says.fact 71 (f := .free "min") rfl)
theorem f_range (B : B0 K mg) : mg "range" = none := B.fre _ (B.says.fact 72 (f := .free "range") rfl)
theorem f_set (B : B0 K mg) : mg "set" = none := B.fre _ (B.says.fact 73 (f := .free "set") rfl)
theorem f_sorted (B : B0 K mg) : mg "sorted" = none := B.fre _ (B.says.fact 74 (f := .free "sorted") rfl)
theorem f_str (B : B0 K mg) : mg "str" = none := B.fre _ (B.says.fact 75 (f := .free "str") rfl)
theorem f_sum (B : B0 K mg) : mg "sum" = none := B.fre _ (B.says.fact 76 (f := .free "sum") rfl)
theorem f_tuple (B : B0 K mg) : mg "tuple" = none := B.fre _ (B.says.fact 77 (f := .free "tuple") rfl)
theorem f_zip (B : B0 K mg) : mg "zip" = none := B.fre _ (B.says.fact 78 (f := .free "zip") rfl)
theorem dp_most {X : Cx} {pos : Pos} (B : B0 X.K X.mg) (hg : Gl X "MOST_PAIRS") : DP X (.Name "MOST_PAIRS" pos) (dC (.int 480)) := by
  obtain ⟨t, e⟩ := B.int _ _ (B.says.fact 79 (f := .int "MOST_PAIRS" 480) rfl)
  exact dp_const (pe_glob (v := .int 480) hg e ⟨t, rfl⟩) fun _ => .int _
end
theorem hu65 {A : Around} {k : Nat} (hr : Room k A) : A.units + 65 < cLine := by
  have := hr.un
  omega
theorem hu67 {A : Around} {k : Nat} (hr : Room k A) : A.units + 67 < cLine := by
  have := hr.un
  omega
theorem hu_of {A : Around} {k : Nat} (hr : Room k A) : A.units + 1 < cLine := by
  have := hr.un
  omega
theorem hu2 {A : Around} {k : Nat} (hr : Room k A) : A.units + 2 < cLine := by
  have := hr.un
  omega
end EvL

-- text V0
set_option Elab.async false
set_option linter.all false
set_option maxRecDepth 100000
set_option maxHeartbeats 4000000
/-! What the data are: pairs, moves, arrows, stands, frames; plain orders. -/
namespace EvL
open PySem PySem.Spec PyProof.Rows L2 DL
abbrev Pr := Int × Int
abbrev Mv := Int × Int × Int
def kP (p : Pr) : List Int := [p.1, p.2]
def kM (m : Mv) : List Int := [m.1, m.2.1, m.2.2]
abbrev eP (p : Pr) : PyData := .tuple [.int p.1, .int p.2]
abbrev eM (m : Mv) : PyData := .tuple [.int m.1, .int m.2.1, .int m.2.2]
abbrev eTP (ps : List Pr) : PyData := .tuple (ps.map eP)
abbrev eTM (ms : List Mv) : PyData := .tuple (ms.map eM)
abbrev eA (a : Mv × Mv) : PyData := .tuple [eM a.1, eM a.2]
abbrev eTA (as : List (Mv × Mv)) : PyData := .tuple (as.map eA)
abbrev eS (s : List Int) : PyData := .tuple (s.map .int)
abbrev eF (n : Int) (bs : List Pr) : PyData := .tuple [.int n, eTP bs]
theorem eP_tupI (p : Pr) : eP p = tupI (kP p) := rfl
theorem eM_tupI (m : Mv) : eM m = tupI (kM m) := rfl
theorem kP_inj {p q : Pr} (h : kP p = kP q) : p = q := by
  simp only [kP, List.cons.injEq, and_true] at h
  exact Prod.ext h.1 h.2
theorem kM_inj {p q : Mv} (h : kM p = kM q) : p = q := by
  simp only [kM, List.cons.injEq, and_true] at h
  exact Prod.ext h.1 (Prod.ext h.2.1 h.2.2)
/-! tuple(thing), all the way down -/
mutual
def tupledD : PyData → PyData
  | .list ds => .tuple (tupledAll ds)
  | .tuple ds => .tuple (tupledAll ds)
  | .none => .none
  | .bool b => .bool b
  | .int i => .int i
  | .str x => .str x
  | .dict kvs => .dict kvs
def tupledAll : List PyData → List PyData
  | [] => []
  | d :: ds => tupledD d :: tupledAll ds
end
mutual
def listsD : PyData → PyData
  | .list ds => .list (listsAll ds)
  | .tuple ds => .list (listsAll ds)
  | .none => .none
  | .bool b => .bool b
  | .int i => .int i
  | .str x => .str x
  | .dict kvs => .dict kvs
def listsAll : List PyData → List PyData
  | [] => []
  | d :: ds => listsD d :: listsAll ds
end
/-! no dicts, no texts, not too long, less than d deep -/
mutual
def okD : Nat → PyData → Bool
  | 0, _ => false
  | n + 1, .list ds => decide (ds.length < 16777216) && okAll n ds
  | n + 1, .tuple ds => decide (ds.length < 16777216) && okAll n ds
  | _ + 1, .none => true
  | _ + 1, .bool _ => true
  | _ + 1, .int _ => true
  | _ + 1, .str _ => false
  | _ + 1, .dict _ => false
def okAll : Nat → List PyData → Bool
  | _, [] => true
  | n, d :: ds => okD n d && okAll n ds
end
theorem tupledAll_map : ∀ ds : List PyData, tupledAll ds = ds.map tupledD
  | [] => by simp [tupledAll]
  | d :: ds => by rw [tupledAll, tupledAll_map ds]; rfl
theorem listsAll_map : ∀ ds : List PyData, listsAll ds = ds.map listsD
  | [] => by simp [listsAll]
  | d :: ds => by rw [listsAll, listsAll_map ds]; rfl
theorem okAll_iff {n : Nat} : ∀ {ds : List PyData}, okAll n ds = true ↔ ∀ d ∈ ds, okD n d = true
  | [] => by simp [okAll]
  | d :: ds => by rw [okAll, Bool.and_eq_true, okAll_iff, List.forall_mem_cons]
theorem cut_from (xs : List PyData) (k : Nat) : DL.cutD xs (some (k : Int)) none = xs.drop k := by
  unfold DL.cutD
  have a1 : HT.sIx xs.length 0 (some (k : Int)) = min k xs.length := by
    simp [HT.sIx]
    try omega
  have a2 : HT.sIx xs.length xs.length none = xs.length := by simp [HT.sIx]
  rw [a1, a2]
  by_cases h : k ≤ xs.length
  · rw [Nat.min_eq_left h, List.take_of_length_le (by simp)]
  · rw [Nat.min_eq_right (by omega), List.drop_of_length_le (Nat.le_refl _), List.drop_of_length_le (by omega)]
    simp
theorem cut_to (xs : List PyData) (k : Nat) : DL.cutD xs none (some (k : Int)) = xs.take k := by
  unfold DL.cutD
  have a1 : HT.sIx xs.length xs.length (some (k : Int)) = min k xs.length := by
    simp [HT.sIx]
    try omega
  have a2 : HT.sIx xs.length 0 none = 0 := by simp [HT.sIx]
  rw [a1, a2]
  simp [List.take_eq_take_iff]
end EvL

-- text D1
set_option Elab.async false
set_option linter.all false
set_option maxRecDepth 100000
set_option maxHeartbeats 4000000
namespace EvL
open PySem PySem.Spec PyProof.Rows L2 DL
section
variable {P : Program} {w : World} {K : PySem.W.Frag} {mg : Str → Option Value} {base : Heap}
def C_is_number : TF := fun ds P => ∃ d, ds = [d] ∧ isDic d = false ∧ P (.bool (isInt d && !isBool d))
abbrev N_is_number : List Str := ["thing"]
theorem sc_is_number : FnScope N_is_number ["thing"] (defScope s_is_number) := ⟨rfl, rfl, rfl, by decide +kernel, rfl, by decide +kernel, by decide +kernel⟩
theorem o_is_number (B : B0 K mg) : Ok P w K mg base "is_number" ["thing"] 1 C_is_number := by
  have nd := sc_is_number.nd
  obtain ⟨fd, F⟩ := B.says.def_ 1 (d := mkD "is_number" s_is_number) rfl
  refine ⟨fd, fn_dl (C := C_is_number) F sc_is_number (by rintro ds Q ⟨d, rfl, _⟩; rfl) (fun cdv A outer s H E hr => (dss_one (ds_ret (dp_and (dp_isi tab_int (dp_var (pv 0 rfl (Or.inl rfl))) (by rfl) (f_isinstance B) (pe_bltn (by rfl) (f_int B) (by decide +kernel) rfl)) (dp_one (dp_not (dp_isi tab_bool (dp_var (pv 0 rfl (Or.inl rfl))) (by rfl) (f_isinstance B) (pe_bltn (by rfl) (f_bool B) (by decide +kernel) rfl)))))))) ?_, FunD.bindsN F (fun _ _ _ _ _ _ us hl => match us, hl with | [_], _ => rfl), F.kp, B.glo _ (B.says.fact 1 (f := .glo "is_number") rfl)⟩
  rintro ds Q ⟨d, rfl, hd, q⟩
  refine ⟨_, rfl, hd, _, rfl, ?_⟩
  cases h : isInt d with
  | true => exact ⟨_, rfl, hd, _, rfl, by rw [h] at q; exact q⟩
  | false => rw [h] at q; exact q
def C_is_count : TF := fun ds P => ∃ i : Int, ds = [.int i] ∧ P (.bool (decide (0 ≤ i)))
abbrev N_is_count : List Str := ["thing"]
theorem sc_is_count : FnScope N_is_count ["thing"] (defScope s_is_count) := ⟨rfl, rfl, rfl, by decide +kernel, rfl, by decide +kernel, by decide +kernel⟩
theorem o_is_count (B : B0 K mg) : Ok P w K mg base "is_count" ["thing"] 2 C_is_count := by
  have nd := sc_is_count.nd
  obtain ⟨fd, F⟩ := B.says.def_ 2 (d := mkD "is_count" s_is_count) rfl
  refine ⟨fd, fn_dl (C := C_is_count) F sc_is_count (by rintro ds Q ⟨d, rfl, _⟩; rfl) (fun cdv A outer s H E hr => (dss_one (ds_ret (dp_and (dp_fn (o_is_number B) hr (by rfl) (da_cons (dp_var (pv 0 rfl (Or.inl rfl))) da_nil)) (dp_one (dp_cmp op_ge od_ge (dp_var (pv 0 rfl (Or.inl rfl))) dp_int (nomark _))))))) ?_, FunD.bindsN F (fun _ _ _ _ _ _ us hl => match us, hl with | [_], _ => rfl), F.kp, B.glo _ (B.says.fact 2 (f := .glo "is_count") rfl)⟩
  rintro ds Q ⟨i, rfl, q⟩
  exact ⟨_, rfl, _, rfl, rfl, _, rfl, _, rfl, q⟩
def C_is_below : TF := fun ds P => ∃ i n : Int, ds = [.int i, .int n] ∧ P (.bool (decide (0 ≤ i) && decide (i < n)))
abbrev N_is_below : List Str := ["thing", "many"]
theorem sc_is_below : FnScope N_is_below ["thing", "many"] (defScope s_is_below) := ⟨rfl, rfl, rfl, by decide +kernel, rfl, by decide +kernel, by decide +kernel⟩
theorem o_is_below (B : B0 K mg) : Ok P w K mg base "is_below" ["thing", "many"] 3 C_is_below := by
  have nd := sc_is_below.nd
  obtain ⟨fd, F⟩ := B.says.def_ 3 (d := mkD "is_below" s_is_below) rfl
  refine ⟨fd, fn_dl (C := C_is_below) F sc_is_below (by rintro ds Q ⟨i, n, rfl, _⟩; rfl) (fun cdv A outer s H E hr => (dss_one (ds_ret (dp_and (dp_fn (o_is_count B) hr (by rfl) (da_cons (dp_var (pv 0 rfl (Or.inl rfl))) da_nil)) (dp_one (dp_cmp op_lt od_lt (dp_var (pv 0 rfl (Or.inl rfl))) (dp_var (pv 1 rfl (Or.inl rfl))) (nomark _))))))) ?_, FunD.bindsN F (fun _ _ _ _ _ _ us hl => match us, hl with | [_, _], _ => rfl), F.kp, B.glo _ (B.says.fact 3 (f := .glo "is_below") rfl)⟩
  rintro ds Q ⟨i, n, rfl, q⟩
  refine ⟨_, rfl, _, rfl, _, rfl, ?_⟩
  cases h : decide (0 ≤ i) with
  | true => exact ⟨_, rfl, _, rfl, by rw [h] at q; exact q⟩
  | false => rw [h] at q; exact q
def C_is_tuple_of : TF := fun ds P => ∃ (d : PyData) (n : Int), ds = [d, .int n] ∧ isDic d = false ∧ P (.bool (match d with | .tuple xs => decide ((xs.length : Int) = n) | _ => false))
abbrev N_is_tuple_of : List Str := ["thing", "size"]
theorem sc_is_tuple_of : FnScope N_is_tuple_of ["thing", "size"] (defScope s_is_tuple_of) := ⟨rfl, rfl, rfl, by decide +kernel, rfl, by decide +kernel, by decide +kernel⟩
theorem o_is_tuple_of (B : B0 K mg) : Ok P w K mg base "is_tuple_of" ["thing", "size"] 1 C_is_tuple_of := by
  have nd := sc_is_tuple_of.nd
  obtain ⟨fd, F⟩ := B.says.def_ 4 (d := mkD "is_tuple_of" s_is_tuple_of) rfl
  refine ⟨fd, fn_dl (C := C_is_tuple_of) F sc_is_tuple_of (by rintro ds Q ⟨d, n, rfl, _⟩; rfl) (fun cdv A outer s H E hr => (dss_one (ds_ret (dp_and (dp_isi tab_tup (dp_var (pv 0 rfl (Or.inl rfl))) (by rfl) (f_isinstance B) (pe_bltn (by rfl) (f_tuple B) (by decide +kernel) rfl)) (dp_one (dp_cmp (op_eqD hr.units) od_eq (dp_callB call_len cd_len (by rfl) (f_len B) (by decide +kernel) (da_cons (dp_var (pv 0 rfl (Or.inl rfl))) da_nil)) (dp_var (pv 1 rfl (Or.inl rfl))) (nomark _))))))) ?_, FunD.bindsN F (fun _ _ _ _ _ _ us hl => match us, hl with | [_, _], _ => rfl), F.kp, B.glo _ (B.says.fact 4 (f := .glo "is_tuple_of") rfl)⟩
  rintro ds Q ⟨d, n, rfl, hd, q⟩
  refine ⟨_, rfl, hd, _, rfl, ?_⟩
  cases d with
  | tuple xs => exact ⟨_, rfl, _, _, rfl, rfl, _, rfl, rfl, rfl, q⟩
  | _ => exact q
end
end EvL

-- text D2
set_option Elab.async false
set_option linter.all false
set_option maxRecDepth 100000
set_option maxHeartbeats 4000000
namespace EvL
open PySem PySem.Spec PyProof.Rows L2 DL
section
variable {P : Program} {w : World} {K : PySem.W.Frag} {mg : Str → Option Value} {base : Heap}
theorem okD_nd {n : Nat} {d : PyData} (h : okD n d = true) : isDic d = false := by
  cases d <;> first | rfl | (cases n <;> simp [okD] at h)
def C_tupled : Nat → TF := fun n ds P => ∃ d, ds = [d] ∧ okD n d = true ∧ P (tupledD d)
abbrev N_tupled : List Str := ["thing", "part"]
theorem sc_tupled : FnScope N_tupled ["thing"] (defScope s_tupled) := ⟨rfl, rfl, rfl, by decide +kernel, rfl, by decide +kernel, by decide +kernel⟩
theorem o_tupled (B : B0 K mg) : ∀ n : Nat, Ok P w K mg base "tupled" ["thing"] n (C_tupled n) := by
  have nd := sc_tupled.nd
  obtain ⟨fd, F⟩ := B.says.def_ 0 (d := mkD "tupled" s_tupled) rfl
  have z : ∀ ds P, ¬ C_tupled 0 ds P := by rintro ds P ⟨d, rfl, h, _⟩; simp [okD] at h
  intro n
  induction n with
  | zero => exact ⟨fd, ⟨fun _ _ _ _ ⟨_, _, _, _, _, c, _⟩ => absurd c (z _ _), fun _ _ _ _ _ _ _ _ _ _ _ _ _ ⟨_, _, _, _, _, c, _⟩ => absurd c (z _ _)⟩, FunD.bindsN F (fun _ _ _ _ _ _ us hl => match us, hl with | [_], _ => rfl), F.kp, B.glo _ (B.says.fact 0 (f := .glo "tupled") rfl)⟩
  | succ n IH =>
    refine ⟨fd, fn_dl (C := C_tupled (n + 1)) F sc_tupled (by rintro ds Q ⟨d, rfl, _⟩; rfl) (fun cdv A outer s H E hr => (dss_one (ds_ret (dp_if (dt_val (dp_isi2 tab_seq (dp_var (pv 0 rfl (Or.inl rfl))) (by rfl) (f_isinstance B) (pe_bltn (by rfl) (f_list B) (by decide +kernel) rfl) (pe_bltn (by rfl) (f_tuple B) (by decide +kernel) rfl))) (dp_callTy call_tuple_of cd_tup (by rfl) (f_tuple B) (by decide +kernel) (da_cons (DF.dp (df_lc (own := [("part", 1)]) (ws := [1]) rfl nd (di_seq (dp_var (pv 0 rfl (Or.inl rfl)))) (blkOk_by (N := N_tupled) (sc := (defScope s_tupled)) (by decide +kernel)) (by decide) (fun _ _ _ _ _ => (dg_name (pg_name (i := 1) nd rfl (Or.inl rfl)))) (fun _ _ _ _ _ => dts_nil) (fun _ _ _ _ _ => (dp_fn IH hr (by rfl) (da_cons (dp_var (pv 1 rfl (Or.inl rfl))) da_nil) (Nat.le_refl _))))) da_nil)) (dp_var (pv 0 rfl (Or.inl rfl))))))) ?_, FunD.bindsN F (fun _ _ _ _ _ _ us hl => match us, hl with | [_], _ => rfl), F.kp, B.glo _ (B.says.fact 0 (f := .glo "tupled") rfl)⟩
    rintro ds Q ⟨d, rfl, ok, q⟩
    have seq : ∀ xs : List PyData, itemsOf d = some xs → isSeq d = true → xs.length < 16777216 → okAll n xs = true → Q (.tuple (xs.map tupledD)) → dIf (dB (dIsi isSeq (dV 0))) (dApp gTupOf (dCons (dOfF (dLc (dSeq (dV 0)) (dgName 1) dYes (dApp (C_tupled n) (dCons (dV 1) dNil)) [1])) dNil)) (dV 0) (startD N_tupled [d]) Q := by
      intro xs hi hs hl ha hq
      refine ⟨_, rfl, okD_nd ok, _, rfl, ?_⟩
      rw [hs]
      refine lcM (ti := dSeq (dV 0)) xs id tupledD id (fun R hR => ⟨_, rfl, xs, hi, by rwa [List.map_id] at hR⟩) hl (fun x hx R hR => ?_) ?_
      · exact ⟨_, rfl, _, rfl, okAll_iff.mp ha x hx, hR⟩
      · rw [List.map_id]
        exact ⟨_, _, rfl, rfl, hq⟩
    cases d with
    | list xs =>
      rw [okD, Bool.and_eq_true, decide_eq_true_eq] at ok
      exact seq xs rfl rfl ok.1 ok.2 (by rw [tupledD, tupledAll_map] at q; exact q)
    | tuple xs =>
      rw [okD, Bool.and_eq_true, decide_eq_true_eq] at ok
      exact seq xs rfl rfl ok.1 ok.2 (by rw [tupledD, tupledAll_map] at q; exact q)
    | none => exact ⟨_, rfl, rfl, _, rfl, _, rfl, by rw [tupledD] at q; exact q⟩
    | bool b => exact ⟨_, rfl, rfl, _, rfl, _, rfl, by rw [tupledD] at q; exact q⟩
    | int i => exact ⟨_, rfl, rfl, _, rfl, _, rfl, by rw [tupledD] at q; exact q⟩
    | str x => simp [okD] at ok
    | dict x => simp [okD] at ok
def C_ascends : TF := fun ds P => ∃ ks : List (List Int), ds = [.tuple (ks.map tupI)] ∧ ks.length < 1000 ∧ (∀ (i : Nat) (x y : List Int), ks[i]? = some x → ks[i + 1]? = some y → HT.lexLt x y = true) ∧ P (.bool true)
abbrev N_ascends : List Str := ["thing", "near", "far"]
theorem sc_ascends : FnScope N_ascends ["thing"] (defScope s_ascends) := ⟨rfl, rfl, rfl, by decide +kernel, rfl, by decide +kernel, by decide +kernel⟩
theorem o_ascends (B : B0 K mg) : Ok P w K mg base "ascends" ["thing"] 1 C_ascends := by
  have nd := sc_ascends.nd
  obtain ⟨fd, F⟩ := B.says.def_ 5 (d := mkD "ascends" s_ascends) rfl
  refine ⟨fd, fn_dl (C := C_ascends) F sc_ascends (by rintro ds Q ⟨ks, rfl, _⟩; rfl) (fun cdv A outer s H E hr => (dss_one (ds_ret (dp_callB (cr_all rfl) cd_all (by rfl) (f_all B) (by decide +kernel) (da_cons (DF.dp (df_lc (own := [("near", 1), ("far", 2)]) (ws := [1, 2]) rfl nd (di_zip (by rfl) (f_zip B) (da_cons (dp_var (pv 0 rfl (Or.inl rfl))) (da_cons (dp_slice (dp_var (pv 0 rfl (Or.inl rfl))) (do_some dp_int) do_none) da_nil))) (blkOk_by (N := N_ascends) (sc := (defScope s_ascends)) (by decide +kernel)) (by decide) (fun _ _ _ _ _ => (dg_tup rfl (dgs_cons (dg_name (pg_name (i := 1) nd rfl (Or.inl rfl))) (dgs_cons (dg_name (pg_name (i := 2) nd rfl (Or.inl rfl))) dgs_nil)))) (fun _ _ _ _ _ => dts_nil) (fun _ _ _ _ _ => (dp_cmp (op_ltT hr.units0) od_ltT (dp_var (pv 1 rfl (Or.inl rfl))) (dp_var (pv 2 rfl (Or.inl rfl))) (nomark _))))) da_nil))))) ?_, FunD.bindsN F (fun _ _ _ _ _ _ us hl => match us, hl with | [_], _ => rfl), F.kp, B.glo _ (B.says.fact 5 (f := .glo "ascends") rfl)⟩
  rintro ds Q ⟨ks, rfl, hl, h, q⟩
  have e1 : DL.cutD (ks.map tupI) (some 1) none = (ks.drop 1).map tupI := by
    rw [show (some (1 : Int)) = some ((1 : Nat) : Int) from rfl, cut_from, List.map_drop]
  refine lcM (ti := dZip _) (ks.zip (ks.drop 1)) (fun p => .tuple [tupI p.1, tupI p.2]) (fun _ => true) PyData.bool (fun R hR => ⟨_, rfl, _, rfl, _, _, rfl, _, _, .inr ⟨rfl, rfl⟩, ?_⟩) (by simp; omega) (fun x hx R hR => ?_) ?_
  · rw [e1, zip_map_zipD]; exact hR
  · obtain ⟨i, hi⟩ := List.mem_iff_getElem?.mp hx
    rw [List.getElem?_zip_eq_some, List.getElem?_drop] at hi
    have := h i x.1 x.2 hi.1 (by rw [Nat.add_comm]; exact hi.2)
    exact ⟨_, rfl, rfl, _, rfl, _, rfl, _, _, rfl, rfl, by rw [this]; exact hR⟩
  · refine ⟨_, rfl, ?_⟩
    have : (((ks.zip (ks.drop 1)).map fun _ => true).all id) = true := by simp
    rw [this]
    exact q
def C_set_of : TF := fun ds P => ∃ ns : List Int, ds = [.list (ns.map .int)] ∧ ns.length < 64 ∧ ∀ ms : List Int, ms.Pairwise (· < ·) → (∀ k, k ∈ ms ↔ k ∈ ns) → P (.tuple (ms.map .int))
abbrev N_set_of : List Str := ["things"]
theorem sc_set_of : FnScope N_set_of ["things"] (defScope s_set_of) := ⟨rfl, rfl, rfl, by decide +kernel, rfl, by decide +kernel, by decide +kernel⟩
theorem o_set_of (B : B0 K mg) : Ok P w K mg base "set_of" ["things"] 1 C_set_of := by
  have nd := sc_set_of.nd
  obtain ⟨fd, F⟩ := B.says.def_ 6 (d := mkD "set_of" s_set_of) rfl
  refine ⟨fd, fn_dl (C := C_set_of) F sc_set_of (by rintro ds Q ⟨ns, rfl, _⟩; rfl) (fun cdv A outer s H E hr => (dss_one (ds_ret (dp_callTy call_tuple_of cd_tup (by rfl) (f_tuple B) (by decide +kernel) (da_cons (dp_ssetI (hu65 hr) rfl (by rfl) (f_sorted B) (by rfl) (f_set B) (dp_var (pv 0 rfl (Or.inl rfl)))) da_nil))))) ?_, FunD.bindsN F (fun _ _ _ _ _ _ us hl => match us, hl with | [_], _ => rfl), F.kp, B.glo _ (B.says.fact 6 (f := .glo "set_of") rfl)⟩
  rintro ds Q ⟨ns, rfl, hl, h⟩
  exact ⟨_, rfl, ns, rfl, hl, fun ms h1 h2 => ⟨_, _, rfl, rfl, h ms h1 h2⟩⟩
def C_is_beam_among : TF := fun ds P => ∃ (b : Pr) (n : Int), ds = [eP b, .int n] ∧ 0 ≤ b.1 ∧ b.1 < b.2 ∧ b.2 < n ∧ P (.bool true)
abbrev N_is_beam_among : List Str := ["thing", "many"]
theorem sc_is_beam_among : FnScope N_is_beam_among ["thing", "many"] (defScope s_is_beam_among) := ⟨rfl, rfl, rfl, by decide +kernel, rfl, by decide +kernel, by decide +kernel⟩
theorem o_is_beam_among (B : B0 K mg) : Ok P w K mg base "is_beam_among" ["thing", "many"] 4 C_is_beam_among := by
  have nd := sc_is_beam_among.nd
  obtain ⟨fd, F⟩ := B.says.def_ 7 (d := mkD "is_beam_among" s_is_beam_among) rfl
  refine ⟨fd, fn_dl (C := C_is_beam_among) F sc_is_beam_among (by rintro ds Q ⟨b, n, rfl, _⟩; rfl) (fun cdv A outer s H E hr => (dss_one (ds_ret (dp_and (dp_fn (o_is_tuple_of B) hr (by rfl) (da_cons (dp_var (pv 0 rfl (Or.inl rfl))) (da_cons dp_int da_nil))) (dp_and (dp_fn (o_is_below B) hr (by rfl) (da_cons (dp_ix (dp_var (pv 0 rfl (Or.inl rfl))) dp_int (fun _ _ => rfl)) (da_cons (dp_var (pv 1 rfl (Or.inl rfl))) da_nil))) (dp_and (dp_fn (o_is_below B) hr (by rfl) (da_cons (dp_ix (dp_var (pv 0 rfl (Or.inl rfl))) dp_int (fun _ _ => rfl)) (da_cons (dp_var (pv 1 rfl (Or.inl rfl))) da_nil))) (dp_one (dp_cmp op_lt od_lt (dp_ix (dp_var (pv 0 rfl (Or.inl rfl))) dp_int (fun _ _ => rfl)) (dp_ix (dp_var (pv 0 rfl (Or.inl rfl))) dp_int (fun _ _ => rfl)) (nomark _))))))))) ?_, FunD.bindsN F (fun _ _ _ _ _ _ us hl => match us, hl with | [_, _], _ => rfl), F.kp, B.glo _ (B.says.fact 7 (f := .glo "is_beam_among") rfl)⟩
  rintro ds Q ⟨⟨x, y⟩, n, rfl, h0, h1, h2, q⟩
  have e1 : (decide (0 ≤ x) && decide (x < n)) = true := by simp; simp at h0 h1 h2; omega
  have e2 : (decide (0 ≤ y) && decide (y < n)) = true := by simp; simp at h0 h1 h2; omega
  refine ⟨_, rfl, _, _, rfl, rfl, _, rfl, ?_⟩
  refine ⟨_, rfl, by decide, _, rfl, _, rfl, _, _, rfl, _, rfl, ?_⟩
  rw [e1]
  refine ⟨_, rfl, by decide, _, rfl, _, rfl, _, _, rfl, _, rfl, ?_⟩
  rw [e2]
  refine ⟨_, rfl, by decide, _, rfl, _, rfl, by decide, _, rfl, ?_⟩
  show Q (.bool (decide (x < y)))
  rw [decide_eq_true h1]
  exact q
def C_jacks_of : TF := fun ds P => ∃ bs : List Pr, ds = [eTP bs] ∧ bs.length < 32 ∧ ∀ ms : List Int, ms.Pairwise (· < ·) → (∀ k, k ∈ ms ↔ ∃ b ∈ bs, k = b.1 ∨ k = b.2) → P (eS ms)
abbrev N_jacks_of : List Str := ["beams", "found", "beam"]
theorem sc_jacks_of : FnScope N_jacks_of ["beams"] (defScope s_jacks_of) := ⟨rfl, rfl, rfl, by decide +kernel, rfl, by decide +kernel, by decide +kernel⟩
theorem o_jacks_of (B : B0 K mg) : Ok P w K mg base "jacks_of" ["beams"] 2 C_jacks_of := by
  have nd := sc_jacks_of.nd
  obtain ⟨fd, F⟩ := B.says.def_ 8 (d := mkD "jacks_of" s_jacks_of) rfl
  refine ⟨fd, fn_dl (C := C_jacks_of) F sc_jacks_of (by rintro ds Q ⟨bs, rfl, _⟩; rfl) (fun cdv A outer s H E hr => (dss_cons (ds_set (i := 1) nd rfl (Or.inl rfl) (DF.de (df_lst da_nil)))
    (dss_cons (ds_for PassesOwn.never rfl (di_seq (dp_var (pv 0 rfl (Or.inl rfl)))) (dg_name (pg_name (i := 2) nd rfl (Or.inl rfl))) (dss_one (ds_extend (pv 1 rfl (Or.inl rfl)) (dp_var (pv 2 rfl (Or.inl rfl))))))
    (dss_frzS 1 (dss_one (ds_ret (dp_fn (o_set_of B) hr (by rfl) (da_cons (dp_var (pv 1 rfl (Or.inl rfl))) da_nil)))))))) ?_, FunD.bindsN F (fun _ _ _ _ _ _ us hl => match us, hl with | [_], _ => rfl), F.kp, B.glo _ (B.says.fact 8 (f := .glo "jacks_of") rfl)⟩
  rintro ds Q ⟨bs, rfl, hl, h⟩
  refine ⟨by decide, ?_⟩
  refine forI (ti := dSeq (dV 0)) bs eP (fun R hR => ⟨_, rfl, _, rfl, hR⟩) (fun i ρ => ∃ y, ρ = [.sh (eTP bs), .ow (((bs.take i).map fun b : Pr => [PyData.int b.1, .int b.2]).flatten), y]) ⟨_, rfl⟩ ?_ ?_
  · rintro i b ρ hb ⟨y, rfl⟩
    refine ⟨_, rfl, _, rfl, _, rfl, ?_, .sh (eP b), ?_⟩
    · have h1 : (bs.take i).length ≤ bs.length := by rw [List.length_take]; omega
      have : ∀ l : List Pr, (l.map fun b : Pr => [PyData.int b.1, .int b.2]).flatten.length = 2 * l.length := by
        intro l
        induction l with
        | nil => rfl
        | cons a l ih => simp at ih ⊢; omega
      rw [this]
      simp
      omega
    · rw [take_succ_map _ hb, List.flatten_append]
      rfl
  · rintro ρ ⟨y, rfl⟩
    rw [List.take_length]
    refine ⟨_, _, rfl, rfl, _, rfl, (bs.map fun b : Pr => [b.1, b.2]).flatten, ?_, ?_, fun ms h1 h2 => h ms h1 fun k => ?_⟩
    · rw [List.map_flatten, List.map_map]
      rfl
    · have : ∀ l : List Pr, (l.map fun b : Pr => [b.1, b.2]).flatten.length = 2 * l.length := by
        intro l
        induction l with
        | nil => rfl
        | cons a l ih => simp at ih ⊢; omega
      rw [this]
      omega
    · rw [h2]
      simp only [List.mem_flatten, List.mem_map]
      constructor
      · rintro ⟨l, ⟨b, hb, rfl⟩, hk⟩
        exact ⟨b, hb, by simpa using hk⟩
      · rintro ⟨b, hb, hk⟩
        exact ⟨_, ⟨b, hb, rfl⟩, by simpa using hk⟩
end
end EvL

-- text V1
set_option Elab.async false
set_option linter.all false
set_option maxRecDepth 100000
set_option maxHeartbeats 4000000
/-! Plain data (ints, None, lists and tuples of them): how deep, and when equal. Valid frames. -/
namespace EvL
open PySem PySem.Spec PyProof.Rows L2 DL
inductive Pl : Nat → PyData → Prop
  | int (n : Nat) (i : Int) : Pl n (.int i)
  | non (n : Nat) : Pl n .none
  | tup {n : Nat} {ds : List PyData} : (∀ d ∈ ds, Pl n d) → Pl (n + 1) (.tuple ds)
  | lst {n : Nat} {ds : List PyData} : (∀ d ∈ ds, Pl n d) → Pl (n + 1) (.list ds)
theorem lay_all {ds : List PyData} (h : ∀ d ∈ ds, d.canLay0 = true) : PyData.canLayAll0 ds = true := by
  induction ds with
  | nil => rfl
  | cons d ds ih => rw [PyData.canLayAll0, h d List.mem_cons_self, ih fun x hx => h x (List.mem_cons_of_mem _ hx)]; rfl
theorem depth_all {n : Nat} {ds : List PyData} (h : ∀ d ∈ ds, d.depth ≤ n) : PyData.depthAll ds ≤ n := by
  induction ds with
  | nil => exact Nat.zero_le _
  | cons d ds ih =>
    rw [PyData.depthAll]
    exact Nat.max_le.mpr ⟨h d List.mem_cons_self, ih fun x hx => h x (List.mem_cons_of_mem _ hx)⟩
theorem Pl.both {n : Nat} {d : PyData} (h : Pl n d) : d.canLay0 = true ∧ d.depth ≤ n := by
  induction h with
  | int n i => exact ⟨rfl, by simp [PyData.depth]⟩
  | non n => exact ⟨rfl, by simp [PyData.depth]⟩
  | tup _ ih => exact ⟨by rw [PyData.canLay0]; exact lay_all fun d hd => (ih d hd).1, by rw [PyData.depth]; exact Nat.succ_le_succ (depth_all fun d hd => (ih d hd).2)⟩
  | lst _ ih => exact ⟨by rw [PyData.canLay0]; exact lay_all fun d hd => (ih d hd).1, by rw [PyData.depth]; exact Nat.succ_le_succ (depth_all fun d hd => (ih d hd).2)⟩
theorem Pl.sh {n : Nat} {d : PyData} (h : Pl n d) (hn : n ≤ 64 := by decide) : SeqAt.shaped d = true := by
  unfold SeqAt.shaped
  rw [h.both.1, decide_eq_true (Nat.le_trans h.both.2 hn)]
  rfl
theorem Pl.up {n : Nat} {d : PyData} (h : Pl n d) : ∀ {m : Nat}, n ≤ m → Pl m d := by
  induction h with
  | int n i => exact fun _ => .int _ i
  | non n => exact fun _ => .non _
  | tup _ ih =>
    intro m hm
    obtain ⟨m, rfl⟩ : ∃ k, m = k + 1 := ⟨m - 1, by omega⟩
    exact .tup fun d hd => ih d hd (by omega)
  | lst _ ih =>
    intro m hm
    obtain ⟨m, rfl⟩ : ∃ k, m = k + 1 := ⟨m - 1, by omega⟩
    exact .lst fun d hd => ih d hd (by omega)
theorem pl_map {α : Type} {n : Nat} {f : α → PyData} {l : List α} (h : ∀ x, Pl n (f x)) : ∀ d ∈ l.map f, Pl n d := fun d hd => by
  obtain ⟨x, _, rfl⟩ := List.mem_map.mp hd
  exact h x
theorem pl_S (s : List Int) : Pl 1 (eS s) := .tup (pl_map fun i => .int _ i)
theorem pl_I (k : List Int) : Pl 1 (tupI k) := pl_S k
theorem pl_P (p : Pr) : Pl 1 (eP p) := pl_S [p.1, p.2]
theorem pl_M (m : Mv) : Pl 1 (eM m) := pl_S [m.1, m.2.1, m.2.2]
theorem pl_TP (ps : List Pr) : Pl 2 (eTP ps) := .tup (pl_map pl_P)
theorem pl_TM (ms : List Mv) : Pl 2 (eTM ms) := .tup (pl_map pl_M)
theorem pl_F (n : Int) (bs : List Pr) : Pl 3 (eF n bs) := .tup fun d hd => by
  rcases List.mem_cons.mp hd with e | hd
  · subst e; exact .int _ n
  · have e : d = eTP bs := by simpa using hd
    subst e; exact pl_TP bs
/-- == of plain data is equality -/
theorem eqv_pl {n : Nat} {x : PyData} (h : Pl n x) : ∀ {m : Nat} {y : PyData}, Pl m y → (PyData.eqv x y = true ↔ x = y) := by
  have seq : ∀ {n : Nat} {xs : List PyData}, (∀ d ∈ xs, Pl n d) → (∀ d ∈ xs, ∀ {m : Nat} {y : PyData}, Pl m y → (PyData.eqv d y = true ↔ d = y)) → ∀ {m : Nat} {ys : List PyData}, (∀ d ∈ ys, Pl m d) → (PyData.eqvAll xs ys = true ↔ xs = ys) := by
    intro n xs
    induction xs with
    | nil =>
      intro _ _ m ys _
      cases ys with
      | nil => simp [PyData.eqvAll]
      | cons y ys => simp [PyData.eqvAll]
    | cons x xs ih =>
      intro h1 h2 m ys h3
      cases ys with
      | nil => simp [PyData.eqvAll]
      | cons y ys =>
        rw [PyData.eqvAll, Bool.and_eq_true, h2 x List.mem_cons_self (h3 y List.mem_cons_self), ih (fun d hd => h1 d (List.mem_cons_of_mem _ hd)) (fun d hd => h2 d (List.mem_cons_of_mem _ hd)) (fun d hd => h3 d (List.mem_cons_of_mem _ hd)), List.cons.injEq]
  induction h with
  | int n i =>
    intro m y hy
    cases hy <;> simp [PyData.eqv]
  | non n =>
    intro m y hy
    cases hy <;> simp [PyData.eqv]
  | tup hd ih =>
    intro m y hy
    cases hy with
    | tup h2 =>
      rw [PyData.eqv, seq hd (fun d hd' _ _ hy => ih d hd' hy) h2]
      simp
    | _ => simp [PyData.eqv]
  | lst hd ih =>
    intro m y hy
    cases hy with
    | lst h2 =>
      rw [PyData.eqv, seq hd (fun d hd' _ _ hy => ih d hd' hy) h2]
      simp
    | _ => simp [PyData.eqv]
theorem eqv_dec {n m : Nat} {x y : PyData} (h : Pl n x) (h2 : Pl m y) {p : Prop} [Decidable p] (hp : x = y ↔ p) : PyData.eqv x y = decide p := by
  cases e : PyData.eqv x y with
  | true => exact (decide_eq_true (hp.mp ((eqv_pl h h2).mp e))).symm
  | false =>
    refine (decide_eq_false fun q => ?_).symm
    have := (eqv_pl h h2).mpr (hp.mpr q)
    rw [e] at this; cases this
theorem eqv_int (i j : Int) : PyData.eqv (.int i) (.int j) = decide (i = j) := eqv_dec (.int 0 i) (.int 0 j) (by simp)
theorem eP_inj {p q : Pr} : eP p = eP q ↔ p = q := by
  constructor
  · intro h
    exact kP_inj (tupI_inj (show tupI (kP p) = tupI (kP q) from h))
  · rintro rfl; rfl
theorem eM_inj {p q : Mv} : eM p = eM q ↔ p = q := by
  constructor
  · intro h
    exact kM_inj (tupI_inj (show tupI (kM p) = tupI (kM q) from h))
  · rintro rfl; rfl
theorem eqv_P (p q : Pr) : PyData.eqv (eP p) (eP q) = decide (p = q) := eqv_dec (pl_P p) (pl_P q) eP_inj
theorem eqv_M (p q : Mv) : PyData.eqv (eM p) (eM q) = decide (p = q) := eqv_dec (pl_M p) (pl_M q) eM_inj
theorem inD_ints (i : Int) (ns : List Int) : inD (.int i) (ns.map .int) = decide (i ∈ ns) := by
  unfold inD
  rw [List.any_map]
  induction ns with
  | nil => rfl
  | cons n ns ih =>
    rw [List.any_cons, ih]
    show (PyData.eqv (.int n) (.int i) || _) = _
    rw [eqv_int]
    by_cases h : n = i
    · simp [h]
    · simp [h, Ne.symm h]
theorem inD_map {α : Type} [DecidableEq α] {n : Nat} {f : α → PyData} (hf : ∀ x, Pl n (f x)) (hi : ∀ x y, f x = f y ↔ x = y) (x : α) (xs : List α) : inD (f x) (xs.map f) = decide (x ∈ xs) := by
  unfold inD
  rw [List.any_map]
  induction xs with
  | nil => rfl
  | cons y ys ih =>
    rw [List.any_cons, ih]
    show (PyData.eqv (f y) (f x) || _) = _
    rw [eqv_dec (hf y) (hf x) (hi y x)]
    by_cases h : y = x
    · simp [h]
    · simp [h, Ne.symm h]
/-- two lists that ascend and hold the same are the same -/
theorem strict_ext {α : Type} {lt : α → α → Prop} (as : ∀ a b, lt a b → ¬ lt b a) : ∀ {xs ys : List α}, xs.Pairwise lt → ys.Pairwise lt → (∀ z, z ∈ xs ↔ z ∈ ys) → xs = ys
  | [], [], _, _, _ => rfl
  | [], y :: ys, _, _, h => absurd ((h y).mpr List.mem_cons_self) (by simp)
  | x :: xs, [], _, _, h => absurd ((h x).mp List.mem_cons_self) (by simp)
  | x :: xs, y :: ys, h1, h2, h => by
    have a1 := List.pairwise_cons.mp h1
    have a2 := List.pairwise_cons.mp h2
    have e : x = y := by
      rcases List.mem_cons.mp ((h x).mp List.mem_cons_self) with e | e
      · exact e
      · rcases List.mem_cons.mp ((h y).mpr List.mem_cons_self) with e2 | e2
        · exact e2.symm
        · exact absurd (a2.1 x e) (as _ _ (a1.1 y e2))
    subst e
    have := strict_ext as a1.2 a2.2 fun z => by
      constructor
      · intro hz
        rcases List.mem_cons.mp ((h z).mp (List.mem_cons_of_mem _ hz)) with e | e
        · subst e
          exact absurd (a1.1 z hz) (as _ _ (a1.1 z hz))
        · exact e
      · intro hz
        rcases List.mem_cons.mp ((h z).mpr (List.mem_cons_of_mem _ hz)) with e | e
        · subst e
          exact absurd (a2.1 z hz) (as _ _ (a2.1 z hz))
        · exact e
    rw [this]
theorem count_range {n : Int} {ms : List Int} (h : ms.Pairwise (· < ·)) (hm : ∀ k, k ∈ ms ↔ 0 ≤ k ∧ k < n) : ms = (List.range n.toNat).map fun i : Nat => (i : Int) := by
  refine strict_ext (lt := (· < ·)) (fun a b => by omega) h ?_ fun z => ?_
  · rw [List.pairwise_map]
    exact List.Pairwise.imp (fun h => by exact_mod_cast h) List.pairwise_lt_range
  · rw [hm]
    simp only [List.mem_map, List.mem_range]
    constructor
    · rintro ⟨h0, h1⟩
      exact ⟨z.toNat, by omega, by omega⟩
    · rintro ⟨i, hi, rfl⟩
      omega
/-- a frame -/
structure VF (n : Int) (bs : List Pr) : Prop where
  n2 : 2 ≤ n
  n8 : n ≤ 8
  len : bs.length < 32
  ok : ∀ b ∈ bs, 0 ≤ b.1 ∧ b.1 < b.2 ∧ b.2 < n
  asc : ∀ (i : Nat) (x y : Pr), bs[i]? = some x → bs[i + 1]? = some y → HT.lexLt (kP x) (kP y) = true
  all : ∀ k, 0 ≤ k → k < n → ∃ b ∈ bs, k = b.1 ∨ k = b.2
/-- a stand of it -/
structure VS (n : Int) (bs : List Pr) (s : List Int) : Prop where
  len : (s.length : Int) = n
  ok : ∀ b ∈ bs, ∀ x y, s[b.1.toNat]? = some x → s[b.2.toNat]? = some y → x - y ≤ 1 ∧ y - x ≤ 1
theorem tup_S (s : List Int) : tupledD (eS s) = eS s := by
  rw [tupledD, tupledAll_map, List.map_map]
  congr 1
theorem tup_all {α : Type} {f : α → PyData} (h : ∀ x, tupledD (f x) = f x) (l : List α) : (l.map f).map tupledD = l.map f := by
  rw [List.map_map]
  exact List.map_congr_left fun x _ => h x
theorem tup_P (p : Pr) : tupledD (eP p) = eP p := tup_S [p.1, p.2]
theorem tup_M (p : Mv) : tupledD (eM p) = eM p := tup_S [p.1, p.2.1, p.2.2]
theorem tup_TP (ps : List Pr) : tupledD (eTP ps) = eTP ps := by
  rw [tupledD, tupledAll_map, tup_all tup_P]
theorem tup_F (n : Int) (bs : List Pr) : tupledD (eF n bs) = eF n bs := by
  rw [tupledD, tupledAll_map, List.map_cons, List.map_cons, tup_TP]
  simp [tupledD]
theorem ok_S {n : Nat} {s : List Int} (h : s.length < 16777216) : okD (n + 2) (eS s) = true := by
  rw [okD, Bool.and_eq_true]
  refine ⟨decide_eq_true (by rw [List.length_map]; exact h), okAll_iff.mpr fun d hd => ?_⟩
  obtain ⟨x, _, rfl⟩ := List.mem_map.mp hd
  rfl
theorem ok_P {n : Nat} (p : Pr) : okD (n + 2) (eP p) = true := ok_S (s := [p.1, p.2]) (by show 2 < 16777216; decide)
theorem ok_M {n : Nat} (p : Mv) : okD (n + 2) (eM p) = true := ok_S (s := [p.1, p.2.1, p.2.2]) (by show 3 < 16777216; decide)
theorem ok_TP {n : Nat} {ps : List Pr} (h : ps.length < 16777216) : okD (n + 3) (eTP ps) = true := by
  rw [okD, Bool.and_eq_true]
  refine ⟨decide_eq_true (by rw [List.length_map]; exact h), okAll_iff.mpr fun d hd => ?_⟩
  obtain ⟨x, _, rfl⟩ := List.mem_map.mp hd
  exact ok_P x
theorem ok_F {n : Nat} {k : Int} {bs : List Pr} (h : bs.length < 16777216) : okD (n + 4) (eF k bs) = true := by
  rw [okD, Bool.and_eq_true]
  refine ⟨decide_eq_true (by show 2 < 16777216; decide), okAll_iff.mpr fun d hd => ?_⟩
  rcases List.mem_cons.mp hd with e | hd
  · subst e; rfl
  · have e : d = eTP bs := by simpa using hd
    subst e
    exact ok_TP h
/-- the pairs beside p -/
def besides (bs : List Pr) (p : Pr) : List Pr := [(p.1, p.2 - 1), (p.1, p.2 + 1)] ++ ((bs.filter fun b => decide (p.1 = b.1 ∨ p.1 = b.2)).map fun b => ((if b.1 = p.1 then b.2 else b.1), p.2))
/-- a passing -/
structure VPs (n : Int) (bs : List Pr) (one other : List Int) (ps : List Pr) : Prop where
  len : ps.length < 500
  ok : ∀ p ∈ ps, ∃ x y, one[p.1.toNat]? = some x ∧ other[p.1.toNat]? = some y ∧ 0 ≤ p.1 ∧ min x y < p.2 ∧ p.2 < max x y
  asc : ∀ (i : Nat) (x y : Pr), ps[i]? = some x → ps[i + 1]? = some y → HT.lexLt (kP x) (kP y) = true
  apart : ∀ p ∈ ps, ∀ q ∈ besides bs p, q ∉ ps
theorem getL_put (l : List (List Int × PyData)) (k j : List Int) (d : PyData) : getL (putL l k d) j = if j = k then some d else getL l j := by
  have none_of : ∀ {l : List (List Int × PyData)} {k : List Int}, getL l k = none → ∀ x ∈ l, x.1 ≠ k := by
    intro l k h x hx e
    unfold getL at h
    rw [Option.map_eq_none_iff, List.find?_eq_none] at h
    exact h x hx (decide_eq_true e)
  unfold putL
  split
  · next h =>
    unfold getL
    induction l with
    | nil => cases h
    | cons x l ih =>
      rw [List.map_cons, List.find?_cons, List.find?_cons]
      by_cases hx : x.1 = k
      · rw [if_pos hx]
        by_cases hj : j = k
        · subst hj
          simp [hx]
        · have : ¬ x.1 = j := fun z => hj (z.symm.trans hx)
          rw [if_neg hj]
          simp only [decide_eq_false this]
          by_cases h2 : (getL l k).isSome
          · have := ih h2
            rw [if_neg hj] at this
            exact this
          · have hn : getL l k = none := by simpa using h2
            congr 1
            have : (l.map fun x => if x.1 = k then (x.1, d) else x) = l := by
              conv => rhs; rw [← List.map_id l]
              exact List.map_congr_left fun y hy => by rw [if_neg (none_of hn y hy)]; rfl
            rw [this]
      · rw [if_neg hx]
        have h2 : (getL l k).isSome := by
          unfold getL at h ⊢
          rw [List.find?_cons, decide_eq_false hx] at h
          exact h
        by_cases hj : x.1 = j
        · have hjk : ¬ j = k := fun z => hx (hj.trans z)
          rw [if_neg hjk]
          simp [hj]
        · simp only [decide_eq_false hj]
          exact ih h2
  · next h =>
    have hn : getL l k = none := by simpa using h
    unfold getL
    rw [List.find?_append]
    by_cases hj : j = k
    · subst hj
      rw [if_pos rfl]
      unfold getL at hn
      rw [Option.map_eq_none_iff] at hn
      rw [hn]
      simp
    · rw [if_neg hj]
      cases e : l.find? fun x => decide (x.1 = j) with
      | none =>
        have : ¬ k = j := fun z => hj z.symm
        simp [this]
      | some y => simp
theorem getL_puts {α : Type} (key : α → List Int) (val : α → PyData) (j : List Int) : ∀ (as : List α) (l : List (List Int × PyData)), (∀ a ∈ as, key a ≠ j) → getL (putsL l (as.map fun a => (key a, val a))) j = getL l j
  | [], l, _ => rfl
  | a :: as, l, h => by
    show getL (putsL (putL l (key a) (val a)) (as.map fun a => (key a, val a))) j = _
    rw [getL_puts key val j as _ fun b hb => h b (List.mem_cons_of_mem _ hb), getL_put, if_neg (Ne.symm (h a List.mem_cons_self))]
theorem getL_puts_some {α : Type} (key : α → List Int) (val : α → PyData) (hk : ∀ a b, key a = key b → a = b) : ∀ (as : List α) (l : List (List Int × PyData)) (a : α), a ∈ as → getL (putsL l (as.map fun a => (key a, val a))) (key a) = some (val a)
  | [], _, _, h => nomatch h
  | b :: as, l, a, h => by
    show getL (putsL (putL l (key b) (val b)) (as.map fun a => (key a, val a))) (key a) = _
    by_cases ha : a ∈ as
    · exact getL_puts_some key val hk as _ a ha
    · have e : a = b := by
        rcases List.mem_cons.mp h with e | e
        · exact e
        · exact absurd e ha
      subst e
      rw [getL_puts key val _ as _ fun c hc z => ha (by rw [← hk _ _ z]; exact hc), getL_put, if_pos rfl]
end EvL

-- text D3
set_option Elab.async false
set_option linter.all false
set_option maxRecDepth 100000
set_option maxHeartbeats 4000000
namespace EvL
open PySem PySem.Spec PyProof.Rows L2 DL
section
variable {P : Program} {w : World} {K : PySem.W.Frag} {mg : Str → Option Value} {base : Heap}
def C_is_frame : TF := fun ds P => ∃ n bs, ds = [eF n bs] ∧ VF n bs ∧ P (.bool true)
abbrev N_is_frame : List Str := ["thing", "many", "beams", "beam"]
theorem sc_is_frame : FnScope N_is_frame ["thing"] (defScope s_is_frame) := ⟨rfl, rfl, rfl, by decide +kernel, rfl, by decide +kernel, by decide +kernel⟩
theorem o_is_frame (B : B0 K mg) : Ok P w K mg base "is_frame" ["thing"] 5 C_is_frame := by
  have nd := sc_is_frame.nd
  obtain ⟨fd, F⟩ := B.says.def_ 9 (d := mkD "is_frame" s_is_frame) rfl
  refine ⟨fd, fn_dl (C := C_is_frame) F sc_is_frame (by rintro ds Q ⟨n, bs, rfl, _⟩; rfl) (fun cdv A outer s H E hr => (dss_cons (ds_if (DW.dt (dw_or (dt_not (dt_val (dp_fn (o_is_tuple_of B) hr (by rfl) (da_cons (dp_var (pv 0 rfl (Or.inl rfl))) (da_cons dp_int da_nil))))) (dw_or (dt_not (dt_val (dp_fn (o_is_number B) hr (by rfl) (da_cons (dp_ix (dp_var (pv 0 rfl (Or.inl rfl))) dp_int (fun _ _ => rfl)) da_nil)))) (dw_or (dt_cmp op_lt od_lt (dp_ix (dp_var (pv 0 rfl (Or.inl rfl))) dp_int (fun _ _ => rfl)) dp_int (nomark _)) (dw_or1 (dt_not (dt_val (dp_isi tab_tup (dp_ix (dp_var (pv 0 rfl (Or.inl rfl))) dp_int (fun _ _ => rfl)) (by rfl) (f_isinstance B) (pe_bltn (by rfl) (f_tuple B) (by decide +kernel) rfl))))))))) (dss_one (ds_ret dp_bl)) dss_nil)
    (dss_cons (ds_asg (dp_var (pv 0 rfl (Or.inl rfl))) (dg_tup rfl (dgs_cons (dg_name (pg_name (i := 1) nd rfl (Or.inr rfl))) (dgs_cons (dg_name (pg_name (i := 2) nd rfl (Or.inl rfl))) dgs_nil))))
    (dss_cons (ds_if (DW.dt (dw_or (dt_not (dt_val (dp_callB (cr_all rfl) cd_all (by rfl) (f_all B) (by decide +kernel) (da_cons (DF.dp (df_lc (own := [("beam", 3)]) (ws := [3]) rfl nd (di_seq (dp_var (pv 2 rfl (Or.inl rfl)))) (blkOk_by (N := N_is_frame) (sc := (defScope s_is_frame)) (by decide +kernel)) (by decide) (fun _ _ _ _ _ => (dg_name (pg_name (i := 3) nd rfl (Or.inl rfl)))) (fun _ _ _ _ _ => dts_nil) (fun _ _ _ _ _ => (dp_fn (o_is_beam_among B) hr (by rfl) (da_cons (dp_var (pv 3 rfl (Or.inl rfl))) (da_cons (dp_var (pv 1 rfl (Or.inr (Or.inl rfl)))) da_nil)))))) da_nil)))) (dw_or1 (dt_not (dt_val (dp_fn (o_ascends B) hr (by rfl) (da_cons (dp_var (pv 2 rfl (Or.inl rfl))) da_nil))))))) (dss_one (ds_ret dp_bl)) dss_nil)
    (dss_one (ds_ret (dp_cmp (op_eqD hr.units) od_eq (dp_callB call_len cd_len (by rfl) (f_len B) (by decide +kernel) (da_cons (dp_fn (o_jacks_of B) hr (by rfl) (da_cons (dp_var (pv 2 rfl (Or.inl rfl))) da_nil)) da_nil)) (dp_var (pv 1 rfl (Or.inr (Or.inl rfl)))) (nomark _)))))))) ?_, FunD.bindsN F (fun _ _ _ _ _ _ us hl => match us, hl with | [_], _ => rfl), F.kp, B.glo _ (B.says.fact 9 (f := .glo "is_frame") rfl)⟩
  rintro ds Q ⟨n, bs, rfl, v, q⟩
  refine ⟨_, rfl, _, _, rfl, rfl, _, rfl, ?_⟩
  refine ⟨_, rfl, by decide, _, rfl, _, rfl, rfl, _, rfl, ?_⟩
  refine ⟨_, rfl, by decide, _, rfl, _, rfl, ?_⟩
  show if decide (n < 2) = true then _ else _
  have h2 := v.n2
  rw [decide_eq_false (by omega : ¬ n < 2)]
  refine ⟨_, rfl, by decide, _, rfl, rfl, _, rfl, ?_⟩
  refine ⟨_, rfl, _, rfl, rfl, ?_⟩
  refine lcM (ti := dSeq (dV 2)) bs eP (fun _ => true) PyData.bool (fun R hR => ⟨_, rfl, _, rfl, hR⟩) (by have := v.len; omega) (fun b hb R hR => ?_) ?_
  · obtain ⟨o1, o2, o3⟩ := v.ok b hb
    exact ⟨_, rfl, _, rfl, b, n, rfl, o1, o2, o3, hR⟩
  · refine ⟨_, rfl, ?_⟩
    have : ((bs.map fun _ => true).all id) = true := by simp
    rw [this]
    refine ⟨_, rfl, _, rfl, bs.map kP, by rw [List.map_map]; rfl, by rw [List.length_map]; have := v.len; omega, fun i x y hx hy => ?_, _, rfl, ?_⟩
    · rw [List.getElem?_map] at hx hy
      cases e1 : bs[i]? with
      | none => rw [e1] at hx; cases hx
      | some a =>
        cases e2 : bs[i + 1]? with
        | none => rw [e2] at hy; cases hy
        | some b =>
          rw [e1] at hx
          rw [e2] at hy
          cases hx
          cases hy
          exact v.asc i a b e1 e2
    · refine ⟨_, rfl, bs, rfl, v.len, fun ms h1 hm => ?_⟩
      have hm2 : ∀ k, k ∈ ms ↔ 0 ≤ k ∧ k < n := fun k => by
        rw [hm]
        constructor
        · rintro ⟨b, hb, e⟩
          obtain ⟨o1, o2, o3⟩ := v.ok b hb
          omega
        · rintro ⟨k0, k1⟩
          exact v.all k k0 k1
      refine ⟨_, _, rfl, rfl, _, rfl, rfl, rfl, ?_⟩
      rw [eqv_int]
      have : ((ms.map PyData.int).length : Int) = n := by
        rw [List.length_map, count_range h1 hm2, List.length_map, List.length_range]
        omega
      rw [decide_eq_true this]
      exact q
def C_near_in : TF := fun ds P => ∃ n bs j, ds = [eF n bs, .int j] ∧ bs.length < 32 ∧ ∀ ms : List Int, ms.Pairwise (· < ·) → (∀ k, k ∈ ms ↔ ∃ b ∈ bs, (j = b.1 ∨ j = b.2) ∧ k = b.1 + b.2 - j) → P (eS ms)
abbrev N_near_in : List Str := ["frame", "jack", "beam"]
theorem sc_near_in : FnScope N_near_in ["frame", "jack"] (defScope s_near_in) := ⟨rfl, rfl, rfl, by decide +kernel, rfl, by decide +kernel, by decide +kernel⟩
theorem o_near_in (B : B0 K mg) : Ok P w K mg base "near_in" ["frame", "jack"] 2 C_near_in := by
  have nd := sc_near_in.nd
  obtain ⟨fd, F⟩ := B.says.def_ 10 (d := mkD "near_in" s_near_in) rfl
  refine ⟨fd, fn_dl (C := C_near_in) F sc_near_in (by rintro ds Q ⟨n, bs, j, rfl, _⟩; rfl) (fun cdv A outer s H E hr => (dss_one (ds_ret (dp_fn (o_set_of B) hr (by rfl) (da_cons (DF.dp (df_lc (own := [("beam", 2)]) (ws := [2]) rfl nd (di_seq (dp_ix (dp_var (pv 0 rfl (Or.inl rfl))) dp_int (fun _ _ => rfl))) (blkOk_by (N := N_near_in) (sc := (defScope s_near_in)) (by decide +kernel)) (by decide) (fun _ _ _ _ _ => (dg_name (pg_name (i := 2) nd rfl (Or.inl rfl)))) (fun _ _ _ _ _ => (dts_one (dt_cmp (op_in2 (hu65 hr)) od_in (dp_var (pv 1 rfl (Or.inr (Or.inl rfl)))) (dp_var (pv 2 rfl (Or.inl rfl))) (by rfl)))) (fun _ _ _ _ _ => (dp_op op_sub od_sub (dp_op op_add3 od_add (dp_ix (dp_var (pv 2 rfl (Or.inl rfl))) dp_int (fun _ _ => rfl)) (dp_ix (dp_var (pv 2 rfl (Or.inl rfl))) dp_int (fun _ _ => rfl))) (dp_var (pv 1 rfl (Or.inr (Or.inl rfl)))))))) da_nil))))) ?_, FunD.bindsN F (fun _ _ _ _ _ _ us hl => match us, hl with | [_, _], _ => rfl), F.kp, B.glo _ (B.says.fact 10 (f := .glo "near_in") rfl)⟩
  rintro ds Q ⟨n, bs, j, rfl, hl, h⟩
  refine lcF (ti := dSeq (dOp gIx (dV 0) (dC (.int 1)))) bs eP (fun b => decide (j = b.1 ∨ j = b.2)) (fun b => b.1 + b.2 - j) PyData.int (fun R hR => ⟨_, rfl, by decide, _, rfl, _, rfl, hR⟩) (by omega) (fun b hb R h1 R2 h2 => ?_) ?_
  · refine ⟨_, rfl, _, rfl, rfl, rfl, _, rfl, ?_⟩
    rw [show inD (.int j) [PyData.int b.1, .int b.2] = decide (j ∈ [b.1, b.2]) from inD_ints j [b.1, b.2]]
    have e : decide (j ∈ [b.1, b.2]) = decide (j = b.1 ∨ j = b.2) := by simp
    rw [e]
    cases hd : decide (j = b.1 ∨ j = b.2) with
    | true => exact ⟨_, rfl, by decide, _, rfl, _, rfl, by decide, _, rfl, _, rfl, h1 hd⟩
    | false => exact h2 hd
  · refine ⟨_, rfl, ?_, fun ms m1 m2 => h ms m1 fun k => ?_⟩
    · rw [List.length_map]
      have := List.length_filter_le (fun b : Pr => decide (j = b.1 ∨ j = b.2)) bs
      omega
    · rw [m2]
      simp only [List.mem_map, List.mem_filter, decide_eq_true_eq]
      constructor
      · rintro ⟨b, ⟨hb, hj⟩, rfl⟩
        exact ⟨b, hb, hj, rfl⟩
      · rintro ⟨b, hb, hj, rfl⟩
        exact ⟨b, ⟨hb, hj⟩, rfl⟩
def C_refuse_far : TF := fun ds P => ∃ one other : List Int, ds = [eS one, eS other] ∧ one.length < 100 ∧ ((one.zip other).map fun p => (p.1 - p.2).natAbs).sum ≤ 480 ∧ P .none
abbrev N_refuse_far : List Str := ["one", "other", "near", "far"]
theorem sc_refuse_far : FnScope N_refuse_far ["one", "other"] (defScope s_refuse_far) := ⟨rfl, rfl, rfl, by decide +kernel, rfl, by decide +kernel, by decide +kernel⟩
theorem o_refuse_far (B : B0 K mg) : Ok P w K mg base "refuse_far" ["one", "other"] 1 C_refuse_far := by
  have nd := sc_refuse_far.nd
  obtain ⟨fd, F⟩ := B.says.def_ 11 (d := mkD "refuse_far" s_refuse_far) rfl
  refine ⟨fd, fn_dl (C := C_refuse_far) F sc_refuse_far (by rintro ds Q ⟨_, _, rfl, _⟩; rfl) (fun cdv A outer s H E hr => (dss_one (ds_if (dt_cmp op_gt od_gt (dp_callB (cr_sum rfl) cd_sum (by rfl) (f_sum B) (by decide +kernel) (da_cons (DF.dp (df_lc (own := [("near", 2), ("far", 3)]) (ws := [2, 3]) rfl nd (di_zip (by rfl) (f_zip B) (da_cons (dp_var (pv 0 rfl (Or.inl rfl))) (da_cons (dp_var (pv 1 rfl (Or.inl rfl))) da_nil))) (blkOk_by (N := N_refuse_far) (sc := (defScope s_refuse_far)) (by decide +kernel)) (by decide) (fun _ _ _ _ _ => (dg_tup rfl (dgs_cons (dg_name (pg_name (i := 2) nd rfl (Or.inl rfl))) (dgs_cons (dg_name (pg_name (i := 3) nd rfl (Or.inl rfl))) dgs_nil)))) (fun _ _ _ _ _ => dts_nil) (fun _ _ _ _ _ => (dp_callB call_abs cd_abs (by rfl) (f_abs B) (by decide +kernel) (da_cons (dp_op op_sub od_sub (dp_var (pv 2 rfl (Or.inl rfl))) (dp_var (pv 3 rfl (Or.inl rfl)))) da_nil))))) da_nil)) (dp_most B (by rfl)) (nomark _)) (dss_one ds_never) dss_nil))) ?_, FunD.bindsN F (fun _ _ _ _ _ _ us hl => match us, hl with | [_, _], _ => rfl), F.kp, B.glo _ (B.says.fact 11 (f := .glo "refuse_far") rfl)⟩
  rintro ds Q ⟨one, other, rfl, hl, h, q⟩
  refine lcM (ti := dZip _) (one.zip other) (fun p => .tuple [.int p.1, .int p.2]) (fun p => (((p.1 - p.2).natAbs : Nat) : Int)) PyData.int (fun R hR => ⟨_, rfl, _, rfl, _, _, rfl, _, _, .inr ⟨rfl, rfl⟩, ?_⟩) (by simp; omega) (fun x hx R hR => ?_) ?_
  · rw [zip_map_zipD]; exact hR
  · refine ⟨_, rfl, rfl, _, rfl, _, rfl, _, rfl, ?_⟩
    show R (.int (if x.1 - x.2 < 0 then -(x.1 - x.2) else x.1 - x.2))
    have e : (if x.1 - x.2 < 0 then -(x.1 - x.2) else x.1 - x.2) = (((x.1 - x.2).natAbs : Nat) : Int) := by
      split <;> omega
    rw [e]; exact hR
  · refine ⟨_, rfl, ?_⟩
    have sum_eq : ∀ l : List Pr, (l.map fun p => (((p.1 - p.2).natAbs : Nat) : Int)).sum = (((l.map fun p => (p.1 - p.2).natAbs).sum : Nat) : Int) := by
      intro l
      induction l with
      | nil => rfl
      | cons a l ih => simp [ih]
    refine ⟨_, rfl, ?_⟩
    rw [sum_eq]
    have : decide ((480 : Int) < (((one.zip other).map fun p => (p.1 - p.2).natAbs).sum : Nat)) = false := by
      apply decide_eq_false
      omega
    rw [this]
    exact q
def C_is_passable_in : TF := fun ds P => ∃ (b e : List Int) (t : Pr) (x y : Int), ds = [eS b, eS e, eP t] ∧ 0 ≤ t.1 ∧ t.1 < b.length ∧ b[t.1.toNat]? = some x ∧ e[t.1.toNat]? = some y ∧ min x y < t.2 ∧ t.2 < max x y ∧ P (.bool true)
abbrev N_is_passable_in : List Str := ["begin", "end", "thing", "near", "far"]
theorem sc_is_passable_in : FnScope N_is_passable_in ["begin", "end", "thing"] (defScope s_is_passable_in) := ⟨rfl, rfl, rfl, by decide +kernel, rfl, by decide +kernel, by decide +kernel⟩
theorem o_is_passable_in (B : B0 K mg) : Ok P w K mg base "is_passable_in" ["begin", "end", "thing"] 4 C_is_passable_in := by
  have nd := sc_is_passable_in.nd
  obtain ⟨fd, F⟩ := B.says.def_ 12 (d := mkD "is_passable_in" s_is_passable_in) rfl
  refine ⟨fd, fn_dl (C := C_is_passable_in) F sc_is_passable_in (by rintro ds Q ⟨_, _, _, _, _, rfl, _⟩; rfl) (fun cdv A outer s H E hr => (dss_cons (ds_if (DW.dt (dw_or (dt_not (dt_val (dp_fn (o_is_tuple_of B) hr (by rfl) (da_cons (dp_var (pv 2 rfl (Or.inl rfl))) (da_cons dp_int da_nil))))) (dw_or (dt_not (dt_val (dp_fn (o_is_below B) hr (by rfl) (da_cons (dp_ix (dp_var (pv 2 rfl (Or.inl rfl))) dp_int (fun _ _ => rfl)) (da_cons (dp_callB call_len cd_len (by rfl) (f_len B) (by decide +kernel) (da_cons (dp_var (pv 0 rfl (Or.inl rfl))) da_nil)) da_nil))))) (dw_or1 (dt_not (dt_val (dp_fn (o_is_number B) hr (by rfl) (da_cons (dp_ix (dp_var (pv 2 rfl (Or.inl rfl))) dp_int (fun _ _ => rfl)) da_nil)))))))) (dss_one (ds_ret dp_bl)) dss_nil)
    (dss_cons (ds_par (i := 3) (j := 4) rfl nd rfl rfl (by decide) rfl rfl (DP.de (dp_ix (dp_var (pv 0 rfl (Or.inl rfl))) (dp_ix (dp_var (pv 2 rfl (Or.inl rfl))) dp_int (fun _ _ => rfl)) (fun _ _ => rfl))) (DP.de (dp_ix (dp_var (pv 1 rfl (Or.inl rfl))) (dp_ix (dp_var (pv 2 rfl (Or.inl rfl))) dp_int (fun _ _ => rfl)) (fun _ _ => rfl))) (by rfl))
    (dss_one (ds_ret (dp_chain op_lt od_lt op_lt od_lt (dp_callB (cr_min2 rfl) cd_min (by rfl) (f_min B) (by decide +kernel) (da_cons (dp_var (pv 3 rfl (Or.inl rfl))) (da_cons (dp_var (pv 4 rfl (Or.inl rfl))) da_nil))) (dp_ix (dp_var (pv 2 rfl (Or.inl rfl))) dp_int (fun _ _ => rfl)) (dp_callB (cr_max2 rfl) cd_max (by rfl) (f_max B) (by decide +kernel) (da_cons (dp_var (pv 3 rfl (Or.inl rfl))) (da_cons (dp_var (pv 4 rfl (Or.inl rfl))) da_nil))))))))) ?_, FunD.bindsN F (fun _ _ _ _ _ _ us hl => match us, hl with | [_, _, _], _ => rfl), F.kp, B.glo _ (B.says.fact 12 (f := .glo "is_passable_in") rfl)⟩
  rintro ds Q ⟨b, e, ⟨j, l⟩, x, y, rfl, h0, h1, hx, hy, h2, h3, q⟩
  have gx : (b.map PyData.int)[j.toNat]? = some (.int x) := by rw [List.getElem?_map, hx]; rfl
  have gy : (e.map PyData.int)[j.toNat]? = some (.int y) := by rw [List.getElem?_map, hy]; rfl
  refine ⟨_, rfl, _, _, rfl, rfl, _, rfl, ?_⟩
  refine ⟨_, rfl, by decide, _, rfl, _, rfl, _, _, rfl, rfl, _, _, rfl, _, rfl, ?_⟩
  have e1 : (decide (0 ≤ j) && decide (j < ((b.map PyData.int).length : Int))) = true := by
    rw [List.length_map]; simp; simp at h0 h1; omega
  rw [e1]
  refine ⟨_, rfl, by decide, _, rfl, _, rfl, rfl, _, rfl, ?_⟩
  refine ⟨_, rfl, _, rfl, by decide, _, rfl, h0, _, gx, _, rfl, _, rfl, by decide, _, rfl, h0, _, gy, ?_⟩
  have mn : (if y < x then y else x) < l := by simp at h2; split <;> omega
  have mx : l < (if y > x then y else x) := by simp at h3; split <;> omega
  refine ⟨_, rfl, _, rfl, .inl ⟨_, _, rfl, _, rfl, by decide, _, rfl, _, rfl, ?_⟩⟩
  rw [decide_eq_true mn]
  refine ⟨_, rfl, _, rfl, .inl ⟨_, _, rfl, ?_⟩⟩
  show Q (.bool (decide (l < (if y > x then y else x))))
  rw [decide_eq_true mx]
  exact q
def C_is_heights : TF := fun ds P => ∃ n bs s, ds = [eF n bs, eS s] ∧ (s.length : Int) = n ∧ s.length < 100 ∧ P (.bool true)
abbrev N_is_heights : List Str := ["frame", "thing", "own"]
theorem sc_is_heights : FnScope N_is_heights ["frame", "thing"] (defScope s_is_heights) := ⟨rfl, rfl, rfl, by decide +kernel, rfl, by decide +kernel, by decide +kernel⟩
theorem o_is_heights (B : B0 K mg) : Ok P w K mg base "is_heights" ["frame", "thing"] 2 C_is_heights := by
  have nd := sc_is_heights.nd
  obtain ⟨fd, F⟩ := B.says.def_ 13 (d := mkD "is_heights" s_is_heights) rfl
  refine ⟨fd, fn_dl (C := C_is_heights) F sc_is_heights (by rintro ds Q ⟨_, _, _, rfl, _⟩; rfl) (fun cdv A outer s H E hr => (dss_one (ds_ret (dp_and (dp_fn (o_is_tuple_of B) hr (by rfl) (da_cons (dp_var (pv 1 rfl (Or.inl rfl))) (da_cons (dp_ix (dp_var (pv 0 rfl (Or.inl rfl))) dp_int (fun _ _ => rfl)) da_nil))) (dp_one (dp_callB (cr_all rfl) cd_all (by rfl) (f_all B) (by decide +kernel) (da_cons (DF.dp (df_lc (own := [("own", 2)]) (ws := [2]) rfl nd (di_seq (dp_var (pv 1 rfl (Or.inl rfl)))) (blkOk_by (N := N_is_heights) (sc := (defScope s_is_heights)) (by decide +kernel)) (by decide) (fun _ _ _ _ _ => (dg_name (pg_name (i := 2) nd rfl (Or.inl rfl)))) (fun _ _ _ _ _ => dts_nil) (fun _ _ _ _ _ => (dp_fn (o_is_number B) hr (by rfl) (da_cons (dp_var (pv 2 rfl (Or.inl rfl))) da_nil))))) da_nil))))))) ?_, FunD.bindsN F (fun _ _ _ _ _ _ us hl => match us, hl with | [_, _], _ => rfl), F.kp, B.glo _ (B.says.fact 13 (f := .glo "is_heights") rfl)⟩
  rintro ds Q ⟨n, bs, s, rfl, hn, hl, q⟩
  refine ⟨_, rfl, _, rfl, by decide, _, rfl, _, _, rfl, rfl, _, rfl, ?_⟩
  have : decide ((((s.map PyData.int).length : Nat) : Int) = n) = true := by rw [List.length_map]; exact decide_eq_true hn
  show if decide ((((s.map PyData.int).length : Nat) : Int) = n) = true then _ else _
  rw [this]
  refine lcM (ti := dSeq (dV 1)) s PyData.int (fun _ => true) PyData.bool (fun R hR => ⟨_, rfl, _, rfl, hR⟩) (by omega) (fun b hb R hR => ?_) ?_
  · exact ⟨_, rfl, _, rfl, rfl, hR⟩
  · refine ⟨_, rfl, ?_⟩
    have : ((s.map fun _ => true).all id) = true := by simp
    rw [this]
    exact q
def C_cracks_in : TF := fun ds P => ∃ (n : Int) (bs : List Pr) (s : List Int), ds = [eTP bs, eS s] ∧ VF n bs ∧ VS n bs s ∧ P (.tuple [])
abbrev N_cracks_in : List Str := ["beams", "heights", "beam"]
theorem sc_cracks_in : FnScope N_cracks_in ["beams", "heights"] (defScope s_cracks_in) := ⟨rfl, rfl, rfl, by decide +kernel, rfl, by decide +kernel, by decide +kernel⟩
theorem o_cracks_in (B : B0 K mg) : Ok P w K mg base "cracks_in" ["beams", "heights"] 1 C_cracks_in := by
  have nd := sc_cracks_in.nd
  obtain ⟨fd, F⟩ := B.says.def_ 14 (d := mkD "cracks_in" s_cracks_in) rfl
  refine ⟨fd, fn_dl (C := C_cracks_in) F sc_cracks_in (by rintro ds Q ⟨_, _, _, rfl, _⟩; rfl) (fun cdv A outer s H E hr => (dss_one (ds_ret (dp_callTy call_tuple_of cd_tup (by rfl) (f_tuple B) (by decide +kernel) (da_cons (DF.dp (df_lc (own := [("beam", 2)]) (ws := [2]) rfl nd (di_seq (dp_var (pv 0 rfl (Or.inl rfl)))) (blkOk_by (N := N_cracks_in) (sc := (defScope s_cracks_in)) (by decide +kernel)) (by decide) (fun _ _ _ _ _ => (dg_name (pg_name (i := 2) nd rfl (Or.inl rfl)))) (fun _ _ _ _ _ => (dts_one (dt_cmp op_gt od_gt (dp_callB call_abs cd_abs (by rfl) (f_abs B) (by decide +kernel) (da_cons (dp_op op_sub od_sub (dp_ix (dp_var (pv 1 rfl (Or.inr (Or.inl rfl)))) (dp_ix (dp_var (pv 2 rfl (Or.inl rfl))) dp_int (fun _ _ => rfl)) (fun _ _ => rfl)) (dp_ix (dp_var (pv 1 rfl (Or.inr (Or.inl rfl)))) (dp_ix (dp_var (pv 2 rfl (Or.inl rfl))) dp_int (fun _ _ => rfl)) (fun _ _ => rfl))) da_nil)) dp_int (nomark _)))) (fun _ _ _ _ _ => (dp_var (pv 2 rfl (Or.inl rfl)))))) da_nil))))) ?_, FunD.bindsN F (fun _ _ _ _ _ _ us hl => match us, hl with | [_, _], _ => rfl), F.kp, B.glo _ (B.says.fact 14 (f := .glo "cracks_in") rfl)⟩
  rintro ds Q ⟨n, bs, s, rfl, v, vs, q⟩
  refine lcF (ti := dSeq (dV 0)) bs eP (fun _ => false) id eP (fun R hR => ⟨_, rfl, _, rfl, hR⟩) (by have := v.len; omega) (fun b hb R h1 R2 h2 => ?_) ?_
  · obtain ⟨o1, o2, o3⟩ := v.ok b hb
    have hl := vs.len
    obtain ⟨x, hx⟩ : ∃ x, s[b.1.toNat]? = some x := ⟨_, List.getElem?_eq_getElem (by omega)⟩
    obtain ⟨y, hy⟩ : ∃ y, s[b.2.toNat]? = some y := ⟨_, List.getElem?_eq_getElem (by omega)⟩
    obtain ⟨c1, c2⟩ := vs.ok b hb x y hx hy
    have gx : (s.map PyData.int)[b.1.toNat]? = some (.int x) := by rw [List.getElem?_map, hx]; rfl
    have gy : (s.map PyData.int)[b.2.toNat]? = some (.int y) := by rw [List.getElem?_map, hy]; rfl
    refine ⟨_, rfl, _, rfl, by decide, _, rfl, o1, _, gx, _, rfl, _, rfl, by decide, _, rfl, by omega, _, gy, _, rfl, _, rfl, ?_⟩
    have e : decide ((1 : Int) < (if x - y < 0 then -(x - y) else x - y)) = false := by
      apply decide_eq_false
      split <;> omega
    rw [e]
    exact h2 rfl
  · refine ⟨_, _, rfl, rfl, ?_⟩
    have : bs.filter (fun _ => false) = [] := by simp
    rw [this]
    exact q
def C_is_stand : TF := fun ds P => ∃ (n : Int) (bs : List Pr) (s : List Int), ds = [eF n bs, eS s] ∧ VF n bs ∧ VS n bs s ∧ P (.bool true)
abbrev N_is_stand : List Str := ["frame", "thing"]
theorem sc_is_stand : FnScope N_is_stand ["frame", "thing"] (defScope s_is_stand) := ⟨rfl, rfl, rfl, by decide +kernel, rfl, by decide +kernel, by decide +kernel⟩
theorem o_is_stand (B : B0 K mg) : Ok P w K mg base "is_stand" ["frame", "thing"] 7 C_is_stand := by
  have nd := sc_is_stand.nd
  obtain ⟨fd, F⟩ := B.says.def_ 15 (d := mkD "is_stand" s_is_stand) rfl
  refine ⟨fd, fn_dl (C := C_is_stand) F sc_is_stand (by rintro ds Q ⟨_, _, _, rfl, _⟩; rfl) (fun cdv A outer s H E hr => (dss_one (ds_ret (dp_and (dp_fn (o_is_heights B) hr (by rfl) (da_cons (dp_var (pv 0 rfl (Or.inl rfl))) (da_cons (dp_var (pv 1 rfl (Or.inl rfl))) da_nil))) (dp_one (dp_cmp (op_eqD hr.units) od_eq (dp_fn (o_cracks_in B) hr (by rfl) (da_cons (dp_ix (dp_fn (o_tupled B 6) hr (by rfl) (da_cons (dp_var (pv 0 rfl (Or.inl rfl))) da_nil)) dp_int (fun _ _ => rfl)) (da_cons (dp_var (pv 1 rfl (Or.inl rfl))) da_nil))) (dp_tup da_nil) (nomark _))))))) ?_, FunD.bindsN F (fun _ _ _ _ _ _ us hl => match us, hl with | [_, _], _ => rfl), F.kp, B.glo _ (B.says.fact 15 (f := .glo "is_stand") rfl)⟩
  rintro ds Q ⟨n, bs, s, rfl, v, vs, q⟩
  have hl := vs.len
  have h8 := v.n8
  refine ⟨_, rfl, _, rfl, n, bs, s, rfl, hl, by omega, _, rfl, ?_⟩
  refine ⟨_, rfl, _, rfl, ok_F (by have := v.len; omega), ?_⟩
  rw [tup_F]
  refine ⟨by decide, _, rfl, _, rfl, n, bs, s, rfl, v, vs, by show 0 ≤ 16777216; decide, rfl, rfl, ?_⟩
  exact q
end
end EvL

-- text D4
set_option Elab.async false
set_option linter.all false
set_option maxRecDepth 100000
set_option maxHeartbeats 4000000
namespace EvL
open PySem PySem.Spec PyProof.Rows L2 DL
section
variable {P : Program} {w : World} {K : PySem.W.Frag} {mg : Str → Option Value} {base : Heap}
def C_three_sure : TF := fun ds P => ∃ (d1 d2 d3 : PyData) (n : Int) (bs : List Pr) (one other : List Int), ds = [d1, d2, d3] ∧ okD 6 d1 = true ∧ okD 6 d2 = true ∧ okD 6 d3 = true ∧ tupledD d1 = eF n bs ∧ tupledD d2 = eS one ∧ tupledD d3 = eS other ∧ VF n bs ∧ VS n bs one ∧ VS n bs other ∧
  P (.tuple [eF n bs, eS one, eS other])
abbrev N_three_sure : List Str := ["frame", "one", "other", "own", "here", "there"]
theorem sc_three_sure : FnScope N_three_sure ["frame", "one", "other"] (defScope s_three_sure) := ⟨rfl, rfl, rfl, by decide +kernel, rfl, by decide +kernel, by decide +kernel⟩
theorem o_three_sure (B : B0 K mg) : Ok P w K mg base "three_sure" ["frame", "one", "other"] 8 C_three_sure := by
  have nd := sc_three_sure.nd
  obtain ⟨fd, F⟩ := B.says.def_ 16 (d := mkD "three_sure" s_three_sure) rfl
  refine ⟨fd, fn_dl (C := C_three_sure) F sc_three_sure (by rintro ds Q ⟨_, _, _, _, _, _, _, rfl, _⟩; rfl) (fun cdv A outer s H E hr => (dss_cons (ds_par3 (i := 3) (j := 4) (l := 5) rfl nd rfl rfl rfl (by decide) (by decide) (by decide) rfl rfl rfl (da_cons (dp_fn (o_tupled B 6) hr (by rfl) (da_cons (dp_var (pv 0 rfl (Or.inl rfl))) da_nil)) (da_cons (dp_fn (o_tupled B 6) hr (by rfl) (da_cons (dp_var (pv 1 rfl (Or.inl rfl))) da_nil)) (da_cons (dp_fn (o_tupled B 6) hr (by rfl) (da_cons (dp_var (pv 2 rfl (Or.inl rfl))) da_nil)) da_nil))) (by rfl))
    (dss_cons (ds_if (DW.dt (dw_or (dt_not (dt_val (dp_fn (o_is_frame B) hr (by rfl) (da_cons (dp_var (pv 3 rfl (Or.inl rfl))) da_nil)))) (dw_or (dt_not (dt_val (dp_fn (o_is_stand B) hr (by rfl) (da_cons (dp_var (pv 3 rfl (Or.inl rfl))) (da_cons (dp_var (pv 4 rfl (Or.inl rfl))) da_nil))))) (dw_or1 (dt_not (dt_val (dp_fn (o_is_stand B) hr (by rfl) (da_cons (dp_var (pv 3 rfl (Or.inl rfl))) (da_cons (dp_var (pv 5 rfl (Or.inl rfl))) da_nil))))))))) (dss_one ds_never) dss_nil)
    (dss_one (ds_ret (dp_tup (da_cons (dp_var (pv 3 rfl (Or.inl rfl))) (da_cons (dp_var (pv 4 rfl (Or.inl rfl))) (da_cons (dp_var (pv 5 rfl (Or.inl rfl))) da_nil))))))))) ?_, FunD.bindsN F (fun _ _ _ _ _ _ us hl => match us, hl with | [_, _, _], _ => rfl), F.kp, B.glo _ (B.says.fact 16 (f := .glo "three_sure") rfl)⟩
  rintro ds Q ⟨d1, d2, d3, n, bs, one, other, rfl, k1, k2, k3, e1, e2, e3, v, v1, v2, q⟩
  refine ⟨_, rfl, _, rfl, k1, _, rfl, _, rfl, k2, _, rfl, _, rfl, k3, _, _, _, rfl, ?_⟩
  rw [e1, e2, e3]
  refine ⟨_, rfl, n, bs, rfl, v, _, rfl, ?_⟩
  refine ⟨_, rfl, _, rfl, n, bs, one, rfl, v, v1, _, rfl, ?_⟩
  refine ⟨_, rfl, _, rfl, n, bs, other, rfl, v, v2, _, rfl, ?_⟩
  exact ⟨_, rfl, _, rfl, _, rfl, by show 3 ≤ 16777216; decide, q⟩
def C_next_to : TF := fun ds P => ∃ (n : Int) (bs : List Pr) (p : Pr), ds = [eF n bs, eP p] ∧ bs.length < 32 ∧ P (.list (([(p.1, p.2 - 1), (p.1, p.2 + 1)] ++ ((bs.filter fun b => decide (p.1 = b.1 ∨ p.1 = b.2)).map fun b => ((if b.1 = p.1 then b.2 else b.1), p.2))).map eP))
abbrev N_next_to : List Str := ["frame", "pair", "jack", "level", "ends", "near", "far", "end"]
theorem sc_next_to : FnScope N_next_to ["frame", "pair"] (defScope s_next_to) := ⟨rfl, rfl, rfl, by decide +kernel, rfl, by decide +kernel, by decide +kernel⟩
theorem o_next_to (B : B0 K mg) : Ok P w K mg base "next_to" ["frame", "pair"] 1 C_next_to := by
  have nd := sc_next_to.nd
  obtain ⟨fd, F⟩ := B.says.def_ 17 (d := mkD "next_to" s_next_to) rfl
  refine ⟨fd, fn_dl (C := C_next_to) F sc_next_to (by rintro ds Q ⟨_, _, _, rfl, _⟩; rfl) (fun cdv A outer s H E hr => (dss_cons (ds_asg (dp_var (pv 1 rfl (Or.inl rfl))) (dg_tup rfl (dgs_cons (dg_name (pg_name (i := 2) nd rfl (Or.inr rfl))) (dgs_cons (dg_name (pg_name (i := 3) nd rfl (Or.inr rfl))) dgs_nil))))
    (dss_cons (ds_frzA 4 (ds_setLc (i := 4) rfl nd rfl rfl (sw_true rfl rfl rfl (by decide +kernel)) (own := [("near", 5), ("far", 6)]) (ws := [5, 6])  (di_seq (dp_ix (dp_var (pv 0 rfl (Or.inl rfl))) dp_int (fun _ _ => rfl))) (blkOk_by (N := N_next_to) (sc := (defScope s_next_to)) (by decide +kernel)) (by decide) (fun _ _ _ _ _ => (dg_tup rfl (dgs_cons (dg_name (pg_name (i := 5) nd rfl (Or.inl rfl))) (dgs_cons (dg_name (pg_name (i := 6) nd rfl (Or.inl rfl))) dgs_nil)))) (fun _ _ _ _ _ => (dts_one (dt_cmp (op_in2 (hu65 hr)) od_in (dp_var (pv 2 rfl (Or.inr (Or.inl rfl)))) (dp_tup (da_cons (dp_var (pv 5 rfl (Or.inl rfl))) (da_cons (dp_var (pv 6 rfl (Or.inl rfl))) da_nil))) (by rfl)))) (fun _ _ _ _ _ => (dp_if (dt_cmp (op_eqD hr.units) od_eq (dp_var (pv 5 rfl (Or.inl rfl))) (dp_var (pv 2 rfl (Or.inr (Or.inl rfl)))) (nomark _)) (dp_var (pv 6 rfl (Or.inl rfl))) (dp_var (pv 5 rfl (Or.inl rfl)))))))
    (dss_one (ds_ret (dp_op op_add3 od_add (DF.dp (df_lst (da_cons (dp_tup (da_cons (dp_var (pv 2 rfl (Or.inr (Or.inl rfl)))) (da_cons (dp_op op_sub od_sub (dp_var (pv 3 rfl (Or.inr (Or.inl rfl)))) dp_int) da_nil))) (da_cons (dp_tup (da_cons (dp_var (pv 2 rfl (Or.inr (Or.inl rfl)))) (da_cons (dp_op op_add3 od_add (dp_var (pv 3 rfl (Or.inr (Or.inl rfl)))) dp_int) da_nil))) da_nil)))) (DF.dp (df_lc (own := [("end", 7)]) (ws := [7]) rfl nd (di_seq (dp_var (pv 4 rfl (Or.inl rfl)))) (blkOk_by (N := N_next_to) (sc := (defScope s_next_to)) (by decide +kernel)) (by decide) (fun _ _ _ _ _ => (dg_name (pg_name (i := 7) nd rfl (Or.inl rfl)))) (fun _ _ _ _ _ => dts_nil) (fun _ _ _ _ _ => (dp_tup (da_cons (dp_var (pv 7 rfl (Or.inl rfl))) (da_cons (dp_var (pv 3 rfl (Or.inr (Or.inl rfl)))) da_nil)))))))))))) ?_, FunD.bindsN F (fun _ _ _ _ _ _ us hl => match us, hl with | [_, _], _ => rfl), F.kp, B.glo _ (B.says.fact 17 (f := .glo "next_to") rfl)⟩
  rintro ds Q ⟨n, bs, ⟨j, l⟩, rfl, hl, q⟩
  refine ⟨_, rfl, _, rfl, rfl, ?_⟩
  refine lcF (ti := dSeq (dOp gIx (dV 0) (dC (.int 1)))) bs eP (fun b => decide (j = b.1 ∨ j = b.2)) (fun b => if b.1 = j then b.2 else b.1) PyData.int (fun R hR => ⟨_, rfl, by decide, _, rfl, _, rfl, hR⟩) (by omega) (fun b hb R h1 R2 h2 => ?_) ?_
  · refine ⟨_, rfl, rfl, _, rfl, _, rfl, _, rfl, by show 2 ≤ 16777216; decide, rfl, (pl_P b).sh, _, rfl, ?_⟩
    rw [show inD (.int j) [PyData.int b.1, .int b.2] = decide (j ∈ [b.1, b.2]) from inD_ints j [b.1, b.2]]
    have e : decide (j ∈ [b.1, b.2]) = decide (j = b.1 ∨ j = b.2) := by simp
    rw [e]
    cases hd : decide (j = b.1 ∨ j = b.2) with
    | true =>
      refine ⟨_, rfl, _, rfl, rfl, rfl, _, rfl, ?_⟩
      rw [eqv_int]
      have := h1 hd
      by_cases hj : b.1 = j
      · rw [if_pos hj] at this
        rw [decide_eq_true hj]
        exact ⟨_, rfl, this⟩
      · rw [if_neg hj] at this
        rw [decide_eq_false hj]
        exact ⟨_, rfl, this⟩
    | false => exact h2 hd
  · refine ⟨_, _, rfl, rfl, ?_⟩
    refine ⟨_, rfl, _, rfl, by show 2 ≤ 16777216; decide, _, rfl, _, rfl, by show 2 ≤ 16777216; decide, by show 2 ≤ 16777216; decide, ?_⟩
    refine lcM (ti := dSeq (dV 4)) ((bs.filter fun b => decide (j = b.1 ∨ j = b.2)).map fun b => if b.1 = j then b.2 else b.1) PyData.int (fun e => ((e, l) : Pr)) eP (fun R hR => ⟨_, rfl, _, rfl, hR⟩) (by
      rw [List.length_map]
      have := List.length_filter_le (fun b : Pr => decide (j = b.1 ∨ j = b.2)) bs
      omega) (fun b hb R hR => ?_) ?_
    · exact ⟨_, rfl, _, rfl, by show 2 ≤ 16777216; decide, hR⟩
    · refine ⟨?_, ?_⟩
      · rw [List.length_map, List.length_map, List.length_map]
        have := List.length_filter_le (fun b : Pr => decide (j = b.1 ∨ j = b.2)) bs
        show 2 + _ ≤ _
        omega
      · rw [List.map_append, List.map_map] at q
        rw [List.map_map, List.map_map, List.map_map]
        exact q
def C_is_beside_any : TF := fun ds P => ∃ (n : Int) (bs : List Pr) (p : Pr) (l : List (List Int × PyData)), ds = [eF n bs, eP p, ekD l] ∧ bs.length < 32 ∧ (∀ q : Pr, q ∈ [(p.1, p.2 - 1), (p.1, p.2 + 1)] ++ ((bs.filter fun b => decide (p.1 = b.1 ∨ p.1 = b.2)).map fun b => ((if b.1 = p.1 then b.2 else b.1), p.2)) → getL l (kP q) = none) ∧ P (.bool false)
abbrev N_is_beside_any : List Str := ["frame", "pair", "held", "near"]
theorem sc_is_beside_any : FnScope N_is_beside_any ["frame", "pair", "held"] (defScope s_is_beside_any) := ⟨rfl, rfl, rfl, by decide +kernel, rfl, by decide +kernel, by decide +kernel⟩
theorem o_is_beside_any (B : B0 K mg) : Ok P w K mg base "is_beside_any" ["frame", "pair", "held"] 2 C_is_beside_any := by
  have nd := sc_is_beside_any.nd
  obtain ⟨fd, F⟩ := B.says.def_ 18 (d := mkD "is_beside_any" s_is_beside_any) rfl
  refine ⟨fd, fn_dl (C := C_is_beside_any) F sc_is_beside_any (by rintro ds Q ⟨_, _, _, _, rfl, _⟩; rfl) (fun cdv A outer s H E hr => (dss_one (ds_ret (dp_callB (cr_any rfl) cd_any (by rfl) (f_any B) (by decide +kernel) (da_cons (DF.dp (df_lc (own := [("near", 3)]) (ws := [3]) rfl nd (di_seq (dp_fn (o_next_to B) hr (by rfl) (da_cons (dp_var (pv 0 rfl (Or.inl rfl))) (da_cons (dp_var (pv 1 rfl (Or.inl rfl))) da_nil)))) (blkOk_by (N := N_is_beside_any) (sc := (defScope s_is_beside_any)) (by decide +kernel)) (by decide) (fun _ _ _ _ _ => (dg_name (pg_name (i := 3) nd rfl (Or.inl rfl)))) (fun _ _ _ _ _ => dts_nil) (fun _ _ _ _ _ => (dp_dIn (hu_of hr) (dp_var (pv 3 rfl (Or.inl rfl))) (dp_var (pv 2 rfl (Or.inr (Or.inl rfl)))))))) da_nil))))) ?_, FunD.bindsN F (fun _ _ _ _ _ _ us hl => match us, hl with | [_, _, _], _ => rfl), F.kp, B.glo _ (B.says.fact 18 (f := .glo "is_beside_any") rfl)⟩
  rintro ds Q ⟨n, bs, p, l, rfl, hl, h, q⟩
  refine lcM (ti := dSeq (dApp C_next_to (dCons (dV 0) (dCons (dV 1) dNil)))) ([(p.1, p.2 - 1), (p.1, p.2 + 1)] ++ ((bs.filter fun b => decide (p.1 = b.1 ∨ p.1 = b.2)).map fun b => ((if b.1 = p.1 then b.2 else b.1), p.2))) eP (fun _ => false) PyData.bool (fun R hR => ⟨_, rfl, _, rfl, n, bs, p, rfl, hl, _, rfl, hR⟩) (by
    rw [List.length_append, List.length_map]
    have := List.length_filter_le (fun b : Pr => decide (p.1 = b.1 ∨ p.1 = b.2)) bs
    show 2 + _ < _
    omega) (fun b hb R hR => ?_) ?_
  · refine ⟨_, rfl, _, rfl, kP b, l, rfl, rfl, ?_⟩
    rw [h b hb]
    exact hR
  · refine ⟨_, rfl, ?_⟩
    have : ∀ xs : List Pr, ((xs.map fun _ => false).any id) = false := by intro xs; simp
    rw [this]
    exact q
def C_is_passing_in : TF := fun ds P => ∃ (n : Int) (bs : List Pr) (one other : List Int) (ps : List Pr), ds = [eF n bs, eS one, eS other, eTP ps] ∧ VF n bs ∧ VS n bs one ∧ VS n bs other ∧ VPs n bs one other ps ∧ P (.bool true)
abbrev N_is_passing_in : List Str := ["frame", "one", "other", "thing", "held", "pair"]
theorem sc_is_passing_in : FnScope N_is_passing_in ["frame", "one", "other", "thing"] (defScope s_is_passing_in) := ⟨rfl, rfl, rfl, by decide +kernel, rfl, by decide +kernel, by decide +kernel⟩
theorem o_is_passing_in (B : B0 K mg) : Ok P w K mg base "is_passing_in" ["frame", "one", "other", "thing"] 5 C_is_passing_in := by
  have nd := sc_is_passing_in.nd
  obtain ⟨fd, F⟩ := B.says.def_ 19 (d := mkD "is_passing_in" s_is_passing_in) rfl
  refine ⟨fd, fn_dl (C := C_is_passing_in) F sc_is_passing_in (by rintro ds Q ⟨_, _, _, _, _, rfl, _⟩; rfl) (fun cdv A outer s H E hr => (dss_cons (ds_if (DW.dt (dw_or (dt_not (dt_val (dp_isi tab_tup (dp_var (pv 3 rfl (Or.inl rfl))) (by rfl) (f_isinstance B) (pe_bltn (by rfl) (f_tuple B) (by decide +kernel) rfl)))) (dw_or1 (dt_not (dt_val (dp_callB (cr_all rfl) cd_all (by rfl) (f_all B) (by decide +kernel) (da_cons (DF.dp (df_lc (own := [("pair", 5)]) (ws := [5]) rfl nd (di_seq (dp_var (pv 3 rfl (Or.inl rfl)))) (blkOk_by (N := N_is_passing_in) (sc := (defScope s_is_passing_in)) (by decide +kernel)) (by decide) (fun _ _ _ _ _ => (dg_name (pg_name (i := 5) nd rfl (Or.inl rfl)))) (fun _ _ _ _ _ => dts_nil) (fun _ _ _ _ _ => (dp_fn (o_is_passable_in B) hr (by rfl) (da_cons (dp_var (pv 1 rfl (Or.inr (Or.inl rfl)))) (da_cons (dp_var (pv 2 rfl (Or.inr (Or.inl rfl)))) (da_cons (dp_var (pv 5 rfl (Or.inl rfl))) da_nil))))))) da_nil))))))) (dss_one (ds_ret dp_bl)) dss_nil)
    (dss_cons (ds_set (i := 4) nd rfl (Or.inr rfl) (DP.de (dp_callTy (cr_dictT (hu2 hr) rfl) cd_dict (by rfl) (f_dict B) (by decide +kernel) (da_cons (DF.dp (df_lc (own := [("pair", 5)]) (ws := [5]) rfl nd (di_seq (dp_var (pv 3 rfl (Or.inl rfl)))) (blkOk_by (N := N_is_passing_in) (sc := (defScope s_is_passing_in)) (by decide +kernel)) (by decide) (fun _ _ _ _ _ => (dg_name (pg_name (i := 5) nd rfl (Or.inl rfl)))) (fun _ _ _ _ _ => dts_nil) (fun _ _ _ _ _ => (dp_tup (da_cons (dp_var (pv 5 rfl (Or.inl rfl))) (da_cons dp_bl da_nil)))))) da_nil))))
    (dss_one (ds_ret (dp_and (dp_fn (o_ascends B) hr (by rfl) (da_cons (dp_var (pv 3 rfl (Or.inl rfl))) da_nil)) (dp_one (dp_not (dp_callB (cr_any rfl) cd_any (by rfl) (f_any B) (by decide +kernel) (da_cons (DF.dp (df_lc (own := [("pair", 5)]) (ws := [5]) rfl nd (di_seq (dp_var (pv 3 rfl (Or.inl rfl)))) (blkOk_by (N := N_is_passing_in) (sc := (defScope s_is_passing_in)) (by decide +kernel)) (by decide) (fun _ _ _ _ _ => (dg_name (pg_name (i := 5) nd rfl (Or.inl rfl)))) (fun _ _ _ _ _ => dts_nil) (fun _ _ _ _ _ => (dp_fn (o_is_beside_any B) hr (by rfl) (da_cons (dp_var (pv 0 rfl (Or.inr (Or.inl rfl)))) (da_cons (dp_var (pv 5 rfl (Or.inl rfl))) (da_cons (dp_var (pv 4 rfl (Or.inr (Or.inl rfl)))) da_nil))))))) da_nil)))))))))) ?_, FunD.bindsN F (fun _ _ _ _ _ _ us hl => match us, hl with | [_, _, _, _], _ => rfl), F.kp, B.glo _ (B.says.fact 19 (f := .glo "is_passing_in") rfl)⟩
  rintro ds Q ⟨n, bs, one, other, ps, rfl, v, v1, v2, vp, q⟩
  refine ⟨_, rfl, rfl, _, rfl, ?_⟩
  refine lcM (ti := dSeq (dV 3)) ps eP (fun _ => true) PyData.bool (fun R hR => ⟨_, rfl, _, rfl, hR⟩) (by have := vp.len; omega) (fun b hb R hR => ?_) ?_
  · obtain ⟨x, y, hx, hy, h0, h1, h2⟩ := vp.ok b hb
    have := (List.getElem?_eq_some_iff.mp hx).1
    exact ⟨_, rfl, _, rfl, _, rfl, one, other, b, x, y, rfl, h0, by omega, hx, hy, h1, h2, hR⟩
  refine ⟨_, rfl, ?_⟩
  have e1 : ((ps.map fun _ => true).all id) = true := by simp
  rw [e1]
  refine ⟨_, rfl, ?_⟩
  refine lcM (ti := dSeq (dV 3)) ps eP (fun p => (kP p, PyData.bool true)) pairD (fun R hR => ⟨_, rfl, _, rfl, hR⟩) (by have := vp.len; omega) (fun b hb R hR => ⟨_, rfl, by show 2 ≤ 16777216; decide, hR⟩) ?_
  refine ⟨_, rfl, ?_⟩
  refine ⟨_, rfl, ps.map kP, by rw [List.map_map]; rfl, by rw [List.length_map]; have := vp.len; omega, fun i x y hx hy => ?_, _, rfl, ?_⟩
  · rw [List.getElem?_map] at hx hy
    cases e1 : ps[i]? with
    | none => rw [e1] at hx; cases hx
    | some a =>
      cases e2 : ps[i + 1]? with
      | none => rw [e2] at hy; cases hy
      | some b =>
        rw [e1] at hx
        rw [e2] at hy
        cases hx
        cases hy
        exact vp.asc i a b e1 e2
  refine lcM (ti := dSeq (dV 3)) ps eP (fun _ => false) PyData.bool (fun R hR => ⟨_, rfl, _, rfl, hR⟩) (by have := vp.len; omega) (fun b hb R hR => ?_) ?_
  · refine ⟨_, rfl, _, rfl, _, rfl, n, bs, b, _, rfl, v.len, fun q hq => ?_, hR⟩
    have := getL_puts kP (fun _ => PyData.bool true) (kP q) ps [] fun a ha z => vp.apart b hb q hq (by rw [← kP_inj z]; exact ha)
    exact this
  · refine ⟨_, rfl, _, rfl, ?_⟩
    have : ((ps.map fun _ => false).any id) = false := by simp
    rw [this]
    exact q
end
end EvL

-- text V2
set_option Elab.async false
set_option linter.all false
set_option maxRecDepth 100000
set_option maxHeartbeats 4000000
/-! Moves and arrows, as the program makes them. -/
namespace EvL
open PySem PySem.Spec PyProof.Rows L2 DL
abbrev srt (ms : List Mv) : List Mv := ms.mergeSort (dLe fun m => eM m)
abbrev srtA (as : List (Mv × Mv)) : List (Mv × Mv) := as.mergeSort (dLe fun a => eA a)
theorem alike_ints : ∀ {a b : List Int}, a.length = b.length → PySem.W.alikeAll (a.map PyData.int) (b.map .int) = true
  | [], [], _ => by simp [PySem.W.alikeAll]
  | x :: a, y :: b, h => by
    have := alike_ints (a := a) (b := b) (by simpa using h)
    simp [PySem.W.alikeAll, PySem.W.alike, this]
  | [], _ :: _, h => by simp at h
  | _ :: _, [], h => by simp at h
theorem alike_M (a b : Mv) : PySem.W.alike (eM a) (eM b) = true := by simp [PySem.W.alike, PySem.W.alikeAll]
theorem alike_P (a b : Pr) : PySem.W.alike (eP a) (eP b) = true := by simp [PySem.W.alike, PySem.W.alikeAll]
theorem alike_A (a b : Mv × Mv) : PySem.W.alike (eA a) (eA b) = true := by simp [PySem.W.alike, PySem.W.alikeAll]
theorem alike_map {α : Type} {f : α → PyData} (h : ∀ a b, PySem.W.alike (f a) (f b) = true) (l : List α) : PySem.W.AllAlike (l.map f) := by
  intro d hd d' hd'
  obtain ⟨a, _, rfl⟩ := List.mem_map.mp hd
  obtain ⟨b, _, rfl⟩ := List.mem_map.mp hd'
  exact h a b
theorem sortable_map {α : Type} {f : α → PyData} (h : ∀ a, ∃ x r, f a = .tuple (x :: r)) (l : List α) : PySem.W.Sortable (l.map f) := by
  refine .inl fun d hd => ?_
  obtain ⟨a, _, rfl⟩ := List.mem_map.mp hd
  exact h a
/-- the levels strictly between -/
def levels (h e : Int) : List Int := if h < e then (List.range (e - h - 1).toNat).map (fun i : Nat => h + 1 + (i : Int)) else (List.range (h - e - 1).toNat).map (fun i : Nat => h - 1 - (i : Int))
def rowOf (ps : List Pr) (j h e : Int) : List Int := [h] ++ (levels h e).filter (fun l => !decide ((j, l) ∈ ps)) ++ [e]
def segs (j : Int) (row : List Int) : List Mv := (row.zip (row.drop 1)).map fun p => (j, p.1, p.2)
def jackMoves (one other : List Int) (ps : List Pr) (i : Nat) : List Mv := match one[i]?, other[i]? with
  | some h, some e => if h = e then [] else segs i (rowOf ps i h e)
  | _, _ => []
def mvRaw (one other : List Int) (ps : List Pr) : List Mv := ((List.range one.length).map (jackMoves one other ps)).flatten
theorem take_range_flat {α : Type} (f : Nat → List α) (n i : Nat) (h : i < n) : (((List.range n).take (i + 1)).map f).flatten = (((List.range n).take i).map f).flatten ++ f i := by
  have e : (List.range n)[i]? = some i := List.getElem?_range h
  rw [List.take_add_one, e, List.map_append, List.flatten_append]
  simp
theorem levels_len (h e : Int) : (levels h e).length ≤ (h - e).natAbs := by
  unfold levels
  split <;> simp <;> omega
theorem rowOf_len (ps : List Pr) (j h e : Int) : (rowOf ps j h e).length ≤ (h - e).natAbs + 2 := by
  unfold rowOf
  have h1 := List.length_filter_le (fun l => !decide ((j, l) ∈ ps)) (levels h e)
  have h2 := levels_len h e
  simp only [List.length_append, List.length_singleton]
  omega
theorem segs_len (j : Int) (row : List Int) : (segs j row).length ≤ row.length := by
  unfold segs
  simp
  try omega
theorem jack_len (one other : List Int) (ps : List Pr) (i : Nat) (hb : ∀ x y, one[i]? = some x → other[i]? = some y → (x - y).natAbs ≤ 1000) : (jackMoves one other ps i).length ≤ 1002 := by
  unfold jackMoves
  cases h1 : one[i]? with
  | none => simp
  | some x =>
    cases h2 : other[i]? with
    | none => simp
    | some y =>
      show (if x = y then [] else segs i (rowOf ps i x y)).length ≤ 1002
      split
      · simp
      · have := segs_len i (rowOf ps i x y)
        have := rowOf_len ps i x y
        have := hb x y h1 h2
        omega
theorem flat_len {α β : Type} (f : β → List α) (c : Nat) : ∀ l : List β, (∀ x ∈ l, (f x).length ≤ c) → (l.map f).flatten.length ≤ l.length * c
  | [], _ => by simp
  | x :: l, h => by
    have ih := flat_len f c l fun y hy => h y (List.mem_cons_of_mem _ hy)
    have := h x List.mem_cons_self
    rw [List.map_cons, List.flatten_cons, List.length_append, List.length_cons, Nat.succ_mul]
    omega
theorem rgC_up (h e : Int) (hlt : h < e) : rgC (h + 1) 1 (e - (h + 1)).toNat = (levels h e).map .int := by
  unfold rgC levels
  rw [if_pos hlt, List.map_map, show e - (h + 1) = e - h - 1 by omega]
  refine List.map_congr_left fun i _ => ?_
  show PyData.int (h + 1 + (i : Int) * 1) = .int (h + 1 + (i : Int))
  rw [Int.mul_one]
theorem rgC_down (h e : Int) (hlt : ¬ h < e) : rgC (h + -1) (-1) (h + -1 - e).toNat = (levels h e).map .int := by
  unfold rgC levels
  rw [if_neg hlt, List.map_map, show h + -1 - e = h - e - 1 by omega]
  refine List.map_congr_left fun i _ => ?_
  show PyData.int (h + -1 + (i : Int) * -1) = .int (h - 1 - (i : Int))
  rw [show h + -1 + (i : Int) * -1 = h - 1 - (i : Int) by omega]
/-- what must come ahead -/
def isAhead (a b : Mv) : Bool := if a.1 = b.1 then decide (a.2.2 = b.2.1) else
  if (decide (a.2.1 < a.2.2)) != (decide (b.2.1 < b.2.2)) then false else
  if a.2.1 < a.2.2 then decide (a.2.1 ≤ b.2.2 - 2) else decide (b.2.2 + 2 ≤ a.2.1)
theorem rgc_up {h e : Int} (hh : -400 ≤ h) (h2 : h ≤ 400) (he : -400 ≤ e) (e2 : e ≤ 400) : RgC (h + 1) e 1 (e - (h + 1)).toNat := by
  refine ⟨by decide, by decide, small_one (by omega) (by omega) (by omega) (by omega), ?_⟩
  rw [rangeSize_one]
  split <;> omega
theorem rgc_down {h e : Int} (hh : -400 ≤ h) (h2 : h ≤ 400) (he : -400 ≤ e) (e2 : e ≤ 400) : RgC (h + -1) e (-1) (h + -1 - e).toNat := RgC.neg (by omega) (by omega) (by omega) (by omega)
theorem pl_A (a : Mv × Mv) : Pl 2 (eA a) := .tup fun d hd => by
  rcases List.mem_cons.mp hd with e | hd
  · subst e; exact pl_M a.1
  · have e : d = eM a.2 := by simpa using hd
    subst e; exact pl_M a.2
def adj (bs : List Pr) (j k : Int) : Bool := decide ((j, k) ∈ bs ∨ (k, j) ∈ bs)
def jacks (n : Int) : List Int := (List.range n.toNat).map fun i : Nat => (i : Int)
def nbr (n : Int) (bs : List Pr) (j : Int) : List Int := (jacks n).filter (adj bs j)
def rowsOf (ms : List Mv) (j : Int) : List Mv := ms.filter fun m => decide (m.1 = j)
def laterOf (n : Int) (bs : List Pr) (ms : List Mv) (j : Int) : List Mv := (([j] ++ nbr n bs j).map (rowsOf ms)).flatten
def arM (later : List Mv) (m : Mv) : List (Mv × Mv) := (later.filter (isAhead m)).map fun f => (m, f)
def arJ (n : Int) (bs : List Pr) (ms : List Mv) (j : Int) : List (Mv × Mv) := ((rowsOf ms j).map (arM (laterOf n bs ms j))).flatten
def arRaw (n : Int) (bs : List Pr) (ms : List Mv) : List (Mv × Mv) := ((jacks n).map (arJ n bs ms)).flatten
theorem jacks_sorted (n : Int) : (jacks n).Pairwise (· < ·) := by
  unfold jacks
  rw [List.pairwise_map]
  exact List.Pairwise.imp (fun h => by exact_mod_cast h) List.pairwise_lt_range
theorem mem_jacks {n k : Int} : k ∈ jacks n ↔ 0 ≤ k ∧ k < n := by
  unfold jacks
  simp only [List.mem_map, List.mem_range]
  constructor
  · rintro ⟨i, hi, rfl⟩
    omega
  · rintro ⟨h0, h1⟩
    exact ⟨k.toNat, by omega, by omega⟩
theorem nbr_of {n : Int} {bs : List Pr} (v : VF n bs) {j : Int} {ms : List Int} (h1 : ms.Pairwise (· < ·)) (h2 : ∀ k, k ∈ ms ↔ ∃ b ∈ bs, (j = b.1 ∨ j = b.2) ∧ k = b.1 + b.2 - j) : ms = nbr n bs j := by
  refine strict_ext (lt := (· < ·)) (fun a b => by omega) h1 ((jacks_sorted n).filter _) fun k => ?_
  rw [h2]
  unfold nbr adj
  rw [List.mem_filter, mem_jacks, decide_eq_true_eq]
  constructor
  · rintro ⟨b, hb, hj, rfl⟩
    obtain ⟨o1, o2, o3⟩ := v.ok b hb
    rcases hj with e | e
    · subst e
      rw [show b.1 + b.2 - b.1 = b.2 by omega]
      exact ⟨⟨by omega, by omega⟩, .inl hb⟩
    · subst e
      rw [show b.1 + b.2 - b.2 = b.1 by omega]
      exact ⟨⟨by omega, by omega⟩, .inr hb⟩
  · rintro ⟨_, h | h⟩
    · exact ⟨_, h, .inl rfl, by show k = j + k - j; omega⟩
    · exact ⟨_, h, .inr rfl, by show k = k + j - j; omega⟩
theorem nbr_len (n : Int) (bs : List Pr) (j : Int) : (nbr n bs j).length ≤ n.toNat := by
  unfold nbr
  refine Nat.le_trans (List.length_filter_le _ _) ?_
  simp [jacks]
theorem rowsOf_len (ms : List Mv) (j : Int) : (rowsOf ms j).length ≤ ms.length := List.length_filter_le _ _
theorem arM_len (l : List Mv) (m : Mv) : (arM l m).length ≤ l.length := by
  unfold arM
  rw [List.length_map]
  exact List.length_filter_le _ _
theorem later_len {n : Int} {bs : List Pr} {ms : List Mv} {j : Int} (h8 : n ≤ 8) (hm : ms.length ≤ 100) : (laterOf n bs ms j).length ≤ 900 := by
  unfold laterOf
  have h1 := flat_len (rowsOf ms) 100 ([j] ++ nbr n bs j) fun k _ => Nat.le_trans (rowsOf_len ms k) hm
  have h2 := nbr_len n bs j
  have h3 : ([j] ++ nbr n bs j).length ≤ 9 := by
    rw [List.length_append, List.length_singleton]
    omega
  have h4 : ([j] ++ nbr n bs j).length * 100 ≤ 9 * 100 := Nat.mul_le_mul_right _ h3
  omega
theorem arJ_len {n : Int} {bs : List Pr} {ms : List Mv} {j : Int} (h8 : n ≤ 8) (hm : ms.length ≤ 100) (k : Nat) : (((rowsOf ms j).take k).map (arM (laterOf n bs ms j))).flatten.length ≤ 90000 := by
  have h1 := flat_len (arM (laterOf n bs ms j)) 900 ((rowsOf ms j).take k) fun m _ => Nat.le_trans (arM_len _ m) (later_len h8 hm)
  have h2 := rowsOf_len ms j
  have h3 : ((rowsOf ms j).take k).length ≤ 100 := by rw [List.length_take]; omega
  have h4 : ((rowsOf ms j).take k).length * 900 ≤ 100 * 900 := Nat.mul_le_mul_right _ h3
  omega
theorem arR_len {n : Int} {bs : List Pr} {ms : List Mv} (h8 : n ≤ 8) (hm : ms.length ≤ 100) (k : Nat) : (((jacks n).take k).map (arJ n bs ms)).flatten.length ≤ 720000 := by
  have h1 := flat_len (arJ n bs ms) 90000 ((jacks n).take k) fun j _ => by
    have := arJ_len (bs := bs) (j := j) h8 hm (rowsOf ms j).length
    rw [List.take_length] at this
    exact this
  have h3 : ((jacks n).take k).length ≤ 8 := by
    rw [List.length_take]
    unfold jacks
    simp
    omega
  have h4 : ((jacks n).take k).length * 90000 ≤ 8 * 90000 := Nat.mul_le_mul_right _ h3
  omega
theorem rgD_jacks (n : Int) : rgD 0 n.toNat = (jacks n).map .int := by
  unfold rgD jacks
  rw [List.map_map]
  refine List.map_congr_left fun i _ => ?_
  show PyData.int (0 + (i : Int)) = .int (i : Int)
  rw [Int.zero_add]
theorem jacks_get {n : Int} {i : Nat} {j : Int} (h : (jacks n)[i]? = some j) : j = (i : Int) ∧ i < n.toNat := by
  unfold jacks at h
  rw [List.getElem?_map] at h
  cases e : (List.range n.toNat)[i]? with
  | none => rw [e] at h; cases h
  | some k =>
    rw [e] at h
    have hk := List.getElem?_eq_some_iff.mp e
    have : k = i := by rw [← hk.2]; simp
    subst this
    exact ⟨(Option.some.inj h).symm, by simpa using hk.1⟩
theorem flat_take {α β : Type} (f : β → List α) {l : List β} {i : Nat} {x : β} (h : l[i]? = some x) : ((l.take (i + 1)).map f).flatten = ((l.take i).map f).flatten ++ f x := by
  rw [List.take_add_one, h, List.map_append, List.flatten_append]
  simp
/-- own lists: unit comprehension -/
theorem lcX_unit {ti : TDI} {g : TDG} {vs : List Nat} {ρ : List SV} {P : List Unit → Prop} {α : Type} (bs : List α) (enc : α → PyData) (hi : ∀ Q : List PyData → Prop, Q (bs.map enc) → ti ρ Q) (hl : bs.length < 16777216)
    (h : ∀ x ∈ bs, ∀ R : Prop, R → g (enc x) (wipeD ρ vs) fun _ => R) (hP : ∀ ys : List Unit, ys.length = bs.length → P ys) : dLcX ti g (fun _ P => P ()) vs ρ P := by
  refine hi _ ⟨fun i acc => acc.length = i, rfl, fun i x acc hx hacc => ?_, fun acc hacc => hP acc (by rwa [List.length_map] at hacc)⟩
  rw [List.getElem?_map] at hx
  obtain ⟨y, hy, rfl⟩ : ∃ y, bs[i]? = some y ∧ enc y = x := by
    cases q : bs[i]? with
    | none => rw [q] at hx; cases hx
    | some y => rw [q] at hx; exact ⟨y, rfl, Option.some.inj hx⟩
  have := (List.getElem?_eq_some_iff.mp hy).1
  exact ⟨by omega, h y (List.mem_of_getElem? hy) _ (by show (acc ++ [()]).length = i + 1; rw [List.length_append, hacc]; rfl)⟩
end EvL

-- text D5
set_option Elab.async false
set_option linter.all false
set_option maxRecDepth 100000
set_option maxHeartbeats 4000000
namespace EvL
open PySem PySem.Spec PyProof.Rows L2 DL
section
variable {P : Program} {w : World} {K : PySem.W.Frag} {mg : Str → Option Value} {base : Heap}
def C_moves_in : TF := fun ds P => ∃ (one other : List Int) (ps : List Pr), ds = [eS one, eS other, eTP ps] ∧ one.length = other.length ∧ one.length < 100 ∧ ps.length < 500 ∧ (∀ x ∈ one, -400 ≤ x ∧ x ≤ 400) ∧ (∀ x ∈ other, -400 ≤ x ∧ x ≤ 400) ∧ P (eTM (srt (mvRaw one other ps)))
abbrev N_moves_in : List Str := ["one", "other", "passing", "found", "gone", "jack", "height", "end", "step", "row", "pair", "level", "near", "far"]
theorem sc_moves_in : FnScope N_moves_in ["one", "other", "passing"] (defScope s_moves_in) := ⟨rfl, rfl, rfl, by decide +kernel, rfl, by decide +kernel, by decide +kernel⟩
theorem o_moves_in (B : B0 K mg) : Ok P w K mg base "moves_in" ["one", "other", "passing"] 1 C_moves_in := by
  have nd := sc_moves_in.nd
  obtain ⟨fd, F⟩ := B.says.def_ 20 (d := mkD "moves_in" s_moves_in) rfl
  refine ⟨fd, fn_dl (C := C_moves_in) F sc_moves_in (by rintro ds Q ⟨_, _, _, rfl, _⟩; rfl) (fun cdv A outer s H E hr => (dss_cons (ds_tup2 rfl (pg_name (i := 3) nd rfl (Or.inl rfl)) (pg_name (i := 4) nd rfl (Or.inr rfl)) (DF.de (df_lst da_nil)) (DP.de (dp_callTy (cr_dictT (hu2 hr) rfl) cd_dict (by rfl) (f_dict B) (by decide +kernel) (da_cons (DF.dp (df_lc (own := [("pair", 10)]) (ws := [10]) rfl nd (di_seq (dp_var (pv 2 rfl (Or.inl rfl)))) (blkOk_by (N := N_moves_in) (sc := (defScope s_moves_in)) (by decide +kernel)) (by decide) (fun _ _ _ _ _ => (dg_name (pg_name (i := 10) nd rfl (Or.inl rfl)))) (fun _ _ _ _ _ => dts_nil) (fun _ _ _ _ _ => (dp_tup (da_cons (dp_var (pv 10 rfl (Or.inl rfl))) (da_cons dp_bl da_nil)))))) da_nil))))
    (dss_cons (ds_for PassesOwn.never rfl (di_enumT (by rfl) (f_enumerate B) (da_cons (dp_var (pv 0 rfl (Or.inl rfl))) da_nil)) (dg_tup rfl (dgs_cons (dg_name (pg_name (i := 5) nd rfl (Or.inr rfl))) (dgs_cons (dg_name (pg_name (i := 6) nd rfl (Or.inl rfl))) dgs_nil))) (dss_cons (ds_set (i := 7) nd rfl (Or.inl rfl) (DP.de (dp_ix (dp_var (pv 1 rfl (Or.inl rfl))) (dp_var (pv 5 rfl (Or.inr (Or.inl rfl)))) (fun _ _ => rfl))))
    (dss_one (ds_if (dt_cmp (op_neD hr.units) od_ne (dp_var (pv 6 rfl (Or.inl rfl))) (dp_var (pv 7 rfl (Or.inl rfl))) (nomark _)) (dss_cons (ds_set (i := 8) nd rfl (Or.inl rfl) (DP.de (dp_if (dt_cmp op_gt od_gt (dp_var (pv 7 rfl (Or.inl rfl))) (dp_var (pv 6 rfl (Or.inl rfl))) (nomark _)) dp_int (dp_un dp_int))))
    (dss_cons (ds_set (i := 9) nd rfl (Or.inl rfl) (DP.de (dp_op op_add3 od_add (dp_op op_add3 od_add (DF.dp (df_lst (da_cons (dp_var (pv 6 rfl (Or.inl rfl))) da_nil))) (DF.dp (df_lc (own := [("level", 11)]) (ws := [11]) rfl nd (di_range3 (by rfl) (f_range B) (da_cons (dp_op op_add3 od_add (dp_var (pv 6 rfl (Or.inl rfl))) (dp_var (pv 8 rfl (Or.inl rfl)))) (da_cons (dp_var (pv 7 rfl (Or.inl rfl))) (da_cons (dp_var (pv 8 rfl (Or.inl rfl))) da_nil)))) (blkOk_by (N := N_moves_in) (sc := (defScope s_moves_in)) (by decide +kernel)) (by decide) (fun _ _ _ _ _ => (dg_name (pg_name (i := 11) nd rfl (Or.inl rfl)))) (fun _ _ _ _ _ => (dts_one (dt_dNotIn (hu_of hr) (dp_tup (da_cons (dp_var (pv 5 rfl (Or.inr (Or.inl rfl)))) (da_cons (dp_var (pv 11 rfl (Or.inl rfl))) da_nil))) (dp_var (pv 4 rfl (Or.inr (Or.inl rfl))))))) (fun _ _ _ _ _ => (dp_var (pv 11 rfl (Or.inl rfl))))))) (DF.dp (df_lst (da_cons (dp_var (pv 7 rfl (Or.inl rfl))) da_nil))))))
    (dss_one (ds_extend (pv 3 rfl (Or.inl rfl)) (DF.dp (df_lc (own := [("near", 12), ("far", 13)]) (ws := [12, 13]) rfl nd (di_zip (by rfl) (f_zip B) (da_cons (dp_var (pv 9 rfl (Or.inl rfl))) (da_cons (dp_slice (dp_var (pv 9 rfl (Or.inl rfl))) (do_some dp_int) do_none) da_nil))) (blkOk_by (N := N_moves_in) (sc := (defScope s_moves_in)) (by decide +kernel)) (by decide) (fun _ _ _ _ _ => (dg_tup rfl (dgs_cons (dg_name (pg_name (i := 12) nd rfl (Or.inl rfl))) (dgs_cons (dg_name (pg_name (i := 13) nd rfl (Or.inl rfl))) dgs_nil)))) (fun _ _ _ _ _ => dts_nil) (fun _ _ _ _ _ => (dp_tup (da_cons (dp_var (pv 5 rfl (Or.inr (Or.inl rfl)))) (da_cons (dp_var (pv 12 rfl (Or.inl rfl))) (da_cons (dp_var (pv 13 rfl (Or.inl rfl))) da_nil))))))))))) dss_nil))))
    (dss_frzS 3 (dss_one (ds_ret (dp_callTy call_tuple_of cd_tup (by rfl) (f_tuple B) (by decide +kernel) (da_cons (dp_callB (cr_sortE (hu67 hr)) cd_sortE (by rfl) (f_sorted B) (by decide +kernel) (da_cons (dp_var (pv 3 rfl (Or.inl rfl))) da_nil)) da_nil)))))))) ?_, FunD.bindsN F (fun _ _ _ _ _ _ us hl => match us, hl with | [_, _, _], _ => rfl), F.kp, B.glo _ (B.says.fact 20 (f := .glo "moves_in") rfl)⟩
  rintro ds Q ⟨one, other, ps, rfl, hl, hn, hp, b1, b2, q⟩
  refine ⟨by show 0 ≤ 16777216; decide, ?_⟩
  refine lcM (ti := dSeq (dV 2)) ps eP (fun p => (kP p, PyData.bool true)) pairD (fun R hR => ⟨_, rfl, _, rfl, hR⟩) (by omega) (fun b hb R hR => ⟨_, rfl, by show 2 ≤ 16777216; decide, hR⟩) ?_
  refine ⟨_, rfl, ?_⟩
  have hget : ∀ j l : Int, (getL (putsL [] (ps.map fun p => (kP p, PyData.bool true))) (kP (j, l))).isSome = decide ((j, l) ∈ ps) := by
    intro j l
    by_cases h : (j, l) ∈ ps
    · rw [getL_puts_some kP (fun _ => PyData.bool true) (fun a b => kP_inj) ps [] (j, l) h, decide_eq_true h]; rfl
    · rw [getL_puts kP (fun _ => PyData.bool true) (kP (j, l)) ps [] fun a ha z => h (by rw [← kP_inj z]; exact ha), decide_eq_false h]; rfl
  generalize hL : putsL [] (ps.map fun p => (kP p, PyData.bool true)) = L at hget
  have bnd : ∀ (i : Nat) (x y : Int), one[i]? = some x → other[i]? = some y → (x - y).natAbs ≤ 1000 := by
    intro i x y hx hy
    have := b1 x (List.mem_of_getElem? hx)
    have := b2 y (List.mem_of_getElem? hy)
    omega
  have flen : ∀ i, i ≤ one.length → ((((List.range one.length).take i).map (jackMoves one other ps)).flatten).length ≤ 100200 := by
    intro i hi
    have h1 := flat_len (jackMoves one other ps) 1002 ((List.range one.length).take i) fun k _ => jack_len one other ps k (bnd k)
    have h2 : ((List.range one.length).take i).length ≤ 100 := by rw [List.length_take, List.length_range]; omega
    have h3 : ((List.range one.length).take i).length * 1002 ≤ 100 * 1002 := Nat.mul_le_mul_right _ h2
    omega
  refine forI (ti := dEnumT (dCons (dV 0) dNil)) ((List.range one.length).zip one) (fun p => .tuple [.int (p.1 : Nat), .int p.2]) (fun R hR => ⟨_, rfl, _, rfl, by rw [enumD_enc]; exact hR⟩)
    (fun i ρ => ∃ x5 x6 x7 x8 x9 x10 x11 x12 x13, ρ = [.sh (eS one), .sh (eS other), .sh (eTP ps), .ow (((((List.range one.length).take i).map (jackMoves one other ps)).flatten).map fun m => eM m), .sh (ekD L), x5, x6, x7, x8, x9, x10, x11, x12, x13]) ⟨_, _, _, _, _, _, _, _, _, rfl⟩ ?_ ?_
  · rintro i ⟨k, h⟩ ρ hk ⟨x5, x6, x7, x8, x9, x10, x11, x12, x13, rfl⟩
    rw [List.getElem?_zip_eq_some] at hk
    obtain ⟨hk1, hk2⟩ := hk
    have hi : i < one.length := (List.getElem?_eq_some_iff.mp hk2).1
    have ek : k = i := by
      have e : (List.range one.length)[i]? = some i := List.getElem?_range hi
      rw [e] at hk1
      exact (Option.some.inj hk1).symm
    subst ek
    obtain ⟨e, he⟩ : ∃ e, other[k]? = some e := ⟨_, List.getElem?_eq_getElem (by omega)⟩
    have ge : (other.map PyData.int)[(k : Int).toNat]? = some (.int e) := by rw [Int.toNat_natCast, List.getElem?_map, he]; rfl
    have hb := bnd k h e hk2 he
    have jm : jackMoves one other ps k = if h = e then [] else segs k (rowOf ps k h e) := by
      unfold jackMoves
      rw [hk2, he]
    refine ⟨_, rfl, rfl, ?_⟩
    refine ⟨_, rfl, _, rfl, by omega, _, ge, ?_⟩
    refine ⟨_, rfl, _, rfl, rfl, rfl, _, rfl, ?_⟩
    rw [eqv_int]
    by_cases hhe : h = e
    · rw [decide_eq_true hhe]
      refine ⟨.sh (.int (k : Nat)), .sh (.int h), .sh (.int e), x8, x9, x10, x11, x12, x13, ?_⟩
      rw [take_range_flat _ _ _ hi, jm, if_pos hhe, List.append_nil]
      rfl
    · rw [decide_eq_false hhe]
      have bh := b1 h (List.mem_of_getElem? hk2)
      have be := b2 e (List.mem_of_getElem? he)
      -- the row, and what is made of it
      have rest : ∀ (st : Int) (n : Nat) (ρ1 : List SV), RgC (h + st) e st n → rgC (h + st) st n = (levels h e).map .int →
          ρ1 = [.sh (eS one), .sh (eS other), .sh (eTP ps), .ow (((((List.range one.length).take k).map (jackMoves one other ps)).flatten).map fun m => eM m), .sh (ekD L), .sh (.int (k : Nat)), .sh (.int h), .sh (.int e), .sh (.int st), x9, x10, x11, x12, x13] →
          dThen (dSet 9 (dShE (dOp gAdd (dOp gAdd (dOfF fun ρ P => dCons (dV 6) dNil ρ fun xs => xs.length ≤ 16777216 ∧ P xs) (dOfF (dLc (dRg3 (dCons (dOp gAdd (dV 6) (dV 8)) (dCons (dV 7) (dCons (dV 8) dNil)))) (dgName 11) (dB (dOp (gDIn true) (dTup (dCons (dV 5) (dCons (dV 11) dNil))) (dV 4))) (dV 11) [11]))) (dOfF fun ρ P => dCons (dV 7) dNil ρ fun xs => xs.length ≤ 16777216 ∧ P xs))))
            (dExtd 3 (dOfF (dLc (dZip (dCons (dV 9) (dCons (dSl (dV 9) (dPart (dC (.int 1))) dNoPart) dNil))) (dgTup [12, 13]) dYes (dTup (dCons (dV 5) (dCons (dV 12) (dCons (dV 13) dNil)))) [12, 13])))
            { nx := fun ρ => ∃ x5 x6 x7 x8 x9 x10 x11 x12 x13, ρ = [.sh (eS one), .sh (eS other), .sh (eTP ps), .ow (((((List.range one.length).take (k + 1)).map (jackMoves one other ps)).flatten).map fun m => eM m), .sh (ekD L), x5, x6, x7, x8, x9, x10, x11, x12, x13], rt := fun _ _ => True } ρ1 := by
        rintro st n ρ1 hrg hlv rfl
        refine ⟨_, rfl, by show 1 ≤ 16777216; decide, ?_⟩
        refine lcF (ti := dRg3 (dCons (dOp gAdd (dV 6) (dV 8)) (dCons (dV 7) (dCons (dV 8) dNil)))) (levels h e) PyData.int (fun l => !decide (((k : Int), l) ∈ ps)) id PyData.int (fun R hR => ⟨_, rfl, _, rfl, _, rfl, _, rfl, _, _, _, n, rfl, hrg, by rw [hlv]; exact hR⟩) (by have := levels_len h e; omega) (fun l hl' R h1 R2 h2 => ?_) ?_
        · refine ⟨_, rfl, _, rfl, by show 2 ≤ 16777216; decide, _, rfl, kP ((k : Int), l), L, rfl, rfl, _, rfl, ?_⟩
          rw [hget]
          cases hd : decide (((k : Int), l) ∈ ps) with
          | true => exact h2 (by rw [hd]; rfl)
          | false => exact ⟨_, rfl, h1 (by rw [hd]; rfl)⟩
        · have fl := List.length_filter_le (fun l => !decide (((k : Int), l) ∈ ps)) (levels h e)
          have ll := levels_len h e
          refine ⟨by simp only [List.length_map, List.length_singleton]; omega, _, rfl, by show 1 ≤ 16777216; decide, by simp only [List.length_map, List.length_singleton, List.length_append]; omega, ?_⟩
          have er : ([PyData.int h] ++ ((((levels h e).filter fun l => !decide (((k : Int), l) ∈ ps)).map id).map PyData.int)) ++ [PyData.int e] = (rowOf ps k h e).map PyData.int := by
            unfold rowOf
            rw [List.map_append, List.map_append, List.map_id]
            rfl
          rw [er]
          refine ⟨_, rfl, ?_⟩
          refine lcM (ti := dZip (dCons (dV 9) (dCons (dSl (dV 9) (dPart (dC (.int 1))) dNoPart) dNil))) ((rowOf ps k h e).zip ((rowOf ps k h e).drop 1)) (fun p => .tuple [.int p.1, .int p.2]) (fun p => ((k : Int), p.1, p.2)) (fun m : Mv => eM m) (fun R hR => ⟨_, rfl, _, rfl, _, _, rfl, _, _, .inl ⟨rfl, rfl⟩, ?_⟩) (by
            have := rowOf_len ps k h e
            simp only [List.length_zip, List.length_drop]
            omega) (fun p hp' R hR => ?_) ?_
          · rw [show (some (1 : Int)) = some ((1 : Nat) : Int) from rfl, cut_from, ← List.map_drop, zip_map_zipD]
            exact hR
          · exact ⟨_, rfl, rfl, _, rfl, _, rfl, _, rfl, by show 3 ≤ 16777216; decide, hR⟩
          · refine ⟨_, rfl, ?_, .sh (.int (k : Nat)), .sh (.int h), .sh (.int e), .sh (.int st), .sh (.list ((rowOf ps k h e).map PyData.int)), x10, x11, x12, x13, ?_⟩
            · have f1 := flen k (by omega)
              have f2 := segs_len k (rowOf ps k h e)
              have f3 := rowOf_len ps k h e
              have f4 : (((rowOf ps k h e).zip ((rowOf ps k h e).drop 1)).map fun p => ((k : Int), p.1, p.2)).length = (segs k (rowOf ps k h e)).length := rfl
              simp only [List.length_map] at f1 f4 ⊢
              omega
            · rw [take_range_flat _ _ _ hi, jm, if_neg hhe, List.map_append]
              rfl
      refine ⟨_, rfl, _, rfl, _, rfl, ?_⟩
      by_cases hlt : h < e
      · rw [decide_eq_true hlt]
        exact rest 1 _ _ (rgc_up bh.1 bh.2 be.1 be.2) (rgC_up h e hlt) rfl
      · rw [decide_eq_false hlt]
        exact rest (-1) _ _ (rgc_down bh.1 bh.2 be.1 be.2) (rgC_down h e hlt) rfl
  · rintro ρ ⟨x5, x6, x7, x8, x9, x10, x11, x12, x13, rfl⟩
    have el : ((List.range one.length).zip one).length = one.length := by simp
    rw [el, List.take_of_length_le (by simp)]
    refine ⟨_, _, rfl, rfl, ?_⟩
    refine ⟨_, rfl, Mv, (fun m => eM m), mvRaw one other ps, rfl, alike_map alike_M _, sortable_map (fun a => ⟨_, _, rfl⟩) _, fun b _ => (pl_M b).sh, ?_⟩
    exact ⟨_, _, rfl, rfl, q⟩
def C_is_ahead : TF := fun ds P => ∃ a b : Mv, ds = [eM a, eM b] ∧ P (.bool (isAhead a b))
abbrev N_is_ahead : List Str := ["near", "far", "is_up"]
theorem sc_is_ahead : FnScope N_is_ahead ["near", "far"] (defScope s_is_ahead) := ⟨rfl, rfl, rfl, by decide +kernel, rfl, by decide +kernel, by decide +kernel⟩
theorem o_is_ahead (B : B0 K mg) : Ok P w K mg base "is_ahead" ["near", "far"] 1 C_is_ahead := by
  have nd := sc_is_ahead.nd
  obtain ⟨fd, F⟩ := B.says.def_ 21 (d := mkD "is_ahead" s_is_ahead) rfl
  refine ⟨fd, fn_dl (C := C_is_ahead) F sc_is_ahead (by rintro ds Q ⟨_, _, rfl, _⟩; rfl) (fun cdv A outer s H E hr => (dss_cons (ds_if (dt_cmp (op_eqD hr.units) od_eq (dp_ix (dp_var (pv 0 rfl (Or.inl rfl))) dp_int (fun _ _ => rfl)) (dp_ix (dp_var (pv 1 rfl (Or.inl rfl))) dp_int (fun _ _ => rfl)) (nomark _)) (dss_one (ds_ret (dp_cmp (op_eqD hr.units) od_eq (dp_ix (dp_var (pv 0 rfl (Or.inl rfl))) dp_int (fun _ _ => rfl)) (dp_ix (dp_var (pv 1 rfl (Or.inl rfl))) dp_int (fun _ _ => rfl)) (nomark _)))) dss_nil)
    (dss_cons (ds_set (i := 2) nd rfl (Or.inl rfl) (DP.de (dp_cmp op_lt od_lt (dp_ix (dp_var (pv 0 rfl (Or.inl rfl))) dp_int (fun _ _ => rfl)) (dp_ix (dp_var (pv 0 rfl (Or.inl rfl))) dp_int (fun _ _ => rfl)) (nomark _))))
    (dss_cons (ds_if (dt_cmp (op_neD hr.units) od_ne (dp_var (pv 2 rfl (Or.inl rfl))) (dp_cmp op_lt od_lt (dp_ix (dp_var (pv 1 rfl (Or.inl rfl))) dp_int (fun _ _ => rfl)) (dp_ix (dp_var (pv 1 rfl (Or.inl rfl))) dp_int (fun _ _ => rfl)) (nomark _)) (nomark _)) (dss_one (ds_ret dp_bl)) dss_nil)
    (dss_one (ds_ret (dp_if (dt_val (dp_var (pv 2 rfl (Or.inl rfl)))) (dp_cmp op_le od_le (dp_ix (dp_var (pv 0 rfl (Or.inl rfl))) dp_int (fun _ _ => rfl)) (dp_op op_sub od_sub (dp_ix (dp_var (pv 1 rfl (Or.inl rfl))) dp_int (fun _ _ => rfl)) dp_int) (nomark _)) (dp_cmp op_ge od_ge (dp_ix (dp_var (pv 0 rfl (Or.inl rfl))) dp_int (fun _ _ => rfl)) (dp_op op_add3 od_add (dp_ix (dp_var (pv 1 rfl (Or.inl rfl))) dp_int (fun _ _ => rfl)) dp_int) (nomark _))))))))) ?_, FunD.bindsN F (fun _ _ _ _ _ _ us hl => match us, hl with | [_, _], _ => rfl), F.kp, B.glo _ (B.says.fact 21 (f := .glo "is_ahead") rfl)⟩
  rintro ds Q ⟨⟨a1, a2, a3⟩, ⟨b1, b2, b3⟩, rfl, q⟩
  refine ⟨_, rfl, by decide, _, rfl, _, rfl, by decide, _, rfl, rfl, rfl, _, rfl, ?_⟩
  rw [eqv_int]
  by_cases h1 : a1 = b1
  · rw [decide_eq_true h1]
    refine ⟨_, rfl, by decide, _, rfl, _, rfl, by decide, _, rfl, rfl, rfl, ?_⟩
    rw [eqv_int]
    have : isAhead (a1, a2, a3) (b1, b2, b3) = decide (a3 = b2) := by unfold isAhead; rw [if_pos h1]
    rw [this] at q
    exact q
  · rw [decide_eq_false h1]
    refine ⟨_, rfl, by decide, _, rfl, _, rfl, by decide, _, rfl, ?_⟩
    refine ⟨_, rfl, _, rfl, by decide, _, rfl, _, rfl, by decide, _, rfl, rfl, rfl, _, rfl, ?_⟩
    have e0 : PyData.eqv (.bool (decide (a2 < a3))) (.bool (decide (b2 < b3))) = (decide (a2 < a3) == decide (b2 < b3)) := by simp [PyData.eqv]
    rw [e0]
    by_cases h2 : (decide (a2 < a3)) = (decide (b2 < b3))
    · have : isAhead (a1, a2, a3) (b1, b2, b3) = if a2 < a3 then decide (a2 ≤ b3 - 2) else decide (b3 + 2 ≤ a2) := by unfold isAhead; rw [if_neg h1]; simp [h2]
      rw [this] at q
      rw [h2]
      simp only [beq_self_eq_true, Bool.not_true]
      refine ⟨_, rfl, _, rfl, ?_⟩
      by_cases h3 : a2 < a3
      · rw [if_pos h3] at q
        rw [decide_eq_true h3]
        exact ⟨_, rfl, by decide, _, rfl, _, rfl, by decide, _, rfl, q⟩
      · rw [if_neg h3] at q
        rw [decide_eq_false h3]
        exact ⟨_, rfl, by decide, _, rfl, _, rfl, by decide, _, rfl, q⟩
    · have : isAhead (a1, a2, a3) (b1, b2, b3) = false := by unfold isAhead; rw [if_neg h1]; simp [h2]
      rw [this] at q
      have h4 : (decide (a2 < a3) == decide (b2 < b3)) = false := by simpa using h2
      rw [h4]
      exact q
end
end EvL

-- text D6
set_option Elab.async false
set_option linter.all false
set_option maxRecDepth 100000
set_option maxHeartbeats 4000000
namespace EvL
open PySem PySem.Spec PyProof.Rows L2 DL
section
variable {P : Program} {w : World} {K : PySem.W.Frag} {mg : Str → Option Value} {base : Heap}
def C_arrows_in : TF := fun ds P => ∃ (n : Int) (bs : List Pr) (ms : List Mv), ds = [eF n bs, eTM ms] ∧ VF n bs ∧ ms.length ≤ 100 ∧ (∀ m ∈ ms, 0 ≤ m.1 ∧ m.1 < n) ∧ P (eTA (srtA (arRaw n bs ms)))
abbrev N_arrows_in : List Str := ["frame", "moved", "rows", "found", "move", "jack", "later", "_", "own", "far"]
theorem sc_arrows_in : FnScope N_arrows_in ["frame", "moved"] (defScope s_arrows_in) := ⟨rfl, rfl, rfl, by decide +kernel, rfl, by decide +kernel, by decide +kernel⟩
theorem o_arrows_in (B : B0 K mg) : Ok P w K mg base "arrows_in" ["frame", "moved"] 3 C_arrows_in := by
  have nd := sc_arrows_in.nd
  obtain ⟨fd, F⟩ := B.says.def_ 22 (d := mkD "arrows_in" s_arrows_in) rfl
  refine ⟨fd, fn_dl (C := C_arrows_in) F sc_arrows_in (by rintro ds Q ⟨_, _, _, rfl, _⟩; rfl) (fun cdv A outer s H E hr => (dss_cons (ds_tup2 rfl (pg_name (i := 2) nd rfl (Or.inr rfl)) (pg_name (i := 3) nd rfl (Or.inl rfl)) (de_oo (own := [("_", 7)]) (ws := [7]) rfl nd (di_range1 (by rfl) (f_range B) (da_cons (dp_ix (dp_var (pv 0 rfl (Or.inl rfl))) dp_int (fun _ _ => rfl)) da_nil)) (blkOk_by (N := N_arrows_in) (sc := (defScope s_arrows_in)) (by decide +kernel)) (by decide) (fun _ _ _ _ _ => (dg_name (pg_name (i := 7) nd rfl (Or.inl rfl))))) (DF.de (df_lst da_nil)))
    (dss_cons (ds_for PassesOwn.never rfl (di_seq (dp_var (pv 1 rfl (Or.inl rfl)))) (dg_name (pg_name (i := 4) nd rfl (Or.inr rfl))) (dss_one (ds_appendO (pv 2 rfl (Or.inr (Or.inl rfl))) (dp_ix (dp_var (pv 4 rfl (Or.inr (Or.inl rfl)))) dp_int (fun _ _ => rfl)) (fun _ _ => rfl) (dp_var (pv 4 rfl (Or.inr (Or.inl rfl)))))))
    (dss_frzS 2 (dss_cons (ds_for PassesOwn.never rfl (di_range1 (by rfl) (f_range B) (da_cons (dp_ix (dp_var (pv 0 rfl (Or.inl rfl))) dp_int (fun _ _ => rfl)) da_nil)) (dg_name (pg_name (i := 5) nd rfl (Or.inl rfl))) (dss_cons (ds_frzA 6 (ds_setLc2 (i := 6) rfl nd rfl rfl (sw_true rfl rfl rfl (by decide +kernel)) (own := [("own", 8), ("move", 4)]) (ws := [8]) (ws1 := [4]) (vs1 := [4])  (di_seq (dp_op op_add3 od_add (dp_tup (da_cons (dp_var (pv 5 rfl (Or.inl rfl))) da_nil)) (dp_fn (o_near_in B) hr (by rfl) (da_cons (dp_var (pv 0 rfl (Or.inl rfl))) (da_cons (dp_var (pv 5 rfl (Or.inl rfl))) da_nil))))) (blkOk_by (N := N_arrows_in) (sc := (defScope s_arrows_in)) (by decide +kernel)) (by decide) (by decide) (by decide) (fun _ _ _ _ _ => (dg_name (pg_name (i := 8) nd rfl (Or.inl rfl)))) (fun _ _ _ _ _ => (di_seq (dp_ix (dp_var (pv 2 rfl (Or.inr (Or.inl rfl)))) (dp_var (pv 8 rfl (Or.inl rfl))) (fun _ _ => rfl)))) (fun _ _ _ _ _ => (dg_name (pg_name (i := 4) nd rfl (Or.inl rfl)))) (fun _ _ _ _ _ => (dp_var (pv 4 rfl (Or.inl rfl))))))
    (dss_one (ds_for PassesOwn.never rfl (di_seq (dp_ix (dp_var (pv 2 rfl (Or.inr (Or.inl rfl)))) (dp_var (pv 5 rfl (Or.inl rfl))) (fun _ _ => rfl))) (dg_name (pg_name (i := 4) nd rfl (Or.inr rfl))) (dss_one (ds_extend (pv 3 rfl (Or.inl rfl)) (DF.dp (df_lc (own := [("far", 9)]) (ws := [9]) rfl nd (di_seq (dp_var (pv 6 rfl (Or.inl rfl)))) (blkOk_by (N := N_arrows_in) (sc := (defScope s_arrows_in)) (by decide +kernel)) (by decide) (fun _ _ _ _ _ => (dg_name (pg_name (i := 9) nd rfl (Or.inl rfl)))) (fun _ _ _ _ _ => (dts_one (dt_val (dp_fn (o_is_ahead B) hr (by rfl) (da_cons (dp_var (pv 4 rfl (Or.inr (Or.inl rfl)))) (da_cons (dp_var (pv 9 rfl (Or.inl rfl))) da_nil)))))) (fun _ _ _ _ _ => (dp_tup (da_cons (dp_var (pv 4 rfl (Or.inr (Or.inl rfl)))) (da_cons (dp_var (pv 9 rfl (Or.inl rfl))) da_nil))))))))))))
    (dss_frzS 3 (dss_one (ds_ret (dp_callTy call_tuple_of cd_tup (by rfl) (f_tuple B) (by decide +kernel) (da_cons (dp_callB (cr_sortE (hu67 hr)) cd_sortE (by rfl) (f_sorted B) (by decide +kernel) (da_cons (dp_var (pv 3 rfl (Or.inl rfl))) da_nil)) da_nil)))))))))) ?_, FunD.bindsN F (fun _ _ _ _ _ _ us hl => match us, hl with | [_, _], _ => rfl), F.kp, B.glo _ (B.says.fact 22 (f := .glo "arrows_in") rfl)⟩
  rintro ds Q ⟨n, bs, ms, rfl, v, hm, hj, q⟩
  have h2 := v.n2
  have h8 := v.n8
  have jl : (jacks n).length = n.toNat := by simp [jacks]
  refine lcX_unit (ti := dRg1 (dCons (dOp gIx (dV 0) (dC (.int 0))) dNil)) (jacks n) PyData.int (fun R hR => ⟨_, rfl, by decide, _, rfl, _, rfl, by omega, by rw [rgD_jacks]; exact hR⟩) (by omega) (fun x _ R hR => hR) fun ys hys => ?_
  refine ⟨by show 0 ≤ 16777216; decide, ?_⟩
  refine forI (ti := dSeq (dV 1)) ms eM (fun R hR => ⟨_, rfl, _, rfl, hR⟩) (fun i ρ => ∃ x4 x5 x6 x7 x8 x9, ρ = [.sh (eF n bs), .sh (eTM ms), .oo ((jacks n).map fun j => (rowsOf (ms.take i) j).map fun m => eM m), .ow [], x4, x5, x6, x7, x8, x9]) ?_ ?_ ?_
  · refine ⟨.un, .un, .un, .un, .un, .un, ?_⟩
    have : List.replicate ys.length [] = (jacks n).map fun j => (rowsOf (ms.take 0) j).map fun m => eM m := by
      rw [hys]
      have e : ∀ j, (rowsOf (ms.take 0) j).map (fun m => eM m) = [] := fun j => rfl
      simp only [e]
      exact (List.map_const' ..).symm
    rw [← this]
    rfl
  · rintro i m ρ hi ⟨x4, x5, x6, x7, x8, x9, rfl⟩
    obtain ⟨j0, j1⟩ := hj m (List.mem_of_getElem? hi)
    have gj : (jacks n)[m.1.toNat]? = some m.1 := by
      unfold jacks
      rw [List.getElem?_map, List.getElem?_range (by omega)]
      show some ((m.1.toNat : Nat) : Int) = some m.1
      congr 1
      omega
    have rl := rowsOf_len (ms.take i) m.1
    have tl : (ms.take i).length ≤ 100 := by rw [List.length_take]; omega
    refine ⟨_, rfl, _, rfl, by decide, _, rfl, m.1, _, rfl, j0, by rw [List.getElem?_map, gj]; rfl, _, rfl, by rw [List.length_map]; omega, ?_⟩
    refine ⟨.sh (eM m), x5, x6, x7, x8, x9, ?_⟩
    have e : ((jacks n).map fun j => (rowsOf (ms.take i) j).map fun m => eM m).set m.1.toNat (((rowsOf (ms.take i) m.1).map fun m => eM m) ++ [eM m]) = (jacks n).map fun j => (rowsOf (ms.take (i + 1)) j).map fun m => eM m := by
      apply List.ext_getElem?
      intro k
      rw [List.getElem?_set, List.getElem?_map, List.getElem?_map, List.length_map]
      by_cases hk : m.1.toNat = k
      · subst hk
        rw [if_pos rfl, if_pos (by omega), gj]
        show some _ = some ((rowsOf (ms.take (i + 1)) m.1).map fun m => eM m)
        unfold rowsOf
        rw [List.take_add_one, hi, List.filter_append]
        simp
      · rw [if_neg hk]
        cases e : (jacks n)[k]? with
        | none => rfl
        | some j =>
          obtain ⟨ej, hk2⟩ := jacks_get e
          show some _ = some ((rowsOf (ms.take (i + 1)) j).map fun m => eM m)
          unfold rowsOf
          rw [List.take_add_one, hi, List.filter_append]
          have : ¬ m.1 = j := by omega
          simp [this, rowsOf]
    rw [← e]
    rfl
  rintro ρ ⟨x4, x5, x6, x7, x8, x9, rfl⟩
  rw [List.take_length]
  refine ⟨_, _, rfl, rfl, ?_⟩
  -- the rows as data
  have getR : ∀ j, j ∈ jacks n → (((jacks n).map fun j => (rowsOf ms j).map fun m => eM m).map PyData.list)[j.toNat]? = some (.list ((rowsOf ms j).map fun m => eM m)) := by
    intro j hjm
    obtain ⟨j0, j1⟩ := mem_jacks.mp hjm
    have gj : (jacks n)[j.toNat]? = some j := by
      unfold jacks
      rw [List.getElem?_map, List.getElem?_range (by omega)]
      show some ((j.toNat : Nat) : Int) = some j
      congr 1
      omega
    rw [List.getElem?_map, List.getElem?_map, gj]
    rfl
  generalize hR : ((jacks n).map fun j => (rowsOf ms j).map fun m => eM m).map PyData.list = RW at getR
  refine forI (ti := dRg1 (dCons (dOp gIx (dV 0) (dC (.int 0))) dNil)) (jacks n) PyData.int (fun R hR => ⟨_, rfl, by decide, _, rfl, _, rfl, by omega, by rw [rgD_jacks]; exact hR⟩)
    (fun i ρ => ∃ x4 x5 x6 x7 x8 x9, ρ = [.sh (eF n bs), .sh (eTM ms), .sh (.list RW), .ow (((((jacks n).take i).map (arJ n bs ms)).flatten).map fun a => eA a), x4, x5, x6, x7, x8, x9]) ⟨x4, x5, x6, x7, x8, x9, by subst hR; rfl⟩ ?_ ?_
  · rintro i j ρ hi ⟨x4, x5, x6, x7, x8, x9, rfl⟩
    have hjm := List.mem_of_getElem? hi
    obtain ⟨j0, j1⟩ := mem_jacks.mp hjm
    refine ⟨_, rfl, by show 1 ≤ 16777216; decide, ?_⟩
    refine ⟨_, rfl, _, rfl, n, bs, j, rfl, v.len, fun ks k1 k2 => ?_⟩
    rw [nbr_of v k1 k2]
    have hin : ∀ o ∈ [j] ++ nbr n bs j, o ∈ jacks n := by
      intro o ho
      rcases List.mem_append.mp ho with ho | ho
      · rw [List.mem_singleton.mp ho]; exact hjm
      · exact (List.mem_filter.mp ho).1
    have nl := nbr_len n bs j
    refine ⟨by rw [List.length_map]; show 1 + _ ≤ _; omega, _, rfl, ?_⟩
    refine ⟨fun i acc => acc = ((((([j] ++ nbr n bs j).take i).map (rowsOf ms)).flatten).map fun m => eM m), by simp, fun a o acc ha hacc => ?_, fun acc hacc => ?_⟩
    · obtain ⟨o', ho', rfl⟩ : ∃ o', ([j] ++ nbr n bs j)[a]? = some o' ∧ o = .int o' := by
        have ha : (([j] ++ nbr n bs j).map PyData.int)[a]? = some o := ha
        rw [List.getElem?_map] at ha
        cases e : ([j] ++ nbr n bs j)[a]? with
        | none => rw [e] at ha; cases ha
        | some o' => rw [e] at ha; exact ⟨o', rfl, (Option.some.inj ha).symm⟩
      have hom := hin o' (List.mem_of_getElem? ho')
      refine ⟨_, rfl, _, rfl, (mem_jacks.mp hom).1, _, getR o' hom, _, rfl, ?_⟩
      have la : ∀ b, (acc ++ (((rowsOf ms o').take b).map fun m => eM m)).length < 16777216 := by
        intro b
        rw [hacc]
        have h1 := flat_len (rowsOf ms) 100 (([j] ++ nbr n bs j).take a) fun k _ => Nat.le_trans (rowsOf_len ms k) hm
        have h3 : (([j] ++ nbr n bs j).take a).length ≤ 9 := by
          rw [List.length_take, List.length_append, List.length_singleton]
          omega
        have h4 : (([j] ++ nbr n bs j).take a).length * 100 ≤ 9 * 100 := Nat.mul_le_mul_right _ h3
        have h5 : ((rowsOf ms o').take b).length ≤ 100 := by
          rw [List.length_take]
          have := rowsOf_len ms o'
          omega
        rw [List.length_append, List.length_map, List.length_map]
        omega
      refine ⟨fun b acc1 => acc1 = acc ++ (((rowsOf ms o').take b).map fun m => eM m), by simp, fun b y acc1 hy hacc1 => ?_, fun acc1 hacc1 => ?_⟩
      · obtain ⟨m, hm', rfl⟩ : ∃ m, (rowsOf ms o')[b]? = some m ∧ y = eM m := by
          rw [List.getElem?_map] at hy
          cases e : (rowsOf ms o')[b]? with
          | none => rw [e] at hy; cases hy
          | some m => rw [e] at hy; exact ⟨m, rfl, (Option.some.inj hy).symm⟩
        refine ⟨by rw [hacc1]; exact la b, _, rfl, ?_⟩
        show acc1 ++ [eM m] = acc ++ ((rowsOf ms o').take (b + 1)).map fun m => eM m
        rw [hacc1, take_succ_map _ hm', List.append_assoc]
      · show acc1 = ((((([j] ++ nbr n bs j).take (a + 1)).map (rowsOf ms)).flatten).map fun m => eM m)
        rw [hacc1, List.length_map, List.take_length, flat_take _ ho', hacc, List.map_append]
    · have el : ([PyData.int j] ++ (nbr n bs j).map PyData.int).length = ([j] ++ nbr n bs j).length := by simp
      have hacc : acc = (((([j] ++ nbr n bs j).take ([PyData.int j] ++ (nbr n bs j).map PyData.int).length).map (rowsOf ms)).flatten).map fun m => eM m := hacc
      rw [el, List.take_length] at hacc
      subst hacc
      refine ⟨_, _, rfl, rfl, ?_⟩
      refine forI (ti := dSeq (dOp gIx (dV 2) (dV 5))) (rowsOf ms j) eM (fun R hR => ⟨_, rfl, _, rfl, j0, _, getR j hjm, _, rfl, hR⟩)
        (fun b ρ => ∃ x4 x8 x9, ρ = [.sh (eF n bs), .sh (eTM ms), .sh (.list RW), .ow ((((((jacks n).take i).map (arJ n bs ms)).flatten) ++ (((rowsOf ms j).take b).map (arM (laterOf n bs ms j))).flatten).map fun a => eA a), x4, .sh (.int j), .sh (.list ((laterOf n bs ms j).map fun m => eM m)), x7, x8, x9]) ⟨x4, x8, x9, by simp [laterOf]⟩ ?_ ?_
      · rintro b m ρ hb ⟨x4, x8, x9, rfl⟩
        refine ⟨_, rfl, ?_⟩
        have ll := later_len (bs := bs) (j := j) h8 hm
        refine lcF (ti := dSeq (dV 6)) (laterOf n bs ms j) eM (isAhead m) (fun f => (m, f)) (fun a => eA a) (fun R hR => ⟨_, rfl, _, rfl, hR⟩) (by omega) (fun f hf R h1 R2 h2 => ?_) ?_
        · refine ⟨_, rfl, _, rfl, m, f, rfl, _, rfl, ?_⟩
          cases hd : isAhead m f with
          | true => exact ⟨_, rfl, _, rfl, by show 2 ≤ 16777216; decide, h1 hd⟩
          | false => exact h2 hd
        · refine ⟨_, rfl, ?_, .sh (eM m), x8, x9, ?_⟩
          · have a1 := arR_len (bs := bs) h8 hm i
            have a2 := arJ_len (bs := bs) (j := j) h8 hm b
            have a3 := List.length_filter_le (isAhead m) (laterOf n bs ms j)
            simp only [List.length_map, List.length_append] at a1 a2 ⊢
            omega
          · rw [flat_take _ hb, ← List.append_assoc]
            simp only [List.map_append]
            rfl
      · rintro ρ ⟨x4, x8, x9, rfl⟩
        rw [List.take_length]
        refine ⟨x4, .sh (.int j), .sh (.list ((laterOf n bs ms j).map fun m => eM m)), x7, x8, x9, ?_⟩
        rw [flat_take _ hi]
        rfl
  · rintro ρ ⟨x4, x5, x6, x7, x8, x9, rfl⟩
    rw [List.take_length]
    refine ⟨_, _, rfl, rfl, ?_⟩
    refine ⟨_, rfl, Mv × Mv, (fun a => eA a), arRaw n bs ms, rfl, alike_map alike_A _, sortable_map (fun a => ⟨_, _, rfl⟩) _, fun b _ => (pl_A b).sh, ?_⟩
    exact ⟨_, _, rfl, rfl, q⟩
end
end EvL

-- text V3
set_option Elab.async false
set_option linter.all false
set_option maxRecDepth 100000
set_option maxHeartbeats 4000000
/-! How sorting orders tuples of ints, moves, arrows. -/
namespace EvL
open PySem PySem.Spec PyProof.Rows L2 DL
open PySem.W (dataLt alike alikeAll)
theorem dle_lt {β : Type} (enc : β → PyData) (a b : β) : dLe enc a b = !PySem.W.dataLt (enc b) (enc a) := rfl
theorem dle_lt' {β : Type} {enc : β → PyData} {a b : β} : dLe enc a b = true ↔ PySem.W.dataLt (enc b) (enc a) = false := by
  rw [dle_lt]; simp
theorem dle_lf {β : Type} {enc : β → PyData} {a b : β} : dLe enc a b = false ↔ PySem.W.dataLt (enc b) (enc a) = true := by
  rw [dle_lt]; simp
theorem lt_nil : dataLt (.tuple []) (.tuple []) = false := lex_irrefl _
theorem lt_yes {x y : PyData} {xs ys : List PyData} (h : alike x y = true) (e : PyData.eqv x y = true) : dataLt (.tuple (x :: xs)) (.tuple (y :: ys)) = dataLt (.tuple xs) (.tuple ys) := by
  rw [PySem.W.dataLt_tuple, PySem.W.dataLt_tuple, PySem.W.dataLt_all_yes h e]
theorem lt_no {x y : PyData} {xs ys : List PyData} (h : alike x y = true) (e : PyData.eqv x y = false) : dataLt (.tuple (x :: xs)) (.tuple (y :: ys)) = dataLt x y := by
  rw [PySem.W.dataLt_tuple, PySem.W.dataLt_all_no h e]
theorem lt_tupI : ∀ {a b : List Int}, a.length = b.length → dataLt (tupI a) (tupI b) = HT.lexLt a b
  | [], [], _ => lt_nil
  | x :: a, y :: b, h => by
    have ih := lt_tupI (a := a) (b := b) (by simpa using h)
    show dataLt (.tuple (.int x :: a.map .int)) (.tuple (.int y :: b.map .int)) = _
    have al : alike (.int x) (.int y) = true := by simp [alike]
    rw [HT.lexLt_cons]
    by_cases e : x = y
    · rw [if_pos e, lt_yes al (by rw [eqv_int]; exact decide_eq_true e)]
      exact ih
    · rw [if_neg e, lt_no al (by rw [eqv_int]; exact decide_eq_false e), PySem.W.dataLt_int]
  | [], _ :: _, h => by simp at h
  | _ :: _, [], h => by simp at h
theorem lex_anti : ∀ {a b : List Int}, a.length = b.length → HT.lexLt a b = false → HT.lexLt b a = false → a = b
  | [], [], _, _, _ => rfl
  | x :: a, y :: b, h, h1, h2 => by
    rw [HT.lexLt_cons] at h1 h2
    by_cases e : x = y
    · rw [if_pos e] at h1
      rw [if_pos e.symm] at h2
      rw [e, lex_anti (by simpa using h) h1 h2]
    · rw [if_neg e] at h1
      rw [if_neg (Ne.symm e)] at h2
      have := of_decide_eq_false h1
      have := of_decide_eq_false h2
      omega
  | [], _ :: _, h, _, _ => by simp at h
  | _ :: _, [], h, _, _ => by simp at h
theorem lex_asym : ∀ {a b : List Int}, HT.lexLt a b = true → HT.lexLt b a = false
  | [], [], _ => rfl
  | [], _ :: _, _ => rfl
  | _ :: _, [], h => by cases h
  | x :: a, y :: b, h => by
    rw [HT.lexLt_cons] at h ⊢
    by_cases e : x = y
    · rw [if_pos e] at h
      rw [if_pos e.symm]
      exact lex_asym h
    · rw [if_neg e] at h
      rw [if_neg (Ne.symm e)]
      have := of_decide_eq_true h
      exact decide_eq_false (by omega)
/-- the order on moves -/
def mLt (a b : Mv) : Prop := HT.lexLt (kM a) (kM b) = true
def aLt (a b : Mv × Mv) : Prop := dataLt (eA a) (eA b) = true
theorem dle_M (a b : Mv) : dLe (fun m => eM m) a b = !HT.lexLt (kM b) (kM a) := by
  show (!dataLt (eM b) (eM a)) = _
  rw [← lt_tupI (a := kM b) (b := kM a) rfl]
  rfl
/-- any sorting by data -/
theorem dle_trans {β : Type} {enc : β → PyData} (a b c : β) (h1 : dLe enc a b = true) (h2 : dLe enc b c = true) : dLe enc a c = true := by
  have h1' : dataLt (enc b) (enc a) = false := dle_lt'.mp h1
  have h2' : dataLt (enc c) (enc b) = false := dle_lt'.mp h2
  have : dataLt (enc c) (enc a) = false := by
    cases e : dataLt (enc c) (enc a) with
    | false => rfl
    | true =>
      rcases lex_negTrans _ (PySem.W.keyToks (enc b)) _ e with q | q
      · exact absurd (h2'.symm.trans q) (by decide)
      · exact absurd (h1'.symm.trans q) (by decide)
  exact dle_lt'.mpr this
theorem dle_total {β : Type} {enc : β → PyData} (a b : β) : (dLe enc a b || dLe enc b a) = true := by
  cases h : dLe enc a b with
  | true => rfl
  | false =>
    have h1 : dataLt (enc b) (enc a) = true := dle_lf.mp h
    have : dataLt (enc a) (enc b) = false := by
      cases e : dataLt (enc a) (enc b) with
      | false => rfl
      | true =>
        have := lex_trans _ _ _ h1 e
        rw [lex_irrefl] at this; cases this
    have : dLe enc b a = true := dle_lt'.mpr this
    rw [this]; rfl
theorem sort_perm {β : Type} (enc : β → PyData) (l : List β) : (l.mergeSort (dLe enc)).Perm l := List.mergeSort_perm l _
theorem sort_pw {β : Type} (enc : β → PyData) (l : List β) : (l.mergeSort (dLe enc)).Pairwise fun a b => dLe enc a b = true := List.pairwise_mergeSort (fun a b c => dle_trans a b c) (fun a b => dle_total a b) l
/-- ascending lists of the same items are the same -/
theorem perm_sorted {β : Type} {r : β → β → Prop} (an : ∀ a b, r a b → r b a → a = b) : ∀ {xs ys : List β}, xs.Perm ys → xs.Pairwise r → ys.Pairwise r → xs = ys
  | [], ys, p, _, _ => by
    have := p.symm.eq_nil
    rw [this]
  | x :: xs, [], p, _, _ => by
    have := p.eq_nil
    cases this
  | x :: xs, y :: ys, p, h1, h2 => by
    have a1 := List.pairwise_cons.mp h1
    have a2 := List.pairwise_cons.mp h2
    have e : x = y := by
      rcases List.mem_cons.mp (p.mem_iff.mp List.mem_cons_self) with e | e
      · exact e
      · rcases List.mem_cons.mp (p.mem_iff.mpr (List.mem_cons_self (a := y))) with e2 | e2
        · exact e2.symm
        · exact an _ _ (a1.1 y e2) (a2.1 x e)
    subst e
    rw [perm_sorted an (List.perm_cons x |>.mp p) a1.2 a2.2]
theorem dle_M_anti {a b : Mv} (h1 : dLe (fun m => eM m) a b = true) (h2 : dLe (fun m => eM m) b a = true) : a = b := by
  rw [dle_M] at h1 h2
  have h1' : HT.lexLt (kM b) (kM a) = false := by simpa using h1
  have h2' : HT.lexLt (kM a) (kM b) = false := by simpa using h2
  exact kM_inj (lex_anti rfl h2' h1')
theorem srt_eq {xs ys : List Mv} (p : xs.Perm ys) : srt xs = srt ys :=
  perm_sorted (r := fun a b => dLe (fun m => eM m) a b = true) (fun _ _ => dle_M_anti) ((sort_perm _ xs).trans (p.trans (sort_perm _ ys).symm)) (sort_pw _ xs) (sort_pw _ ys)
theorem srt_self {xs : List Mv} (h : xs.Pairwise fun a b => dLe (fun m => eM m) a b = true) : srt xs = xs :=
  perm_sorted (r := fun a b => dLe (fun m => eM m) a b = true) (fun _ _ => dle_M_anti) (sort_perm _ xs) (sort_pw _ xs) h
theorem eA_inj {a b : Mv × Mv} : eA a = eA b ↔ a = b := by
  constructor
  · intro h
    have h' : [eM a.1, eM a.2] = [eM b.1, eM b.2] := by injection h
    injection h' with h1 h2
    injection h2 with h2 _
    exact Prod.ext (eM_inj.mp h1) (eM_inj.mp h2)
  · rintro rfl; rfl
theorem ltM_none {a b : Mv} (h1 : dataLt (eM a) (eM b) = false) (h2 : dataLt (eM b) (eM a) = false) : a = b := by
  have q1 := lt_tupI (a := kM a) (b := kM b) rfl
  have q2 := lt_tupI (a := kM b) (b := kM a) rfl
  exact kM_inj (lex_anti rfl (q1.symm.trans h1) (q2.symm.trans h2))
theorem dle_A_anti {a b : Mv × Mv} (h1 : dLe (fun m => eA m) a b = true) (h2 : dLe (fun m => eA m) b a = true) : a = b := by
  have h1' : dataLt (eA b) (eA a) = false := dle_lt'.mp h1
  have h2' : dataLt (eA a) (eA b) = false := dle_lt'.mp h2
  by_cases e : a.1 = b.1
  · rw [lt_yes (alike_M _ _) (by rw [eqv_M]; exact decide_eq_true e.symm)] at h1'
    rw [lt_yes (alike_M _ _) (by rw [eqv_M]; exact decide_eq_true e)] at h2'
    have key : ∀ x y : Mv, dataLt (.tuple [eM x]) (.tuple [eM y]) = dataLt (eM x) (eM y) := by
      intro x y
      by_cases q : x = y
      · subst q
        rw [show dataLt (.tuple [eM x]) (.tuple [eM x]) = false from lex_irrefl _, show dataLt (eM x) (eM x) = false from lex_irrefl _]
      · rw [lt_no (alike_M _ _) (by rw [eqv_M]; exact decide_eq_false q)]
    rw [key] at h1' h2'
    exact Prod.ext e (ltM_none h2' h1')
  · rw [lt_no (alike_M _ _) (by rw [eqv_M]; exact decide_eq_false (Ne.symm e))] at h1'
    rw [lt_no (alike_M _ _) (by rw [eqv_M]; exact decide_eq_false e)] at h2'
    exact absurd (ltM_none h2' h1') e
theorem srtA_eq {xs ys : List (Mv × Mv)} (p : xs.Perm ys) : srtA xs = srtA ys :=
  perm_sorted (r := fun a b => dLe (fun m => eA m) a b = true) (fun _ _ => dle_A_anti) ((sort_perm _ xs).trans (p.trans (sort_perm _ ys).symm)) (sort_pw _ xs) (sort_pw _ ys)
/-- keys, sorted -/
theorem srt_keys (ms : List Mv) : (ms.map kM).mergeSort (dLe tupI) = (srt ms).map kM := by
  refine perm_sorted (r := fun a b : List Int => dLe tupI a b = true ∧ a.length = 3 ∧ b.length = 3) (fun a b h1 h2 => ?_) ?_ ?_ ?_
  · have h1' : dataLt (tupI b) (tupI a) = false := dle_lt'.mp h1.1
    have h2' : dataLt (tupI a) (tupI b) = false := dle_lt'.mp h2.1
    rw [lt_tupI (by rw [h1.2.1, h1.2.2])] at h1' h2'
    exact lex_anti (by rw [h1.2.1, h1.2.2]) h2' h1'
  · exact (sort_perm _ _).trans ((sort_perm _ ms).symm.map kM)
  · have h := sort_pw tupI (ms.map kM)
    refine List.Pairwise.imp_of_mem (fun {a b} ha hb h => ⟨h, ?_, ?_⟩) h
    · obtain ⟨m, _, rfl⟩ := List.mem_map.mp ((sort_perm _ _).mem_iff.mp ha)
      rfl
    · obtain ⟨m, _, rfl⟩ := List.mem_map.mp ((sort_perm _ _).mem_iff.mp hb)
      rfl
  · rw [List.pairwise_map]
    exact List.Pairwise.imp (fun h => ⟨h, rfl, rfl⟩) (sort_pw (fun m => eM m) ms)
theorem perm_of_sub {α : Type} [DecidableEq α] : ∀ {ms os : List α}, ms.Nodup → (∀ m ∈ ms, m ∈ os) → os.length ≤ ms.length → os.Perm ms
  | [], os, _, _, h => by
    have : os = [] := List.eq_nil_of_length_eq_zero (by simpa using h)
    rw [this]
  | m :: ms, os, nd, hs, hl => by
    have nd' := List.nodup_cons.mp nd
    have p := List.perm_cons_erase (hs m List.mem_cons_self)
    have := perm_of_sub (ms := ms) (os := os.erase m) nd'.2 (fun x hx => by
      have : x ≠ m := fun z => nd'.1 (by rw [← z]; exact hx)
      exact (List.mem_erase_of_ne this).mpr (hs x (List.mem_cons_of_mem _ hx))) (by
      have := p.length_eq
      simp only [List.length_cons] at this hl
      omega)
    exact p.trans (this.cons m)
end EvL

-- text V4
set_option Elab.async false
set_option linter.all false
set_option maxRecDepth 100000
set_option maxHeartbeats 4000000
/-! Which moves there are. -/
namespace EvL
open PySem PySem.Spec PyProof.Rows L2 DL
theorem nodup_map {α β : Type} {f : α → β} (hf : ∀ a b, f a = f b → a = b) {l : List α} (h : l.Nodup) : (l.map f).Nodup := by
  unfold List.Nodup at h ⊢
  rw [List.pairwise_map]
  exact List.Pairwise.imp (fun h e => h (hf _ _ e)) h
/-- few and small enough -/
structure VN (one other : List Int) (ps : List Pr) : Prop where
  len : ps.length < 500
  lo : ∀ x ∈ one, -400 ≤ x ∧ x ≤ 400
  ho : ∀ x ∈ other, -400 ≤ x ∧ x ≤ 400
  few : (mvRaw one other ps).length ≤ 100
  near : ((one.zip other).map fun p => (p.1 - p.2).natAbs).sum ≤ 480
theorem mem_flat_range {α : Type} {f : Nat → List α} {n : Nat} {x : α} : x ∈ ((List.range n).map f).flatten ↔ ∃ i, i < n ∧ x ∈ f i := by
  simp only [List.mem_flatten, List.mem_map, List.mem_range]
  constructor
  · rintro ⟨l, ⟨i, hi, rfl⟩, hx⟩
    exact ⟨i, hi, hx⟩
  · rintro ⟨i, hi, hx⟩
    exact ⟨_, ⟨i, hi, rfl⟩, hx⟩
theorem mem_mv {one other : List Int} {ps : List Pr} {m : Mv} : m ∈ mvRaw one other ps ↔ ∃ (i : Nat) (x y : Int), one[i]? = some x ∧ other[i]? = some y ∧ x ≠ y ∧ m ∈ segs i (rowOf ps i x y) := by
  unfold mvRaw
  rw [mem_flat_range]
  constructor
  · rintro ⟨i, hi, h⟩
    unfold jackMoves at h
    cases h1 : one[i]? with
    | none => rw [h1] at h; cases h
    | some x =>
      cases h2 : other[i]? with
      | none => rw [h1, h2] at h; cases h
      | some y =>
        rw [h1, h2] at h
        have h : m ∈ if x = y then [] else segs i (rowOf ps i x y) := h
        split at h
        · cases h
        · next hne => exact ⟨i, x, y, h1, h2, hne, h⟩
  · rintro ⟨i, x, y, h1, h2, hne, h⟩
    refine ⟨i, (List.getElem?_eq_some_iff.mp h1).1, ?_⟩
    unfold jackMoves
    rw [h1, h2]
    show m ∈ if x = y then [] else segs i (rowOf ps i x y)
    rw [if_neg hne]
    exact h
theorem segs_jack {j : Int} {row : List Int} {m : Mv} (h : m ∈ segs j row) : m.1 = j := by
  unfold segs at h
  obtain ⟨p, _, rfl⟩ := List.mem_map.mp h
  rfl
theorem zip_next {α : Type} {r : α → α → Prop} (tr : ∀ a b c, r a b → r b c → r a c) (ir : ∀ a, ¬ r a a) : ∀ {L : List α}, L.Pairwise r → ∀ a b, (a, b) ∈ L.zip (L.drop 1) ↔ a ∈ L ∧ b ∈ L ∧ r a b ∧ ∀ c ∈ L, ¬ (r a c ∧ r c b)
  | [], _, a, b => by simp
  | [x], _, a, b => by
    constructor
    · intro h; simp at h
    · rintro ⟨h1, h2, h3, _⟩
      rw [List.mem_singleton.mp h1, List.mem_singleton.mp h2] at h3
      exact absurd h3 (ir _)
  | x :: y :: L, h, a, b => by
    have p := List.pairwise_cons.mp h
    have p2 := List.pairwise_cons.mp p.2
    have ih := zip_next tr ir p.2 a b
    have e : (x :: y :: L).zip ((x :: y :: L).drop 1) = (x, y) :: (y :: L).zip ((y :: L).drop 1) := rfl
    rw [e, List.mem_cons, ih]
    constructor
    · rintro (q | ⟨h1, h2, h3, h4⟩)
      · cases q
        refine ⟨List.mem_cons_self, List.mem_cons_of_mem _ List.mem_cons_self, p.1 y List.mem_cons_self, fun c hc hh => ?_⟩
        rcases List.mem_cons.mp hc with q | hc
        · subst q; exact ir _ hh.1
        · rcases List.mem_cons.mp hc with q | hc
          · subst q; exact ir _ hh.2
          · exact ir _ (tr _ _ _ hh.2 (p2.1 c hc))
      · refine ⟨List.mem_cons_of_mem _ h1, List.mem_cons_of_mem _ h2, h3, fun c hc hh => ?_⟩
        rcases List.mem_cons.mp hc with q | hc
        · subst q; exact ir _ (tr _ _ _ hh.1 (p.1 a h1))
        · exact h4 c hc hh
    · rintro ⟨h1, h2, h3, h4⟩
      rcases List.mem_cons.mp h1 with q | h1
      · subst q
        rcases List.mem_cons.mp h2 with q | h2
        · subst q; exact absurd h3 (ir _)
        · rcases List.mem_cons.mp h2 with q | h2
          · subst q; exact .inl rfl
          · exact absurd ⟨p.1 y List.mem_cons_self, p2.1 b h2⟩ (h4 y (List.mem_cons_of_mem _ List.mem_cons_self))
      · rcases List.mem_cons.mp h2 with q | h2
        · rw [q] at h3; exact absurd (tr _ _ _ h3 (p.1 a h1)) (ir _)
        · exact .inr ⟨h1, h2, h3, fun c hc => h4 c (List.mem_cons_of_mem _ hc)⟩
theorem mem_levels {h e c : Int} (hne : h ≠ e) : c ∈ levels h e ↔ min h e < c ∧ c < max h e := by
  unfold levels
  split
  · simp only [List.mem_map, List.mem_range]
    constructor
    · rintro ⟨i, hi, rfl⟩
      omega
    · rintro ⟨h1, h2⟩
      exact ⟨(c - h - 1).toNat, by omega, by omega⟩
  · simp only [List.mem_map, List.mem_range]
    constructor
    · rintro ⟨i, hi, rfl⟩
      omega
    · rintro ⟨h1, h2⟩
      exact ⟨(h - c - 1).toNat, by omega, by omega⟩
theorem mem_row {ps : List Pr} {j x y c : Int} (hx : (j, x) ∉ ps) (hy : (j, y) ∉ ps) (hne : x ≠ y) : c ∈ rowOf ps j x y ↔ min x y ≤ c ∧ c ≤ max x y ∧ (j, c) ∉ ps := by
  unfold rowOf
  simp only [List.mem_append, List.mem_singleton, List.mem_filter, mem_levels hne, Bool.not_eq_true', decide_eq_false_iff_not]
  constructor
  · rintro ((rfl | ⟨⟨h1, h2⟩, h3⟩) | rfl)
    · exact ⟨by omega, by omega, hx⟩
    · exact ⟨by omega, by omega, h3⟩
    · exact ⟨by omega, by omega, hy⟩
  · rintro ⟨h1, h2, h3⟩
    by_cases e1 : c = x
    · exact .inl (.inl e1)
    · by_cases e2 : c = y
      · exact .inr e2
      · exact .inl (.inr ⟨⟨by omega, by omega⟩, h3⟩)
theorem row_up {ps : List Pr} {j x y : Int} (h : x < y) : (rowOf ps j x y).Pairwise (· < ·) := by
  unfold rowOf
  have hl : (levels x y).Pairwise (· < ·) := by
    unfold levels
    rw [if_pos h, List.pairwise_map]
    exact List.Pairwise.imp (fun h => by omega) List.pairwise_lt_range
  rw [List.append_assoc, List.pairwise_append]
  refine ⟨List.pairwise_singleton _ _, ?_, ?_⟩
  · rw [List.pairwise_append]
    refine ⟨hl.filter _, List.pairwise_singleton _ _, fun a ha b hb => ?_⟩
    have := (mem_levels (show x ≠ y by omega)).mp (List.mem_filter.mp ha).1
    rw [List.mem_singleton.mp hb]
    omega
  · intro a ha b hb
    rw [List.mem_singleton.mp ha]
    rcases List.mem_append.mp hb with hb | hb
    · have := (mem_levels (show x ≠ y by omega)).mp (List.mem_filter.mp hb).1
      omega
    · rw [List.mem_singleton.mp hb]; exact h
theorem row_down {ps : List Pr} {j x y : Int} (h : y < x) : (rowOf ps j x y).Pairwise (fun a b => b < a) := by
  unfold rowOf
  have hl : (levels x y).Pairwise (fun a b => b < a) := by
    unfold levels
    rw [if_neg (by omega), List.pairwise_map]
    exact List.Pairwise.imp (fun h => by omega) List.pairwise_lt_range
  rw [List.append_assoc, List.pairwise_append]
  refine ⟨List.pairwise_singleton _ _, ?_, ?_⟩
  · rw [List.pairwise_append]
    refine ⟨hl.filter _, List.pairwise_singleton _ _, fun a ha b hb => ?_⟩
    have := (mem_levels (show x ≠ y by omega)).mp (List.mem_filter.mp ha).1
    rw [List.mem_singleton.mp hb]
    omega
  · intro a ha b hb
    rw [List.mem_singleton.mp ha]
    rcases List.mem_append.mp hb with hb | hb
    · have := (mem_levels (show x ≠ y by omega)).mp (List.mem_filter.mp hb).1
      omega
    · rw [List.mem_singleton.mp hb]; exact h
/-- what a passing is to one jack -/
structure Ap (one other : List Int) (ps : List Pr) : Prop where
  btw : ∀ (i : Nat) (x y c : Int), one[i]? = some x → other[i]? = some y → ((i : Int), c) ∈ ps → min x y < c ∧ c < max x y
  ap : ∀ j c : Int, (j, c) ∈ ps → (j, c + 1) ∉ ps
theorem VPs.toAp {n : Int} {bs : List Pr} {one other : List Int} {ps : List Pr} (v : VPs n bs one other ps) : Ap one other ps := by
  refine ⟨fun i x y c hx hy hc => ?_, fun j c h => v.apart _ h _ ?_⟩
  · obtain ⟨x2, y2, h1, h2, _, h4, h5⟩ := v.ok _ hc
    have h1 : one[i]? = some x2 := h1
    have h2 : other[i]? = some y2 := h2
    rw [hx] at h1
    rw [hy] at h2
    cases h1
    cases h2
    exact ⟨h4, h5⟩
  · unfold besides
    simp
structure IsMv (one other : List Int) (ps : List Pr) (i : Nat) (x y : Int) (m : Mv) : Prop where
  j : m.1 = (i : Int)
  gx : one[i]? = some x
  gy : other[i]? = some y
  ne : x ≠ y
  a1 : min x y ≤ m.2.1
  a2 : m.2.1 ≤ max x y
  b1 : min x y ≤ m.2.2
  b2 : m.2.2 ≤ max x y
  a : (m.1, m.2.1) ∉ ps
  b : (m.1, m.2.2) ∉ ps
  up : x < y → m.2.2 = m.2.1 + 1 ∨ (m.2.2 = m.2.1 + 2 ∧ (m.1, m.2.1 + 1) ∈ ps)
  dn : y < x → m.2.2 = m.2.1 - 1 ∨ (m.2.2 = m.2.1 - 2 ∧ (m.1, m.2.1 - 1) ∈ ps)
theorem mem_segs {j : Int} {row : List Int} {m : Mv} : m ∈ segs j row ↔ m.1 = j ∧ (m.2.1, m.2.2) ∈ row.zip (row.drop 1) := by
  unfold segs
  rw [List.mem_map]
  constructor
  · rintro ⟨p, hp, rfl⟩
    exact ⟨rfl, hp⟩
  · rintro ⟨rfl, h⟩
    exact ⟨_, h, rfl⟩
theorem isMv_iff {one other : List Int} {ps : List Pr} (v : Ap one other ps) {m : Mv} : m ∈ mvRaw one other ps ↔ ∃ i x y, IsMv one other ps i x y m := by
  rw [mem_mv]
  constructor
  · rintro ⟨i, x, y, hx, hy, hne, h⟩
    refine ⟨i, x, y, ?_⟩
    obtain ⟨e, h⟩ := mem_segs.mp h
    have px : ((i : Int), x) ∉ ps := fun q => by have := v.btw i x y x hx hy q; omega
    have py : ((i : Int), y) ∉ ps := fun q => by have := v.btw i x y y hx hy q; omega
    by_cases hlt : x < y
    · obtain ⟨h1, h2, h3, h4⟩ := (zip_next (r := (· < ·)) (fun _ _ _ => by omega) (fun _ => by omega) (row_up hlt) _ _).mp h
      have m1 := (mem_row px py hne).mp h1
      have m2 := (mem_row px py hne).mp h2
      have gap : ∀ c, m.2.1 < c → c < m.2.2 → ((i : Int), c) ∈ ps := fun c c1 c2 => by
        by_cases q : ((i : Int), c) ∈ ps
        · exact q
        · exact absurd ⟨c1, c2⟩ (h4 c ((mem_row px py hne).mpr ⟨by omega, by omega, q⟩))
      refine ⟨e, hx, hy, hne, m1.1, m1.2.1, m2.1, m2.2.1, by rw [e]; exact m1.2.2, by rw [e]; exact m2.2.2, fun _ => ?_, fun _ => by omega⟩
      by_cases q1 : m.2.2 = m.2.1 + 1
      · exact .inl q1
      · by_cases q2 : m.2.2 = m.2.1 + 2
        · exact .inr ⟨q2, by rw [e]; exact gap _ (by omega) (by omega)⟩
        · exact absurd (gap (m.2.1 + 1 + 1) (by omega) (by omega)) (v.ap _ _ (gap (m.2.1 + 1) (by omega) (by omega)))
    · obtain ⟨h1, h2, h3, h4⟩ := (zip_next (r := fun a b => b < a) (fun _ _ _ => by omega) (fun _ => by omega) (row_down (by omega)) _ _).mp h
      have m1 := (mem_row px py hne).mp h1
      have m2 := (mem_row px py hne).mp h2
      have gap : ∀ c, c < m.2.1 → m.2.2 < c → ((i : Int), c) ∈ ps := fun c c1 c2 => by
        by_cases q : ((i : Int), c) ∈ ps
        · exact q
        · exact absurd ⟨c1, c2⟩ (h4 c ((mem_row px py hne).mpr ⟨by omega, by omega, q⟩))
      refine ⟨e, hx, hy, hne, m1.1, m1.2.1, m2.1, m2.2.1, by rw [e]; exact m1.2.2, by rw [e]; exact m2.2.2, fun _ => by omega, fun _ => ?_⟩
      by_cases q1 : m.2.2 = m.2.1 - 1
      · exact .inl q1
      · by_cases q2 : m.2.2 = m.2.1 - 2
        · exact .inr ⟨q2, by rw [e]; exact gap _ (by omega) (by omega)⟩
        · have := gap (m.2.1 - 1) (by omega) (by omega)
          rw [show m.2.1 - 1 = m.2.1 - 2 + 1 by omega] at this
          exact absurd this (v.ap _ _ (gap (m.2.1 - 2) (by omega) (by omega)))
  · rintro ⟨i, x, y, w⟩
    refine ⟨i, x, y, w.gx, w.gy, w.ne, mem_segs.mpr ⟨w.j, ?_⟩⟩
    have px : ((i : Int), x) ∉ ps := fun q => by have := v.btw i x y x w.gx w.gy q; omega
    have py : ((i : Int), y) ∉ ps := fun q => by have := v.btw i x y y w.gx w.gy q; omega
    have e := w.j
    have hne := w.ne
    have r1 := (mem_row px py hne).mpr ⟨w.a1, w.a2, by rw [← e]; exact w.a⟩
    have r2 := (mem_row px py hne).mpr ⟨w.b1, w.b2, by rw [← e]; exact w.b⟩
    by_cases hlt : x < y
    · refine (zip_next (r := (· < ·)) (fun _ _ _ => by omega) (fun _ => by omega) (row_up hlt) _ _).mpr ⟨r1, r2, ?_, fun c hc hh => ?_⟩
      · rcases w.up hlt with q | q <;> omega
      · have hc := ((mem_row px py hne).mp hc).2.2
        rcases w.up hlt with q | ⟨q, q2⟩
        · omega
        · have : c = m.2.1 + 1 := by omega
          subst this
          exact hc (by rw [← e]; exact q2)
    · have hlt : y < x := by omega
      refine (zip_next (r := fun a b => b < a) (fun _ _ _ => by omega) (fun _ => by omega) (row_down hlt) _ _).mpr ⟨r1, r2, ?_, fun c hc hh => ?_⟩
      · rcases w.dn hlt with q | q <;> omega
      · have hc := ((mem_row px py hne).mp hc).2.2
        rcases w.dn hlt with q | ⟨q, q2⟩
        · omega
        · have : c = m.2.1 - 1 := by omega
          subst this
          exact hc (by rw [← e]; exact q2)
theorem zip_pw {α β : Type} {r : α → α → Prop} : ∀ {L : List α} {M : List β}, L.Pairwise r → (L.zip M).Pairwise fun a b => r a.1 b.1
  | [], _, _ => by simp
  | _ :: _, [], _ => by simp
  | x :: L, y :: M, h => by
    have p := List.pairwise_cons.mp h
    rw [List.zip_cons_cons, List.pairwise_cons]
    exact ⟨fun q hq => p.1 _ (List.of_mem_zip hq).1, zip_pw p.2⟩
theorem flat_nodup {α β : Type} {f : β → List α} : ∀ {l : List β}, l.Nodup → (∀ x ∈ l, (f x).Nodup) → (∀ x ∈ l, ∀ y ∈ l, x ≠ y → ∀ z, z ∈ f x → z ∉ f y) → ((l.map f).flatten).Nodup
  | [], _, _, _ => by simp
  | x :: l, nd, h1, h2 => by
    have nd' := List.nodup_cons.mp nd
    rw [List.map_cons, List.flatten_cons, List.nodup_append]
    refine ⟨h1 x List.mem_cons_self, flat_nodup nd'.2 (fun y hy => h1 y (List.mem_cons_of_mem _ hy)) fun a ha b hb => h2 a (List.mem_cons_of_mem _ ha) b (List.mem_cons_of_mem _ hb), fun a ha b hb e => ?_⟩
    subst e
    obtain ⟨l2, hl, ha2⟩ := List.mem_flatten.mp hb
    obtain ⟨y, hy, rfl⟩ := List.mem_map.mp hl
    exact h2 x List.mem_cons_self y (List.mem_cons_of_mem _ hy) (fun z => nd'.1 (by rw [z]; exact hy)) a ha ha2
theorem segs_nodup {j : Int} {row : List Int} {r : Int → Int → Prop} (ir : ∀ a, ¬ r a a) (h : row.Pairwise r) : (segs j row).Nodup := by
  unfold segs
  refine nodup_map (fun a b e => by injection e) ?_
  · exact List.Pairwise.imp (fun h e => by subst e; exact ir _ h) (zip_pw (M := row.drop 1) h)
theorem mv_nodup (one other : List Int) (ps : List Pr) : (mvRaw one other ps).Nodup := by
  unfold mvRaw
  have jm : ∀ i m, m ∈ jackMoves one other ps i → m.1 = (i : Int) := by
    intro i m h
    unfold jackMoves at h
    cases h1 : one[i]? with
    | none => rw [h1] at h; cases h
    | some x =>
      cases h2 : other[i]? with
      | none => rw [h1, h2] at h; cases h
      | some y =>
        rw [h1, h2] at h
        have h : m ∈ if x = y then [] else segs i (rowOf ps i x y) := h
        split at h
        · cases h
        · exact segs_jack h
  refine flat_nodup List.nodup_range (fun i _ => ?_) fun i _ k _ hik m h1 h2 => ?_
  · unfold jackMoves
    cases h1 : one[i]? with
    | none => exact List.nodup_nil
    | some x =>
      cases h2 : other[i]? with
      | none => exact List.nodup_nil
      | some y =>
        show (if x = y then [] else segs i (rowOf ps i x y)).Nodup
        split
        · exact List.nodup_nil
        · by_cases hlt : x < y
          · exact segs_nodup (r := (· < ·)) (fun _ => by omega) (row_up hlt)
          · exact segs_nodup (r := fun a b => b < a) (fun _ => by omega) (row_down (by omega))
  · have := jm i m h1
    have := jm k m h2
    omega
end EvL

-- text D7
set_option Elab.async false
set_option linter.all false
set_option maxRecDepth 100000
set_option maxHeartbeats 4000000
namespace EvL
open PySem PySem.Spec PyProof.Rows L2 DL
section
variable {P : Program} {w : World} {K : PySem.W.Frag} {mg : Str → Option Value} {base : Heap}
theorem lcX_f {α : Type} {ti : TDI} {g : TDG} {Y : Type} {te : TDX Y} {vs : List Nat} {ρ : List SV} {P : List Y → Prop} (bs : List α) (enc : α → PyData) (f : α → Y) (hi : ∀ Q : List PyData → Prop, Q (bs.map enc) → ti ρ Q) (hl : bs.length < 16777216)
    (h : ∀ x ∈ bs, ∀ R : Y → Prop, R (f x) → g (enc x) (wipeD ρ vs) fun ρ2 => te ρ2 R) (hP : P (bs.map f)) : dLcX ti g te vs ρ P := by
  refine hi _ ⟨fun i acc => acc = (bs.take i).map f, by simp, fun i x acc hx hacc => ?_, fun acc hacc => ?_⟩
  · rw [List.getElem?_map] at hx
    obtain ⟨y, hy, rfl⟩ : ∃ y, bs[i]? = some y ∧ enc y = x := by
      cases q : bs[i]? with
      | none => rw [q] at hx; cases hx
      | some y => rw [q] at hx; exact ⟨y, rfl, Option.some.inj hx⟩
    have lt := (List.getElem?_eq_some_iff.mp hy).1
    refine ⟨by rw [hacc, List.length_map, List.length_take]; omega, h y (List.mem_of_getElem? hy) _ ?_⟩
    show acc ++ [f y] = (bs.take (i + 1)).map f
    rw [hacc, take_succ_map _ hy]
  · rw [hacc, List.length_map, List.take_length]
    exact hP
theorem inD_P_no {p : Pr} {ps : List Pr} (h : p ∉ ps) : inD (eP p) (ps.map eP) = false := by
  rw [inD_map pl_P (fun _ _ => eP_inj) p ps]; simp [h]
theorem inD_P_yes {p : Pr} {ps : List Pr} (h : p ∈ ps) : inD (eP p) (ps.map eP) = true := by
  rw [inD_map pl_P (fun _ _ => eP_inj) p ps]; simp [h]
def C_firsts_by : TF := fun ds P => ∃ (ms : List Mv) (as : List (Mv × Mv)), ds = [eTM ms, eTA as] ∧ ms.Nodup ∧ ms.length ≤ 100 ∧ as.length ≤ 720000 ∧ (∀ a ∈ as, a.2 ∈ ms) ∧ P (ekD (ms.map fun m => (kM m, .list (((as.filter fun a => decide (a.2 = m)).map fun a => eM a.1)))))
abbrev N_firsts_by : List Str := ["moved", "told", "found", "first", "later", "move"]
theorem sc_firsts_by : FnScope N_firsts_by ["moved", "told"] (defScope s_firsts_by) := ⟨rfl, rfl, rfl, by decide +kernel, rfl, by decide +kernel, by decide +kernel⟩
theorem o_firsts_by (B : B0 K mg) : Ok P w K mg base "firsts_by" ["moved", "told"] 1 C_firsts_by := by
  have nd := sc_firsts_by.nd
  obtain ⟨fd, F⟩ := B.says.def_ 23 (d := mkD "firsts_by" s_firsts_by) rfl
  refine ⟨fd, fn_dl (C := C_firsts_by) F sc_firsts_by (by rintro ds Q ⟨_, _, rfl, _⟩; rfl) (fun cdv A outer s H E hr => (dss_cons (ds_set (i := 2) nd rfl (Or.inl rfl) (de_dl (own := [("move", 5)]) (ws := [5]) (hu2 hr) rfl nd (by rfl) (f_dict B) (di_seq (dp_var (pv 0 rfl (Or.inl rfl)))) (blkOk_by (N := N_firsts_by) (sc := (defScope s_firsts_by)) (by decide +kernel)) (by decide) (fun _ _ _ _ _ => (dg_name (pg_name (i := 5) nd rfl (Or.inl rfl)))) (fun _ _ _ _ _ => pe_newP (dp_var (pv 5 rfl (Or.inl rfl))))))
    (dss_cons (ds_for PassesOwn.never rfl (di_seq (dp_var (pv 1 rfl (Or.inl rfl)))) (dg_tup rfl (dgs_cons (dg_name (pg_name (i := 3) nd rfl (Or.inl rfl))) (dgs_cons (dg_name (pg_name (i := 4) nd rfl (Or.inl rfl))) dgs_nil))) (dss_one (ds_appendK (hu_of hr) (pv 2 rfl (Or.inl rfl)) (dp_var (pv 4 rfl (Or.inl rfl))) (fun _ _ => rfl) (dp_var (pv 3 rfl (Or.inl rfl))))))
    (dss_frzS 2 (dss_one (ds_ret (dp_var (pv 2 rfl (Or.inl rfl))))))))) ?_, FunD.bindsN F (fun _ _ _ _ _ _ us hl => match us, hl with | [_, _], _ => rfl), F.kp, B.glo _ (B.says.fact 23 (f := .glo "firsts_by") rfl)⟩
  rintro ds Q ⟨ms, as, rfl, nd, hm, ha, hin, q⟩
  show dLcX (dSeq (dV 0)) (dgName 5) (fun ρ (P : List Int → Prop) => dV 5 ρ fun d => ∃ k, d = tupI k ∧ P k) [5] (startD N_firsts_by [eTM ms, eTA as]) _
  refine lcX_f (ti := dSeq (dV 0)) ms eM kM (fun R hR => ⟨_, rfl, _, rfl, hR⟩) (by omega) (fun x _ R hR => ⟨_, rfl, _, rfl, hR⟩) ?_
  refine ⟨?_, ?_⟩
  · exact nodup_map (fun _ _ h => kM_inj h) nd
  refine forI (ti := dSeq (dV 1)) as eA (fun R hR => ⟨_, rfl, _, rfl, hR⟩) (fun i ρ => ∃ x3 x4 x5, ρ = [.sh (eTM ms), .sh (eTA as), .dl (ms.map fun m => (kM m, (((as.take i).filter fun a => decide (a.2 = m)).map fun a => eM a.1))), x3, x4, x5]) ?_ ?_ ?_
  · refine ⟨.un, .un, .un, ?_⟩
    rw [List.map_map]
    rfl
  · rintro i a ρ hi ⟨x3, x4, x5, rfl⟩
    obtain ⟨j, hj⟩ := List.mem_iff_getElem?.mp (hin a (List.mem_of_getElem? hi))
    have hal : ((as.take i).filter fun b => decide (b.2 = a.2)).length ≤ 720000 := by
      have := List.length_filter_le (fun b : Mv × Mv => decide (b.2 = a.2)) (as.take i)
      rw [List.length_take] at this
      omega
    refine ⟨_, rfl, rfl, _, rfl, _, rfl, kM a.2, j, _, rfl, by rw [List.getElem?_map, hj]; rfl, ?_, _, rfl, by rw [List.length_map]; omega, ?_⟩
    · intro m q hm' hq e
      rw [List.getElem?_map] at hq
      cases e2 : ms[m]? with
      | none => rw [e2] at hq; cases hq
      | some b =>
        rw [e2] at hq
        have hq' := Option.some.inj hq
        subst hq'
        have e3 : b = a.2 := kM_inj e
        subst e3
        exact absurd ((List.getElem?_inj (List.getElem?_eq_some_iff.mp e2).1 nd).mp (e2.trans hj.symm)) (by omega)
    · refine ⟨.sh (eM a.1), .sh (eM a.2), x5, ?_⟩
      have e : (ms.map fun m => (kM m, (((as.take i).filter fun b => decide (b.2 = m)).map fun b => eM b.1))).set j (kM a.2, (((as.take i).filter fun b => decide (b.2 = a.2)).map fun b => eM b.1) ++ [eM a.1]) = ms.map fun m => (kM m, (((as.take (i + 1)).filter fun b => decide (b.2 = m)).map fun b => eM b.1)) := by
        apply List.ext_getElem?
        intro k
        rw [List.getElem?_set, List.getElem?_map, List.getElem?_map, List.length_map]
        by_cases hk : j = k
        · subst hk
          rw [if_pos rfl, if_pos (List.getElem?_eq_some_iff.mp hj).1, hj, List.take_add_one, hi]
          simp [List.filter_append]
        · rw [if_neg hk]
          cases e : ms[k]? with
          | none => rfl
          | some b =>
            have : ¬ a.2 = b := fun z => by
              subst z
              exact hk ((List.getElem?_inj (List.getElem?_eq_some_iff.mp hj).1 nd).mp (hj.trans e.symm))
            rw [List.take_add_one, hi]
            simp [List.filter_append, this]
      rw [← e]
      rfl
  rintro ρ ⟨x3, x4, x5, rfl⟩
  rw [List.take_length]
  refine ⟨_, _, rfl, rfl, ?_⟩
  refine ⟨_, rfl, ?_⟩
  show Q (ekD _)
  rw [List.map_map]
  exact q
def C_is_triple : TF := fun ds P => ∃ d, ds = [d] ∧ ((∃ m : Mv, d = eM m ∧ P (.bool true)) ∨ (∃ xs, d = .list xs ∧ P (.bool false)))
abbrev N_is_triple : List Str := ["thing", "own"]
theorem sc_is_triple : FnScope N_is_triple ["thing"] (defScope s_is_triple) := ⟨rfl, rfl, rfl, by decide +kernel, rfl, by decide +kernel, by decide +kernel⟩
theorem o_is_triple (B : B0 K mg) : Ok P w K mg base "is_triple" ["thing"] 2 C_is_triple := by
  have nd := sc_is_triple.nd
  obtain ⟨fd, F⟩ := B.says.def_ 25 (d := mkD "is_triple" s_is_triple) rfl
  refine ⟨fd, fn_dl (C := C_is_triple) F sc_is_triple (by rintro ds Q ⟨_, rfl, _⟩; rfl) (fun cdv A outer s H E hr => (dss_one (ds_ret (dp_and (dp_fn (o_is_tuple_of B) hr (by rfl) (da_cons (dp_var (pv 0 rfl (Or.inl rfl))) (da_cons dp_int da_nil))) (dp_one (dp_callB (cr_all rfl) cd_all (by rfl) (f_all B) (by decide +kernel) (da_cons (DF.dp (df_lc (own := [("own", 1)]) (ws := [1]) rfl nd (di_seq (dp_var (pv 0 rfl (Or.inl rfl)))) (blkOk_by (N := N_is_triple) (sc := (defScope s_is_triple)) (by decide +kernel)) (by decide) (fun _ _ _ _ _ => (dg_name (pg_name (i := 1) nd rfl (Or.inl rfl)))) (fun _ _ _ _ _ => dts_nil) (fun _ _ _ _ _ => (dp_fn (o_is_number B) hr (by rfl) (da_cons (dp_var (pv 1 rfl (Or.inl rfl))) da_nil))))) da_nil))))))) ?_, FunD.bindsN F (fun _ _ _ _ _ _ us hl => match us, hl with | [_], _ => rfl), F.kp, B.glo _ (B.says.fact 25 (f := .glo "is_triple") rfl)⟩
  rintro ds Q ⟨d, rfl, ⟨m, rfl, q⟩ | ⟨xs, rfl, q⟩⟩
  · refine ⟨_, rfl, _, _, rfl, rfl, true, rfl, ?_⟩
    refine lcM (ti := dSeq (dV 0)) [m.1, m.2.1, m.2.2] PyData.int (fun _ => true) PyData.bool (fun R hR => ⟨_, rfl, _, rfl, hR⟩) (by show 3 < 16777216; decide) (fun x hx R hR => ?_) ?_
    · exact ⟨_, rfl, _, rfl, rfl, hR⟩
    · exact ⟨_, rfl, q⟩
  · exact ⟨_, rfl, _, _, rfl, rfl, false, rfl, q⟩
theorem putsL_keys {α : Type} (key : α → Mv) (val : α → PyData) : ∀ (as : List α) (l : List (List Int × PyData)) (ks : List Mv), l.map (·.1) = ks.map kM → ks.Nodup →
    ∃ ks' : List Mv, (putsL l (as.map fun a => (kM (key a), val a))).map (·.1) = ks'.map kM ∧ ks'.Nodup ∧ ∀ m, m ∈ ks' ↔ m ∈ ks ∨ ∃ a ∈ as, key a = m
  | [], l, ks, h, nd => ⟨ks, h, nd, fun m => by simp⟩
  | a :: as, l, ks, h, nd => by
    have hmem : (getL l (kM (key a))).isSome = true ↔ key a ∈ ks := by
      have : (getL l (kM (key a))).isSome = true ↔ kM (key a) ∈ l.map (·.1) := by
        unfold getL
        rw [Option.isSome_map, List.find?_isSome]
        simp
      rw [this, h, List.mem_map]
      constructor
      · rintro ⟨b, hb, e⟩
        rw [← kM_inj e]; exact hb
      · exact fun hb => ⟨_, hb, rfl⟩
    by_cases hs : key a ∈ ks
    · have e : (putL l (kM (key a)) (val a)).map (·.1) = ks.map kM := by
        unfold putL
        rw [if_pos (hmem.mpr hs), List.map_map, ← h]
        refine List.map_congr_left fun x _ => ?_
        show (if x.1 = kM (key a) then (x.1, val a) else x).1 = x.1
        split <;> rfl
      obtain ⟨ks', h1, h2, h3⟩ := putsL_keys key val as _ ks e nd
      refine ⟨ks', h1, h2, fun m => (h3 m).trans ?_⟩
      simp only [List.mem_cons]
      constructor
      · rintro (q | ⟨b, hb, e⟩)
        · exact .inl q
        · exact .inr ⟨b, .inr hb, e⟩
      · rintro (q | ⟨b, rfl | hb, z⟩)
        · exact .inl q
        · rw [← z]; exact .inl hs
        · exact .inr ⟨b, hb, z⟩
    · have e : (putL l (kM (key a)) (val a)).map (·.1) = (ks ++ [key a]).map kM := by
        unfold putL
        rw [if_neg (fun z => hs (hmem.mp z)), List.map_append, List.map_append, h]
        rfl
      have nd2 : (ks ++ [key a]).Nodup := by
        rw [List.nodup_append]
        refine ⟨nd, by simp, fun x hx y hy e => ?_⟩
        rw [List.mem_singleton.mp hy] at e
        subst e
        exact hs hx
      obtain ⟨ks', h1, h2, h3⟩ := putsL_keys key val as _ _ e nd2
      refine ⟨ks', h1, h2, fun m => (h3 m).trans ?_⟩
      rw [List.mem_append, List.mem_singleton]
      constructor
      · rintro ((q | q) | ⟨b, hb, z⟩)
        · exact .inl q
        · exact .inr ⟨a, List.mem_cons_self, q.symm⟩
        · exact .inr ⟨b, List.mem_cons_of_mem _ hb, z⟩
      · rintro (q | ⟨b, hb, z⟩)
        · exact .inl (.inl q)
        · rcases List.mem_cons.mp hb with rfl | hb
          · exact .inl (.inr z.symm)
          · exact .inr ⟨b, hb, z⟩
theorem perm_nodup {α : Type} [DecidableEq α] : ∀ {xs ys : List α}, xs.Nodup → ys.Nodup → (∀ z, z ∈ xs ↔ z ∈ ys) → xs.Perm ys
  | [], ys, _, _, h => by
    cases ys with
    | nil => exact List.Perm.refl _
    | cons y ys => exact absurd ((h y).mpr List.mem_cons_self) (by simp)
  | x :: xs, ys, n1, n2, h => by
    have n1' := List.nodup_cons.mp n1
    have p := List.perm_cons_erase ((h x).mp List.mem_cons_self)
    have n3 : (x :: ys.erase x).Nodup := p.nodup_iff.mp n2
    have n3' := List.nodup_cons.mp n3
    refine (List.Perm.cons x (perm_nodup n1'.2 n3'.2 fun z => ?_)).trans p.symm
    constructor
    · intro hz
      have hzx : z ≠ x := fun e => n1'.1 (by rw [← e]; exact hz)
      exact (List.mem_erase_of_ne hzx).mpr ((h z).mp (List.mem_cons_of_mem _ hz))
    · intro hz
      have hzx : z ≠ x := fun e => n3'.1 (e ▸ hz)
      rcases List.mem_cons.mp ((h z).mpr ((List.mem_erase_of_ne hzx).mp hz)) with e | e
      · exact absurd e hzx
      · exact e
theorem sortT_M (ks : List Mv) : SortT (ks.map kM) := by
  refine ⟨?_, ?_, ?_⟩
  · rw [List.map_map]; exact alike_map alike_M ks
  · rw [List.map_map]; exact sortable_map (fun a => ⟨_, _, rfl⟩) ks
  · intro k hk
    obtain ⟨m, _, rfl⟩ := List.mem_map.mp hk
    exact (pl_M m).sh
theorem getL_puts_mem {α : Type} (key : α → List Int) (val : α → PyData) : ∀ (as : List α), (∀ a ∈ as, ∀ b ∈ as, key a = key b → a = b) → ∀ (l : List (List Int × PyData)) (a : α), a ∈ as → getL (putsL l (as.map fun a => (key a, val a))) (key a) = some (val a)
  | [], _, _, _, h => nomatch h
  | b :: as, hk, l, a, h => by
    show getL (putsL (putL l (key b) (val b)) (as.map fun a => (key a, val a))) (key a) = _
    by_cases ha : a ∈ as
    · exact getL_puts_mem key val as (fun x hx y hy => hk x (List.mem_cons_of_mem _ hx) y (List.mem_cons_of_mem _ hy)) _ a ha
    · have e : a = b := by
        rcases List.mem_cons.mp h with e | e
        · exact e
        · exact absurd e ha
      subst e
      rw [getL_puts key val _ as _ fun c hc z => ha (by rw [← hk _ (List.mem_cons_of_mem _ hc) _ List.mem_cons_self z]; exact hc), getL_put, if_pos rfl]
theorem map_inj_eM : ∀ {xs ys : List Mv}, (xs.map fun m => eM m) = (ys.map fun m => eM m) → xs = ys
  | [], [], _ => rfl
  | [], _ :: _, h => by cases h
  | _ :: _, [], h => by cases h
  | x :: xs, y :: ys, h => by
    rw [List.map_cons, List.map_cons] at h
    injection h with h1 h2
    rw [eM_inj.mp h1, map_inj_eM h2]
theorem mem_enum {os : List Mv} {i : Nat} {m : Mv} : (i, m) ∈ (List.range os.length).zip os ↔ os[i]? = some m := by
  rw [List.mem_iff_getElem?]
  constructor
  · rintro ⟨k, h⟩
    rw [List.getElem?_zip_eq_some] at h
    have hk := (List.getElem?_eq_some_iff.mp h.2).1
    have h1 : (List.range os.length)[k]? = some i := h.1
    rw [List.getElem?_range hk] at h1
    cases h1
    exact h.2
  · intro h
    have hk := (List.getElem?_eq_some_iff.mp h).1
    exact ⟨i, by rw [List.getElem?_zip_eq_some]; exact ⟨List.getElem?_range hk, h⟩⟩
def C_is_order_in : TF := fun ds P => ∃ (ms : List Mv) (as : List (Mv × Mv)) (d : PyData), ds = [eTM ms, eTA as, d] ∧ ((isTup d = false ∧ isDic d = false ∧ P (.bool false)) ∨ (∃ x xs, d = .tuple (.list x :: xs) ∧ (∀ y ∈ xs, ∃ z, y = .list z) ∧ xs.length < 100 ∧ P (.bool false)) ∨
  (∃ os : List Mv, d = eTM os ∧ os.length < 200 ∧ ms.length ≤ 100 ∧ ms.Nodup ∧ srt ms = ms ∧ as.length ≤ 720000 ∧ (∀ a ∈ as, a.1 ∈ ms ∧ a.2 ∈ ms) ∧ ∀ b : Bool, (b = true ↔ os.Perm ms ∧ ∀ a ∈ as, os.idxOf a.1 < os.idxOf a.2) → P (.bool b)))
abbrev N_is_order_in : List Str := ["moved", "told", "thing", "spots", "own", "spot", "move", "first", "later"]
theorem sc_is_order_in : FnScope N_is_order_in ["moved", "told", "thing"] (defScope s_is_order_in) := ⟨rfl, rfl, rfl, by decide +kernel, rfl, by decide +kernel, by decide +kernel⟩
theorem o_is_order_in (B : B0 K mg) : Ok P w K mg base "is_order_in" ["moved", "told", "thing"] 3 C_is_order_in := by
  have nd := sc_is_order_in.nd
  obtain ⟨fd, F⟩ := B.says.def_ 24 (d := mkD "is_order_in" s_is_order_in) rfl
  refine ⟨fd, fn_dl (C := C_is_order_in) F sc_is_order_in (by rintro ds Q ⟨_, _, _, rfl, _⟩; rfl) (fun cdv A outer s H E hr => (dss_cons (ds_if (DW.dt (dw_or (dt_not (dt_val (dp_isi tab_tup (dp_var (pv 2 rfl (Or.inl rfl))) (by rfl) (f_isinstance B) (pe_bltn (by rfl) (f_tuple B) (by decide +kernel) rfl)))) (dw_or (dt_cmp (op_neD hr.units) od_ne (dp_callB call_len cd_len (by rfl) (f_len B) (by decide +kernel) (da_cons (dp_var (pv 2 rfl (Or.inl rfl))) da_nil)) (dp_callB call_len cd_len (by rfl) (f_len B) (by decide +kernel) (da_cons (dp_var (pv 0 rfl (Or.inl rfl))) da_nil)) (nomark _)) (dw_or1 (dt_not (dt_val (dp_callB (cr_all rfl) cd_all (by rfl) (f_all B) (by decide +kernel) (da_cons (DF.dp (df_lc (own := [("own", 4)]) (ws := [4]) rfl nd (di_seq (dp_var (pv 2 rfl (Or.inl rfl)))) (blkOk_by (N := N_is_order_in) (sc := (defScope s_is_order_in)) (by decide +kernel)) (by decide) (fun _ _ _ _ _ => (dg_name (pg_name (i := 4) nd rfl (Or.inl rfl)))) (fun _ _ _ _ _ => dts_nil) (fun _ _ _ _ _ => (dp_fn (o_is_triple B) hr (by rfl) (da_cons (dp_var (pv 4 rfl (Or.inl rfl))) da_nil))))) da_nil)))))))) (dss_one (ds_ret dp_bl)) dss_nil)
    (dss_cons (ds_set (i := 3) nd rfl (Or.inr rfl) (DP.de (dp_callTy (cr_dictT (hu2 hr) rfl) cd_dict (by rfl) (f_dict B) (by decide +kernel) (da_cons (DF.dp (df_lc (own := [("spot", 5), ("move", 6)]) (ws := [5, 6]) rfl nd (di_enumT (by rfl) (f_enumerate B) (da_cons (dp_var (pv 2 rfl (Or.inl rfl))) da_nil)) (blkOk_by (N := N_is_order_in) (sc := (defScope s_is_order_in)) (by decide +kernel)) (by decide) (fun _ _ _ _ _ => (dg_tup rfl (dgs_cons (dg_name (pg_name (i := 5) nd rfl (Or.inl rfl))) (dgs_cons (dg_name (pg_name (i := 6) nd rfl (Or.inl rfl))) dgs_nil)))) (fun _ _ _ _ _ => dts_nil) (fun _ _ _ _ _ => (dp_tup (da_cons (dp_var (pv 6 rfl (Or.inl rfl))) (da_cons (dp_var (pv 5 rfl (Or.inl rfl))) da_nil)))))) da_nil))))
    (dss_one (ds_ret (dp_and (dp_cmp (op_eqD hr.units) od_eq (dp_callB (cr_sortK (hu67 hr) rfl) cd_sortK (by rfl) (f_sorted B) (by decide +kernel) (da_cons (dp_var (pv 3 rfl (Or.inr (Or.inl rfl)))) da_nil)) (dp_callTy call_list_of cd_lst (by rfl) (f_list B) (by decide +kernel) (da_cons (dp_var (pv 0 rfl (Or.inl rfl))) da_nil)) (nomark _)) (dp_one (dp_callB (cr_all rfl) cd_all (by rfl) (f_all B) (by decide +kernel) (da_cons (DF.dp (df_lc (own := [("first", 7), ("later", 8)]) (ws := [7, 8]) rfl nd (di_seq (dp_var (pv 1 rfl (Or.inl rfl)))) (blkOk_by (N := N_is_order_in) (sc := (defScope s_is_order_in)) (by decide +kernel)) (by decide) (fun _ _ _ _ _ => (dg_tup rfl (dgs_cons (dg_name (pg_name (i := 7) nd rfl (Or.inl rfl))) (dgs_cons (dg_name (pg_name (i := 8) nd rfl (Or.inl rfl))) dgs_nil)))) (fun _ _ _ _ _ => dts_nil) (fun _ _ _ _ _ => (dp_cmp op_lt od_lt (dp_dget (hu_of hr) (dp_var (pv 3 rfl (Or.inr (Or.inl rfl)))) (dp_var (pv 7 rfl (Or.inl rfl))) (fun _ _ => rfl)) (dp_dget (hu_of hr) (dp_var (pv 3 rfl (Or.inr (Or.inl rfl)))) (dp_var (pv 8 rfl (Or.inl rfl))) (fun _ _ => rfl)) (nomark _))))) da_nil))))))))) ?_, FunD.bindsN F (fun _ _ _ _ _ _ us hl => match us, hl with | [_, _, _], _ => rfl), F.kp, B.glo _ (B.says.fact 24 (f := .glo "is_order_in") rfl)⟩
  rintro ds Q ⟨ms, as, d, rfl, h⟩
  rcases h with ⟨h1, h2, q⟩ | ⟨x, xs, rfl, hx, hl, q⟩ | ⟨os, rfl, ol, ml, nd2, sm, al, hin, q⟩
  · refine ⟨_, rfl, h2, _, rfl, ?_⟩
    rw [h1]
    exact q
  · refine ⟨_, rfl, rfl, _, rfl, ?_⟩
    refine ⟨_, rfl, _, _, rfl, rfl, _, rfl, _, _, rfl, rfl, rfl, rfl, _, rfl, ?_⟩
    rw [eqv_int]
    cases hd : decide (((PyData.list x :: xs).length : Int) = ((ms.map fun m => eM m).length : Int)) with
    | false => exact q
    | true =>
      refine lcM (ti := dSeq (dV 2)) (PyData.list x :: xs) id (fun _ => false) PyData.bool (fun R hR => ⟨_, rfl, _, rfl, by rw [List.map_id] at hR; exact hR⟩) (by rw [List.length_cons]; omega) (fun y hy R hR => ?_) ?_
      · rcases List.mem_cons.mp hy with e | hy
        · subst e
          exact ⟨_, rfl, _, rfl, .inr ⟨_, rfl, hR⟩⟩
        · obtain ⟨z, rfl⟩ := hx y hy
          exact ⟨_, rfl, _, rfl, .inr ⟨_, rfl, hR⟩⟩
      · refine ⟨_, rfl, _, rfl, ?_⟩
        exact q
  · refine ⟨_, rfl, rfl, _, rfl, ?_⟩
    refine ⟨_, rfl, _, _, rfl, rfl, _, rfl, _, _, rfl, rfl, rfl, rfl, _, rfl, ?_⟩
    rw [eqv_int]
    cases hd : decide (((os.map fun m => eM m).length : Int) = ((ms.map fun m => eM m).length : Int)) with
    | false =>
      refine q false ⟨fun z => (by cases z), fun ⟨p, _⟩ => ?_⟩
      have := of_decide_eq_false hd
      rw [List.length_map, List.length_map, p.length_eq] at this
      exact absurd rfl this
    | true =>
      have hlen : os.length = ms.length := by
        have := of_decide_eq_true hd
        rw [List.length_map, List.length_map] at this
        omega
      refine lcM (ti := dSeq (dV 2)) os eM (fun _ => true) PyData.bool (fun R hR => ⟨_, rfl, _, rfl, hR⟩) (by omega) (fun y hy R hR => ⟨_, rfl, _, rfl, .inl ⟨_, rfl, hR⟩⟩) ?_
      refine ⟨_, rfl, _, rfl, ?_⟩
      have e1 : ((os.map fun _ => true).all id) = true := by simp
      rw [e1]
      refine lcM (ti := dEnumT (dCons (dV 2) dNil)) ((List.range os.length).zip os) (fun p => .tuple [.int (p.1 : Nat), eM p.2]) (fun p => (kM p.2, PyData.int (p.1 : Nat))) pairD (fun R hR => ⟨_, rfl, _, rfl, by rw [enumD_enc]; exact hR⟩) (by simp; omega) (fun p hp R hR => ⟨_, rfl, rfl, _, rfl, _, rfl, by show 2 ≤ 16777216; decide, hR⟩) ?_
      refine ⟨_, rfl, ?_⟩
      obtain ⟨ks, k1, k2, k3⟩ := putsL_keys (fun p : Nat × Mv => p.2) (fun p => PyData.int (p.1 : Nat)) ((List.range os.length).zip os) [] [] rfl List.nodup_nil
      have k4 : ∀ m, m ∈ ks ↔ m ∈ os := fun m => (k3 m).trans ⟨fun z => by
        obtain ⟨p, hp, e⟩ := z.resolve_left (by simp)
        have := List.mem_of_getElem? (mem_enum.mp hp)
        rw [← e]; exact this, fun z => by
        obtain ⟨i, hi⟩ := List.mem_iff_getElem?.mp z
        exact .inr ⟨(i, m), mem_enum.mpr hi, rfl⟩⟩
      have gets : os.Nodup → ∀ m ∈ os, getL (putsL [] (((List.range os.length).zip os).map fun p => (kM p.2, PyData.int (p.1 : Nat)))) (kM m) = some (.int (os.idxOf m : Nat)) := by
        intro no m hm
        have hi : os[os.idxOf m]? = some m := by
          rw [List.getElem?_eq_getElem (List.idxOf_lt_length_of_mem hm), List.getElem_idxOf]
        refine getL_puts_mem (fun p : Nat × Mv => kM p.2) (fun p => PyData.int (p.1 : Nat)) _ ?_ [] (os.idxOf m, m) (mem_enum.mpr hi)
        rintro ⟨i1, m1⟩ h1 ⟨i2, m2⟩ h2 e
        have e : m1 = m2 := kM_inj e
        subst e
        have g1 := mem_enum.mp h1
        have g2 := mem_enum.mp h2
        have := (List.getElem?_inj (List.getElem?_eq_some_iff.mp g1).1 no).mp (g1.trans g2.symm)
        rw [this]
      generalize hL : putsL [] (((List.range os.length).zip os).map fun p => (kM p.2, PyData.int (p.1 : Nat))) = L at k1 gets
      have e2 : ((L.map (·.1)).mergeSort (dLe tupI)).map tupI = (srt ks).map fun m => eM m := by
        rw [k1, srt_keys, List.map_map]
        rfl
      refine ⟨_, rfl, L, rfl, by rw [k1]; exact sortT_M ks, ?_⟩
      rw [e2]
      refine ⟨_, rfl, _, _, rfl, rfl, (Pl.lst (pl_map pl_M)).sh, (Pl.lst (pl_map pl_M)).sh, _, rfl, ?_⟩
      rw [eqv_dec (p := srt ks = ms) (Pl.lst (pl_map pl_M)) (Pl.lst (pl_map pl_M)) ⟨fun h => map_inj_eM (by injection h), fun h => by rw [h]⟩]
      by_cases hk : srt ks = ms
      · rw [decide_eq_true hk]
        have hp : os.Perm ms := perm_of_sub nd2 (fun m hm => (k4 m).mp ((sort_perm _ ks).mem_iff.mp (by show m ∈ srt ks; rw [hk]; exact hm))) (by omega)
        have no : os.Nodup := hp.nodup_iff.mpr nd2
        refine lcM (ti := dSeq (dV 1)) as eA (fun a => decide (os.idxOf a.1 < os.idxOf a.2)) PyData.bool (fun R hR => ⟨_, rfl, _, rfl, hR⟩) (by omega) (fun a ha R hR => ?_) ?_
        · have g1 := gets no a.1 (hp.mem_iff.mpr (hin a ha).1)
          have g2 := gets no a.2 (hp.mem_iff.mpr (hin a ha).2)
          refine ⟨_, rfl, rfl, _, rfl, _, rfl, kM a.1, L, _, rfl, rfl, g1, _, rfl, _, rfl, kM a.2, L, _, rfl, rfl, g2, ?_⟩
          have e : decide (((os.idxOf a.1 : Nat) : Int) < ((os.idxOf a.2 : Nat) : Int)) = decide (os.idxOf a.1 < os.idxOf a.2) := by
            by_cases h : os.idxOf a.1 < os.idxOf a.2
            · rw [decide_eq_true h, decide_eq_true (by omega)]
            · rw [decide_eq_false h, decide_eq_false (by omega)]
          show R (.bool (decide (((os.idxOf a.1 : Nat) : Int) < ((os.idxOf a.2 : Nat) : Int))))
          rw [e]
          exact hR
        · refine ⟨_, rfl, q _ ?_⟩
          rw [List.all_map, List.all_eq_true]
          constructor
          · exact fun h => ⟨hp, fun a ha => of_decide_eq_true (h a ha)⟩
          · exact fun h a ha => decide_eq_true (h.2 a ha)
      · rw [decide_eq_false hk]
        refine q false ⟨fun z => (by cases z), fun ⟨p, _⟩ => ?_⟩
        have : ks.Perm ms := perm_nodup k2 nd2 fun m => (k4 m).trans p.mem_iff
        exact absurd ((srt_eq this).trans sm) hk
def C_passing_fit : TF := fun ds P => ∃ (d1 d2 d3 d4 : PyData) (n : Int) (bs : List Pr) (one other : List Int) (ps : List Pr), ds = [d1, d2, d3, d4] ∧ okD 6 d1 = true ∧ okD 6 d2 = true ∧ okD 6 d3 = true ∧ okD 6 d4 = true ∧ tupledD d1 = eF n bs ∧ tupledD d2 = eS one ∧ tupledD d3 = eS other ∧ tupledD d4 = eTP ps ∧
  VF n bs ∧ VS n bs one ∧ VS n bs other ∧ VPs n bs one other ps ∧ P (.tuple [eF n bs, eS one, eS other, eTP ps])
abbrev N_passing_fit : List Str := ["frame", "one", "other", "passing", "own", "here", "there", "told"]
theorem sc_passing_fit : FnScope N_passing_fit ["frame", "one", "other", "passing"] (defScope s_passing_fit) := ⟨rfl, rfl, rfl, by decide +kernel, rfl, by decide +kernel, by decide +kernel⟩
theorem o_passing_fit (B : B0 K mg) : Ok P w K mg base "passing_fit" ["frame", "one", "other", "passing"] 9 C_passing_fit := by
  have nd := sc_passing_fit.nd
  obtain ⟨fd, F⟩ := B.says.def_ 26 (d := mkD "passing_fit" s_passing_fit) rfl
  refine ⟨fd, fn_dl (C := C_passing_fit) F sc_passing_fit (by rintro ds Q ⟨_, _, _, _, _, _, _, _, _, rfl, _⟩; rfl) (fun cdv A outer s H E hr => (dss_cons (ds_asg (dp_fn (o_three_sure B) hr (by rfl) (da_cons (dp_var (pv 0 rfl (Or.inl rfl))) (da_cons (dp_var (pv 1 rfl (Or.inl rfl))) (da_cons (dp_var (pv 2 rfl (Or.inl rfl))) da_nil)))) (dg_tup rfl (dgs_cons (dg_name (pg_name (i := 4) nd rfl (Or.inl rfl))) (dgs_cons (dg_name (pg_name (i := 5) nd rfl (Or.inl rfl))) (dgs_cons (dg_name (pg_name (i := 6) nd rfl (Or.inl rfl))) dgs_nil)))))
    (dss_cons (ds_set (i := 7) nd rfl (Or.inl rfl) (DP.de (dp_fn (o_tupled B 6) hr (by rfl) (da_cons (dp_var (pv 3 rfl (Or.inl rfl))) da_nil))))
    (dss_cons (ds_if (dt_not (dt_val (dp_fn (o_is_passing_in B) hr (by rfl) (da_cons (dp_var (pv 4 rfl (Or.inl rfl))) (da_cons (dp_var (pv 5 rfl (Or.inl rfl))) (da_cons (dp_var (pv 6 rfl (Or.inl rfl))) (da_cons (dp_var (pv 7 rfl (Or.inl rfl))) da_nil))))))) (dss_one ds_never) dss_nil)
    (dss_one (ds_ret (dp_tup (da_cons (dp_var (pv 4 rfl (Or.inl rfl))) (da_cons (dp_var (pv 5 rfl (Or.inl rfl))) (da_cons (dp_var (pv 6 rfl (Or.inl rfl))) (da_cons (dp_var (pv 7 rfl (Or.inl rfl))) da_nil))))))))))) ?_, FunD.bindsN F (fun _ _ _ _ _ _ us hl => match us, hl with | [_, _, _, _], _ => rfl), F.kp, B.glo _ (B.says.fact 26 (f := .glo "passing_fit") rfl)⟩
  rintro ds Q ⟨d1, d2, d3, d4, n, bs, one, other, ps, rfl, k1, k2, k3, k4, e1, e2, e3, e4, v, v1, v2, v3, q⟩
  refine ⟨_, rfl, _, rfl, _, rfl, _, _, _, _, _, _, _, rfl, k1, k2, k3, e1, e2, e3, v, v1, v2, _, rfl, rfl, ?_⟩
  refine ⟨_, rfl, _, rfl, k4, ?_⟩
  rw [e4]
  refine ⟨_, rfl, _, rfl, _, rfl, _, rfl, n, bs, one, other, ps, rfl, v, v1, v2, v3, _, rfl, ?_⟩
  exact ⟨_, rfl, _, rfl, _, rfl, _, rfl, by show 4 ≤ 16777216; decide, q⟩
def C_moved_sure : TF := fun ds P => ∃ (d1 d2 d3 d4 : PyData) (n : Int) (bs : List Pr) (one other : List Int) (ps : List Pr), ds = [d1, d2, d3, d4] ∧ okD 6 d1 = true ∧ okD 6 d2 = true ∧ okD 6 d3 = true ∧ okD 6 d4 = true ∧ tupledD d1 = eF n bs ∧ tupledD d2 = eS one ∧ tupledD d3 = eS other ∧ tupledD d4 = eTP ps ∧
  VF n bs ∧ VS n bs one ∧ VS n bs other ∧ VPs n bs one other ps ∧ VN one other ps ∧ P (.tuple [eTM (srt (mvRaw one other ps)), eTA (srtA (arRaw n bs (srt (mvRaw one other ps))))])
abbrev N_moved_sure : List Str := ["frame", "one", "other", "passing", "own", "here", "there", "told", "moved"]
theorem sc_moved_sure : FnScope N_moved_sure ["frame", "one", "other", "passing"] (defScope s_moved_sure) := ⟨rfl, rfl, rfl, by decide +kernel, rfl, by decide +kernel, by decide +kernel⟩
theorem o_moved_sure (B : B0 K mg) : Ok P w K mg base "moved_sure" ["frame", "one", "other", "passing"] 10 C_moved_sure := by
  have nd := sc_moved_sure.nd
  obtain ⟨fd, F⟩ := B.says.def_ 27 (d := mkD "moved_sure" s_moved_sure) rfl
  refine ⟨fd, fn_dl (C := C_moved_sure) F sc_moved_sure (by rintro ds Q ⟨_, _, _, _, _, _, _, _, _, rfl, _⟩; rfl) (fun cdv A outer s H E hr => (dss_cons (ds_asg (dp_fn (o_passing_fit B) hr (by rfl) (da_cons (dp_var (pv 0 rfl (Or.inl rfl))) (da_cons (dp_var (pv 1 rfl (Or.inl rfl))) (da_cons (dp_var (pv 2 rfl (Or.inl rfl))) (da_cons (dp_var (pv 3 rfl (Or.inl rfl))) da_nil))))) (dg_tup rfl (dgs_cons (dg_name (pg_name (i := 4) nd rfl (Or.inl rfl))) (dgs_cons (dg_name (pg_name (i := 5) nd rfl (Or.inl rfl))) (dgs_cons (dg_name (pg_name (i := 6) nd rfl (Or.inl rfl))) (dgs_cons (dg_name (pg_name (i := 7) nd rfl (Or.inl rfl))) dgs_nil))))))
    (dss_cons (ds_expr (dp_fn (o_refuse_far B) hr (by rfl) (da_cons (dp_var (pv 5 rfl (Or.inl rfl))) (da_cons (dp_var (pv 6 rfl (Or.inl rfl))) da_nil))))
    (dss_cons (ds_set (i := 8) nd rfl (Or.inl rfl) (DP.de (dp_fn (o_moves_in B) hr (by rfl) (da_cons (dp_var (pv 5 rfl (Or.inl rfl))) (da_cons (dp_var (pv 6 rfl (Or.inl rfl))) (da_cons (dp_var (pv 7 rfl (Or.inl rfl))) da_nil))))))
    (dss_one (ds_ret (dp_tup (da_cons (dp_var (pv 8 rfl (Or.inl rfl))) (da_cons (dp_fn (o_arrows_in B) hr (by rfl) (da_cons (dp_var (pv 4 rfl (Or.inl rfl))) (da_cons (dp_var (pv 8 rfl (Or.inl rfl))) da_nil))) da_nil))))))))) ?_, FunD.bindsN F (fun _ _ _ _ _ _ us hl => match us, hl with | [_, _, _, _], _ => rfl), F.kp, B.glo _ (B.says.fact 27 (f := .glo "moved_sure") rfl)⟩
  rintro ds Q ⟨d1, d2, d3, d4, n, bs, one, other, ps, rfl, k1, k2, k3, k4, e1, e2, e3, e4, v, v1, v2, v3, vn, q⟩
  have h8 := v.n8
  have l1 := v1.len
  have l2 := v2.len
  refine ⟨_, rfl, _, rfl, _, rfl, _, rfl, _, _, _, _, _, _, _, _, _, rfl, k1, k2, k3, k4, e1, e2, e3, e4, v, v1, v2, v3, _, rfl, rfl, ?_⟩
  refine ⟨_, rfl, _, rfl, one, other, rfl, by omega, vn.near, ?_⟩
  refine ⟨_, rfl, _, rfl, _, rfl, one, other, ps, rfl, by omega, by omega, vn.len, vn.lo, vn.ho, ?_⟩
  refine ⟨_, rfl, _, rfl, _, rfl, n, bs, srt (mvRaw one other ps), rfl, v, by rw [(sort_perm _ _).length_eq]; exact vn.few, fun m hm => ?_, ?_⟩
  · obtain ⟨i, x, y, h1, h2, _, hs⟩ := mem_mv.mp ((sort_perm _ _).mem_iff.mp hm)
    have := segs_jack hs
    have := (List.getElem?_eq_some_iff.mp h1).1
    omega
  · exact ⟨by show 2 ≤ 16777216; decide, q⟩
def C_moves : TF := fun ds P => C_moved_sure ds fun d => ∃ x y, d = .tuple [x, y] ∧ P x
abbrev N_moves : List Str := ["frame", "one", "other", "passing"]
theorem sc_moves : FnScope N_moves ["frame", "one", "other", "passing"] (defScope s_moves) := ⟨rfl, rfl, rfl, by decide +kernel, rfl, by decide +kernel, by decide +kernel⟩
theorem o_moves (B : B0 K mg) : Ok P w K mg base "moves" ["frame", "one", "other", "passing"] 11 C_moves := by
  have nd := sc_moves.nd
  obtain ⟨fd, F⟩ := B.says.def_ 28 (d := mkD "moves" s_moves) rfl
  refine ⟨fd, fn_dl (C := C_moves) F sc_moves (by rintro ds Q ⟨_, _, _, _, _, _, _, _, _, rfl, _⟩; rfl) (fun cdv A outer s H E hr => (dss_one (ds_ret (dp_ix (dp_fn (o_moved_sure B) hr (by rfl) (da_cons (dp_var (pv 0 rfl (Or.inl rfl))) (da_cons (dp_var (pv 1 rfl (Or.inl rfl))) (da_cons (dp_var (pv 2 rfl (Or.inl rfl))) (da_cons (dp_var (pv 3 rfl (Or.inl rfl))) da_nil))))) dp_int (fun _ _ => rfl))))) ?_, FunD.bindsN F (fun _ _ _ _ _ _ us hl => match us, hl with | [_, _, _, _], _ => rfl), F.kp, B.glo _ (B.says.fact 28 (f := .glo "moves") rfl)⟩
  rintro ds Q ⟨d1, d2, d3, d4, n, bs, one, other, ps, rfl, k1, k2, k3, k4, e1, e2, e3, e4, v, v1, v2, v3, vn, x, y, e, q⟩
  cases e
  exact ⟨_, rfl, _, rfl, _, rfl, _, rfl, _, _, _, _, _, _, _, _, _, rfl, k1, k2, k3, k4, e1, e2, e3, e4, v, v1, v2, v3, vn, by decide, _, rfl, q⟩
def C_arrows : TF := fun ds P => C_moved_sure ds fun d => ∃ x y, d = .tuple [x, y] ∧ P y
abbrev N_arrows : List Str := ["frame", "one", "other", "passing"]
theorem sc_arrows : FnScope N_arrows ["frame", "one", "other", "passing"] (defScope s_arrows) := ⟨rfl, rfl, rfl, by decide +kernel, rfl, by decide +kernel, by decide +kernel⟩
theorem o_arrows (B : B0 K mg) : Ok P w K mg base "arrows" ["frame", "one", "other", "passing"] 11 C_arrows := by
  have nd := sc_arrows.nd
  obtain ⟨fd, F⟩ := B.says.def_ 29 (d := mkD "arrows" s_arrows) rfl
  refine ⟨fd, fn_dl (C := C_arrows) F sc_arrows (by rintro ds Q ⟨_, _, _, _, _, _, _, _, _, rfl, _⟩; rfl) (fun cdv A outer s H E hr => (dss_one (ds_ret (dp_ix (dp_fn (o_moved_sure B) hr (by rfl) (da_cons (dp_var (pv 0 rfl (Or.inl rfl))) (da_cons (dp_var (pv 1 rfl (Or.inl rfl))) (da_cons (dp_var (pv 2 rfl (Or.inl rfl))) (da_cons (dp_var (pv 3 rfl (Or.inl rfl))) da_nil))))) dp_int (fun _ _ => rfl))))) ?_, FunD.bindsN F (fun _ _ _ _ _ _ us hl => match us, hl with | [_, _, _, _], _ => rfl), F.kp, B.glo _ (B.says.fact 29 (f := .glo "arrows") rfl)⟩
  rintro ds Q ⟨d1, d2, d3, d4, n, bs, one, other, ps, rfl, k1, k2, k3, k4, e1, e2, e3, e4, v, v1, v2, v3, vn, x, y, e, q⟩
  cases e
  exact ⟨_, rfl, _, rfl, _, rfl, _, rfl, _, _, _, _, _, _, _, _, _, rfl, k1, k2, k3, k4, e1, e2, e3, e4, v, v1, v2, v3, vn, by decide, _, rfl, q⟩
def C_is_move_in : TF := fun ds P => ∃ (one other : List Int) (ps : List Pr) (m : Mv) (i : Nat) (x y : Int), ds = [eS one, eS other, eTP ps, eM m] ∧ IsMv one other ps i x y m ∧ one.length ≤ 100 ∧ P (.bool true)
abbrev N_is_move_in : List Str := ["one", "other", "passing", "thing", "jack", "near", "far", "step", "ends"]
theorem sc_is_move_in : FnScope N_is_move_in ["one", "other", "passing", "thing"] (defScope s_is_move_in) := ⟨rfl, rfl, rfl, by decide +kernel, rfl, by decide +kernel, by decide +kernel⟩
theorem o_is_move_in (B : B0 K mg) : Ok P w K mg base "is_move_in" ["one", "other", "passing", "thing"] 3 C_is_move_in := by
  have nd := sc_is_move_in.nd
  obtain ⟨fd, F⟩ := B.says.def_ 30 (d := mkD "is_move_in" s_is_move_in) rfl
  refine ⟨fd, fn_dl (C := C_is_move_in) F sc_is_move_in (by rintro ds Q ⟨_, _, _, _, _, _, _, rfl, _⟩; rfl) (fun cdv A outer s H E hr => (dss_cons (ds_if (DW.dt (dw_or (dt_not (dt_val (dp_fn (o_is_triple B) hr (by rfl) (da_cons (dp_var (pv 3 rfl (Or.inl rfl))) da_nil)))) (dw_or (dt_not (dt_chain op_le od_le op_lt od_lt dp_int (dp_ix (dp_var (pv 3 rfl (Or.inl rfl))) dp_int (fun _ _ => rfl)) (dp_callB call_len cd_len (by rfl) (f_len B) (by decide +kernel) (da_cons (dp_var (pv 0 rfl (Or.inl rfl))) da_nil)))) (dw_or1 (dt_cmp (op_eqD hr.units) od_eq (dp_ix (dp_var (pv 0 rfl (Or.inl rfl))) (dp_ix (dp_var (pv 3 rfl (Or.inl rfl))) dp_int (fun _ _ => rfl)) (fun _ _ => rfl)) (dp_ix (dp_var (pv 1 rfl (Or.inl rfl))) (dp_ix (dp_var (pv 3 rfl (Or.inl rfl))) dp_int (fun _ _ => rfl)) (fun _ _ => rfl)) (nomark _)))))) (dss_one (ds_ret dp_bl)) dss_nil)
    (dss_cons (ds_asg (dp_var (pv 3 rfl (Or.inl rfl))) (dg_tup rfl (dgs_cons (dg_name (pg_name (i := 4) nd rfl (Or.inl rfl))) (dgs_cons (dg_name (pg_name (i := 5) nd rfl (Or.inl rfl))) (dgs_cons (dg_name (pg_name (i := 6) nd rfl (Or.inl rfl))) dgs_nil)))))
    (dss_cons (ds_set (i := 7) nd rfl (Or.inl rfl) (DP.de (dp_if (dt_cmp op_gt od_gt (dp_ix (dp_var (pv 1 rfl (Or.inl rfl))) (dp_var (pv 4 rfl (Or.inl rfl))) (fun _ _ => rfl)) (dp_ix (dp_var (pv 0 rfl (Or.inl rfl))) (dp_var (pv 4 rfl (Or.inl rfl))) (fun _ _ => rfl)) (nomark _)) dp_int (dp_un dp_int))))
    (dss_cons (ds_set (i := 8) nd rfl (Or.inl rfl) (DP.de (dp_tup (da_cons (dp_callB (cr_min2 rfl) cd_min (by rfl) (f_min B) (by decide +kernel) (da_cons (dp_ix (dp_var (pv 0 rfl (Or.inl rfl))) (dp_var (pv 4 rfl (Or.inl rfl))) (fun _ _ => rfl)) (da_cons (dp_ix (dp_var (pv 1 rfl (Or.inl rfl))) (dp_var (pv 4 rfl (Or.inl rfl))) (fun _ _ => rfl)) da_nil))) (da_cons (dp_callB (cr_max2 rfl) cd_max (by rfl) (f_max B) (by decide +kernel) (da_cons (dp_ix (dp_var (pv 0 rfl (Or.inl rfl))) (dp_var (pv 4 rfl (Or.inl rfl))) (fun _ _ => rfl)) (da_cons (dp_ix (dp_var (pv 1 rfl (Or.inl rfl))) (dp_var (pv 4 rfl (Or.inl rfl))) (fun _ _ => rfl)) da_nil))) da_nil)))))
    (dss_cons (ds_if (DW.dt (dw_or (dt_not (dt_chain op_le od_le op_le od_le (dp_ix (dp_var (pv 8 rfl (Or.inl rfl))) dp_int (fun _ _ => rfl)) (dp_var (pv 5 rfl (Or.inl rfl))) (dp_ix (dp_var (pv 8 rfl (Or.inl rfl))) dp_int (fun _ _ => rfl)))) (dw_or1 (dt_not (dt_chain op_le od_le op_le od_le (dp_ix (dp_var (pv 8 rfl (Or.inl rfl))) dp_int (fun _ _ => rfl)) (dp_var (pv 6 rfl (Or.inl rfl))) (dp_ix (dp_var (pv 8 rfl (Or.inl rfl))) dp_int (fun _ _ => rfl))))))) (dss_one (ds_ret dp_bl)) dss_nil)
    (dss_cons (ds_if (DW.dt (dw_or (dt_cmp (op_in2 (hu65 hr)) od_in (dp_tup (da_cons (dp_var (pv 4 rfl (Or.inl rfl))) (da_cons (dp_var (pv 5 rfl (Or.inl rfl))) da_nil))) (dp_var (pv 2 rfl (Or.inl rfl))) (by rfl)) (dw_or1 (dt_cmp (op_in2 (hu65 hr)) od_in (dp_tup (da_cons (dp_var (pv 4 rfl (Or.inl rfl))) (da_cons (dp_var (pv 6 rfl (Or.inl rfl))) da_nil))) (dp_var (pv 2 rfl (Or.inl rfl))) (by rfl))))) (dss_one (ds_ret dp_bl)) dss_nil)
    (dss_one (ds_ret (dp_or (dp_cmp (op_eqD hr.units) od_eq (dp_var (pv 6 rfl (Or.inl rfl))) (dp_op op_add3 od_add (dp_var (pv 5 rfl (Or.inl rfl))) (dp_var (pv 7 rfl (Or.inl rfl)))) (nomark _)) (dp_one (dp_and (dp_cmp (op_eqD hr.units) od_eq (dp_var (pv 6 rfl (Or.inl rfl))) (dp_op op_add3 od_add (dp_var (pv 5 rfl (Or.inl rfl))) (dp_op op_mul3 od_mul dp_int (dp_var (pv 7 rfl (Or.inl rfl))))) (nomark _)) (dp_one (dp_cmp (op_in2 (hu65 hr)) od_in (dp_tup (da_cons (dp_var (pv 4 rfl (Or.inl rfl))) (da_cons (dp_op op_add3 od_add (dp_var (pv 5 rfl (Or.inl rfl))) (dp_var (pv 7 rfl (Or.inl rfl)))) da_nil))) (dp_var (pv 2 rfl (Or.inl rfl))) (by rfl))))))))))))))) ?_, FunD.bindsN F (fun _ _ _ _ _ _ us hl => match us, hl with | [_, _, _, _], _ => rfl), F.kp, B.glo _ (B.says.fact 30 (f := .glo "is_move_in") rfl)⟩
  rintro ds Q ⟨one, other, ps, ⟨j, a, b⟩, i, x, y, rfl, w, hn, q⟩
  have ej : j = (i : Int) := w.j
  subst ej
  have hl := (List.getElem?_eq_some_iff.mp w.gx).1
  have gx : (one.map PyData.int)[(i : Int).toNat]? = some (.int x) := by rw [Int.toNat_natCast, List.getElem?_map, w.gx]; rfl
  have gy : (other.map PyData.int)[(i : Int).toNat]? = some (.int y) := by rw [Int.toNat_natCast, List.getElem?_map, w.gy]; rfl
  have hno : ∀ c : Int, ((i : Int), c) ∉ ps → inD (.tuple [.int (i : Int), .int c]) (ps.map eP) = false := fun c h => inD_P_no h
  have hyes : ∀ c : Int, ((i : Int), c) ∈ ps → inD (.tuple [.int (i : Int), .int c]) (ps.map eP) = true := fun c h => inD_P_yes h
  have h0 : (0 : Int) ≤ (i : Int) := by omega
  have a1 : min x y ≤ a := w.a1
  have a2 : a ≤ max x y := w.a2
  have b1 : min x y ≤ b := w.b1
  have b2 : b ≤ max x y := w.b2
  refine ⟨_, rfl, _, rfl, .inl ⟨_, rfl, true, rfl, ?_⟩⟩
  refine ⟨_, rfl, by decide, _, rfl, _, rfl, ?_⟩
  rw [decide_eq_true h0]
  refine ⟨_, rfl, _, _, rfl, rfl, _, rfl, ?_⟩
  rw [decide_eq_true (show (i : Int) < (((one.map PyData.int).length : Nat) : Int) by rw [List.length_map]; omega)]
  refine ⟨_, rfl, _, rfl, by decide, _, rfl, h0, _, gx, _, rfl, _, rfl, by decide, _, rfl, h0, _, gy, rfl, rfl, _, rfl, ?_⟩
  rw [eqv_int, decide_eq_false w.ne]
  refine ⟨_, rfl, _, rfl, rfl, ?_⟩
  refine ⟨_, rfl, _, rfl, h0, _, gy, _, rfl, _, rfl, h0, _, gx, _, rfl, ?_⟩
  have mn : ∀ c, min x y ≤ c → (if y < x then y else x) ≤ c := fun c h => by split <;> omega
  have mx : ∀ c, c ≤ max x y → c ≤ (if y > x then y else x) := fun c h => by split <;> omega
  have rest : ∀ (st : Int) (ρ1 : List SV), (b = a + st ∨ (b = a + 2 * st ∧ ((i : Int), a + st) ∈ ps)) → CMul 2 st → ρ1 = [.sh (eS one), .sh (eS other), .sh (eTP ps), .sh (eM ((i : Int), a, b)), .sh (.int (i : Int)), .sh (.int a), .sh (.int b), .sh (.int st), .un] →
      dThen (dSet 8 (dShE (dTup (dCons (dApp gMin (dCons (dOp gIx (dV 0) (dV 4)) (dCons (dOp gIx (dV 1) (dV 4)) dNil))) (dCons (dApp gMax (dCons (dOp gIx (dV 0) (dV 4)) (dCons (dOp gIx (dV 1) (dV 4)) dNil))) dNil)))))
        (dThen (dIfS (dOr (dNot (dB (dChain gLe gLe (dOp gIx (dV 8) (dC (PyData.int 0))) (dV 5) (dOp gIx (dV 8) (dC (PyData.int 1)))))) (dNot (dB (dChain gLe gLe (dOp gIx (dV 8) (dC (PyData.int 0))) (dV 6) (dOp gIx (dV 8) (dC (PyData.int 1))))))) (dRet (dC (PyData.bool false))) dNext)
          (dThen (dIfS (dOr (dB (dOp gIn (dTup (dCons (dV 4) (dCons (dV 5) dNil))) (dV 2))) (dB (dOp gIn (dTup (dCons (dV 4) (dCons (dV 6) dNil))) (dV 2)))) (dRet (dC (PyData.bool false))) dNext)
            (dRet (dOrV (dOp gEq (dV 6) (dOp gAdd (dV 5) (dV 7))) (dAndV (dOp gEq (dV 6) (dOp gAdd (dV 5) (dOp gMul (dC (PyData.int 2)) (dV 7)))) (dOp gIn (dTup (dCons (dV 4) (dCons (dOp gAdd (dV 5) (dV 7)) dNil))) (dV 2)))))))
        { nx := fun x => Q PyData.none, rt := fun d x => Q d } ρ1 := by
    rintro st ρ1 hc hm rfl
    refine ⟨_, rfl, _, rfl, h0, _, gx, _, rfl, _, rfl, h0, _, gy, .inl ⟨_, _, rfl, _, rfl, _, rfl, h0, _, gx, _, rfl, _, rfl, h0, _, gy, .inl ⟨_, _, rfl, by show 2 ≤ 16777216; decide, ?_⟩⟩⟩
    refine ⟨_, rfl, by decide, _, rfl, _, rfl, _, rfl, ?_⟩
    rw [decide_eq_true (mn a a1)]
    refine ⟨_, rfl, by decide, _, rfl, _, rfl, ?_⟩
    rw [decide_eq_true (mx a a2)]
    refine ⟨_, rfl, by decide, _, rfl, _, rfl, _, rfl, ?_⟩
    rw [decide_eq_true (mn b b1)]
    refine ⟨_, rfl, by decide, _, rfl, _, rfl, ?_⟩
    rw [decide_eq_true (mx b b2)]
    refine ⟨_, rfl, _, rfl, by show 2 ≤ 16777216; decide, _, rfl, (pl_P ((i : Int), a)).sh, (pl_TP ps).sh, _, rfl, ?_⟩
    rw [hno a w.a]
    refine ⟨_, rfl, _, rfl, by show 2 ≤ 16777216; decide, _, rfl, (pl_P ((i : Int), b)).sh, (pl_TP ps).sh, _, rfl, ?_⟩
    rw [hno b w.b]
    refine ⟨_, rfl, _, rfl, _, rfl, rfl, rfl, _, rfl, ?_⟩
    rw [eqv_int]
    by_cases h1 : b = a + st
    · rw [decide_eq_true h1]
      exact q
    · rw [decide_eq_false h1]
      obtain ⟨h2, h3⟩ := hc.resolve_left h1
      refine ⟨_, rfl, _, rfl, _, rfl, hm, rfl, rfl, _, rfl, ?_⟩
      rw [eqv_int, decide_eq_true h2]
      refine ⟨_, rfl, _, rfl, _, rfl, by show 2 ≤ 16777216; decide, _, rfl, (pl_P ((i : Int), a + st)).sh, (pl_TP ps).sh, ?_⟩
      show Q (.bool (inD (.tuple [.int (i : Int), .int (a + st)]) (ps.map eP)))
      rw [hyes _ h3]
      exact q
  by_cases hlt : y > x
  · rw [decide_eq_true hlt]
    refine rest 1 _ ?_ (.inl ⟨by decide, by decide⟩) rfl
    rcases w.up hlt with e | ⟨e, e2⟩
    · exact .inl e
    · exact .inr ⟨by have e : b = a + 2 := e; omega, e2⟩
  · rw [decide_eq_false hlt]
    refine rest (-1) _ ?_ (.inl ⟨by decide, by decide⟩) rfl
    have hne := w.ne
    rcases w.dn (by omega) with e | ⟨e, e2⟩
    · exact .inl (by have e : b = a - 1 := e; omega)
    · refine .inr ⟨by have e : b = a - 2 := e; omega, ?_⟩
      have e2 : ((i : Int), a - 1) ∈ ps := e2
      rw [show a + -1 = a - 1 by omega]
      exact e2
end
end EvL

-- text V5
set_option Elab.async false
set_option linter.all false
set_option maxRecDepth 100000
set_option maxHeartbeats 4000000
/-! Arrows as a relation, what leads to a move. -/
namespace EvL
open PySem PySem.Spec PyProof.Rows L2 DL
def arr (n : Int) (bs : List Pr) (a b : Mv) : Bool := (decide (a.1 = b.1) || adj bs a.1 b.1) && isAhead a b
theorem mem_ar {n : Int} {bs : List Pr} {ms : List Mv} (hj : ∀ m ∈ ms, 0 ≤ m.1 ∧ m.1 < n) {a b : Mv} : (a, b) ∈ arRaw n bs ms ↔ a ∈ ms ∧ b ∈ ms ∧ arr n bs a b = true := by
  have later : ∀ j, b ∈ laterOf n bs ms j ↔ b ∈ ms ∧ (j = b.1 ∨ (adj bs j b.1 = true ∧ b.1 ∈ jacks n)) := by
    intro j
    unfold laterOf rowsOf nbr
    simp only [List.mem_flatten, List.mem_map, List.mem_append, List.mem_singleton, List.mem_filter]
    constructor
    · rintro ⟨l, ⟨k, hk, rfl⟩, hb⟩
      obtain ⟨hb1, hb2⟩ := List.mem_filter.mp hb
      have hb2 := of_decide_eq_true hb2
      subst hb2
      refine ⟨hb1, ?_⟩
      rcases hk with hk | ⟨h1, h2⟩
      · exact .inl hk.symm
      · exact .inr ⟨h2, h1⟩
    · rintro ⟨hb, h⟩
      refine ⟨_, ⟨b.1, ?_, rfl⟩, List.mem_filter.mpr ⟨hb, decide_eq_true rfl⟩⟩
      rcases h with h | ⟨h1, h2⟩
      · exact .inl h.symm
      · exact .inr ⟨h2, h1⟩
  unfold arRaw arJ arM
  simp only [List.mem_flatten, List.mem_map]
  constructor
  · rintro ⟨l, ⟨j, hjm, rfl⟩, hl⟩
    obtain ⟨l2, hl2, hab⟩ := List.mem_flatten.mp hl
    obtain ⟨m, hm, rfl⟩ := List.mem_map.mp hl2
    obtain ⟨f, hf, e⟩ := List.mem_map.mp hab
    cases e
    obtain ⟨hf1, hf2⟩ := List.mem_filter.mp hf
    unfold rowsOf at hm
    obtain ⟨hm1, hm2⟩ := List.mem_filter.mp hm
    have hm2 := of_decide_eq_true hm2
    subst hm2
    obtain ⟨hb, h⟩ := (later a.1).mp hf1
    refine ⟨hm1, hb, ?_⟩
    unfold arr
    rw [hf2, Bool.and_true, Bool.or_eq_true, decide_eq_true_eq]
    rcases h with h | ⟨h1, _⟩
    · exact .inl h
    · exact .inr h1
  · rintro ⟨ha, hb, h⟩
    unfold arr at h
    rw [Bool.and_eq_true, Bool.or_eq_true, decide_eq_true_eq] at h
    refine ⟨_, ⟨a.1, mem_jacks.mpr (hj a ha), rfl⟩, List.mem_flatten.mpr ⟨_, List.mem_map.mpr ⟨a, List.mem_filter.mpr ⟨ha, decide_eq_true rfl⟩, rfl⟩, List.mem_map.mpr ⟨b, List.mem_filter.mpr ⟨(later a.1).mpr ⟨hb, ?_⟩, h.2⟩, rfl⟩⟩⟩
    rcases h.1 with e | e
    · exact .inl e
    · exact .inr ⟨e, mem_jacks.mpr (hj b hb)⟩
/-- arrows lead from k to m -/
inductive Lead (n : Int) (bs : List Pr) (ms : List Mv) : Mv → Mv → Prop
  | one {k m : Mv} : k ∈ ms → m ∈ ms → arr n bs k m = true → Lead n bs ms k m
  | step {k l m : Mv} : k ∈ ms → l ∈ ms → arr n bs k l = true → Lead n bs ms l m → Lead n bs ms k m
theorem mv_jack {n : Int} {bs : List Pr} {one other : List Int} {ps : List Pr} (v1 : VS n bs one) {m : Mv} (h : m ∈ mvRaw one other ps) : 0 ≤ m.1 ∧ m.1 < n := by
  obtain ⟨i, x, y, h1, h2, _, hs⟩ := mem_mv.mp h
  have := segs_jack hs
  have := (List.getElem?_eq_some_iff.mp h1).1
  have := v1.len
  omega
theorem getS_keys {l : List (List Int × PyData)} {ks : List Mv} (h : l.map (·.1) = ks.map kM) (m : Mv) : (getL l (kM m)).isSome = decide (m ∈ ks) := by
  have : (getL l (kM m)).isSome = true ↔ m ∈ ks := by
    have e : (getL l (kM m)).isSome = true ↔ kM m ∈ l.map (·.1) := by
      unfold getL
      rw [Option.isSome_map, List.find?_isSome]
      simp
    rw [e, h, List.mem_map]
    constructor
    · rintro ⟨b, hb, z⟩
      rw [← kM_inj z]; exact hb
    · exact fun hb => ⟨_, hb, rfl⟩
  by_cases hm : m ∈ ks
  · rw [decide_eq_true hm, this.mpr hm]
  · rw [decide_eq_false hm]
    cases e : (getL l (kM m)).isSome with
    | false => rfl
    | true => exact absurd (this.mp e) hm
theorem getL_map {ms : List Mv} {f : Mv → PyData} {m : Mv} (h : m ∈ ms) : getL (ms.map fun m => (kM m, f m)) (kM m) = some (f m) := by
  unfold getL
  induction ms with
  | nil => cases h
  | cons x ms ih =>
    rw [List.map_cons, List.find?_cons]
    by_cases e : kM x = kM m
    · have e' := kM_inj e
      subst e'
      simp
    · have hm : m ∈ ms := by
        rcases List.mem_cons.mp h with z | z
        · exact absurd (by rw [z]) e
        · exact z
      simp only [decide_eq_false e]
      exact ih hm
def pre (as : List (Mv × Mv)) (m : Mv) : List Mv := (as.filter fun a => decide (a.2 = m)).map (·.1)
theorem pre_eM (as : List (Mv × Mv)) (m : Mv) : ((pre as m).map fun m => eM m) = (as.filter fun a => decide (a.2 = m)).map fun a => eM a.1 := by
  unfold pre
  rw [List.map_map]
  rfl
theorem mem_pre {as : List (Mv × Mv)} {k m : Mv} : k ∈ pre as m ↔ (k, m) ∈ as := by
  unfold pre
  rw [List.mem_map]
  constructor
  · rintro ⟨a, ha, rfl⟩
    obtain ⟨h1, h2⟩ := List.mem_filter.mp ha
    have h2 := of_decide_eq_true h2
    subst h2
    exact h1
  · exact fun h => ⟨_, List.mem_filter.mpr ⟨h, decide_eq_true rfl⟩, rfl⟩
theorem pre_nodup {as : List (Mv × Mv)} (nd : as.Nodup) (m : Mv) : (pre as m).Nodup := by
  unfold pre List.Nodup
  rw [List.pairwise_map]
  refine List.Pairwise.imp_of_mem (fun {a b} ha hb h e => h ?_) (List.Pairwise.filter _ nd)
  have h1 := of_decide_eq_true (List.mem_filter.mp ha).2
  have h2 := of_decide_eq_true (List.mem_filter.mp hb).2
  exact Prod.ext e (h1.trans h2.symm)
theorem pre_len (as : List (Mv × Mv)) (m : Mv) : (pre as m).length ≤ as.length := by
  unfold pre
  rw [List.length_map]
  exact List.length_filter_le _ _
theorem jacks_nodup (n : Int) : (jacks n).Nodup := List.Pairwise.imp (fun h e => by omega) (jacks_sorted n)
theorem ar_nodup {n : Int} {bs : List Pr} (v : VF n bs) {ms : List Mv} (nd : ms.Nodup) : (arRaw n bs ms).Nodup := by
  have rj : ∀ {j : Int} {m : Mv}, m ∈ rowsOf ms j → m.1 = j := fun h => of_decide_eq_true (List.mem_filter.mp h).2
  have rn : ∀ j, (rowsOf ms j).Nodup := fun j => List.Pairwise.filter _ nd
  have ln : ∀ j, (laterOf n bs ms j).Nodup := by
    intro j
    unfold laterOf
    refine flat_nodup ?_ (fun k _ => rn k) fun x _ y _ hxy m h1 h2 => hxy ((rj h1).symm.trans (rj h2))
    rw [List.nodup_append]
    refine ⟨by simp, List.Pairwise.filter _ (jacks_nodup n), fun a ha b hb e => ?_⟩
    rw [List.mem_singleton.mp ha] at e
    subst e
    have h := (List.mem_filter.mp hb).2
    unfold adj at h
    rcases of_decide_eq_true h with h | h
    · have := (v.ok _ h).2.1; exact absurd this (by show ¬ j < j; omega)
    · have := (v.ok _ h).2.1; exact absurd this (by show ¬ j < j; omega)
  have am : ∀ {l : List Mv} {m : Mv} {a : Mv × Mv}, a ∈ arM l m → a.1 = m := fun h => by
    obtain ⟨f, _, rfl⟩ := List.mem_map.mp h
    rfl
  unfold arRaw
  refine flat_nodup (jacks_nodup n) (fun j _ => ?_) fun x _ y _ hxy a h1 h2 => ?_
  · unfold arJ
    refine flat_nodup (rn j) (fun m _ => ?_) fun x _ y _ hxy a h1 h2 => hxy ((am h1).symm.trans (am h2))
    unfold arM
    refine nodup_map (fun a b e => by injection e) (List.Pairwise.filter _ (ln j))
  · obtain ⟨l, hl, ha⟩ := List.mem_flatten.mp h1
    obtain ⟨m, hm, rfl⟩ := List.mem_map.mp hl
    obtain ⟨l2, hl2, ha2⟩ := List.mem_flatten.mp h2
    obtain ⟨m2, hm2, rfl⟩ := List.mem_map.mp hl2
    have e1 := am ha
    have e2 := am ha2
    have e3 : m = m2 := e1.symm.trans e2
    subst e3
    exact hxy ((rj hm).symm.trans (rj hm2))
/-- the moves and arrows of a case, sorted -/
structure Ma (n : Int) (bs : List Pr) (raw ms : List Mv) (as : List (Mv × Mv)) : Prop where
  p : ms.Perm raw
  nd : ms.Nodup
  len : ms.length ≤ 100
  srt : srt ms = ms
  al : as.length ≤ 720000
  and_ : as.Nodup
  mem : ∀ a b, (a, b) ∈ as ↔ a ∈ ms ∧ b ∈ ms ∧ arr n bs a b = true
theorem ar_len {n : Int} {bs : List Pr} {ms : List Mv} (h8 : n ≤ 8) (hm : ms.length ≤ 100) : (arRaw n bs ms).length ≤ 720000 := by
  have := arR_len (bs := bs) h8 hm (jacks n).length
  rw [List.take_length] at this
  exact this
theorem ma_of {n : Int} {bs : List Pr} {one other : List Int} {ps : List Pr} (v : VF n bs) (v1 : VS n bs one) (few : (mvRaw one other ps).length ≤ 100) : Ma n bs (mvRaw one other ps) (srt (mvRaw one other ps)) (srtA (arRaw n bs (srt (mvRaw one other ps)))) := by
  have p := sort_perm (fun m => eM m) (mvRaw one other ps)
  have pa := sort_perm (fun a => eA a) (arRaw n bs (srt (mvRaw one other ps)))
  have nd : (srt (mvRaw one other ps)).Nodup := p.nodup_iff.mpr (mv_nodup one other ps)
  have ln : (srt (mvRaw one other ps)).length ≤ 100 := by rw [p.length_eq]; exact few
  exact ⟨p, nd, ln, srt_self (sort_pw _ _), by rw [pa.length_eq]; exact ar_len v.n8 ln, pa.nodup_iff.mpr (ar_nodup v nd), fun a b => by
    rw [show (a, b) ∈ srtA (arRaw n bs (srt (mvRaw one other ps))) ↔ (a, b) ∈ arRaw n bs (srt (mvRaw one other ps)) from pa.mem_iff]
    exact mem_ar fun m hm => mv_jack (bs := bs) v1 (p.mem_iff.mp hm)⟩
theorem Lead.mem1 {n : Int} {bs : List Pr} {ms : List Mv} {k m : Mv} (h : Lead n bs ms k m) : k ∈ ms := by cases h <;> assumption
theorem Lead.mono {n : Int} {bs : List Pr} {ms ms' : List Mv} (hm : ∀ m ∈ ms, m ∈ ms') {k m : Mv} (h : Lead n bs ms k m) : Lead n bs ms' k m := by
  induction h with
  | one h1 h2 h3 => exact .one (hm _ h1) (hm _ h2) h3
  | step h1 h2 h3 _ ih => exact .step (hm _ h1) (hm _ h2) h3 ih
end EvL

-- text D8
set_option Elab.async false
set_option linter.all false
set_option maxRecDepth 100000
set_option maxHeartbeats 4000000
namespace EvL
open PySem PySem.Spec PyProof.Rows L2 DL
theorem split4 {α : Type} {p : List α → List α → Prop} (h0 : ∀ a b c d, p [] [a, b, c, d]) (h1 : ∀ a b c d, p [a] [b, c, d]) (h2 : ∀ a b c d, p [a, b] [c, d]) (h3 : ∀ a b c d, p [a, b, c] [d]) (h4 : ∀ a b c d, p [a, b, c, d] []) :
    ∀ us ws : List α, us.length + ws.length = 4 → p us ws
  | [], [a, b, c, d], _ => h0 a b c d
  | [a], [b, c, d], _ => h1 a b c d
  | [a, b], [c, d], _ => h2 a b c d
  | [a, b, c], [d], _ => h3 a b c d
  | [a, b, c, d], [], _ => h4 a b c d
  | [], [], h | [], [_], h | [], [_, _], h | [], [_, _, _], h | [], _ :: _ :: _ :: _ :: _ :: _, h => by simp only [List.length_cons, List.length_nil] at h; omega
  | [_], [], h | [_], [_], h | [_], [_, _], h | [_], _ :: _ :: _ :: _ :: _, h => by simp only [List.length_cons, List.length_nil] at h; omega
  | [_, _], [], h | [_, _], [_], h | [_, _], _ :: _ :: _ :: _, h => by simp only [List.length_cons, List.length_nil] at h; omega
  | [_, _, _], [], h | [_, _, _], _ :: _ :: _, h => by simp only [List.length_cons, List.length_nil] at h; omega
  | [_, _, _, _], _ :: _, h => by simp only [List.length_cons, List.length_nil] at h; omega
  | _ :: _ :: _ :: _ :: _ :: _, _, h => by simp only [List.length_cons, List.length_nil] at h; omega
theorem nodup_le {α : Type} [DecidableEq α] : ∀ {xs ys : List α}, xs.Nodup → (∀ x ∈ xs, x ∈ ys) → xs.length ≤ ys.length
  | [], _, _, _ => Nat.zero_le _
  | x :: xs, ys, nd, h => by
    have nd' := List.nodup_cons.mp nd
    have p := List.perm_cons_erase (h x List.mem_cons_self)
    have := nodup_le (xs := xs) (ys := ys.erase x) nd'.2 fun z hz => (List.mem_erase_of_ne (fun e => nd'.1 (by rw [← e]; exact hz))).mpr (h z (List.mem_cons_of_mem _ hz))
    rw [p.length_eq, List.length_cons, List.length_cons]
    omega
section
variable {P : Program} {w : World} {K : PySem.W.Frag} {mg : Str → Option Value} {base : Heap}
def C_must_come_ahead : TF := fun ds P => ∃ (d1 d2 d3 d4 d5 : PyData) (n : Int) (bs : List Pr) (one other : List Int) (ps : List Pr) (m : Mv), ds = [d1, d2, d3, d4, d5] ∧ okD 6 d1 = true ∧ okD 6 d2 = true ∧ okD 6 d3 = true ∧ okD 6 d4 = true ∧ okD 6 d5 = true ∧ tupledD d1 = eF n bs ∧ tupledD d2 = eS one ∧ tupledD d3 = eS other ∧ tupledD d4 = eTP ps ∧ tupledD d5 = eM m ∧
  VF n bs ∧ VS n bs one ∧ VS n bs other ∧ VPs n bs one other ps ∧ VN one other ps ∧ m ∈ mvRaw one other ps ∧ ∀ ks : List Mv, ks.Nodup → srt ks = ks → (∀ k, k ∈ ks ↔ Lead n bs (mvRaw one other ps) k m) → P (eTM ks)
abbrev N_must_come_ahead : List Str := ["frame", "one", "other", "passing", "move", "here", "there", "told", "goal", "moved", "arrowed", "firsts", "found", "row", "now", "fresh", "own"]
theorem sc_must_come_ahead : FnScope N_must_come_ahead ["frame", "one", "other", "passing", "move"] (defScope s_must_come_ahead) := ⟨rfl, rfl, rfl, by decide +kernel, rfl, by decide +kernel, by decide +kernel⟩
theorem o_must_come_ahead (B : B0 K mg) : Ok P w K mg base "must_come_ahead" ["frame", "one", "other", "passing", "move"] 11 C_must_come_ahead := by
  have nd := sc_must_come_ahead.nd
  obtain ⟨fd, F⟩ := B.says.def_ 31 (d := mkD "must_come_ahead" s_must_come_ahead) rfl
  refine ⟨fd, fn_dl (C := C_must_come_ahead) F sc_must_come_ahead (by rintro ds Q ⟨_, _, _, _, _, _, _, _, _, _, _, rfl, _⟩; rfl) (fun cdv A outer s H E hr => (dss_cons (ds_asg (dp_slice (dp_fn (o_passing_fit B) hr (by rfl) (da_cons (dp_var (pv 0 rfl (Or.inl rfl))) (da_cons (dp_var (pv 1 rfl (Or.inl rfl))) (da_cons (dp_var (pv 2 rfl (Or.inl rfl))) (da_cons (dp_var (pv 3 rfl (Or.inl rfl))) da_nil))))) (do_some dp_int) do_none) (dg_tup rfl (dgs_cons (dg_name (pg_name (i := 5) nd rfl (Or.inl rfl))) (dgs_cons (dg_name (pg_name (i := 6) nd rfl (Or.inl rfl))) (dgs_cons (dg_name (pg_name (i := 7) nd rfl (Or.inl rfl))) dgs_nil)))))
    (dss_cons (ds_set (i := 8) nd rfl (Or.inl rfl) (DP.de (dp_fn (o_tupled B 6) hr (by rfl) (da_cons (dp_var (pv 4 rfl (Or.inl rfl))) da_nil))))
    (dss_cons (ds_if (dt_not (dt_val (dp_fn (o_is_move_in B) hr (by rfl) (da_cons (dp_var (pv 5 rfl (Or.inl rfl))) (da_cons (dp_var (pv 6 rfl (Or.inl rfl))) (da_cons (dp_var (pv 7 rfl (Or.inl rfl))) (da_cons (dp_var (pv 8 rfl (Or.inl rfl))) da_nil))))))) (dss_one ds_never) dss_nil)
    (dss_cons (ds_asg (dp_fn (o_moved_sure B) hr (by rfl) (da_cons (dp_var (pv 0 rfl (Or.inl rfl))) (da_cons (dp_var (pv 1 rfl (Or.inl rfl))) (da_cons (dp_var (pv 2 rfl (Or.inl rfl))) (da_cons (dp_var (pv 3 rfl (Or.inl rfl))) da_nil))))) (dg_tup rfl (dgs_cons (dg_name (pg_name (i := 9) nd rfl (Or.inl rfl))) (dgs_cons (dg_name (pg_name (i := 10) nd rfl (Or.inl rfl))) dgs_nil))))
    (dss_cons (ds_tup3 rfl (pg_name (i := 11) nd rfl (Or.inl rfl)) (pg_name (i := 12) nd rfl (Or.inr rfl)) (pg_name (i := 13) nd rfl (Or.inl rfl)) (DP.de (dp_fn (o_firsts_by B) hr (by rfl) (da_cons (dp_var (pv 9 rfl (Or.inl rfl))) (da_cons (dp_var (pv 10 rfl (Or.inl rfl))) da_nil)))) de_dict (DF.de (df_lst (da_cons (dp_var (pv 8 rfl (Or.inl rfl))) da_nil))))
    (dss_cons (ds_while PassesOwn.never (dt_neNilO (pv 13 rfl (Or.inl rfl)) hr.units) (dss_cons (ds_pop (i := 14) nd rfl (Or.inl rfl) (pv 13 rfl (Or.inl rfl)))
    (dss_cons (ds_frzA 15 (ds_setLc (i := 15) rfl nd rfl rfl (sw_true rfl rfl rfl (by decide +kernel)) (own := [("own", 16)]) (ws := [16])  (di_seq (dp_dget (hu_of hr) (dp_var (pv 11 rfl (Or.inl rfl))) (dp_var (pv 14 rfl (Or.inl rfl))) (fun _ _ => rfl))) (blkOk_by (N := N_must_come_ahead) (sc := (defScope s_must_come_ahead)) (by decide +kernel)) (by decide) (fun _ _ _ _ _ => (dg_name (pg_name (i := 16) nd rfl (Or.inl rfl)))) (fun _ _ _ _ _ => (dts_one (dt_dNotInO (hu_of hr) (dp_var (pv 16 rfl (Or.inl rfl))) (pv 12 rfl (Or.inr (Or.inl rfl)))))) (fun _ _ _ _ _ => (dp_var (pv 16 rfl (Or.inl rfl))))))
    (dss_cons (ds_update (hu_of hr) rfl (pv 12 rfl (Or.inr (Or.inl rfl))) (DF.dp (df_lc (own := [("own", 16)]) (ws := [16]) rfl nd (di_seq (dp_var (pv 15 rfl (Or.inl rfl)))) (blkOk_by (N := N_must_come_ahead) (sc := (defScope s_must_come_ahead)) (by decide +kernel)) (by decide) (fun _ _ _ _ _ => (dg_name (pg_name (i := 16) nd rfl (Or.inl rfl)))) (fun _ _ _ _ _ => dts_nil) (fun _ _ _ _ _ => (dp_tup (da_cons (dp_var (pv 16 rfl (Or.inl rfl))) (da_cons dp_bl da_nil)))))))
    (dss_one (ds_extend (pv 13 rfl (Or.inl rfl)) (dp_var (pv 15 rfl (Or.inl rfl)))))))))
    (dss_frzS 12 (dss_one (ds_ret (dp_callTy call_tuple_of cd_tup (by rfl) (f_tuple B) (by decide +kernel) (da_cons (dp_callB (cr_sortK (hu67 hr) rfl) cd_sortK (by rfl) (f_sorted B) (by decide +kernel) (da_cons (dp_var (pv 12 rfl (Or.inr (Or.inl rfl)))) da_nil)) da_nil)))))))))))) ?_, FunD.bindsN F (fun _ _ _ _ _ _ us hl => match us, hl with | [_, _, _, _, _], _ => rfl), F.kp, B.glo _ (B.says.fact 31 (f := .glo "must_come_ahead") rfl)⟩
  rintro ds Q ⟨d1, d2, d3, d4, d5, n, bs, one, other, ps, m, rfl, k1, k2, k3, k4, k5, e1, e2, e3, e4, e5, v, v1, v2, v3, vn, hm, q⟩
  have M := ma_of (ps := ps) (other := other) v v1 vn.few
  generalize hms : srt (mvRaw one other ps) = ms at M
  generalize has : srtA (arRaw n bs ms) = as at M
  obtain ⟨i, x, y, w⟩ := (isMv_iff v3.toAp).mp hm
  have l1 := v1.len
  have h8 := v.n8
  have hmm : m ∈ ms := M.p.mem_iff.mpr hm
  refine ⟨_, rfl, _, rfl, _, rfl, _, rfl, _, _, _, _, _, _, _, _, _, rfl, k1, k2, k3, k4, e1, e2, e3, e4, v, v1, v2, v3, _, rfl, rfl, ?_⟩
  refine ⟨_, rfl, _, rfl, k5, ?_⟩
  rw [e5]
  refine ⟨_, rfl, _, rfl, _, rfl, _, rfl, one, other, ps, m, i, x, y, rfl, w, by omega, _, rfl, ?_⟩
  refine ⟨_, rfl, _, rfl, _, rfl, _, rfl, _, _, _, _, _, _, _, _, _, rfl, k1, k2, k3, k4, e1, e2, e3, e4, v, v1, v2, v3, vn, _, rfl, rfl, ?_⟩
  rw [hms, has]
  refine ⟨_, rfl, _, rfl, ms, as, rfl, M.nd, M.len, M.al, fun a ha => ((M.mem a.1 a.2).mp ha).2.1, ?_⟩
  refine ⟨_, rfl, by show 1 ≤ 16777216; decide, ?_⟩
  refine ⟨fun k ρ => ∃ (fs row : List Mv) (l : List (List Int × PyData)) (x14 x15 x16 : SV), ρ = [.sh d1, .sh d2, .sh d3, .sh d4, .sh d5, .sh (eS one), .sh (eS other), .sh (eTP ps), .sh (eM m), .sh (eTM ms), .sh (eTA as),
      .sh (ekD (ms.map fun m => (kM m, .list (((as.filter fun a => decide (a.2 = m)).map fun a => eM a.1))))), .od (l.map fun p => (tupI p.1, p.2)), .ow (row.map fun m => eM m), x14, x15, x16] ∧
      l.map (·.1) = fs.map kM ∧ fs.Nodup ∧ (∀ k ∈ fs, Lead n bs ms k m) ∧ (∀ r ∈ row, r = m ∨ Lead n bs ms r m) ∧ (∀ z, (z = m ∨ z ∈ fs) → z ∈ row ∨ ∀ k ∈ pre as z, k ∈ fs) ∧ k = 2 * (ms.length - fs.length) + row.length ∧ k ≤ 201 ∧ fs.length ≤ ms.length, ⟨_, [], [m], [], .un, .un, .un, rfl, rfl, List.nodup_nil, (fun _ z => nomatch z), fun r hr => .inl (List.mem_singleton.mp hr), fun z hz => .inl ?_, rfl, ?_, Nat.zero_le _⟩, ?_⟩
  · rcases hz with e | e
    · rw [e]; exact List.mem_cons_self
    · cases e
  · have := M.len
    show 2 * (ms.length - 0) + 1 ≤ 201
    omega
  rintro k ρ ⟨fs, row, l, x14, x15, x16, rfl, hl, nf, lf, lr, cl, hk, hk2, fl⟩
  refine ⟨_, rfl, (Pl.lst (pl_map pl_M)).sh, _, rfl, ?_⟩
  rcases List.eq_nil_or_concat row with rfl | ⟨L, b, rfl⟩
  · show dFrzS 12 _ _ _
    refine ⟨_, _, rfl, rfl, ?_⟩
    have e2 : ((l.map (·.1)).mergeSort (dLe tupI)).map tupI = (srt fs).map fun m => eM m := by
      rw [hl, srt_keys, List.map_map]
      rfl
    refine ⟨_, rfl, l, rfl, by rw [hl]; exact sortT_M fs, _, _, rfl, rfl, ?_⟩
    rw [e2]
    have pf := sort_perm (fun m => eM m) fs
    refine q (srt fs) (pf.nodup_iff.mpr nf) (srt_self (sort_pw _ _)) fun k => ?_
    rw [show k ∈ srt fs ↔ k ∈ fs from pf.mem_iff]
    have closed : ∀ z, (z = m ∨ z ∈ fs) → ∀ k ∈ pre as z, k ∈ fs := fun z hz => (cl z hz).resolve_left (by simp)
    constructor
    · intro h
      exact (lf k h).mono fun a ha => M.p.mem_iff.mp ha
    · intro h
      have h : Lead n bs ms k m := h.mono fun a ha => M.p.mem_iff.mpr ha
      have key : ∀ {a c : Mv}, Lead n bs ms a c → c = m → a ∈ fs := by
        intro a c h
        induction h with
        | one h1 h2 h3 => exact fun e => closed _ (.inl e) _ (mem_pre.mpr ((M.mem _ _).mpr ⟨h1, h2, h3⟩))
        | step h1 h2 h3 _ ih => exact fun e => closed _ (.inr (ih e)) _ (mem_pre.mpr ((M.mem _ _).mpr ⟨h1, h2, h3⟩))
      exact key h rfl
  · have ne : (!((L.concat b).map fun m => eM m).isEmpty) = true := by simp
    rw [ne]
    have hb : b ∈ ms := by
      rcases lr b (by simp) with e | e
      · rw [e]; exact hmm
      · exact e.mem1
    have bl : b = m ∨ Lead n bs ms b m := lr b (by simp)
    refine ⟨L.map fun m => eM m, eM b, by rw [List.concat_eq_append, List.map_append]; rfl, ?_⟩
    refine lcF (ti := dSeq (dOp gDGet (dV 11) (dV 14))) (pre as b) eM (fun k => !decide (k ∈ fs)) id (fun m => eM m) (fun R hR => ⟨_, rfl, _, rfl, kM b, _, _, rfl, rfl, getL_map hb, _, rfl, by rw [← pre_eM]; exact hR⟩) (by have := pre_len as b; have := M.al; omega) (fun k hk R h1 R2 h2 => ?_) ?_
    · refine ⟨_, rfl, kM k, l, rfl, rfl, _, rfl, ?_⟩
      rw [getS_keys hl]
      cases hd : decide (k ∈ fs) with
      | true => exact h2 (by rw [hd]; rfl)
      | false => exact ⟨_, rfl, h1 (by rw [hd]; rfl)⟩
    rw [List.map_id]
    generalize hfr : ((pre as b).filter fun k => !decide (k ∈ fs)) = fr
    have nfr : fr.Nodup := by rw [← hfr]; exact List.Pairwise.filter _ (pre_nodup M.and_ b)
    have mfr : ∀ k, k ∈ fr ↔ k ∈ pre as b ∧ k ∉ fs := fun k => by rw [← hfr, List.mem_filter]; simp
    have dis : (fs ++ fr).Nodup := by
      rw [List.nodup_append]
      exact ⟨nf, nfr, fun a ha c hc e => ((mfr c).mp hc).2 (e ▸ ha)⟩
    have lead : ∀ k ∈ fr, Lead n bs ms k m := by
      intro k hk
      obtain ⟨h1, h2, h3⟩ := (M.mem k b).mp (mem_pre.mp ((mfr k).mp hk).1)
      rcases bl with e | e
      · subst e; exact .one h1 h2 h3
      · exact .step h1 h2 h3 e
    have lfr : (fs ++ fr).length ≤ ms.length := nodup_le dis fun k hk => by
      rcases List.mem_append.mp hk with h | h
      · exact (lf k h).mem1
      · exact (lead k h).mem1
    rw [List.length_append] at lfr
    have ll : l.length = fs.length := by
      have := congrArg List.length hl
      simpa using this
    have mlen := M.len
    rw [List.concat_eq_append, List.length_append] at hk
    have lb1 : [b].length = 1 := rfl
    refine ⟨_, _, rfl, rfl, ?_⟩
    refine ⟨l, rfl, ?_⟩
    refine lcM (ti := dSeq (dV 15)) fr eM (fun k => (kM k, PyData.bool true)) pairD (fun R hR => ⟨_, rfl, _, rfl, hR⟩) (by omega) (fun k _ R hR => ⟨_, rfl, by show 2 ≤ 16777216; decide, hR⟩) ?_
    refine ⟨_, rfl, by rw [List.length_map]; omega, ?_⟩
    refine ⟨_, rfl, _, rfl, _, rfl, by rw [List.length_map, List.length_map]; omega, ?_⟩
    obtain ⟨fs', g1, g2, g3⟩ := putsL_keys (fun k : Mv => k) (fun _ => PyData.bool true) fr l fs hl nf
    have pf : fs'.Perm (fs ++ fr) := perm_nodup g2 dis fun z => (g3 z).trans (by rw [List.mem_append]; simp)
    have lfs := pf.length_eq
    rw [List.length_append] at lfs
    refine ⟨2 * (ms.length - fs'.length) + (L ++ fr).length, ?_, fs', L ++ fr, putsL l (fr.map fun k => (kM k, PyData.bool true)), .sh (eM b), .sh (.list (fr.map fun m => eM m)), x16, ?_, g1, g2, ?_, ?_, ?_, rfl, ?_, by omega⟩
    · rw [List.length_append]; omega
    · rw [List.map_append]
      rfl
    · intro k hk
      rcases List.mem_append.mp (pf.mem_iff.mp hk) with h | h
      · exact lf k h
      · exact lead k h
    · intro r hr
      rcases List.mem_append.mp hr with h | h
      · exact lr r (by simp [h])
      · exact .inr (lead r h)
    · intro z hz
      have sub : ∀ k, k ∈ fs → k ∈ fs' := fun k h => pf.mem_iff.mpr (List.mem_append_left _ h)
      have old : (z = m ∨ z ∈ fs) → z ∈ L ++ fr ∨ ∀ k ∈ pre as z, k ∈ fs' := by
        intro hz
        rcases cl z hz with h | h
        · rw [List.concat_eq_append] at h
          rcases List.mem_append.mp h with h | h
          · exact .inl (List.mem_append_left _ h)
          · rw [List.mem_singleton.mp h]
            refine .inr fun k hk => ?_
            by_cases hf : k ∈ fs
            · exact sub k hf
            · exact pf.mem_iff.mpr (List.mem_append_right _ ((mfr k).mpr ⟨hk, hf⟩))
        · exact .inr fun k hk => sub k (h k hk)
      rcases hz with e | e
      · exact old (.inl e)
      · rcases List.mem_append.mp (pf.mem_iff.mp e) with h | h
        · exact old (.inr h)
        · exact .inl (List.mem_append_right _ h)
    · rw [List.length_append]; omega
def C_can_come_first : TF := fun ds P => ∃ (d1 d2 d3 d4 : PyData) (n : Int) (bs : List Pr) (one other : List Int) (ps : List Pr), ds = [d1, d2, d3, d4] ∧ okD 6 d1 = true ∧ okD 6 d2 = true ∧ okD 6 d3 = true ∧ okD 6 d4 = true ∧ tupledD d1 = eF n bs ∧ tupledD d2 = eS one ∧ tupledD d3 = eS other ∧ tupledD d4 = eTP ps ∧
  VF n bs ∧ VS n bs one ∧ VS n bs other ∧ VPs n bs one other ps ∧ VN one other ps ∧ P (eTM ((srt (mvRaw one other ps)).filter fun m => !(srt (mvRaw one other ps)).any fun k => arr n bs k m))
abbrev N_can_come_first : List Str := ["frame", "one", "other", "passing", "moved", "arrowed", "firsts", "move"]
theorem sc_can_come_first : FnScope N_can_come_first ["frame", "one", "other", "passing"] (defScope s_can_come_first) := ⟨rfl, rfl, rfl, by decide +kernel, rfl, by decide +kernel, by decide +kernel⟩
theorem ob_can_come_first (B : B0 K mg) : ∃ fd, FnOk P w K mg base CX0 11 (He.ga K "can_come_first") fd ["frame", "one", "other", "passing"] (spC C_can_come_first) ∧ L2.Binds K fd ["frame", "one", "other", "passing"] [] ∧ KBinds K fd ["frame", "one", "other", "passing"] ["passing", "other", "one", "frame"] (fun us ws => us ++ ws.reverse) (fun vs zs => vs ++ zs.reverse) ∧ PySem.W.keepIn K (.ref (He.ga K "can_come_first")) = true ∧ mg "can_come_first" = some (.ref (He.ga K "can_come_first")) := by
  have nd := sc_can_come_first.nd
  obtain ⟨fd, F⟩ := B.says.def_ 32 (d := mkD "can_come_first" s_can_come_first) rfl
  refine ⟨fd, fn_dl (C := C_can_come_first) F sc_can_come_first (by rintro ds Q ⟨_, _, _, _, _, _, _, _, _, rfl, _⟩; rfl) (fun cdv A outer s H E hr => (dss_cons (ds_asg (dp_fn (o_moved_sure B) hr (by rfl) (da_cons (dp_var (pv 0 rfl (Or.inl rfl))) (da_cons (dp_var (pv 1 rfl (Or.inl rfl))) (da_cons (dp_var (pv 2 rfl (Or.inl rfl))) (da_cons (dp_var (pv 3 rfl (Or.inl rfl))) da_nil))))) (dg_tup rfl (dgs_cons (dg_name (pg_name (i := 4) nd rfl (Or.inl rfl))) (dgs_cons (dg_name (pg_name (i := 5) nd rfl (Or.inl rfl))) dgs_nil))))
    (dss_cons (ds_set (i := 6) nd rfl (Or.inr rfl) (DP.de (dp_fn (o_firsts_by B) hr (by rfl) (da_cons (dp_var (pv 4 rfl (Or.inl rfl))) (da_cons (dp_var (pv 5 rfl (Or.inl rfl))) da_nil)))))
    (dss_one (ds_ret (dp_callTy call_tuple_of cd_tup (by rfl) (f_tuple B) (by decide +kernel) (da_cons (DF.dp (df_lc (own := [("move", 7)]) (ws := [7]) rfl nd (di_seq (dp_var (pv 4 rfl (Or.inl rfl)))) (blkOk_by (N := N_can_come_first) (sc := (defScope s_can_come_first)) (by decide +kernel)) (by decide) (fun _ _ _ _ _ => (dg_name (pg_name (i := 7) nd rfl (Or.inl rfl)))) (fun _ _ _ _ _ => (dts_one (dt_cmp (op_eqD hr.units) od_eq (dp_dget (hu_of hr) (dp_var (pv 6 rfl (Or.inr (Or.inl rfl)))) (dp_var (pv 7 rfl (Or.inl rfl))) (fun _ _ => rfl)) (DF.dp (df_lst da_nil)) (nomark _)))) (fun _ _ _ _ _ => (dp_var (pv 7 rfl (Or.inl rfl)))))) da_nil))))))) ?_, FunD.bindsN F (fun _ _ _ _ _ _ us hl => match us, hl with | [_, _, _, _], _ => rfl), bindsKR F (fun _ _ _ _ _ _ us ws hl => by refine split4 (p := fun us ws => bindArgs _ ⟨us, List.zip _ ws⟩ = pure (List.zip _ (us ++ ws.reverse))) ?_ ?_ ?_ ?_ ?_ us ws hl <;> (intros; rfl)), F.kp, B.glo _ (B.says.fact 32 (f := .glo "can_come_first") rfl)⟩
  rintro ds Q ⟨d1, d2, d3, d4, n, bs, one, other, ps, rfl, k1, k2, k3, k4, e1, e2, e3, e4, v, v1, v2, v3, vn, q⟩
  have M := ma_of (ps := ps) (other := other) v v1 vn.few
  refine ⟨_, rfl, _, rfl, _, rfl, _, rfl, _, _, _, _, _, _, _, _, _, rfl, k1, k2, k3, k4, e1, e2, e3, e4, v, v1, v2, v3, vn, _, rfl, rfl, ?_⟩
  generalize hms : srt (mvRaw one other ps) = ms at M q
  generalize has : srtA (arRaw n bs ms) = as at M
  refine ⟨_, rfl, _, rfl, ms, as, rfl, M.nd, M.len, M.al, fun a ha => ((M.mem a.1 a.2).mp ha).2.1, ?_⟩
  have mlen := M.len
  refine lcF (ti := dSeq (dV 4)) ms eM (fun m => !ms.any fun k => arr n bs k m) id (fun m => eM m) (fun R hR => ⟨_, rfl, _, rfl, hR⟩) (by omega) (fun k hk R h1 R2 h2 => ?_) ?_
  · refine ⟨_, rfl, _, rfl, kM k, _, _, rfl, rfl, getL_map hk, Nat.zero_le _, (Pl.lst (n := 1) (by rw [← pre_eM]; exact pl_map pl_M)).sh, rfl, _, rfl, ?_⟩
    · rw [show PyData.eqv (.list ((as.filter fun a => decide (a.2 = k)).map fun a => eM a.1)) (.list []) = (!ms.any fun j => arr n bs j k) from ?_]
      · cases hd : (!ms.any fun j => arr n bs j k) with
        | true => exact ⟨_, rfl, h1 hd⟩
        | false => exact h2 hd
      · rw [PyData.eqv, eqvAll_nil, ← pre_eM]
        cases hd : (ms.any fun j => arr n bs j k) with
        | true =>
          obtain ⟨j, hj, ha⟩ := List.any_eq_true.mp hd
          have := mem_pre.mpr ((M.mem j k).mpr ⟨hj, hk, ha⟩)
          cases e : pre as k with
          | nil => rw [e] at this; cases this
          | cons _ _ => rfl
        | false =>
          cases e : pre as k with
          | nil => rfl
          | cons j l =>
            have hj : j ∈ pre as k := by rw [e]; exact List.mem_cons_self
            obtain ⟨h1, _, h3⟩ := (M.mem j k).mp (mem_pre.mp hj)
            exact absurd (List.any_eq_true.mpr ⟨j, h1, h3⟩) (by rw [hd]; decide)
  · rw [List.map_id]
    exact ⟨_, _, rfl, rfl, q⟩
theorem o_can_come_first (B : B0 K mg) : Ok P w K mg base "can_come_first" ["frame", "one", "other", "passing"] 11 C_can_come_first := let ⟨fd, a, b, _, d, e⟩ := ob_can_come_first B; ⟨fd, a, b, d, e⟩
theorem ok_can_come_first (B : B0 K mg) : OkK P w K mg base "can_come_first" ["frame", "one", "other", "passing"] ["passing", "other", "one", "frame"] 11 C_can_come_first := let ⟨fd, a, _, c, d, e⟩ := ob_can_come_first B; ⟨fd, a, c, d, e⟩
def C_is_order : TF := fun ds P => ∃ (d1 d2 d3 d4 : PyData) (n : Int) (bs : List Pr) (one other : List Int) (ps : List Pr) (d : PyData), ds = [d1, d2, d3, d4, d] ∧ okD 6 d1 = true ∧ okD 6 d2 = true ∧ okD 6 d3 = true ∧ okD 6 d4 = true ∧ tupledD d1 = eF n bs ∧ tupledD d2 = eS one ∧ tupledD d3 = eS other ∧ tupledD d4 = eTP ps ∧
  VF n bs ∧ VS n bs one ∧ VS n bs other ∧ VPs n bs one other ps ∧ VN one other ps ∧ ((isTup d = false ∧ isDic d = false ∧ P (.bool false)) ∨ (∃ x xs, d = .tuple (.list x :: xs) ∧ (∀ y ∈ xs, ∃ z, y = .list z) ∧ xs.length < 100 ∧ P (.bool false)) ∨
  (∃ os : List Mv, d = eTM os ∧ os.length < 200 ∧ ∀ b : Bool, (b = true ↔ os.Perm (mvRaw one other ps) ∧ ∀ x ∈ mvRaw one other ps, ∀ y ∈ mvRaw one other ps, arr n bs x y = true → os.idxOf x < os.idxOf y) → P (.bool b)))
abbrev N_is_order : List Str := ["frame", "one", "other", "passing", "thing", "moved", "arrowed"]
theorem sc_is_order : FnScope N_is_order ["frame", "one", "other", "passing", "thing"] (defScope s_is_order) := ⟨rfl, rfl, rfl, by decide +kernel, rfl, by decide +kernel, by decide +kernel⟩
theorem o_is_order (B : B0 K mg) : Ok P w K mg base "is_order" ["frame", "one", "other", "passing", "thing"] 11 C_is_order := by
  have nd := sc_is_order.nd
  obtain ⟨fd, F⟩ := B.says.def_ 33 (d := mkD "is_order" s_is_order) rfl
  refine ⟨fd, fn_dl (C := C_is_order) F sc_is_order (by rintro ds Q ⟨_, _, _, _, _, _, _, _, _, _, rfl, _⟩; rfl) (fun cdv A outer s H E hr => (dss_cons (ds_asg (dp_fn (o_moved_sure B) hr (by rfl) (da_cons (dp_var (pv 0 rfl (Or.inl rfl))) (da_cons (dp_var (pv 1 rfl (Or.inl rfl))) (da_cons (dp_var (pv 2 rfl (Or.inl rfl))) (da_cons (dp_var (pv 3 rfl (Or.inl rfl))) da_nil))))) (dg_tup rfl (dgs_cons (dg_name (pg_name (i := 5) nd rfl (Or.inl rfl))) (dgs_cons (dg_name (pg_name (i := 6) nd rfl (Or.inl rfl))) dgs_nil))))
    (dss_one (ds_ret (dp_fn (o_is_order_in B) hr (by rfl) (da_cons (dp_var (pv 5 rfl (Or.inl rfl))) (da_cons (dp_var (pv 6 rfl (Or.inl rfl))) (da_cons (dp_var (pv 4 rfl (Or.inl rfl))) da_nil)))))))) ?_, FunD.bindsN F (fun _ _ _ _ _ _ us hl => match us, hl with | [_, _, _, _, _], _ => rfl), F.kp, B.glo _ (B.says.fact 33 (f := .glo "is_order") rfl)⟩
  rintro ds Q ⟨d1, d2, d3, d4, n, bs, one, other, ps, d, rfl, k1, k2, k3, k4, e1, e2, e3, e4, v, v1, v2, v3, vn, h⟩
  have M := ma_of (ps := ps) (other := other) v v1 vn.few
  refine ⟨_, rfl, _, rfl, _, rfl, _, rfl, _, _, _, _, _, _, _, _, _, rfl, k1, k2, k3, k4, e1, e2, e3, e4, v, v1, v2, v3, vn, _, rfl, rfl, ?_⟩
  generalize hms : srt (mvRaw one other ps) = ms at M
  generalize has : srtA (arRaw n bs ms) = as at M
  refine ⟨_, rfl, _, rfl, _, rfl, ms, as, d, rfl, ?_⟩
  rcases h with h | h | ⟨os, rfl, ol, q⟩
  · exact .inl h
  · exact .inr (.inl h)
  · refine .inr (.inr ⟨os, rfl, ol, M.len, M.nd, M.srt, M.al, fun a ha => ⟨((M.mem a.1 a.2).mp ha).1, ((M.mem a.1 a.2).mp ha).2.1⟩, fun b hb => q b (hb.trans ?_)⟩)
    constructor
    · exact fun ⟨p, h⟩ => ⟨p.trans M.p, fun x hx y hy hxy => h (x, y) ((M.mem x y).mpr ⟨M.p.mem_iff.mpr hx, M.p.mem_iff.mpr hy, hxy⟩)⟩
    · exact fun ⟨p, h⟩ => ⟨p.trans M.p.symm, fun a ha => by
        obtain ⟨h1, h2, h3⟩ := (M.mem a.1 a.2).mp ha
        exact h a.1 (M.p.mem_iff.mp h1) a.2 (M.p.mem_iff.mp h2) h3⟩
end
end EvL

-- text D9
set_option Elab.async false
set_option linter.all false
set_option maxRecDepth 100000
set_option maxHeartbeats 4000000
namespace EvL
open PySem PySem.Spec PyProof.Rows L2 DL
section
variable {P : Program} {w : World} {K : PySem.W.Frag} {mg : Str → Option Value} {base : Heap}
theorem cmul_r {i j : Int} (h1 : -10000000000000000 ≤ j) (h2 : j ≤ 10000000000000000) : CMul i j := .inr ⟨by rw [show (2 : Int) ^ 64 = 18446744073709551616 from rfl]; omega, by rw [show (2 : Int) ^ 64 = 18446744073709551616 from rfl]; omega⟩
def C_law_take : TFM := fun ds n P => ∃ b : Int, ds = [.int b] ∧ 0 < b ∧ b < 1073741824 ∧ n ≤ 1000000000000 ∧ ∀ r m, 0 ≤ r → r < b → n ≤ m → m ≤ n + 1 → P (.int r) m
abbrev N_law_take : List Str := ["_law_tin", "_law_below_so", "_law_draw_so", "_law_once_so", "_law_wide_so", "_law_twice_so"]
theorem sc_law_take : FnScope N_law_take ["_law_tin", "_law_below_so"] (defScope s_law_take) := ⟨rfl, rfl, rfl, by decide +kernel, rfl, by decide +kernel, by decide +kernel⟩
theorem o_law_take (B : B0 K mg) : OkT P w K mg base "_law_take" ["_law_tin", "_law_below_so"] 1 C_law_take := by
  have nd := sc_law_take.nd
  obtain ⟨fd, F⟩ := B.says.def_ 35 (d := mkD "_law_take" s_law_take) rfl
  refine ⟨fd, fn_dm (C := C_law_take) F sc_law_take (by rintro ds n Q ⟨_, rfl, _⟩; rfl) (fun cdv A outer s H E hr => (dss_cons (ds_if (dt_cmp op_gt od_gt (dp_tin (pv 0 rfl (Or.inl rfl)) dp_int (fun _ _ => rfl)) dp_int (nomark _)) (dss_cons (ds_set (i := 2) nd rfl (Or.inl rfl) (DP.de (dp_op op_mod od_mod (dp_callTy call_int1 cd_int (by rfl) (f_int B) (by decide +kernel) (da_cons (dp_tin (pv 0 rfl (Or.inl rfl)) dp_int (fun _ _ => rfl)) da_nil)) (dp_var (pv 1 rfl (Or.inl rfl))))))
    (dss_cons (ds_tinSet (pv 0 rfl (Or.inl rfl)) dp_int (dp_op op_fdiv od_fdiv (dp_tin (pv 0 rfl (Or.inl rfl)) dp_int (fun _ _ => rfl)) (dp_var (pv 1 rfl (Or.inl rfl)))))
    (dss_one (ds_ret (dp_var (pv 2 rfl (Or.inl rfl))))))) dss_nil)
    (dss_cons (ds_tinSet (pv 0 rfl (Or.inl rfl)) dp_int (dp_op op_add3 od_add (dp_tin (pv 0 rfl (Or.inl rfl)) dp_int (fun _ _ => rfl)) dp_int))
    (dss_cons (ds_set (i := 3) nd rfl (Or.inl rfl) (DP.de (dp_op op_mod od_mod (dp_callTy call_int1 cd_int (by rfl) (f_int B) (by decide +kernel) (da_cons (dp_op op_mul3 od_mul (dp_op op_add3 od_add (dp_tin (pv 0 rfl (Or.inl rfl)) dp_int (fun _ _ => rfl)) (dp_op op_mul3 od_mul dp_int (dp_tin (pv 0 rfl (Or.inl rfl)) dp_int (fun _ _ => rfl)))) (dp_op op_add3 od_add dp_int (dp_tin (pv 0 rfl (Or.inl rfl)) dp_int (fun _ _ => rfl)))) da_nil)) dp_int)))
    (dss_cons (ds_set (i := 4) nd rfl (Or.inl rfl) (DP.de (dp_op op_add3 od_add (dp_op op_mod od_mod (dp_callTy call_int1 cd_int (by rfl) (f_int B) (by decide +kernel) (da_cons (dp_var (pv 3 rfl (Or.inl rfl))) da_nil)) dp_int) dp_int)))
    (dss_cons (ds_set (i := 5) nd rfl (Or.inl rfl) (DP.de (dp_op op_mod od_mod (dp_callTy call_int1 cd_int (by rfl) (f_int B) (by decide +kernel) (da_cons (dp_op op_mul3 od_mul (dp_op op_add3 od_add (dp_op op_add3 od_add (dp_var (pv 3 rfl (Or.inl rfl))) (dp_tin (pv 0 rfl (Or.inl rfl)) dp_int (fun _ _ => rfl))) (dp_op op_fdiv od_fdiv (dp_tin (pv 0 rfl (Or.inl rfl)) dp_int (fun _ _ => rfl)) dp_int)) (dp_var (pv 4 rfl (Or.inl rfl)))) da_nil)) dp_int)))
    (dss_one (ds_ret (dp_op op_mod od_mod (dp_callTy call_int1 cd_int (by rfl) (f_int B) (by decide +kernel) (da_cons (dp_op op_fdiv od_fdiv (dp_op op_mod od_mod (dp_callTy call_int1 cd_int (by rfl) (f_int B) (by decide +kernel) (da_cons (dp_op op_add3 od_add (dp_op op_mul3 od_mul (dp_var (pv 5 rfl (Or.inl rfl))) dp_int) (dp_var (pv 3 rfl (Or.inl rfl)))) da_nil)) dp_int) dp_int) da_nil)) (dp_var (pv 1 rfl (Or.inl rfl)))))))))))) ?_, FunD.bindsN F (fun _ _ _ _ _ _ us hl => match us, hl with | [_, _], _ => rfl), F.kp, B.glo _ (B.says.fact 35 (f := .glo "_law_take") rfl)⟩
  rintro t ds n Q ⟨b, rfl, h0, h1, hn, q⟩
  refine ⟨t, n, rfl, 0, rfl, .inl ⟨rfl, fun x => ⟨_, rfl, ?_⟩⟩⟩
  cases hd : decide (x > 0) with
  | true =>
    refine ⟨t, n, rfl, 0, rfl, .inl ⟨rfl, fun y => .inl ⟨_, rfl, _, rfl, h0, ?_⟩⟩⟩
    refine ⟨t, n, rfl, 0, rfl, .inl ⟨rfl, fun z => ⟨_, rfl, ?_, _, rfl, t, n, rfl, 0, n, rfl, .inl ⟨rfl, rfl⟩, ?_⟩⟩⟩
    · exact ⟨h0, h1⟩
    · exact ⟨_, rfl, n, rfl, q _ _ (Int.emod_nonneg _ (by omega)) (Int.emod_lt_of_pos _ h0) (Nat.le_refl _) (by omega)⟩
  | false =>
    refine ⟨t, n, rfl, 2, rfl, .inr (.inr ⟨rfl, fun c c0 c1 => ⟨_, rfl, t, n, rfl, 2, n + 1, rfl, .inr ⟨rfl, by omega, by omega⟩, ?_⟩⟩)⟩
    refine ⟨t, n + 1, rfl, 1, rfl, .inr (.inl ⟨rfl, fun u u0 u1 => ⟨t, n + 1, rfl, 2, rfl, .inr (.inr ⟨rfl, fun c2 c20 c21 => ⟨cmul_r (by omega) (by omega), t, n + 1, rfl, 2, rfl, .inr (.inr ⟨rfl, fun c3 c30 c31 => ⟨cmul_r (by omega) (by omega), .inl ⟨_, rfl, by show (0 : Int) < 2147483647; decide, ?_⟩⟩⟩)⟩⟩)⟩⟩)⟩
    have o0 := Int.emod_nonneg ((u + 48271 * c2) * (39373 + c3)) (show (2147483647 : Int) ≠ 0 by decide)
    have o1 := Int.emod_lt_of_pos ((u + 48271 * c2) * (39373 + c3)) (show (0 : Int) < 2147483647 by decide)
    refine ⟨_, rfl, .inl ⟨_, rfl, by show (0 : Int) < 40009; decide, ?_⟩⟩
    have w0 := Int.emod_nonneg ((u + 48271 * c2) * (39373 + c3) % 2147483647) (show (40009 : Int) ≠ 0 by decide)
    have w1 := Int.emod_lt_of_pos ((u + 48271 * c2) * (39373 + c3) % 2147483647) (show (0 : Int) < 40009 by decide)
    refine ⟨_, rfl, t, n + 1, rfl, 2, rfl, .inr (.inr ⟨rfl, fun c4 c40 c41 => ⟨t, n + 1, rfl, 1, rfl, .inr (.inl ⟨rfl, fun u2 u20 u21 => ⟨⟨by decide, by decide⟩, _, rfl, cmul_r (by omega) (by omega), .inl ⟨_, rfl, by show (0 : Int) < 2147483629; decide, ?_⟩⟩⟩)⟩⟩)⟩
    refine ⟨_, rfl, cmul_r (by decide) (by decide), _, rfl, .inl ⟨_, rfl, by show (0 : Int) < 2147483587; decide, ⟨by decide, by decide⟩, .inl ⟨_, rfl, _, rfl, h0, n + 1, rfl, ?_⟩⟩⟩
    exact q _ _ (Int.emod_nonneg _ (by omega)) (Int.emod_lt_of_pos _ h0) (by omega) (Nat.le_refl _)
def C_law_of : TFM := fun ds n P => ∃ xs : List PyData, ds = [.list xs] ∧ 0 < xs.length ∧ xs.length < 1073741824 ∧ n ≤ 1000000000000 ∧ ∀ x m, x ∈ xs → n ≤ m → m ≤ n + 1 → P x m
abbrev N_law_of : List Str := ["_law_tin", "_law_goods_so"]
theorem sc_law_of : FnScope N_law_of ["_law_tin", "_law_goods_so"] (defScope s_law_of) := ⟨rfl, rfl, rfl, by decide +kernel, rfl, by decide +kernel, by decide +kernel⟩
theorem o_law_of (B : B0 K mg) : OkT P w K mg base "_law_of" ["_law_tin", "_law_goods_so"] 2 C_law_of := by
  have nd := sc_law_of.nd
  obtain ⟨fd, F⟩ := B.says.def_ 37 (d := mkD "_law_of" s_law_of) rfl
  refine ⟨fd, fn_dm (C := C_law_of) F sc_law_of (by rintro ds n Q ⟨_, rfl, _⟩; rfl) (fun cdv A outer s H E hr => (dss_one (dsm_ret (dm_ix (dm_of (dp_var (pv 1 rfl (Or.inl rfl)))) (dm_fn (o_law_take B) hr (by rfl) (pv 0 rfl (Or.inl rfl)) (dma_cons (dm_of (dp_callB call_len cd_len (by rfl) (f_len B) (by decide +kernel) (da_cons (dp_var (pv 1 rfl (Or.inl rfl))) da_nil))) dma_nil)) (fun _ _ => rfl))))) ?_, FunD.bindsN F (fun _ _ _ _ _ _ us hl => match us, hl with | [_, _], _ => rfl), F.kp, B.glo _ (B.says.fact 37 (f := .glo "_law_of") rfl)⟩
  rintro t ds n Q ⟨xs, rfl, h0, h1, hn, q⟩
  refine ⟨t, n, rfl, _, rfl, _, rfl, _, _, rfl, rfl, _, rfl, by omega, by omega, hn, fun r m r0 r1 m0 m1 => ?_⟩
  obtain ⟨x, hx⟩ : ∃ x, xs[r.toNat]? = some x := ⟨_, List.getElem?_eq_getElem (show r.toNat < xs.length by omega)⟩
  exact ⟨r0, x, hx, m, rfl, q x m (List.mem_of_getElem? hx) m0 m1⟩
def C_law_pick : TFM := fun ds n P => ∃ xs : List PyData, ds = [.tuple xs, .int (xs.length : Nat)] ∧ xs.length ≤ 1000 ∧ n ≤ 1000000000 ∧ ∀ ys m, (∀ y ∈ ys, y ∈ xs) → ys.length ≤ xs.length → n ≤ m → m ≤ n + 1000 → P (.list ys) m
abbrev N_law_pick : List Str := ["_law_tin", "_law_goods_so", "_law_count_so", "_law_pool_so", "_law_found", "_law_lap"]
theorem sc_law_pick : FnScope N_law_pick ["_law_tin", "_law_goods_so", "_law_count_so"] (defScope s_law_pick) := ⟨rfl, rfl, rfl, by decide +kernel, rfl, by decide +kernel, by decide +kernel⟩
theorem o_law_pick (B : B0 K mg) : OkT P w K mg base "_law_pick" ["_law_tin", "_law_goods_so", "_law_count_so"] 2 C_law_pick := by
  have nd := sc_law_pick.nd
  obtain ⟨fd, F⟩ := B.says.def_ 38 (d := mkD "_law_pick" s_law_pick) rfl
  refine ⟨fd, fn_dm (C := C_law_pick) F sc_law_pick (by rintro ds n Q ⟨_, rfl, _⟩; rfl) (fun cdv A outer s H E hr => (dss_cons (ds_par (i := 3) (j := 4) rfl nd rfl rfl (by decide) rfl rfl (DF.de (df_list (by rfl) (f_list B) (dp_var (pv 1 rfl (Or.inl rfl))))) (DF.de (df_lst da_nil)) (by rfl))
    (dss_cons (ds_for PassesOwn.never rfl (di_range1 (by rfl) (f_range B) (da_cons (dp_callB (cr_min2 rfl) cd_min (by rfl) (f_min B) (by decide +kernel) (da_cons (dp_callTy call_int1 cd_int (by rfl) (f_int B) (by decide +kernel) (da_cons (dp_var (pv 2 rfl (Or.inl rfl))) da_nil)) (da_cons (dp_lenO (x := "x") (pv 3 rfl (Or.inl rfl)) (by rfl) (f_len B)) da_nil))) da_nil)) (dg_name (pg_name (i := 5) nd rfl (Or.inl rfl))) (dss_one (ds_apop (k := .Name "x" ⟨0, 0, 0, 0⟩) (i := 3) (j := 4) (pv 3 rfl (Or.inl rfl)) (pv 4 rfl (Or.inl rfl)) (dm_fn (o_law_take B) hr (by rfl) (pv 0 rfl (Or.inl rfl)) (dma_cons (dm_of (dp_lenO (x := "x") (pv 3 rfl (Or.inl rfl)) (by rfl) (f_len B))) dma_nil)) (by decide) (by decide) (by decide))))
    (dss_frzS 4 (dss_one (ds_ret (dp_var (pv 4 rfl (Or.inl rfl))))))))) ?_, FunD.bindsN F (fun _ _ _ _ _ _ us hl => match us, hl with | [_, _, _], _ => rfl), F.kp, B.glo _ (B.says.fact 38 (f := .glo "_law_pick") rfl)⟩
  rintro t ds n Q ⟨xs, rfl, h1, hn, q⟩
  refine ⟨_, rfl, xs, rfl, by show 0 ≤ 16777216; decide, ?_⟩
  refine ⟨_, rfl, .inl ⟨_, rfl, xs, rfl, .inl ⟨_, _, rfl, _, rfl, by split <;> omega, ?_⟩⟩⟩
  have e : (if ((xs.length : Nat) : Int) < ((xs.length : Nat) : Int) then ((xs.length : Nat) : Int) else ((xs.length : Nat) : Int)).toNat = xs.length := by split <;> omega
  rw [e]
  have el : (rgD 0 xs.length).length = xs.length := by simp [rgD]
  refine ⟨fun i ρ => ∃ (pool found : List PyData) (m : Nat) (x5 : SV), ρ = [.tin t m, .sh (.tuple xs), .sh (.int (xs.length : Nat)), .ow pool, .ow found, x5] ∧ pool.length + i = xs.length ∧ found.length = i ∧ (∀ y ∈ pool, y ∈ xs) ∧ (∀ y ∈ found, y ∈ xs) ∧ n ≤ m ∧ m ≤ n + i, ?_, ?_, ?_⟩
  · exact ⟨xs, [], n, .un, rfl, rfl, rfl, fun y hy => hy, (fun _ z => nomatch z), Nat.le_refl _, by omega⟩
  · rintro i k ρ hi ⟨pool, found, m, x5, rfl, hp, hf, p1, p2, m0, m1⟩
    have hil := (List.getElem?_eq_some_iff.mp hi).1
    rw [el] at hil
    refine ⟨t, m, pool, found, rfl, rfl, rfl, pool, rfl, _, rfl, by omega, by omega, by omega, fun r m2 r0 r1 m20 m21 => ?_⟩
    have hr : r.toNat < pool.length := by omega
    refine ⟨r, _, rfl, r0, by rw [show (2 : Int) ^ 62 = 4611686018427387904 from rfl]; omega, List.getElem?_eq_getElem hr, by omega, pool.eraseIdx r.toNat, found ++ [pool[r.toNat]], m2, _, rfl, ?_, by simp [hf], fun y hy => p1 y (List.mem_of_mem_eraseIdx hy), fun y hy => ?_, by omega, by omega⟩
    · rw [List.length_eraseIdx_of_lt hr]; omega
    · rcases List.mem_append.mp hy with h | h
      · exact p2 y h
      · rw [List.mem_singleton.mp h]; exact p1 _ (List.getElem_mem hr)
  · rintro ρ ⟨pool, found, m, x5, rfl, hp, hf, p1, p2, m0, m1⟩
    rw [el] at hp hf m1
    exact ⟨_, _, rfl, rfl, _, rfl, m, rfl, q found m p2 (by omega) m0 (by omega)⟩
def C_law_lists : Nat → TF := fun n ds P => ∃ d, ds = [d] ∧ okD n d = true ∧ P (listsD d)
abbrev N_law_lists : List Str := ["_law_matter", "_law_bit"]
theorem sc_law_lists : FnScope N_law_lists ["_law_matter"] (defScope s_law_lists) := ⟨rfl, rfl, rfl, by decide +kernel, rfl, by decide +kernel, by decide +kernel⟩
theorem o_law_lists (B : B0 K mg) : ∀ n : Nat, Ok P w K mg base "_law_lists" ["_law_matter"] n (C_law_lists n) := by
  have nd := sc_law_lists.nd
  obtain ⟨fd, F⟩ := B.says.def_ 39 (d := mkD "_law_lists" s_law_lists) rfl
  have z : ∀ ds P, ¬ C_law_lists 0 ds P := by rintro ds P ⟨d, rfl, h, _⟩; simp [okD] at h
  intro n
  induction n with
  | zero => exact ⟨fd, ⟨fun _ _ _ _ ⟨_, _, _, _, _, c, _⟩ => absurd c (z _ _), fun _ _ _ _ _ _ _ _ _ _ _ _ _ ⟨_, _, _, _, _, c, _⟩ => absurd c (z _ _)⟩, FunD.bindsN F (fun _ _ _ _ _ _ us hl => match us, hl with | [_], _ => rfl), F.kp, B.glo _ (B.says.fact 39 (f := .glo "_law_lists") rfl)⟩
  | succ n IH =>
    refine ⟨fd, fn_dl (C := C_law_lists (n + 1)) F sc_law_lists (by rintro ds Q ⟨d, rfl, _⟩; rfl) (fun cdv A outer s H E hr => (dss_one (ds_ret (dp_if (dt_val (dp_isi2 tab_seq (dp_var (pv 0 rfl (Or.inl rfl))) (by rfl) (f_isinstance B) (pe_bltn (by rfl) (f_list B) (by decide +kernel) rfl) (pe_bltn (by rfl) (f_tuple B) (by decide +kernel) rfl))) (DF.dp (df_lc (own := [("_law_bit", 1)]) (ws := [1]) rfl nd (di_seq (dp_var (pv 0 rfl (Or.inl rfl)))) (blkOk_by (N := N_law_lists) (sc := (defScope s_law_lists)) (by decide +kernel)) (by decide) (fun _ _ _ _ _ => (dg_name (pg_name (i := 1) nd rfl (Or.inl rfl)))) (fun _ _ _ _ _ => dts_nil) (fun _ _ _ _ _ => (dp_fn IH hr (by rfl) (da_cons (dp_var (pv 1 rfl (Or.inl rfl))) da_nil) (Nat.le_refl _))))) (dp_var (pv 0 rfl (Or.inl rfl))))))) ?_, FunD.bindsN F (fun _ _ _ _ _ _ us hl => match us, hl with | [_], _ => rfl), F.kp, B.glo _ (B.says.fact 39 (f := .glo "_law_lists") rfl)⟩
    rintro ds Q ⟨d, rfl, ok, q⟩
    have seq : ∀ xs : List PyData, itemsOf d = some xs → isSeq d = true → xs.length < 16777216 → okAll n xs = true → Q (.list (xs.map listsD)) → dIf (dB (dIsi isSeq (dV 0))) (dOfF (dLc (dSeq (dV 0)) (dgName 1) dYes (dApp (C_law_lists n) (dCons (dV 1) dNil)) [1])) (dV 0) (startD N_law_lists [d]) Q := by
      intro xs hi hs hl ha hq
      refine ⟨_, rfl, okD_nd ok, _, rfl, ?_⟩
      rw [hs]
      refine lcM (ti := dSeq (dV 0)) xs id listsD id (fun R hR => ⟨_, rfl, xs, hi, by rwa [List.map_id] at hR⟩) hl (fun x hx R hR => ?_) ?_
      · exact ⟨_, rfl, _, rfl, okAll_iff.mp ha x hx, hR⟩
      · rw [List.map_id]
        exact hq
    cases d with
    | list xs =>
      rw [okD, Bool.and_eq_true, decide_eq_true_eq] at ok
      exact seq xs rfl rfl ok.1 ok.2 (by rw [listsD, listsAll_map] at q; exact q)
    | tuple xs =>
      rw [okD, Bool.and_eq_true, decide_eq_true_eq] at ok
      exact seq xs rfl rfl ok.1 ok.2 (by rw [listsD, listsAll_map] at q; exact q)
    | none => exact ⟨_, rfl, rfl, _, rfl, _, rfl, by rw [listsD] at q; exact q⟩
    | bool b => exact ⟨_, rfl, rfl, _, rfl, _, rfl, by rw [listsD] at q; exact q⟩
    | int i => exact ⟨_, rfl, rfl, _, rfl, _, rfl, by rw [listsD] at q; exact q⟩
    | str x => simp [okD] at ok
    | dict x => simp [okD] at ok
def C_law_same : Nat → TF := fun n ds P => ∃ d, ds = [d, d] ∧ okD n d = true ∧ P (.bool true)
abbrev N_law_same : List Str := ["_law_got", "_law_due", "_law_mine", "_law_its"]
theorem sc_law_same : FnScope N_law_same ["_law_got", "_law_due"] (defScope s_law_same) := ⟨rfl, rfl, rfl, by decide +kernel, rfl, by decide +kernel, by decide +kernel⟩
theorem o_law_same (B : B0 K mg) : ∀ n : Nat, Ok P w K mg base "_law_same" ["_law_got", "_law_due"] n (C_law_same n) := by
  have nd := sc_law_same.nd
  obtain ⟨fd, F⟩ := B.says.def_ 40 (d := mkD "_law_same" s_law_same) rfl
  have z : ∀ ds P, ¬ C_law_same 0 ds P := by rintro ds P ⟨d, rfl, h, _⟩; simp [okD] at h
  intro n
  induction n with
  | zero => exact ⟨fd, ⟨fun _ _ _ _ ⟨_, _, _, _, _, c, _⟩ => absurd c (z _ _), fun _ _ _ _ _ _ _ _ _ _ _ _ _ ⟨_, _, _, _, _, c, _⟩ => absurd c (z _ _)⟩, FunD.bindsN F (fun _ _ _ _ _ _ us hl => match us, hl with | [_, _], _ => rfl), F.kp, B.glo _ (B.says.fact 40 (f := .glo "_law_same") rfl)⟩
  | succ n IH =>
    refine ⟨fd, fn_dl (C := C_law_same (n + 1)) F sc_law_same (by rintro ds Q ⟨d, rfl, _⟩; rfl) (fun cdv A outer s H E hr => (dss_cons (ds_if (dt_val (dp_isi2 tab_seq (dp_var (pv 1 rfl (Or.inl rfl))) (by rfl) (f_isinstance B) (pe_bltn (by rfl) (f_list B) (by decide +kernel) rfl) (pe_bltn (by rfl) (f_tuple B) (by decide +kernel) rfl))) (dss_cons (ds_if (DW.dt (dw_or (dt_cmp (op_neD hr.units) od_ne (dp_isi tab_lst (dp_var (pv 0 rfl (Or.inl rfl))) (by rfl) (f_isinstance B) (pe_bltn (by rfl) (f_list B) (by decide +kernel) rfl)) (dp_isi tab_lst (dp_var (pv 1 rfl (Or.inl rfl))) (by rfl) (f_isinstance B) (pe_bltn (by rfl) (f_list B) (by decide +kernel) rfl)) (nomark _)) (dw_or1 (dt_cmp (op_neD hr.units) od_ne (dp_isi tab_tup (dp_var (pv 0 rfl (Or.inl rfl))) (by rfl) (f_isinstance B) (pe_bltn (by rfl) (f_tuple B) (by decide +kernel) rfl)) (dp_isi tab_tup (dp_var (pv 1 rfl (Or.inl rfl))) (by rfl) (f_isinstance B) (pe_bltn (by rfl) (f_tuple B) (by decide +kernel) rfl)) (nomark _))))) (dss_one (ds_ret dp_bl)) dss_nil)
    (dss_one (ds_ret (dp_and (dp_cmp (op_eqD hr.units) od_eq (dp_callB call_len cd_len (by rfl) (f_len B) (by decide +kernel) (da_cons (dp_var (pv 0 rfl (Or.inl rfl))) da_nil)) (dp_callB call_len cd_len (by rfl) (f_len B) (by decide +kernel) (da_cons (dp_var (pv 1 rfl (Or.inl rfl))) da_nil)) (nomark _)) (dp_one (dp_callB (cr_all rfl) cd_all (by rfl) (f_all B) (by decide +kernel) (da_cons (DF.dp (df_lc (own := [("_law_mine", 2), ("_law_its", 3)]) (ws := [2, 3]) rfl nd (di_zip (by rfl) (f_zip B) (da_cons (dp_var (pv 0 rfl (Or.inl rfl))) (da_cons (dp_var (pv 1 rfl (Or.inl rfl))) da_nil))) (blkOk_by (N := N_law_same) (sc := (defScope s_law_same)) (by decide +kernel)) (by decide) (fun _ _ _ _ _ => (dg_tup rfl (dgs_cons (dg_name (pg_name (i := 2) nd rfl (Or.inl rfl))) (dgs_cons (dg_name (pg_name (i := 3) nd rfl (Or.inl rfl))) dgs_nil)))) (fun _ _ _ _ _ => dts_nil) (fun _ _ _ _ _ => (dp_fn IH hr (by rfl) (da_cons (dp_var (pv 2 rfl (Or.inl rfl))) (da_cons (dp_var (pv 3 rfl (Or.inl rfl))) da_nil)) (Nat.le_refl _))))) da_nil))))))) dss_nil)
    (dss_cons (ds_if (DW.dt (dw_or (dt_isN (dp_var (pv 1 rfl (Or.inl rfl)))) (dw_or1 (dt_val (dp_isi2 tab_bs (dp_var (pv 1 rfl (Or.inl rfl))) (by rfl) (f_isinstance B) (pe_bltn (by rfl) (f_bool B) (by decide +kernel) rfl) (pe_bltn (by rfl) (f_str B) (by decide +kernel) rfl)))))) (dss_one (ds_ret (dp_and (dp_cmp (op_eqD hr.units) od_eq (dp_var (pv 0 rfl (Or.inl rfl))) (dp_var (pv 1 rfl (Or.inl rfl))) (nomark _)) (dp_and (dp_cmp (op_eqD hr.units) od_eq (dp_isi tab_bool (dp_var (pv 0 rfl (Or.inl rfl))) (by rfl) (f_isinstance B) (pe_bltn (by rfl) (f_bool B) (by decide +kernel) rfl)) (dp_isi tab_bool (dp_var (pv 1 rfl (Or.inl rfl))) (by rfl) (f_isinstance B) (pe_bltn (by rfl) (f_bool B) (by decide +kernel) rfl)) (nomark _)) (dp_one (dp_cmp (op_eqD hr.units) od_eq (dp_isN (dp_var (pv 0 rfl (Or.inl rfl)))) (dp_isN (dp_var (pv 1 rfl (Or.inl rfl)))) (nomark _))))))) dss_nil)
    (dss_one (ds_ret (dp_and (dp_isi tab_int (dp_var (pv 0 rfl (Or.inl rfl))) (by rfl) (f_isinstance B) (pe_bltn (by rfl) (f_int B) (by decide +kernel) rfl)) (dp_and (dp_not (dp_isi tab_bool (dp_var (pv 0 rfl (Or.inl rfl))) (by rfl) (f_isinstance B) (pe_bltn (by rfl) (f_bool B) (by decide +kernel) rfl))) (dp_one (dp_cmp (op_eqD hr.units) od_eq (dp_var (pv 0 rfl (Or.inl rfl))) (dp_var (pv 1 rfl (Or.inl rfl))) (nomark _)))))))))) ?_, FunD.bindsN F (fun _ _ _ _ _ _ us hl => match us, hl with | [_, _], _ => rfl), F.kp, B.glo _ (B.says.fact 40 (f := .glo "_law_same") rfl)⟩
    rintro ds Q ⟨d, rfl, ok, q⟩
    have nd := okD_nd ok
    have eb : ∀ b : Bool, PyData.eqv (.bool b) (.bool b) = true := fun b => by simp [PyData.eqv]
    have seq : ∀ (nx : List SV → Prop) (xs : List PyData), (d = .list xs ∨ d = .tuple xs) → itemsOf d = some xs → xs.length < 16777216 → okAll n xs = true →
        dThen (dIfS (dOr (dB (dOp gNe (dIsi isLst (dV 0)) (dIsi isLst (dV 1)))) (dB (dOp gNe (dIsi isTup (dV 0)) (dIsi isTup (dV 1))))) (dRet (dC (PyData.bool false))) dNext)
          (dRet (dAndV (dOp gEq (dApp gLen (dCons (dV 0) dNil)) (dApp gLen (dCons (dV 1) dNil)))
              (dApp gAll (dCons (dOfF (dLc (dZip (dCons (dV 0) (dCons (dV 1) dNil))) (dgTup [2, 3]) dYes (dApp (C_law_same n) (dCons (dV 2) (dCons (dV 3) dNil))) [2, 3])) dNil))))
          { nx := nx, rt := fun d x => Q d } (startD N_law_same [d, d]) := by
      intro nx xs hd hi hl ha
      refine ⟨_, rfl, nd, _, rfl, nd, rfl, rfl, _, rfl, ?_⟩
      rw [eb]
      refine ⟨_, rfl, nd, _, rfl, nd, rfl, rfl, _, rfl, ?_⟩
      rw [eb]
      refine ⟨_, rfl, d, xs, rfl, hi, _, rfl, d, xs, rfl, hi, rfl, rfl, _, rfl, ?_⟩
      rw [eqv_int, decide_eq_true rfl]
      refine lcM (ti := dZip (dCons (dV 0) (dCons (dV 1) dNil))) xs (fun x => .tuple [x, x]) (fun _ => true) PyData.bool (fun R hR => ⟨_, rfl, _, rfl, _, _, rfl, xs, xs, ?_, ?_⟩) hl (fun x hx R hR => ⟨_, rfl, rfl, _, rfl, _, rfl, x, rfl, okAll_iff.mp ha x hx, hR⟩) ?_
      · rcases hd with e | e
        · exact .inl ⟨e, e⟩
        · exact .inr ⟨e, e⟩
      · have : zipD xs xs = xs.map fun x => .tuple [x, x] := by
          clear ha hl hi hd hR
          induction xs with
          | nil => rfl
          | cons x xs ih => simp [zipD] at ih ⊢; exact ih
        rw [this]
        exact hR
      · refine ⟨_, rfl, ?_⟩
        have : ((xs.map fun _ => true).all id) = true := by simp
        rw [this]
        exact q
    cases d with
    | list xs =>
      rw [okD, Bool.and_eq_true, decide_eq_true_eq] at ok
      refine ⟨_, rfl, nd, _, rfl, ?_⟩
      exact seq _ xs (.inl rfl) rfl ok.1 ok.2
    | tuple xs =>
      rw [okD, Bool.and_eq_true, decide_eq_true_eq] at ok
      refine ⟨_, rfl, nd, _, rfl, ?_⟩
      exact seq _ xs (.inr rfl) rfl ok.1 ok.2
    | none =>
      refine ⟨_, rfl, nd, _, rfl, ?_⟩
      refine ⟨_, rfl, _, rfl, ?_⟩
      refine ⟨_, rfl, _, rfl, rfl, rfl, _, rfl, ?_⟩
      rw [show PyData.eqv .none .none = true from by simp [PyData.eqv]]
      refine ⟨_, rfl, nd, _, rfl, nd, rfl, rfl, _, rfl, ?_⟩
      rw [eb]
      refine ⟨_, rfl, _, rfl, rfl, rfl, ?_⟩
      rw [eb]
      exact q
    | bool b =>
      refine ⟨_, rfl, nd, _, rfl, ?_⟩
      refine ⟨_, rfl, _, rfl, ?_⟩
      refine ⟨_, rfl, nd, _, rfl, ?_⟩
      refine ⟨_, rfl, _, rfl, rfl, rfl, _, rfl, ?_⟩
      rw [eb]
      refine ⟨_, rfl, nd, _, rfl, nd, rfl, rfl, _, rfl, ?_⟩
      rw [eb]
      refine ⟨_, rfl, _, rfl, rfl, rfl, ?_⟩
      rw [eb]
      exact q
    | int i =>
      refine ⟨_, rfl, nd, _, rfl, ?_⟩
      refine ⟨_, rfl, _, rfl, ?_⟩
      refine ⟨_, rfl, nd, _, rfl, ?_⟩
      refine ⟨_, rfl, nd, _, rfl, ?_⟩
      refine ⟨_, rfl, nd, _, rfl, _, rfl, ?_⟩
      refine ⟨_, rfl, _, rfl, rfl, rfl, ?_⟩
      rw [eqv_int, decide_eq_true rfl]
      exact q
    | str x => simp [okD] at ok
    | dict x => simp [okD] at ok
def C_law_put : TF := fun ds P => ∃ (s : List Int) (k b : Int), ds = [eS s, .int k, .int b] ∧ 0 ≤ k ∧ k < s.length ∧ s.length < 1000 ∧ P (eS (s.set k.toNat b))
abbrev N_law_put : List Str := ["_law_row_so", "_law_place_so", "_law_bit_so"]
theorem sc_law_put : FnScope N_law_put ["_law_row_so", "_law_place_so", "_law_bit_so"] (defScope s_law_put) := ⟨rfl, rfl, rfl, by decide +kernel, rfl, by decide +kernel, by decide +kernel⟩
theorem o_law_put (B : B0 K mg) : Ok P w K mg base "_law_put" ["_law_row_so", "_law_place_so", "_law_bit_so"] 1 C_law_put := by
  have nd := sc_law_put.nd
  obtain ⟨fd, F⟩ := B.says.def_ 41 (d := mkD "_law_put" s_law_put) rfl
  refine ⟨fd, fn_dl (C := C_law_put) F sc_law_put (by rintro ds Q ⟨_, _, _, rfl, _⟩; rfl) (fun cdv A outer s H E hr => (dss_one (ds_ret (dp_op op_add3 od_add (dp_op op_add3 od_add (dp_slice (dp_var (pv 0 rfl (Or.inl rfl))) do_none (do_some (dp_var (pv 1 rfl (Or.inl rfl))))) (dp_tup (da_cons (dp_var (pv 2 rfl (Or.inl rfl))) da_nil))) (dp_slice (dp_var (pv 0 rfl (Or.inl rfl))) (do_some (dp_op op_add3 od_add (dp_var (pv 1 rfl (Or.inl rfl))) dp_int)) do_none))))) ?_, FunD.bindsN F (fun _ _ _ _ _ _ us hl => match us, hl with | [_, _, _], _ => rfl), F.kp, B.glo _ (B.says.fact 41 (f := .glo "_law_put") rfl)⟩
  rintro ds Q ⟨s, k, b, rfl, h0, h1, hl, q⟩
  obtain ⟨i, rfl⟩ : ∃ i : Nat, k = (i : Int) := ⟨k.toNat, by omega⟩
  refine ⟨_, rfl, _, rfl, _, rfl, by show 1 ≤ 16777216; decide, ?_⟩
  rw [cut_to, ← List.map_take]
  refine ⟨by simp; omega, ?_⟩
  refine ⟨_, rfl, _, rfl, ?_⟩
  show gAdd (.tuple ((s.take i).map PyData.int ++ [.int b])) (.tuple (DL.cutD (s.map PyData.int) (some ((i : Int) + 1)) none)) Q
  rw [show (i : Int) + 1 = ((i + 1 : Nat) : Int) by omega, cut_from, ← List.map_drop]
  refine ⟨by simp; omega, ?_⟩
  have e : (s.take i).map PyData.int ++ [PyData.int b] ++ (s.drop (i + 1)).map PyData.int = (s.set i b).map PyData.int := by
    rw [List.set_eq_take_append_cons_drop, if_pos (by omega)]
    simp
  show Q (.tuple _)
  rw [e]
  exact q
end
end EvL

-- text M1
set_option Elab.async false
set_option linter.all false
set_option maxHeartbeats 400000
/-! The plain law: rows of moves that can be walked are those that go along the arrows. -/
namespace EvL
/-- what stands after a row -/
def fin (s : List Int) (os : List Mv) : List Int := os.foldl (fun s m => s.set m.1.toNat m.2.2) s
theorem fin_snoc (s : List Int) (os : List Mv) (m : Mv) : fin s (os ++ [m]) = (fin s os).set m.1.toNat m.2.2 := by
  unfold fin
  rw [List.foldl_append]
  rfl
theorem fin_len (s : List Int) : ∀ os : List Mv, (fin s os).length = s.length := by
  intro os
  unfold fin
  induction os generalizing s with
  | nil => rfl
  | cons m os ih => rw [List.foldl_cons, ih, List.length_set]
/-- the deed of a move can be done -/
def Doable (bs : List Pr) (s : List Int) (m : Mv) : Prop := s[m.1.toNat]? = some m.2.1 ∧ ∀ k v, adj bs m.1 k = true → s[k.toNat]? = some v → m.2.2 ≤ v + 1 ∧ v ≤ m.2.2 + 1
def Wk (bs : List Pr) (one : List Int) (os : List Mv) : Prop := ∀ p m q, os = p ++ m :: q → Doable bs (fin one p) m
theorem wk_nil (bs : List Pr) (one : List Int) : Wk bs one [] := fun p m q h => by
  have := congrArg List.length h
  simp at this
theorem wk_snoc {bs : List Pr} {one : List Int} {os : List Mv} {m : Mv} : Wk bs one (os ++ [m]) ↔ Wk bs one os ∧ Doable bs (fin one os) m := by
  constructor
  · intro h
    exact ⟨fun p k q e => h p k (q ++ [m]) (by rw [e]; simp), h os m [] rfl⟩
  · rintro ⟨h, d⟩ p k q e
    rcases List.eq_nil_or_concat q with rfl | ⟨q', z, rfl⟩
    · have e' := List.append_inj' e rfl
      have e2 : m = k := by simpa using e'.2
      rw [← e'.1, ← e2]
      exact d
    · rw [List.concat_eq_append, ← List.cons_append, ← List.append_assoc] at e
      have e' := List.append_inj' e rfl
      exact h p k q' e'.1
structure Sys (n : Int) (bs : List Pr) (one other : List Int) (ps : List Pr) (ms : List Mv) : Prop where
  jk : ∀ j k, adj bs j k = true → 0 ≤ j ∧ j < n ∧ 0 ≤ k ∧ k < n ∧ j ≠ k
  l1 : (one.length : Int) = n
  l2 : (other.length : Int) = n
  s1 : ∀ j k x y, adj bs j k = true → one[j.toNat]? = some x → one[k.toNat]? = some y → x ≤ y + 1
  s2 : ∀ j k x y, adj bs j k = true → other[j.toNat]? = some x → other[k.toNat]? = some y → x ≤ y + 1
  pp : ∀ j k c, adj bs j k = true → (j, c) ∈ ps → (k, c) ∉ ps
  ap : Ap one other ps
  ms : ∀ m, m ∈ ms ↔ ∃ i x y, IsMv one other ps i x y m
  lo : ∀ x ∈ one, -400 ≤ x ∧ x ≤ 400
  ho : ∀ x ∈ other, -400 ≤ x ∧ x ≤ 400
theorem adj_symm {bs : List Pr} {j k : Int} (h : adj bs j k = true) : adj bs k j = true := by
  unfold adj at h ⊢
  rw [decide_eq_true_eq] at h ⊢
  exact h.symm
/-- a level that is not passed -/
def Kp (ps : List Pr) (i : Nat) (x y v : Int) : Prop := min x y ≤ v ∧ v ≤ max x y ∧ ((i : Int), v) ∉ ps
section
variable {n : Int} {bs : List Pr} {one other : List Int} {ps : List Pr} {ms : List Mv}
theorem kp_one (ap : Ap one other ps) {i : Nat} {x y : Int} (hx : one[i]? = some x) (hy : other[i]? = some y) : Kp ps i x y x := by
  refine ⟨by omega, by omega, fun h => ?_⟩
  have := ap.btw i x y x hx hy h
  omega
theorem kp_other (ap : Ap one other ps) {i : Nat} {x y : Int} (hx : one[i]? = some x) (hy : other[i]? = some y) : Kp ps i x y y := by
  refine ⟨by omega, by omega, fun h => ?_⟩
  have := ap.btw i x y y hx hy h
  omega
theorem IsMv.kf {i : Nat} {x y : Int} {m : Mv} (h : IsMv one other ps i x y m) : Kp ps i x y m.2.1 := ⟨h.a1, h.a2, h.j ▸ h.a⟩
theorem IsMv.kt {i : Nat} {x y : Int} {m : Mv} (h : IsMv one other ps i x y m) : Kp ps i x y m.2.2 := ⟨h.b1, h.b2, h.j ▸ h.b⟩
/-- no level is kept between both ends of a move -/
theorem IsMv.gap {i : Nat} {x y v : Int} {m : Mv} (h : IsMv one other ps i x y m) (k : Kp ps i x y v) : (x < y → (m.2.1 < m.2.2 ∧ (v ≤ m.2.1 ∨ m.2.2 ≤ v))) ∧ (y < x → (m.2.2 < m.2.1 ∧ (v ≤ m.2.2 ∨ m.2.1 ≤ v))) := by
  refine ⟨fun hu => ?_, fun hd => ?_⟩
  · rcases h.up hu with e | ⟨e, e2⟩
    · omega
    · by_cases hv : v = m.2.1 + 1
      · subst hv
        rw [h.j] at e2
        exact absurd e2 k.2.2
      · omega
  · rcases h.dn hd with e | ⟨e, e2⟩
    · omega
    · by_cases hv : v = m.2.1 - 1
      · subst hv
        rw [h.j] at e2
        exact absurd e2 k.2.2
      · omega
theorem mv_into (ap : Ap one other ps) {i : Nat} {x y v : Int} (hx : one[i]? = some x) (hy : other[i]? = some y) (k : Kp ps i x y v) (hv : v ≠ x) : ∃ m, IsMv one other ps i x y m ∧ m.2.2 = v := by
  obtain ⟨k1, k2, k3⟩ := k
  by_cases hu : x < y
  · by_cases h1 : ((i : Int), v - 1) ∈ ps
    · have b := ap.btw i x y _ hx hy h1
      have h2 : ((i : Int), v - 2) ∉ ps := fun h => by
        have := ap.ap i (v - 2) h
        rw [show v - 2 + 1 = v - 1 by omega] at this
        exact this h1
      refine ⟨(i, v - 2, v), ⟨rfl, hx, hy, by omega, by show _ ≤ v - 2; omega, by show v - 2 ≤ _; omega, k1, k2, h2, k3, fun _ => .inr ⟨by show v = v - 2 + 2; omega, ?_⟩, fun _ => by omega⟩, rfl⟩
      show ((i : Int), v - 2 + 1) ∈ ps
      rw [show v - 2 + 1 = v - 1 by omega]
      exact h1
    · exact ⟨(i, v - 1, v), ⟨rfl, hx, hy, by omega, by show _ ≤ v - 1; omega, by show v - 1 ≤ _; omega, k1, k2, h1, k3, fun _ => .inl (by show v = v - 1 + 1; omega), fun _ => by omega⟩, rfl⟩
  · by_cases h1 : ((i : Int), v + 1) ∈ ps
    · have b := ap.btw i x y _ hx hy h1
      have h2 : ((i : Int), v + 2) ∉ ps := fun h => by
        have := ap.ap i (v + 1) h1
        rw [show v + 1 + 1 = v + 2 by omega] at this
        exact this h
      refine ⟨(i, v + 2, v), ⟨rfl, hx, hy, by omega, by show _ ≤ v + 2; omega, by show v + 2 ≤ _; omega, k1, k2, h2, k3, fun _ => by omega, fun _ => .inr ⟨by show v = v + 2 - 2; omega, ?_⟩⟩, rfl⟩
      show ((i : Int), v + 2 - 1) ∈ ps
      rw [show v + 2 - 1 = v + 1 by omega]
      exact h1
    · exact ⟨(i, v + 1, v), ⟨rfl, hx, hy, by omega, by show _ ≤ v + 1; omega, by show v + 1 ≤ _; omega, k1, k2, h1, k3, fun _ => by omega, fun _ => .inl (by show v = v + 1 - 1; omega)⟩, rfl⟩
theorem mv_from (ap : Ap one other ps) {i : Nat} {x y v : Int} (hx : one[i]? = some x) (hy : other[i]? = some y) (k : Kp ps i x y v) (hv : v ≠ y) : ∃ m, IsMv one other ps i x y m ∧ m.2.1 = v := by
  obtain ⟨k1, k2, k3⟩ := k
  by_cases hu : x < y
  · by_cases h1 : ((i : Int), v + 1) ∈ ps
    · have b := ap.btw i x y _ hx hy h1
      have h2 : ((i : Int), v + 2) ∉ ps := fun h => by
        have := ap.ap i (v + 1) h1
        rw [show v + 1 + 1 = v + 2 by omega] at this
        exact this h
      exact ⟨(i, v, v + 2), ⟨rfl, hx, hy, by omega, k1, k2, by show _ ≤ v + 2; omega, by show v + 2 ≤ _; omega, k3, h2, fun _ => .inr ⟨rfl, h1⟩, fun _ => by omega⟩, rfl⟩
    · exact ⟨(i, v, v + 1), ⟨rfl, hx, hy, by omega, k1, k2, by show _ ≤ v + 1; omega, by show v + 1 ≤ _; omega, k3, h1, fun _ => .inl rfl, fun _ => by omega⟩, rfl⟩
  · by_cases h1 : ((i : Int), v - 1) ∈ ps
    · have b := ap.btw i x y _ hx hy h1
      have h2 : ((i : Int), v - 2) ∉ ps := fun h => by
        have := ap.ap i (v - 2) h
        rw [show v - 2 + 1 = v - 1 by omega] at this
        exact this h1
      exact ⟨(i, v, v - 2), ⟨rfl, hx, hy, by omega, k1, k2, by show _ ≤ v - 2; omega, by show v - 2 ≤ _; omega, k3, h2, fun _ => by omega, fun _ => .inr ⟨rfl, h1⟩⟩, rfl⟩
    · exact ⟨(i, v, v - 1), ⟨rfl, hx, hy, by omega, k1, k2, by show _ ≤ v - 1; omega, by show v - 1 ≤ _; omega, k3, h1, fun _ => by omega, fun _ => .inl rfl⟩, rfl⟩
/-- behind some moves: each jack stands at a kept level, done is what is not beyond -/
def Inv (one other : List Int) (ps : List Pr) (p : List Mv) (s : List Int) : Prop := ∀ (i : Nat) (x y : Int), one[i]? = some x → other[i]? = some y →
  ∃ v, s[i]? = some v ∧ Kp ps i x y v ∧ ∀ m, IsMv one other ps i x y m → (m ∈ p ↔ (x < y → m.2.2 ≤ v) ∧ (y < x → v ≤ m.2.2))
theorem inv_nil (ap : Ap one other ps) : Inv one other ps [] one := by
  intro i x y hx hy
  refine ⟨x, hx, kp_one ap hx hy, fun m hm => ⟨(fun h => nomatch h), fun h => ?_⟩⟩
  have g := hm.gap (kp_one ap hx hy)
  have h1 := hm.a1
  have h2 := hm.a2
  have ne := hm.ne
  omega
theorem inv_step {p : List Mv} {s : List Int} {i : Nat} {x y : Int} {m : Mv} (I : Inv one other ps p s) (h : IsMv one other ps i x y m) (e : s[i]? = some m.2.1) : Inv one other ps (p ++ [m]) (s.set i m.2.2) := by
  intro j x' y' hx hy
  obtain ⟨v, hv, kv, hd⟩ := I j x' y' hx hy
  by_cases hj : i = j
  · subst hj
    have ex := h.gx.symm.trans hx
    have ey := h.gy.symm.trans hy
    cases ex
    cases ey
    have ev := e.symm.trans hv
    cases ev
    have hl := (List.getElem?_eq_some_iff.mp hv).1
    refine ⟨m.2.2, List.getElem?_set_self hl, h.kt, fun k hk => ?_⟩
    rw [List.mem_append, List.mem_singleton, hd k hk]
    have g1 := hk.gap h.kf
    have g2 := hk.gap h.kt
    have g3 := h.gap hk.kf
    have g4 := h.gap hk.kt
    have ne := h.ne
    constructor
    · rintro (q | q)
      · omega
      · subst q; omega
    · intro q
      by_cases hq : k.2.2 = m.2.2
      · right
        refine Prod.ext (hk.j.trans h.j.symm) (Prod.ext ?_ hq)
        omega
      · left
        omega
  · refine ⟨v, by rw [List.getElem?_set_ne hj]; exact hv, kv, fun k hk => ?_⟩
    rw [List.mem_append, List.mem_singleton, hd k hk]
    constructor
    · rintro (q | q)
      · exact q
      · subst q
        have := hk.j.symm.trans h.j
        omega
    · exact .inl
theorem Sys.jack (S : Sys n bs one other ps ms) {j : Int} (h0 : 0 ≤ j) (h1 : j < n) : ∃ x y, one[j.toNat]? = some x ∧ other[j.toNat]? = some y := by
  have a := S.l1
  have b := S.l2
  exact ⟨_, _, List.getElem?_eq_getElem (show j.toNat < one.length by omega), List.getElem?_eq_getElem (show j.toNat < other.length by omega)⟩
/-- what an arrow says -/
theorem arr_cases {x y : Mv} (h : arr n bs x y = true) : (x.1 = y.1 ∧ x.2.2 = y.2.1) ∨ (x.1 ≠ y.1 ∧ adj bs x.1 y.1 = true ∧ ((x.2.1 < x.2.2 ∧ y.2.1 < y.2.2 ∧ x.2.1 ≤ y.2.2 - 2) ∨ (¬ x.2.1 < x.2.2 ∧ ¬ y.2.1 < y.2.2 ∧ y.2.2 + 2 ≤ x.2.1))) := by
  unfold arr isAhead at h
  rw [Bool.and_eq_true, Bool.or_eq_true, decide_eq_true_eq] at h
  obtain ⟨h1, h2⟩ := h
  by_cases e : x.1 = y.1
  · rw [if_pos e, decide_eq_true_eq] at h2
    exact .inl ⟨e, h2⟩
  · rw [if_neg e] at h2
    refine .inr ⟨e, h1.resolve_left e, ?_⟩
    by_cases u : x.2.1 < x.2.2 <;> by_cases w : y.2.1 < y.2.2 <;> simp [u, w] at h2
    · exact .inl ⟨u, w, h2⟩
    · exact .inr ⟨u, w, h2⟩
theorem arr_same {x y : Mv} (h : x.1 = y.1) (h2 : x.2.2 = y.2.1) : arr n bs x y = true := by
  unfold arr isAhead
  simp [h, h2]
theorem arr_up {x y : Mv} (h : adj bs x.1 y.1 = true) (ne : x.1 ≠ y.1) (h1 : x.2.1 < x.2.2) (h2 : y.2.1 < y.2.2) (h3 : x.2.1 ≤ y.2.2 - 2) : arr n bs x y = true := by
  unfold arr isAhead
  simp [h, ne, h1, h2, h3]
theorem arr_dn {x y : Mv} (h : adj bs x.1 y.1 = true) (ne : x.1 ≠ y.1) (h1 : x.2.2 < x.2.1) (h2 : y.2.2 < y.2.1) (h3 : y.2.2 + 2 ≤ x.2.1) : arr n bs x y = true := by
  have a : ¬ x.2.1 < x.2.2 := by omega
  have b : ¬ y.2.1 < y.2.2 := by omega
  unfold arr isAhead
  simp [h, ne, a, b, h3]
theorem Sys.up (S : Sys n bs one other ps ms) {i : Nat} {x y : Int} {m : Mv} (h : IsMv one other ps i x y m) : (x < y ∧ m.2.1 < m.2.2) ∨ (y < x ∧ m.2.2 < m.2.1) := by
  have := h.gap h.kf
  have := h.ne
  omega
/-- along the walk: what an arrow leads from is done -/
theorem Sys.fwd1 (S : Sys n bs one other ps ms) {p : List Mv} {s : List Int} {y : Mv} (I : Inv one other ps p s) (hy : y ∈ ms) (d : Doable bs s y) {x : Mv} (hx : x ∈ ms) (h : arr n bs x y = true) : x ∈ p := by
  obtain ⟨i, a, b, my⟩ := (S.ms y).mp hy
  obtain ⟨k, a', b', mx⟩ := (S.ms x).mp hx
  obtain ⟨v, hv, kv, hd⟩ := I k a' b' mx.gx mx.gy
  rw [hd x mx]
  rcases arr_cases h with ⟨e1, e2⟩ | ⟨ne, ad, h⟩
  · have ek : i = k := by have := my.j; have := mx.j; omega
    subst ek
    have e3 := d.1
    rw [my.j, Int.toNat_natCast, hv] at e3
    cases e3
    omega
  · have r := d.2 x.1 v (adj_symm ad) (by rw [mx.j, Int.toNat_natCast]; exact hv)
    have g := mx.gap kv
    have u := S.up mx
    omega
theorem Sys.inv (S : Sys n bs one other ps ms) {os : List Mv} (hm : ∀ m ∈ os, m ∈ ms) (w : Wk bs one os) : ∀ p q, os = p ++ q → Inv one other ps p (fin one p) := by
  intro p
  induction hl : p.length generalizing p with
  | zero =>
    intro q _
    rw [List.length_eq_zero_iff.mp hl]
    exact inv_nil S.ap
  | succ l ih =>
    intro q e
    rcases List.eq_nil_or_concat p with rfl | ⟨p', m, rfl⟩
    · cases hl
    · rw [List.concat_eq_append] at e ⊢
      have hm' : m ∈ ms := hm m (by rw [e]; simp)
      have I := ih p' (by simpa using hl) (m :: q) (by rw [e]; simp)
      obtain ⟨i, a, b, mv⟩ := (S.ms m).mp hm'
      have d := w p' m q (by rw [e]; simp)
      rw [fin_snoc]
      have e1 := d.1
      rw [mv.j, Int.toNat_natCast] at e1 ⊢
      exact inv_step I mv e1
theorem Sys.fwd (S : Sys n bs one other ps ms) {os : List Mv} (hm : ∀ m ∈ os, m ∈ ms) (w : Wk bs one os) {p q : List Mv} {x y : Mv} (e : os = p ++ y :: q) (hx : x ∈ ms) (h : arr n bs x y = true) : x ∈ p :=
  S.fwd1 (S.inv hm w p _ e) (hm y (by rw [e]; simp)) (w p y q e) hx h
/-- the heights are a STAND -/
def Std (bs : List Pr) (s : List Int) : Prop := ∀ j k x y, adj bs j k = true → s[j.toNat]? = some x → s[k.toNat]? = some y → x ≤ y + 1
theorem Sys.bwd1 (S : Sys n bs one other ps ms) {p : List Mv} {s : List Int} {y : Mv} (I : Inv one other ps p s) (T : Std bs s) (hy : y ∈ ms) (hn : y ∉ p) (h : ∀ x ∈ ms, arr n bs x y = true → x ∈ p) : Doable bs s y := by
  obtain ⟨i, a, b, my⟩ := (S.ms y).mp hy
  obtain ⟨v, hv, kv, hd⟩ := I i a b my.gx my.gy
  have hny : ¬ ((a < b → y.2.2 ≤ v) ∧ (b < a → v ≤ y.2.2)) := fun z => hn ((hd y my).mpr z)
  have uy := S.up my
  have gy := my.gap kv
  have ev : v = y.2.1 := by
    by_cases e : y.2.1 = a
    · have := kv.1
      have := kv.2.1
      omega
    · obtain ⟨x, mx, ex⟩ := mv_into S.ap my.gx my.gy my.kf e
      have hx : x ∈ ms := (S.ms x).mpr ⟨_, _, _, mx⟩
      have := (hd x mx).mp (h x hx (arr_same (mx.j.trans my.j.symm) ex))
      omega
  subst ev
  have e0 : s[y.1.toNat]? = some y.2.1 := by rw [my.j, Int.toNat_natCast]; exact hv
  refine ⟨e0, fun k u ad hu => ?_⟩
  obtain ⟨j0, j1, k0, k1, ne⟩ := S.jk _ _ ad
  obtain ⟨a', b', gx, gy'⟩ := S.jack k0 k1
  obtain ⟨u', hu', ku, hdk⟩ := I k.toNat a' b' gx gy'
  cases hu.symm.trans hu'
  have t1 := T _ _ _ _ ad e0 hu
  have t2 := T _ _ _ _ (adj_symm ad) hu e0
  have gyo : other[y.1.toNat]? = some b := by rw [my.j, Int.toNat_natCast]; exact my.gy
  have o1 := S.s2 _ _ _ _ ad gyo gy'
  have o2 := S.s2 _ _ _ _ (adj_symm ad) gy' gyo
  have yb1 := my.b1
  have yb2 := my.b2
  have kk : ((k.toNat : Nat) : Int) = k := by omega
  have ku1 := ku.1
  have ku2 := ku.2.1
  rcases uy with ⟨u1, u2⟩ | ⟨u1, u2⟩
  · refine ⟨?_, by omega⟩
    by_cases hc : y.2.2 ≤ u + 1
    · exact hc
    · exfalso
      have hub : u ≠ b' := by omega
      obtain ⟨x, mx, ex⟩ := mv_from S.ap gx gy' ku hub
      have hx : x ∈ ms := (S.ms x).mpr ⟨_, _, _, mx⟩
      have ux := S.up mx
      have ej : x.1 = k := mx.j.trans kk
      have h1 : x.2.1 < x.2.2 := by omega
      have h3 : x.2.1 ≤ y.2.2 - 2 := by omega
      have hp := (hdk x mx).mp (h x hx (arr_up (by rw [ej]; exact adj_symm ad) (by rw [ej]; exact Ne.symm ne) h1 u2 h3))
      omega
  · refine ⟨by omega, ?_⟩
    by_cases hc : u ≤ y.2.2 + 1
    · exact hc
    · exfalso
      have hub : u ≠ b' := by omega
      obtain ⟨x, mx, ex⟩ := mv_from S.ap gx gy' ku hub
      have hx : x ∈ ms := (S.ms x).mpr ⟨_, _, _, mx⟩
      have ux := S.up mx
      have ej : x.1 = k := mx.j.trans kk
      have h1 : x.2.2 < x.2.1 := by omega
      have h3 : y.2.2 + 2 ≤ x.2.1 := by omega
      have hp := (hdk x mx).mp (h x hx (arr_dn (by rw [ej]; exact adj_symm ad) (by rw [ej]; exact Ne.symm ne) h1 u2 h3))
      omega
theorem std_step {s : List Int} {m : Mv} (T : Std bs s) (hj : ∀ j k, adj bs j k = true → 0 ≤ j ∧ 0 ≤ k ∧ j ≠ k) (hm : 0 ≤ m.1) (d : Doable bs s m) : Std bs (s.set m.1.toNat m.2.2) := by
  intro j k x y ad hx hy
  obtain ⟨j0, k0, ne⟩ := hj _ _ ad
  have hl := (List.getElem?_eq_some_iff.mp d.1).1
  by_cases e1 : m.1 = j
  · subst e1
    rw [List.getElem?_set_self hl] at hx
    cases hx
    rw [List.getElem?_set_ne (by omega)] at hy
    have := d.2 _ _ ad hy
    omega
  · rw [List.getElem?_set_ne (by omega)] at hx
    by_cases e2 : m.1 = k
    · subst e2
      rw [List.getElem?_set_self hl] at hy
      cases hy
      have := d.2 _ _ (adj_symm ad) hx
      omega
    · rw [List.getElem?_set_ne (by omega)] at hy
      exact T _ _ _ _ ad hx hy
theorem Sys.bwd (S : Sys n bs one other ps ms) {os : List Mv} (hm : ∀ m ∈ os, m ∈ ms) (nd : os.Nodup) (h : ∀ p y q, os = p ++ y :: q → ∀ x ∈ ms, arr n bs x y = true → x ∈ p) : Wk bs one os := by
  have key : ∀ p q, os = p ++ q → Inv one other ps p (fin one p) ∧ Std bs (fin one p) := by
    intro p
    induction hl : p.length generalizing p with
    | zero =>
      intro q _
      rw [List.length_eq_zero_iff.mp hl]
      exact ⟨inv_nil S.ap, S.s1⟩
    | succ l ih =>
      intro q e
      rcases List.eq_nil_or_concat p with rfl | ⟨p', m, rfl⟩
      · cases hl
      · rw [List.concat_eq_append] at e ⊢
        have e2 : os = p' ++ m :: q := by rw [e]; simp
        obtain ⟨I, T⟩ := ih p' (by simpa using hl) _ e2
        have hm' : m ∈ ms := hm m (by rw [e]; simp)
        have hn : m ∉ p' := fun hc => by
          rw [e2, List.nodup_append] at nd
          exact nd.2.2 m hc m List.mem_cons_self rfl
        have d := S.bwd1 I T hm' hn (h p' m q e2)
        obtain ⟨i, a, b, mv⟩ := (S.ms m).mp hm'
        rw [fin_snoc]
        have e1 := d.1
        refine ⟨?_, std_step T (fun j k ad => ⟨(S.jk _ _ ad).1, (S.jk _ _ ad).2.2.1, (S.jk _ _ ad).2.2.2.2⟩) (by rw [mv.j]; omega) d⟩
        rw [mv.j, Int.toNat_natCast] at e1 ⊢
        exact inv_step I mv e1
  intro p y q e
  obtain ⟨I, T⟩ := key p _ e
  refine S.bwd1 I T (hm y (by rw [e]; simp)) (fun hc => ?_) (h p y q e)
  rw [e, List.nodup_append] at nd
  exact nd.2.2 y hc y List.mem_cons_self rfl
end
theorem idx_lt {os : List Mv} (nd : os.Nodup) {x y : Mv} (hy : y ∈ os) : os.idxOf x < os.idxOf y ↔ ∀ p q, os = p ++ y :: q → x ∈ p := by
  constructor
  · intro h p q e
    subst e
    have hn : y ∉ p := fun hc => by
      rw [List.nodup_append] at nd
      exact nd.2.2 y hc y List.mem_cons_self rfl
    rw [List.idxOf_append, List.idxOf_append, if_neg hn] at h
    by_cases hx : x ∈ p
    · exact hx
    · rw [if_neg hx, List.idxOf_cons_self] at h
      omega
  · intro h
    obtain ⟨p, q, e⟩ := List.append_of_mem hy
    have hx := h p q e
    subst e
    have hn : y ∉ p := fun hc => by
      rw [List.nodup_append] at nd
      exact nd.2.2 y hc y List.mem_cons_self rfl
    rw [List.idxOf_append, List.idxOf_append, if_neg hn, if_pos hx]
    have := List.idxOf_lt_length_of_mem hx
    omega
def Along (n : Int) (bs : List Pr) (ms os : List Mv) : Prop := ∀ x ∈ ms, ∀ y ∈ ms, arr n bs x y = true → os.idxOf x < os.idxOf y
theorem Sys.walk {n : Int} {bs : List Pr} {one other : List Int} {ps : List Pr} {ms : List Mv} (S : Sys n bs one other ps ms) (nd : ms.Nodup) {os : List Mv} (p : os.Perm ms) : Wk bs one os ↔ Along n bs ms os := by
  have hn : os.Nodup := p.nodup_iff.mpr nd
  constructor
  · intro w x hx y hy ha
    exact (idx_lt hn (p.mem_iff.mpr hy)).mpr fun p' q e => S.fwd (fun m h => p.mem_iff.mp h) w e hx ha
  · intro h
    refine S.bwd (fun m h => p.mem_iff.mp h) hn fun p' y q e x hx ha => ?_
    have hy : y ∈ os := by rw [e]; simp
    exact (idx_lt hn hy).mp (h x hx y (p.mem_iff.mp hy) ha) p' q e
end EvL

-- text M2
set_option Elab.async false
set_option linter.all false
set_option maxHeartbeats 400000
/-! The plain law: orders there are, what comes ahead in all of them, what can come first. -/
namespace EvL
def rk (m : Mv) : Int := if m.2.1 < m.2.2 then m.2.1 + m.2.2 else -(m.2.1 + m.2.2)
section
variable {n : Int} {bs : List Pr} {one other : List Int} {ps : List Pr} {ms : List Mv}
theorem Sys.rk_lt (S : Sys n bs one other ps ms) {x y : Mv} (hx : x ∈ ms) (hy : y ∈ ms) (h : arr n bs x y = true) : rk x < rk y := by
  obtain ⟨i, a, b, mx⟩ := (S.ms x).mp hx
  obtain ⟨j, a', b', my⟩ := (S.ms y).mp hy
  have ux := S.up mx
  have uy := S.up my
  unfold rk
  rcases arr_cases h with ⟨e1, e2⟩ | ⟨ne, ad, h⟩
  · have ej : i = j := by have := my.j; have := mx.j; omega
    subst ej
    cases mx.gx.symm.trans my.gx
    cases mx.gy.symm.trans my.gy
    rcases ux with ⟨u1, u2⟩ | ⟨u1, u2⟩
    · rw [if_pos u2, if_pos (by omega)]; omega
    · rw [if_neg (by omega), if_neg (by omega)]; omega
  · rcases h with ⟨u1, u2, u3⟩ | ⟨u1, u2, u3⟩
    · rw [if_pos u1, if_pos u2]
      have hu : a < b := by omega
      have hu' : a' < b' := by omega
      rcases mx.up hu with e | ⟨e, e1⟩
      · rcases my.up hu' with f | ⟨f, f1⟩ <;> omega
      · rcases my.up hu' with f | ⟨f, f1⟩
        · omega
        · by_cases hc : x.2.1 = y.2.1
          · rw [← hc] at f1
            exact absurd f1 (S.pp _ _ _ ad e1)
          · omega
    · rw [if_neg u1, if_neg u2]
      have hu : b < a := by omega
      have hu' : b' < a' := by omega
      rcases mx.dn hu with e | ⟨e, e1⟩
      · rcases my.dn hu' with f | ⟨f, f1⟩ <;> omega
      · rcases my.dn hu' with f | ⟨f, f1⟩
        · omega
        · by_cases hc : x.2.1 = y.2.1
          · rw [← hc] at f1
            exact absurd f1 (S.pp _ _ _ ad e1)
          · omega
theorem Sys.rk_b (S : Sys n bs one other ps ms) {x : Mv} (hx : x ∈ ms) : -800 ≤ rk x ∧ rk x ≤ 800 := by
  obtain ⟨i, a, b, mx⟩ := (S.ms x).mp hx
  have h1 := S.lo a (List.mem_of_getElem? mx.gx)
  have h2 := S.ho b (List.mem_of_getElem? mx.gy)
  have := mx.a1
  have := mx.a2
  have := mx.b1
  have := mx.b2
  unfold rk
  split <;> omega
theorem idx_sorted {key : Mv → Int} {os : List Mv} (pw : os.Pairwise fun a b => key a ≤ key b) {x y : Mv} (hx : x ∈ os) (hy : y ∈ os) (h : key x < key y) : os.idxOf x < os.idxOf y := by
  have lx := List.idxOf_lt_length_of_mem hx
  have ly := List.idxOf_lt_length_of_mem hy
  have ex : os[os.idxOf x] = x := List.getElem_idxOf lx
  have ey : os[os.idxOf y] = y := List.getElem_idxOf ly
  rcases Nat.lt_trichotomy (os.idxOf x) (os.idxOf y) with q | q | q
  · exact q
  · have : x = y := by rw [← ex, ← ey]; congr 1
    subst this
    omega
  · have := List.pairwise_iff_getElem.mp pw _ _ ly lx q
    rw [ex, ey] at this
    omega
theorem Sys.ext (S : Sys n bs one other ps ms) (D : Mv → Bool) (hD : ∀ x ∈ ms, ∀ y ∈ ms, arr n bs x y = true → D y = true → D x = true) : ∃ os : List Mv, os.Perm ms ∧ Along n bs ms os ∧ ∀ x ∈ ms, ∀ y ∈ ms, D x = true → D y = false → os.idxOf x < os.idxOf y := by
  let key : Mv → Int := fun m => rk m + if D m = true then 0 else 10000
  let le : Mv → Mv → Bool := fun a b => decide (key a ≤ key b)
  have pm : (ms.mergeSort le).Perm ms := List.mergeSort_perm ms le
  have pw : (ms.mergeSort le).Pairwise fun a b => key a ≤ key b := by
    refine List.Pairwise.imp (fun h => of_decide_eq_true h) (List.pairwise_mergeSort (le := le) ?_ ?_ ms)
    · intro a b c h1 h2
      have h1 := of_decide_eq_true h1
      have h2 := of_decide_eq_true h2
      exact decide_eq_true (Int.le_trans h1 h2)
    · intro a b
      rcases Int.le_total (key a) (key b) with h | h
      · simp [le, h]
      · simp [le, h]
  refine ⟨ms.mergeSort le, pm, fun x hx y hy h => ?_, fun x hx y hy h1 h2 => ?_⟩
  · refine idx_sorted pw (pm.mem_iff.mpr hx) (pm.mem_iff.mpr hy) ?_
    have := S.rk_lt hx hy h
    have d := hD x hx y hy h
    show rk x + (if D x = true then 0 else 10000) < rk y + (if D y = true then 0 else 10000)
    by_cases hy' : D y = true
    · rw [if_pos (d hy'), if_pos hy']; omega
    · rw [if_neg hy']
      split <;> omega
  · refine idx_sorted pw (pm.mem_iff.mpr hx) (pm.mem_iff.mpr hy) ?_
    have b1 := S.rk_b hx
    have b2 := S.rk_b hy
    show rk x + (if D x = true then 0 else 10000) < rk y + (if D y = true then 0 else 10000)
    rw [if_pos h1, if_neg (by rw [h2]; decide)]
    omega
theorem Lead.mem2 {k m : Mv} (h : Lead n bs ms k m) : m ∈ ms := by
  induction h with
  | one _ h _ => exact h
  | step _ _ _ _ ih => exact ih
theorem lead_idx {os : List Mv} (h : Along n bs ms os) {k m : Mv} (l : Lead n bs ms k m) : os.idxOf k < os.idxOf m := by
  induction l with
  | one h1 h2 h3 => exact h _ h1 _ h2 h3
  | step h1 h2 h3 _ ih => exact Nat.lt_trans (h _ h1 _ h2 h3) ih
/-- a row is an order -/
def IsRow (bs : List Pr) (one : List Int) (ms os : List Mv) : Prop := os.Perm ms ∧ Wk bs one os
theorem Sys.row (S : Sys n bs one other ps ms) (nd : ms.Nodup) {os : List Mv} : IsRow bs one ms os ↔ os.Perm ms ∧ Along n bs ms os :=
  ⟨fun ⟨p, w⟩ => ⟨p, (S.walk nd p).mp w⟩, fun ⟨p, w⟩ => ⟨p, (S.walk nd p).mpr w⟩⟩
theorem Sys.must (S : Sys n bs one other ps ms) (nd : ms.Nodup) {k m : Mv} (hk : k ∈ ms) (hm : m ∈ ms) : Lead n bs ms k m ↔ ∀ os, IsRow bs one ms os → os.idxOf k < os.idxOf m := by
  constructor
  · exact fun l os h => lead_idx ((S.row nd).mp h).2 l
  · intro h
    classical
    obtain ⟨os, p, al, ho⟩ := S.ext (fun x => decide (x = m ∨ Lead n bs ms x m)) (fun x hx y hy ha hy' => by
      refine decide_eq_true (.inr ?_)
      rcases of_decide_eq_true hy' with e | e
      · subst e
        exact .one hx hy ha
      · exact .step hx hy ha e)
    have h1 := h os ((S.row nd).mpr ⟨p, al⟩)
    by_cases hl : Lead n bs ms k m
    · exact hl
    · by_cases e : k = m
      · subst e; omega
      · have := ho m hm k hk (decide_eq_true (.inl rfl)) (decide_eq_false (fun z => z.elim e hl))
        omega
theorem Sys.some_row (S : Sys n bs one other ps ms) (nd : ms.Nodup) : ∃ os, IsRow bs one ms os := by
  obtain ⟨os, p, al, _⟩ := S.ext (fun _ => true) (fun _ _ _ _ _ _ => rfl)
  exact ⟨os, (S.row nd).mpr ⟨p, al⟩⟩
theorem Sys.first (S : Sys n bs one other ps ms) (nd : ms.Nodup) {m : Mv} (hm : m ∈ ms) : (∃ os, IsRow bs one ms os ∧ os.head? = some m) ↔ ∀ k ∈ ms, arr n bs k m = false := by
  constructor
  · rintro ⟨os, h, e⟩ k hk
    cases ha : arr n bs k m with
    | false => rfl
    | true =>
      have := ((S.row nd).mp h).2 k hk m hm ha
      cases os with
      | nil => cases e
      | cons z os =>
        cases e
        rw [List.idxOf_cons_self] at this
        omega
  · intro h
    obtain ⟨os, p, al, ho⟩ := S.ext (fun x => decide (x = m)) (fun x hx y hy ha hy' => by
      have := of_decide_eq_true hy'
      subst this
      rw [h x hx] at ha
      cases ha)
    refine ⟨os, (S.row nd).mpr ⟨p, al⟩, ?_⟩
    cases os with
    | nil => exact absurd (p.mem_iff.mpr hm) (by simp)
    | cons z os =>
      by_cases e : z = m
      · rw [e]; rfl
      · have hz : z ∈ ms := p.mem_iff.mp List.mem_cons_self
        have := ho m hm z hz (decide_eq_true rfl) (decide_eq_false e)
        rw [List.idxOf_cons_self] at this
        omega
end
end EvL

-- text M3
set_option Elab.async false
set_option linter.all false
set_option maxHeartbeats 400000
/-! All rows, lap by lap. -/
namespace EvL
noncomputable def doB (bs : List Pr) (s : List Int) (m : Mv) : Bool := @decide (Doable bs s m) (Classical.propDecidable _)
theorem doB_iff {bs : List Pr} {s : List Int} {m : Mv} : doB bs s m = true ↔ Doable bs s m := by
  unfold doB
  exact ⟨fun h => @of_decide_eq_true _ (Classical.propDecidable _) h, fun h => @decide_eq_true _ (Classical.propDecidable _) h⟩
noncomputable def addRow (bs : List Pr) (one : List Int) (ms : List Mv) (own : List Mv) : List (List Mv) := (ms.filter fun m => !decide (m ∈ own) && doB bs (fin one own) m).map fun m => own ++ [m]
noncomputable def rowsN (bs : List Pr) (one : List Int) (ms : List Mv) : Nat → List (List Mv)
  | 0 => [[]]
  | i + 1 => ((rowsN bs one ms i).map (addRow bs one ms)).flatten
section
variable {bs : List Pr} {one : List Int} {ms : List Mv}
theorem mem_addRow {own os : List Mv} : os ∈ addRow bs one ms own ↔ ∃ m, m ∈ ms ∧ m ∉ own ∧ Doable bs (fin one own) m ∧ os = own ++ [m] := by
  unfold addRow
  rw [List.mem_map]
  constructor
  · rintro ⟨m, hm, rfl⟩
    rw [List.mem_filter, Bool.and_eq_true, doB_iff] at hm
    exact ⟨m, hm.1, by simpa using hm.2.1, hm.2.2, rfl⟩
  · rintro ⟨m, h1, h2, h3, rfl⟩
    exact ⟨m, by rw [List.mem_filter, Bool.and_eq_true, doB_iff]; exact ⟨h1, by simpa using h2, h3⟩, rfl⟩
theorem mem_rowsN : ∀ {i : Nat} {os : List Mv}, os ∈ rowsN bs one ms i ↔ os.length = i ∧ os.Nodup ∧ (∀ m ∈ os, m ∈ ms) ∧ Wk bs one os
  | 0, os => by
    rw [rowsN, List.mem_singleton]
    constructor
    · rintro rfl
      exact ⟨rfl, List.nodup_nil, (fun _ h => nomatch h), wk_nil bs one⟩
    · rintro ⟨h, _⟩
      exact List.length_eq_zero_iff.mp h
  | i + 1, os => by
    rw [rowsN, List.mem_flatten]
    constructor
    · rintro ⟨l, hl, h⟩
      obtain ⟨own, ho, rfl⟩ := List.mem_map.mp hl
      obtain ⟨m, h1, h2, h3, rfl⟩ := mem_addRow.mp h
      obtain ⟨a1, a2, a3, a4⟩ := mem_rowsN.mp ho
      refine ⟨by simp [a1], ?_, fun k hk => ?_, wk_snoc.mpr ⟨a4, h3⟩⟩
      · rw [List.nodup_append]
        refine ⟨a2, by simp, fun x hx y hy e => ?_⟩
        rw [List.mem_singleton.mp hy] at e
        exact h2 (e ▸ hx)
      · rcases List.mem_append.mp hk with h | h
        · exact a3 k h
        · rw [List.mem_singleton.mp h]; exact h1
    · rintro ⟨a1, a2, a3, a4⟩
      rcases List.eq_nil_or_concat os with rfl | ⟨own, m, rfl⟩
      · cases a1
      · rw [List.concat_eq_append] at a1 a2 a3 a4 ⊢
        obtain ⟨w, d⟩ := wk_snoc.mp a4
        rw [List.nodup_append] at a2
        refine ⟨_, List.mem_map.mpr ⟨own, mem_rowsN.mpr ⟨by simpa using a1, a2.1, fun k hk => a3 k (List.mem_append_left _ hk), w⟩, rfl⟩, mem_addRow.mpr ⟨m, a3 m (by simp), fun hc => a2.2.2 m hc m (by simp) rfl, d, rfl⟩⟩
theorem addRow_len (own : List Mv) : (addRow bs one ms own).length ≤ ms.length := by
  unfold addRow
  rw [List.length_map]
  exact List.length_filter_le _ _
theorem rows_flat {c : Nat} : ∀ l : List (List Mv), ((l.map (addRow bs one ms)).flatten).length ≤ l.length * ms.length
  | [] => by simp
  | x :: l => by
    have ih := rows_flat (c := c) l
    have := addRow_len (bs := bs) (one := one) (ms := ms) x
    rw [List.map_cons, List.flatten_cons, List.length_append, List.length_cons, Nat.add_mul]
    omega
theorem rowsN_len : ∀ i : Nat, (rowsN bs one ms i).length ≤ ms.length ^ i
  | 0 => by simp [rowsN]
  | i + 1 => by
    rw [rowsN, Nat.pow_succ]
    exact Nat.le_trans (rows_flat (c := 0) _) (Nat.mul_le_mul_right _ (rowsN_len i))
theorem rowsN_b (h : ms.length ≤ 7) {i : Nat} (hi : i ≤ 7) : (rowsN bs one ms i).length ≤ 823543 := by
  refine Nat.le_trans (rowsN_len i) (Nat.le_trans (Nat.pow_le_pow_left h i) ?_)
  exact Nat.pow_le_pow_right (by decide) hi
theorem mem_rows (nd : ms.Nodup) {os : List Mv} : os ∈ rowsN bs one ms ms.length ↔ IsRow bs one ms os := by
  rw [mem_rowsN]
  constructor
  · rintro ⟨h1, h2, h3, h4⟩
    exact ⟨(perm_of_sub h2 h3 (by omega)).symm, h4⟩
  · rintro ⟨p, w⟩
    exact ⟨p.length_eq, p.nodup_iff.mpr nd, fun m h => p.mem_iff.mp h, w⟩
end
end EvL

-- text DL23
set_option Elab.async false
set_option linter.all false
set_option maxRecDepth 100000
set_option maxHeartbeats 4000000
/-! An int and a bool: added, taken away. -/
namespace DL
open PySem PySem.Spec PyProof.Rows L2
theorem same_refl_ib_sub : reflectedDiffers (.type "int") (.type "bool") "sub" = pure false := by
  unfold reflectedDiffers
  show (typeLookup (.type "bool") (dunderR "sub") >>= fun rb => typeLookup (.type "int") (dunderR "sub") >>= fun ra => pure (rb.isSome && rb != ra)) = pure false
  rw [typeLookup_type, typeLookup_type, builtinLookup_eq_fast]; kernel_rfl
section
variable {X : Cx}
theorem op_sub_ib : OpR X (binaryOp .Sub) (fun x y H Q => ∃ i k, x = .int i ∧ y = .bl k ∧ Q (.int (i - b2i k)) H) := by
  intro pins s σ H x y v u Q I rx ry h
  obtain ⟨i, k, rfl, rfl, q⟩ := h
  obtain ⟨t, rfl⟩ := rx
  cases ry
  exact binaryOp_sub_gives (op := .Sub) (T := "int") (U := "bool") (by decide) (typeIs_int s i t) rfl F.fills_int_sub F.fills_bool_sub isSubtype_bool_int same_refl_ib_sub F.slot_int_sub F.entry_int_sub (F.args_int_sub_2 _ _)
    (AutoIntG7.int___sub___int_bool_0 i t k) trivial ⟨.int (i - b2i k), H, I.tok _, ⟨_, rfl⟩, q⟩
def gIB (f : Int → Int → Int) : GD2 := fun x y P => match x, y with
  | .int i, .bool b => P (.int (f i (b2i b)))
  | _, _ => False
theorem od_addIB : OpD (fun x y H Q => ∃ i k, x = .int i ∧ y = .bl k ∧ Q (.int (i + b2i k)) H) (gIB (· + ·)) := by
  intro G H x y dx dy P Q s rx ry h k
  cases dx with
  | int i =>
    cases dy with
    | bool j => exact ⟨i, j, rx.int_of, ry.bl_of, k _ _ G H h (Grow.refl s) (.int _)⟩
    | _ => exact h.elim
  | _ => exact h.elim
theorem od_subIB : OpD (fun x y H Q => ∃ i k, x = .int i ∧ y = .bl k ∧ Q (.int (i - b2i k)) H) (gIB (· - ·)) := by
  intro G H x y dx dy P Q s rx ry h k
  cases dx with
  | int i =>
    cases dy with
    | bool j => exact ⟨i, j, rx.int_of, ry.bl_of, k _ _ G H h (Grow.refl s) (.int _)⟩
    | _ => exact h.elim
  | _ => exact h.elim
end
end DL

-- text V6
set_option Elab.async false
set_option linter.all false
set_option maxRecDepth 100000
set_option maxHeartbeats 4000000
/-! The law's side: frames drawn. -/
namespace EvL
open PySem PySem.Spec PyProof.Rows L2 DL
theorem lex_code {B : Int} : ∀ {x y : List Int}, x.length = y.length → TS.Bd B x → TS.Bd B y → TS.code B x ≤ TS.code B y → x = y ∨ HT.lexLt x y = true
  | [], [], _, _, _, _ => .inl rfl
  | [], _ :: _, h, _, _, _ => by simp at h
  | _ :: _, [], h, _, _, _ => by simp at h
  | a :: x, b :: y, h, h1, h2, hc => by
    have hl : x.length = y.length := by simpa using h
    rw [HT.lexLt_cons]
    rcases Int.lt_trichotomy a b with z | z | z
    · rw [if_neg (by omega)]
      exact .inr (decide_eq_true z)
    · subst z
      rw [if_pos rfl]
      have : TS.code B x ≤ TS.code B y := by
        by_cases q : TS.code B x ≤ TS.code B y
        · exact q
        · have := (TS.code_same (d := a) (B := B) hl.symm).mpr (show TS.code B y < TS.code B x by omega)
          omega
      rcases lex_code hl h1.tail h2.tail this with e | e
      · exact .inl (by rw [e])
      · exact .inr e
    · have := TS.code_lt hl.symm h2.tail h1.tail z
      omega
theorem lex_sorted {B : Int} {d : Nat} {ms : List (List Int)} (h : ∀ k ∈ ms, k.length = d ∧ TS.Bd B k) (nd : ms.Nodup) (pw : ms.Pairwise fun x y => TS.code B x ≤ TS.code B y) : ms.Pairwise fun x y => HT.lexLt x y = true := by
  have := List.Pairwise.and nd pw
  refine List.Pairwise.imp_of_mem (fun {x y} hx hy ⟨h1, h2⟩ => ?_) this
  exact (lex_code ((h x hx).1.trans (h y hy).1.symm) (h x hx).2 (h y hy).2 h2).resolve_left h1
theorem map_enc {α β : Type} (enc : α → β) : ∀ {ms : List β}, (∀ k ∈ ms, ∃ a, enc a = k) → ∃ as : List α, ms = as.map enc
  | [], _ => ⟨[], rfl⟩
  | k :: ms, h => by
    obtain ⟨a, rfl⟩ := h k List.mem_cons_self
    obtain ⟨as, rfl⟩ := map_enc enc (ms := ms) fun k hk => h k (List.mem_cons_of_mem _ hk)
    exact ⟨a :: as, rfl⟩
theorem asc_of_pw {α : Type} {r : α → α → Prop} {L : List α} (h : L.Pairwise r) (i : Nat) (x y : α) (hx : L[i]? = some x) (hy : L[i + 1]? = some y) : r x y := by
  obtain ⟨h1, e1⟩ := List.getElem?_eq_some_iff.mp hx
  obtain ⟨h2, e2⟩ := List.getElem?_eq_some_iff.mp hy
  have := List.pairwise_iff_getElem.mp h i (i + 1) h1 h2 (by omega)
  rw [e1, e2] at this
  exact this
/-- what is behind a conjunction that does not hold -/
theorem and_no {a b : Bool} {tB : TDT} {ρ : List SV} {F : Bool → Prop} (h : (a && b) = false) (hF : F false) (hB : F b → tB ρ F) : (fun c => if c = true then tB ρ F else F false) a := by
  cases a with
  | false => exact hF
  | true =>
    have hb : b = false := by simpa using h
    subst hb
    exact hB hF
theorem gLt_of {i j : Int} {P : PyData → Prop} (h : P (.bool (decide (i < j)))) : DL.gLt (.int i) (.int j) P := h
theorem gIB_of {f : Int → Int → Int} {i : Int} {b : Bool} {P : PyData → Prop} (h : P (.int (f i (b2i b)))) : DL.gIB f (.int i) (.bool b) P := h
theorem dec_and_no {p q : Prop} [Decidable p] [Decidable q] (h : ¬ (p ∧ q)) : (decide p && decide q) = false := by
  rw [Bool.and_eq_false_iff]
  by_cases hp : p
  · exact .inr (decide_eq_false fun z => h ⟨hp, z⟩)
  · exact .inl (decide_eq_false hp)
/-- pairs, either way about, are a frame's beams -/
theorem vf_of {k : Int} {ps bs : List Pr} (k2 : 2 ≤ k) (k8 : k ≤ 4) (h : ∀ p ∈ ps, 0 ≤ p.1 ∧ p.1 < k ∧ 0 ≤ p.2 ∧ p.2 < k ∧ p.1 ≠ p.2) (all : ∀ j, 0 ≤ j → j < k → ∃ p ∈ ps, j = p.1 ∨ j = p.2) (hl : bs.length < 32)
    (pw : bs.Pairwise fun x y => HT.lexLt (kP x) (kP y) = true) (hm : ∀ b, b ∈ bs ↔ ∃ p ∈ ps, b = (min p.1 p.2, max p.1 p.2)) : VF k bs := by
  refine ⟨k2, by omega, hl, fun b hb => ?_, asc_of_pw pw, fun j h0 h1 => ?_⟩
  · obtain ⟨p, hp, rfl⟩ := (hm b).mp hb
    have := h p hp
    show 0 ≤ min p.1 p.2 ∧ min p.1 p.2 < max p.1 p.2 ∧ max p.1 p.2 < k
    omega
  · obtain ⟨p, hp, e⟩ := all j h0 h1
    refine ⟨_, (hm _).mpr ⟨p, hp, rfl⟩, ?_⟩
    show j = min p.1 p.2 ∨ j = max p.1 p.2
    omega
def lineP (k : Int) : List Pr := (List.range (k - 1).toNat).map fun i : Nat => ((i : Int), (i : Int) + 1)
theorem mem_line {k : Int} {p : Pr} : p ∈ lineP k ↔ 0 ≤ p.1 ∧ p.1 < k - 1 ∧ p.2 = p.1 + 1 := by
  unfold lineP
  rw [List.mem_map]
  constructor
  · rintro ⟨i, hi, rfl⟩
    have := List.mem_range.mp hi
    refine ⟨by show (0 : Int) ≤ (i : Int); omega, by show (i : Int) < k - 1; omega, rfl⟩
  · rintro ⟨h0, h1, h2⟩
    refine ⟨p.1.toNat, List.mem_range.mpr (by omega), ?_⟩
    refine Prod.ext ?_ ?_
    · show ((p.1.toNat : Nat) : Int) = p.1; omega
    · show ((p.1.toNat : Nat) : Int) + 1 = p.2; omega
theorem line_all {k j : Int} (k2 : 2 ≤ k) (h0 : 0 ≤ j) (h1 : j < k) : ∃ p ∈ lineP k, j = p.1 ∨ j = p.2 := by
  by_cases h : j < k - 1
  · exact ⟨(j, j + 1), mem_line.mpr ⟨h0, h, rfl⟩, .inl rfl⟩
  · exact ⟨(j - 1, j), mem_line.mpr ⟨by show 0 ≤ j - 1; omega, by show j - 1 < k - 1; omega, by show j = j - 1 + 1; omega⟩, .inr rfl⟩
/-- the neighbours, ascending, as the law's side finds them -/
def nxt (bs : List Pr) (k : Int) : List Int := ((bs.filter fun b => decide (k = b.1 ∨ k = b.2)).map fun b => if b.1 = k then b.2 else b.1).mergeSort (dLe PyData.int)
theorem nxt_len (bs : List Pr) (k : Int) : (nxt bs k).length ≤ bs.length := by
  unfold nxt
  rw [(sort_perm PyData.int _).length_eq, List.length_map]
  exact List.length_filter_le _ _
theorem mem_nxt {n : Int} {bs : List Pr} (v : VF n bs) {k j : Int} : j ∈ nxt bs k ↔ adj bs k j = true := by
  unfold nxt adj
  rw [(sort_perm PyData.int _).mem_iff, List.mem_map, decide_eq_true_eq]
  constructor
  · rintro ⟨b, hb, e⟩
    obtain ⟨hb1, hb2⟩ := List.mem_filter.mp hb
    have hb2 := of_decide_eq_true hb2
    have := v.ok b hb1
    split at e
    · left
      rwa [show (k, j) = b from Prod.ext (by show k = b.1; omega) (by show j = b.2; omega)]
    · right
      rwa [show (j, k) = b from Prod.ext (by show j = b.1; omega) (by show k = b.2; omega)]
  · rintro (h | h)
    · exact ⟨(k, j), List.mem_filter.mpr ⟨h, decide_eq_true (.inl rfl)⟩, if_pos rfl⟩
    · have := v.ok _ h
      exact ⟨(j, k), List.mem_filter.mpr ⟨h, decide_eq_true (.inr rfl)⟩, if_neg (by show ¬ j = k; intro z; have h1 : j < k := this.2.1; omega)⟩
theorem adj_ok {n : Int} {bs : List Pr} (v : VF n bs) {j k : Int} (h : adj bs j k = true) : 0 ≤ j ∧ j < n ∧ 0 ≤ k ∧ k < n ∧ j ≠ k := by
  unfold adj at h
  rw [decide_eq_true_eq] at h
  rcases h with h | h
  · have := v.ok _ h
    simp only at this
    omega
  · have := v.ok _ h
    simp only at this
    omega
theorem VS.near {n : Int} {bs : List Pr} {s : List Int} (vs : VS n bs s) {j k x y : Int} (h : adj bs j k = true) (hx : s[j.toNat]? = some x) (hy : s[k.toNat]? = some y) : x ≤ y + 1 ∧ y ≤ x + 1 := by
  unfold adj at h
  rw [decide_eq_true_eq] at h
  rcases h with h | h
  · have := vs.ok _ h x y hx hy
    omega
  · have := vs.ok _ h y x hy hx
    omega
end EvL

-- text D10
set_option Elab.async false
set_option linter.all false
set_option maxRecDepth 100000
set_option maxHeartbeats 4000000
namespace EvL
open PySem PySem.Spec PyProof.Rows L2 DL
section
variable {P : Program} {w : World} {K : PySem.W.Frag} {mg : Str → Option Value} {base : Heap}
def C_law_joined : TF := fun ds P => ∃ (n : Int) (xs : List PyData) (ps : List Pr), ds = [.int n, .list xs] ∧ xs = ps.map eP ∧ ps.length < 30 ∧ (∀ p ∈ ps, 0 ≤ p.1 ∧ p.1 < 8 ∧ 0 ≤ p.2 ∧ p.2 < 8) ∧ ∀ bs : List Pr, bs.Pairwise (fun x y => HT.lexLt (kP x) (kP y) = true) → bs.length < 32 → (∀ b, b ∈ bs ↔ ∃ p ∈ ps, b = (min p.1 p.2, max p.1 p.2)) → P (eF n bs)
abbrev N_law_joined : List Str := ["_law_size_so", "_law_pairs_so", "_law_own"]
theorem sc_law_joined : FnScope N_law_joined ["_law_size_so", "_law_pairs_so"] (defScope s_law_joined) := ⟨rfl, rfl, rfl, by decide +kernel, rfl, by decide +kernel, by decide +kernel⟩
theorem o_law_joined (B : B0 K mg) : Ok P w K mg base "_law_joined" ["_law_size_so", "_law_pairs_so"] 1 C_law_joined := by
  have nd := sc_law_joined.nd
  obtain ⟨fd, F⟩ := B.says.def_ 42 (d := mkD "_law_joined" s_law_joined) rfl
  refine ⟨fd, fn_dl (C := C_law_joined) F sc_law_joined (by rintro ds Q ⟨_, _, _, rfl, _⟩; rfl) (fun cdv A outer s H E hr => (dss_one (ds_ret (dp_tup (da_cons (dp_var (pv 0 rfl (Or.inl rfl))) (da_cons (dp_callTy call_tuple_of cd_tup (by rfl) (f_tuple B) (by decide +kernel) (da_cons (dp_ssetT (hu65 hr) rfl (by rfl) (f_sorted B) (by rfl) (f_set B) (DF.dp (df_lc (own := [("_law_own", 2)]) (ws := [2]) rfl nd (di_seq (dp_var (pv 1 rfl (Or.inl rfl)))) (blkOk_by (N := N_law_joined) (sc := (defScope s_law_joined)) (by decide +kernel)) (by decide) (fun _ _ _ _ _ => (dg_name (pg_name (i := 2) nd rfl (Or.inl rfl)))) (fun _ _ _ _ _ => dts_nil) (fun _ _ _ _ _ => (dp_tup (da_cons (dp_callB (cr_minT rfl (hu65 hr)) cd_MM (by rfl) (f_min B) (by decide +kernel) (da_cons (dp_var (pv 2 rfl (Or.inl rfl))) da_nil)) (da_cons (dp_callB (cr_maxT rfl (hu65 hr)) cd_MM (by rfl) (f_max B) (by decide +kernel) (da_cons (dp_var (pv 2 rfl (Or.inl rfl))) da_nil)) da_nil))))))) da_nil)) da_nil)))))) ?_, FunD.bindsN F (fun _ _ _ _ _ _ us hl => match us, hl with | [_, _], _ => rfl), F.kp, B.glo _ (B.says.fact 42 (f := .glo "_law_joined") rfl)⟩
  rintro ds Q ⟨n, _, ps, rfl, rfl, hl, hb, q⟩
  refine ⟨_, rfl, ?_⟩
  refine lcM (ti := dSeq (dV 1)) ps eP (fun p => [min p.1 p.2, max p.1 p.2]) tupI (fun R hR => ⟨_, rfl, _, rfl, hR⟩) (by omega) (fun p hp R hR => ⟨_, rfl, _, _, rfl, _, rfl, _, _, rfl, by show 2 ≤ 16777216; decide, hR⟩) ?_
  refine ⟨ps.map fun p => [min p.1 p.2, max p.1 p.2], 2, 8, rfl, by decide, fun k hk => ?_, fun L nd hL => ?_, fun ms nd hm pw => ?_⟩
  · obtain ⟨p, hp, rfl⟩ := List.mem_map.mp hk
    have := hb p hp
    refine ⟨rfl, fun z hz => ?_⟩
    simp only [List.mem_cons, List.not_mem_nil, or_false] at hz
    omega
  · have := nodup_le nd hL
    rw [List.length_map] at this
    omega
  · have hk : ∀ k ∈ ms, k.length = 2 ∧ TS.Bd 8 k := fun k hk => by
      obtain ⟨p, hp, rfl⟩ := List.mem_map.mp ((hm k).mp hk)
      have := hb p hp
      refine ⟨rfl, fun z hz => ?_⟩
      simp only [List.mem_cons, List.not_mem_nil, or_false] at hz
      omega
    have pw2 := lex_sorted hk nd pw
    have len : ms.length ≤ ps.length := by
      have := nodup_le nd fun k hk => (hm k).mp hk
      rwa [List.length_map] at this
    obtain ⟨bs, rfl⟩ := map_enc kP (ms := ms) fun k hk => by
      obtain ⟨p, hp, rfl⟩ := List.mem_map.mp ((hm k).mp hk)
      exact ⟨(min p.1 p.2, max p.1 p.2), rfl⟩
    rw [List.length_map] at len
    refine ⟨_, _, rfl, rfl, by show 2 ≤ 16777216; decide, ?_⟩
    rw [List.map_map]
    refine q bs (List.pairwise_map.mp pw2) (by omega) fun b => ?_
    constructor
    · intro hbm
      obtain ⟨p, hp, e⟩ := List.mem_map.mp ((hm (kP b)).mp (List.mem_map_of_mem hbm))
      exact ⟨p, hp, kP_inj (p := b) (q := (min p.1 p.2, max p.1 p.2)) e.symm⟩
    · rintro ⟨p, hp, rfl⟩
      obtain ⟨b, hb', e⟩ := List.mem_map.mp ((hm [min p.1 p.2, max p.1 p.2]).mpr (List.mem_map_of_mem hp))
      rw [← kP_inj (p := b) (q := (min p.1 p.2, max p.1 p.2)) e]
      exact hb'
def C_law_frame : TFM := fun ds n P => ds = [.int 4] ∧ n ≤ 1000000000 ∧ ∀ (k : Int) (bs : List Pr) (m : Nat), VF k bs → k ≤ 4 → n ≤ m → m ≤ n + 20 → P (eF k bs) m
abbrev N_law_frame : List Str := ["_law_tin", "_law_most_so", "_law_size_so", "_law_kind_so", "_law_line_so", "_law_hub_so", "_law_found", "_law_lap", "_law_one_so", "_law_two_so", "_law_k", "_law_own"]
theorem sc_law_frame : FnScope N_law_frame ["_law_tin", "_law_most_so"] (defScope s_law_frame) := ⟨rfl, rfl, rfl, by decide +kernel, rfl, by decide +kernel, by decide +kernel⟩
theorem o_law_frame (B : B0 K mg) : OkT P w K mg base "_law_frame" ["_law_tin", "_law_most_so"] 2 C_law_frame := by
  have nd := sc_law_frame.nd
  obtain ⟨fd, F⟩ := B.says.def_ 43 (d := mkD "_law_frame" s_law_frame) rfl
  refine ⟨fd, fn_dm (C := C_law_frame) F sc_law_frame (by rintro ds n Q ⟨rfl, _⟩; rfl) (fun cdv A outer s H E hr => (dss_cons (dsm_par (i := 2) (j := 3) rfl nd rfl rfl (by decide) rfl rfl (dm_op op_add3 od_add (dm_of dp_int) (dm_fn (o_law_take B) hr (by rfl) (pv 0 rfl (Or.inr (Or.inl rfl))) (dma_cons (dm_of (dp_op op_sub od_sub (dp_var (pv 1 rfl (Or.inl rfl))) dp_int)) dma_nil))) (dm_fn (o_law_take B) hr (by rfl) (pv 0 rfl (Or.inr (Or.inl rfl))) (dma_cons (dm_of dp_int) dma_nil)) (by rfl))
    (dss_cons (ds_frzA 4 (ds_setLc (i := 4) rfl nd rfl rfl (sw_true rfl rfl rfl (by decide +kernel)) (own := [("_law_k", 10)]) (ws := [10])  (di_range1 (by rfl) (f_range B) (da_cons (dp_op op_sub od_sub (dp_var (pv 2 rfl (Or.inl rfl))) dp_int) da_nil)) (blkOk_by (N := N_law_frame) (sc := (defScope s_law_frame)) (by decide +kernel)) (by decide) (fun _ _ _ _ _ => (dg_name (pg_name (i := 10) nd rfl (Or.inl rfl)))) (fun _ _ _ _ _ => dts_nil) (fun _ _ _ _ _ => (dp_tup (da_cons (dp_var (pv 10 rfl (Or.inl rfl))) (da_cons (dp_op op_add3 od_add (dp_var (pv 10 rfl (Or.inl rfl))) dp_int) da_nil))))))
    (dss_cons (ds_if (dt_cmp (op_eqD hr.units) od_eq (dp_var (pv 3 rfl (Or.inl rfl))) dp_int (nomark _)) (dss_one (ds_ret (dp_fn (o_law_joined B) hr (by rfl) (da_cons (dp_var (pv 2 rfl (Or.inl rfl))) (da_cons (dp_var (pv 4 rfl (Or.inl rfl))) da_nil))))) dss_nil)
    (dss_cons (ds_if (dt_cmp (op_eqD hr.units) od_eq (dp_var (pv 3 rfl (Or.inl rfl))) dp_int (nomark _)) (dss_one (ds_ret (dp_fn (o_law_joined B) hr (by rfl) (da_cons (dp_var (pv 2 rfl (Or.inl rfl))) (da_cons (dp_op op_add3 od_add (dp_var (pv 4 rfl (Or.inl rfl))) (dp_if (dt_cmp op_gt od_gt (dp_var (pv 2 rfl (Or.inl rfl))) dp_int (nomark _)) (DF.dp (df_lst (da_cons (dp_tup (da_cons dp_int (da_cons (dp_op op_sub od_sub (dp_var (pv 2 rfl (Or.inl rfl))) dp_int) da_nil))) da_nil))) (DF.dp (df_lst da_nil)))) da_nil))))) dss_nil)
    (dss_cons (ds_if (dt_cmp (op_eqD hr.units) od_eq (dp_var (pv 3 rfl (Or.inl rfl))) dp_int (nomark _)) (dss_cons (dsm_set (i := 5) nd rfl (Or.inr rfl) (dm_fn (o_law_take B) hr (by rfl) (pv 0 rfl (Or.inr (Or.inl rfl))) (dma_cons (dm_of (dp_var (pv 2 rfl (Or.inl rfl)))) dma_nil)))
    (dss_one (ds_ret (dp_fn (o_law_joined B) hr (by rfl) (da_cons (dp_var (pv 2 rfl (Or.inl rfl))) (da_cons (DF.dp (df_lc (own := [("_law_k", 10)]) (ws := [10]) rfl nd (di_range1 (by rfl) (f_range B) (da_cons (dp_var (pv 2 rfl (Or.inl rfl))) da_nil)) (blkOk_by (N := N_law_frame) (sc := (defScope s_law_frame)) (by decide +kernel)) (by decide) (fun _ _ _ _ _ => (dg_name (pg_name (i := 10) nd rfl (Or.inl rfl)))) (fun _ _ _ _ _ => (dts_one (dt_cmp (op_neD hr.units) od_ne (dp_var (pv 10 rfl (Or.inl rfl))) (dp_var (pv 5 rfl (Or.inr (Or.inl rfl)))) (nomark _)))) (fun _ _ _ _ _ => (dp_tup (da_cons (dp_var (pv 5 rfl (Or.inr (Or.inl rfl)))) (da_cons (dp_var (pv 10 rfl (Or.inl rfl))) da_nil)))))) da_nil)))))) dss_nil)
    (dss_cons (ds_if (DW.dt (dw_and (dt_cmp (op_eqD hr.units) od_eq (dp_var (pv 3 rfl (Or.inl rfl))) dp_int (nomark _)) (dw_and1 (dt_cmp op_gt od_gt (dp_var (pv 2 rfl (Or.inl rfl))) dp_int (nomark _))))) (dss_one (ds_ret (dp_fn (o_law_joined B) hr (by rfl) (da_cons (dp_var (pv 2 rfl (Or.inl rfl))) (da_cons (DF.dp (df_lc (own := [("_law_own", 11)]) (ws := [11]) rfl nd (di_seq (dp_var (pv 4 rfl (Or.inl rfl)))) (blkOk_by (N := N_law_frame) (sc := (defScope s_law_frame)) (by decide +kernel)) (by decide) (fun _ _ _ _ _ => (dg_name (pg_name (i := 11) nd rfl (Or.inl rfl)))) (fun _ _ _ _ _ => (dts_one (dt_cmp (op_neD hr.units) od_ne (dp_var (pv 11 rfl (Or.inl rfl))) (dp_tup (da_cons dp_int (da_cons dp_int da_nil))) (nomark _)))) (fun _ _ _ _ _ => (dp_var (pv 11 rfl (Or.inl rfl)))))) da_nil))))) dss_nil)
    (dss_cons (ds_if (DW.dt (dw_and (dt_cmp (op_eqD hr.units) od_eq (dp_var (pv 3 rfl (Or.inl rfl))) dp_int (nomark _)) (dw_and1 (dt_cmp op_gt od_gt (dp_var (pv 2 rfl (Or.inl rfl))) dp_int (nomark _))))) (dss_one (ds_ret (dp_fn (o_law_joined B) hr (by rfl) (da_cons (dp_var (pv 2 rfl (Or.inl rfl))) (da_cons (dp_op op_add3 od_add (dp_var (pv 4 rfl (Or.inl rfl))) (DF.dp (df_lst (da_cons (dp_tup (da_cons dp_int (da_cons dp_int da_nil))) da_nil)))) da_nil))))) dss_nil)
    (dss_cons (dsm_setLc (i := 6) rfl nd rfl rfl (sw_true rfl rfl rfl (by decide +kernel)) (own := [("_law_k", 10)]) (ws := [10])  (di_range1 (by rfl) (f_range B) (da_cons (dp_op op_sub od_sub (dp_var (pv 2 rfl (Or.inl rfl))) dp_int) da_nil)) (blkOk_by (N := N_law_frame) (sc := (defScope s_law_frame)) (by decide +kernel)) (by decide) (by decide) (fun _ _ _ _ _ => (dg_name (pg_name (i := 10) nd rfl (Or.inl rfl)))) (fun _ _ _ _ _ => (dm_tup (dma_cons (dm_fn (o_law_take B) hr (by rfl) (pv 0 rfl (Or.inr (Or.inl rfl))) (dma_cons (dm_of (dp_op op_add3 od_add (dp_var (pv 10 rfl (Or.inl rfl))) dp_int)) dma_nil)) (dma_cons (dm_of (dp_op op_add3 od_add (dp_var (pv 10 rfl (Or.inl rfl))) dp_int)) dma_nil)))))
    (dss_cons (dsm_for PassesOwn.never rfl (mi_range1 (by rfl) (f_range B) (dma_cons (dm_fn (o_law_take B) hr (by rfl) (pv 0 rfl (Or.inr (Or.inl rfl))) (dma_cons (dm_of dp_int) dma_nil)) dma_nil)) (dg_name (pg_name (i := 7) nd rfl (Or.inl rfl))) (dss_cons (dsm_par (i := 8) (j := 9) rfl nd rfl rfl (by decide) rfl rfl (dm_fn (o_law_take B) hr (by rfl) (pv 0 rfl (Or.inr (Or.inl rfl))) (dma_cons (dm_of (dp_var (pv 2 rfl (Or.inl rfl)))) dma_nil)) (dm_fn (o_law_take B) hr (by rfl) (pv 0 rfl (Or.inr (Or.inl rfl))) (dma_cons (dm_of (dp_var (pv 2 rfl (Or.inl rfl)))) dma_nil)) (by rfl))
    (dss_one (ds_if (dt_cmp (op_neD hr.units) od_ne (dp_var (pv 8 rfl (Or.inl rfl))) (dp_var (pv 9 rfl (Or.inl rfl))) (nomark _)) (dss_one (ds_append (pv 6 rfl (Or.inl rfl)) (dp_tup (da_cons (dp_var (pv 8 rfl (Or.inl rfl))) (da_cons (dp_var (pv 9 rfl (Or.inl rfl))) da_nil))))) dss_nil))))
    (dss_frzS 6 (dss_one (ds_ret (dp_fn (o_law_joined B) hr (by rfl) (da_cons (dp_var (pv 2 rfl (Or.inl rfl))) (da_cons (dp_var (pv 6 rfl (Or.inl rfl))) da_nil)))))))))))))))) ?_, FunD.bindsN F (fun _ _ _ _ _ _ us hl => match us, hl with | [_, _], _ => rfl), F.kp, B.glo _ (B.says.fact 43 (f := .glo "_law_frame") rfl)⟩
  rintro t ds n Q ⟨rfl, hn, q⟩
  refine ⟨t, n, rfl, _, rfl, _, rfl, by decide, by decide, by omega, fun r m1 r0 r1 m10 m11 => ?_⟩
  refine ⟨_, rfl, by decide, by decide, by omega, fun kd m2 kd0 kd1 m20 m21 => ?_⟩
  obtain ⟨k, hk⟩ : ∃ k : Int, k = 2 + r := ⟨_, rfl⟩
  show dThen _ _ _ [SV.tin t m2, .sh (.int 4), .sh (.int (2 + r)), .sh (.int kd), .un, .un, .un, .un, .un, .un, .un, .un]
  rw [← hk]
  have k2 : 2 ≤ k := by omega
  have k4 : k ≤ 4 := by omega
  have J : ∀ (xs : List PyData) (ps : List Pr) (m : Nat), xs = ps.map eP → ps.length < 30 → (∀ p ∈ ps, 0 ≤ p.1 ∧ p.1 < k ∧ 0 ≤ p.2 ∧ p.2 < k ∧ p.1 ≠ p.2) → (∀ j, 0 ≤ j → j < k → ∃ p ∈ ps, j = p.1 ∨ j = p.2) → n ≤ m → m ≤ n + 20 → C_law_joined [.int k, .list xs] (fun d => ∃ m', some (SV.tin t m) = some (SV.tin t m') ∧ Q d m') :=
    fun xs ps m e hl hb ha h0 h1 => ⟨k, xs, ps, rfl, e, hl, fun p hp => by have := hb p hp; omega, fun bs pw bl hm => ⟨_, rfl, q k bs m (vf_of k2 k4 hb ha bl pw hm) k4 h0 h1⟩⟩
  have hline : ∀ p ∈ lineP k, 0 ≤ p.1 ∧ p.1 < k ∧ 0 ≤ p.2 ∧ p.2 < k ∧ p.1 ≠ p.2 := fun p hp => by have := mem_line.mp hp; omega
  have lline : (lineP k).length < 4 := by unfold lineP; rw [List.length_map, List.length_range]; omega
  refine lcM (ti := dRg1 (dCons (dOp DL.gSub (dV 2) (dC (.int 1))) dNil)) (List.range (k - 1).toNat) (fun i : Nat => .int (0 + (i : Int))) (fun i : Nat => ((i : Int), (i : Int) + 1)) eP (fun R hR => ⟨_, rfl, _, rfl, ⟨by omega, by omega⟩, hR⟩) (by rw [List.length_range]; omega) (fun i hi R hR => ⟨_, rfl, _, rfl, by show 2 ≤ 16777216; decide, by rw [Int.zero_add]; exact hR⟩) ?_
  refine ⟨_, _, rfl, rfl, ?_⟩
  show dThen _ _ _ [SV.tin t m2, .sh (.int 4), .sh (.int k), .sh (.int kd), .sh (.list ((lineP k).map eP)), .un, .un, .un, .un, .un, .un, .un]
  refine ⟨_, rfl, rfl, rfl, _, rfl, ?_⟩
  rw [eqv_int]
  cases h0 : decide (kd = 0) with
  | true => exact ⟨_, rfl, _, rfl, J _ (lineP k) m2 rfl (by omega) hline (fun j => line_all k2) (by omega) (by omega)⟩
  | false =>
  refine ⟨_, rfl, rfl, rfl, _, rfl, ?_⟩
  rw [eqv_int]
  cases h1 : decide (kd = 1) with
  | true =>
    refine ⟨_, rfl, _, rfl, _, rfl, _, rfl, ?_⟩
    cases h2 : decide (2 < k) with
    | true =>
      have h2 := of_decide_eq_true h2
      refine ⟨_, rfl, by show 2 ≤ 16777216; decide, by show 1 ≤ 16777216; decide, by rw [List.length_map]; show (lineP k).length + 1 ≤ 16777216; omega, J _ (lineP k ++ [(0, k - 1)]) m2 (by rw [List.map_append]; rfl) (by rw [List.length_append]; show _ + 1 < 30; omega) (fun p hp => ?_) (fun j h0 h1 => ?_) (by omega) (by omega)⟩
      · rcases List.mem_append.mp hp with h | h
        · exact hline p h
        · rw [List.mem_singleton.mp h]
          show (0 : Int) ≤ 0 ∧ 0 < k ∧ 0 ≤ k - 1 ∧ k - 1 < k ∧ 0 ≠ k - 1
          omega
      · obtain ⟨p, hp, e⟩ := line_all k2 h0 h1
        exact ⟨p, List.mem_append_left _ hp, e⟩
    | false => exact ⟨by show 0 ≤ 16777216; decide, by rw [List.length_map]; show (lineP k).length + 0 ≤ 16777216; omega, J _ (lineP k) m2 (by simp) (by omega) hline (fun j => line_all k2) (by omega) (by omega)⟩
  | false =>
  refine ⟨_, rfl, rfl, rfl, _, rfl, ?_⟩
  rw [eqv_int]
  cases h2 : decide (kd = 2) with
  | true =>
    refine ⟨t, m2, rfl, _, rfl, _, rfl, by omega, by omega, by omega, fun hub m3 hub0 hub1 m30 m31 => ?_⟩
    refine ⟨_, rfl, ?_⟩
    refine lcF (ti := dRg1 (dCons (dV 2) dNil)) (List.range k.toNat) (fun i : Nat => .int (0 + (i : Int))) (fun i : Nat => !decide ((i : Int) = hub)) (fun i : Nat => (hub, (i : Int))) eP (fun R hR => ⟨_, rfl, _, rfl, ⟨by omega, by omega⟩, hR⟩) (by rw [List.length_range]; omega) (fun i hi R h1 R2 h2 => ?_) ?_
    · refine ⟨_, rfl, _, rfl, rfl, rfl, _, rfl, ?_⟩
      rw [eqv_int, Int.zero_add]
      cases hd : decide ((i : Int) = hub) with
      | true => exact h2 (by rw [hd]; rfl)
      | false => exact ⟨_, rfl, _, rfl, by show 2 ≤ 16777216; decide, h1 (by rw [hd]; rfl)⟩
    · have hmem : ∀ p : Pr, p ∈ ((List.range k.toNat).filter fun i : Nat => !decide ((i : Int) = hub)).map (fun i : Nat => (hub, (i : Int))) ↔ p.1 = hub ∧ 0 ≤ p.2 ∧ p.2 < k ∧ p.2 ≠ hub := by
        intro p
        rw [List.mem_map]
        constructor
        · rintro ⟨i, hi, rfl⟩
          obtain ⟨h1, h2⟩ := List.mem_filter.mp hi
          have h1 := List.mem_range.mp h1
          have h2 : ¬ (i : Int) = hub := by simpa using h2
          exact ⟨rfl, by show (0 : Int) ≤ (i : Int); omega, by show (i : Int) < k; omega, h2⟩
        · rintro ⟨h1, h2, h3, h4⟩
          refine ⟨p.2.toNat, List.mem_filter.mpr ⟨List.mem_range.mpr (by omega), ?_⟩, Prod.ext h1.symm (by show ((p.2.toNat : Nat) : Int) = p.2; omega)⟩
          have : ¬ ((p.2.toNat : Nat) : Int) = hub := by omega
          simpa using this
      refine J _ _ m3 rfl ?_ (fun p hp => ?_) (fun j h0 h1 => ?_) (by omega) (by omega)
      · rw [List.length_map]
        have := List.length_filter_le (fun i : Nat => !decide ((i : Int) = hub)) (List.range k.toNat)
        rw [List.length_range] at this
        omega
      · have := (hmem p).mp hp
        omega
      · by_cases hj : j = hub
        · by_cases hz : hub = 0
          · exact ⟨(hub, 1), (hmem _).mpr ⟨rfl, by show (0 : Int) ≤ 1; decide, by show (1 : Int) < k; omega, by show (1 : Int) ≠ hub; omega⟩, .inl hj⟩
          · exact ⟨(hub, 0), (hmem _).mpr ⟨rfl, by show (0 : Int) ≤ 0; decide, by show (0 : Int) < k; omega, by show (0 : Int) ≠ hub; omega⟩, .inl hj⟩
        · exact ⟨(hub, j), (hmem _).mpr ⟨rfl, h0, h1, hj⟩, .inr rfl⟩
  | false =>
  refine ⟨_, rfl, rfl, rfl, _, rfl, ?_⟩
  rw [eqv_int]
  by_cases hc3 : kd = 3 ∧ 3 < k
  · rw [decide_eq_true hc3.1]
    refine ⟨_, rfl, _, rfl, ?_⟩
    rw [decide_eq_true hc3.2]
    refine ⟨_, rfl, ?_⟩
    refine lcF (ti := dSeq (dV 4)) (lineP k) eP (fun p => !decide (p = ((1, 2) : Pr))) id eP (fun R hR => ⟨_, rfl, _, rfl, hR⟩) (by omega) (fun p hp R h1 R2 h2 => ?_) ?_
    · refine ⟨_, rfl, by show 2 ≤ 16777216; decide, rfl, rfl, _, rfl, ?_⟩
      rw [show PyData.eqv (eP p) (.tuple [.int 1, .int 2]) = decide (p = ((1, 2) : Pr)) from eqv_P p (1, 2)]
      cases hd : decide (p = ((1, 2) : Pr)) with
      | true => exact h2 (by rw [hd]; rfl)
      | false => exact ⟨_, rfl, h1 (by rw [hd]; rfl)⟩
    · rw [List.map_id]
      have e4 : k = 4 := by omega
      refine J _ _ m2 rfl ?_ (fun p hp => hline p (List.mem_filter.mp hp).1) (fun j h0 h1 => ?_) (by omega) (by omega)
      · exact Nat.lt_of_le_of_lt (List.length_filter_le _ _) (by omega)
      · by_cases hj : j ≤ 1
        · exact ⟨(0, 1), List.mem_filter.mpr ⟨mem_line.mpr ⟨by decide, by show (0 : Int) < k - 1; omega, rfl⟩, by decide⟩, by show j = 0 ∨ j = 1; omega⟩
        · exact ⟨(2, 3), List.mem_filter.mpr ⟨mem_line.mpr ⟨by decide, by show (2 : Int) < k - 1; omega, rfl⟩, by decide⟩, by show j = 2 ∨ j = 3; omega⟩
  refine and_no (a := decide (kd = 3)) (b := decide (3 < k)) (dec_and_no hc3) ?_ (fun h => ⟨_, rfl, _, rfl, h⟩)
  refine ⟨_, rfl, rfl, rfl, _, rfl, ?_⟩
  rw [eqv_int]
  by_cases hc4 : kd = 4 ∧ 2 < k
  · rw [decide_eq_true hc4.1]
    refine ⟨_, rfl, _, rfl, ?_⟩
    rw [decide_eq_true hc4.2]
    refine ⟨_, rfl, _, rfl, by show 2 ≤ 16777216; decide, by show 1 ≤ 16777216; decide, by rw [List.length_map]; show (lineP k).length + 1 ≤ 16777216; omega, J _ (lineP k ++ [(0, 2)]) m2 (by rw [List.map_append]; rfl) (by rw [List.length_append]; show _ + 1 < 30; omega) (fun p hp => ?_) (fun j h0 h1 => ?_) (by omega) (by omega)⟩
    · rcases List.mem_append.mp hp with h | h
      · exact hline p h
      · rw [List.mem_singleton.mp h]
        show (0 : Int) ≤ 0 ∧ 0 < k ∧ (0 : Int) ≤ 2 ∧ 2 < k ∧ (0 : Int) ≠ 2
        omega
    · obtain ⟨p, hp, e⟩ := line_all k2 h0 h1
      exact ⟨p, List.mem_append_left _ hp, e⟩
  refine and_no (a := decide (kd = 4)) (b := decide (2 < k)) (dec_and_no hc4) ?_ (fun h => ⟨_, rfl, _, rfl, h⟩)
  refine ⟨_, _, rfl, _, rfl, _, rfl, ⟨by omega, by omega⟩, fun i acc m => ∃ ps : List Pr, acc = ps.map eP ∧ ps.length = i ∧ (∀ p ∈ ps, 0 ≤ p.1 ∧ p.1 < p.2 ∧ p.2 < k) ∧ (∀ j : Int, 1 ≤ j → j ≤ i → ∃ p ∈ ps, p.2 = j) ∧ (0 < i → ∃ p ∈ ps, p.1 = 0) ∧ m2 ≤ m ∧ m ≤ m2 + i, ⟨[], rfl, rfl, (fun _ z => nomatch z), fun j h1 h2 => by omega, fun z => by omega, Nat.le_refl _, Nat.le_refl _⟩, ?_, ?_⟩
  · rintro i x acc m hx ⟨ps, rfl, hl, hb, hj, h0, mm0, mm1⟩
    obtain ⟨hi, rfl⟩ := rgD_get hx
    refine ⟨by rw [List.length_map]; omega, _, rfl, _, rfl, by omega, by omega, by omega, fun r m' ra rb ma mb => ⟨_, rfl, by show 2 ≤ 16777216; decide, ps ++ [(r, 0 + (i : Int) + 1)], by rw [List.map_append]; rfl, by rw [List.length_append, hl]; rfl, fun p hp => ?_, fun j h1 h2 => ?_, fun _ => ?_, by omega, by omega⟩⟩
    · rcases List.mem_append.mp hp with h | h
      · exact hb p h
      · rw [List.mem_singleton.mp h]
        show 0 ≤ r ∧ r < 0 + (i : Int) + 1 ∧ 0 + (i : Int) + 1 < k
        omega
    · by_cases hij : j ≤ i
      · obtain ⟨p, hp, e⟩ := hj j h1 hij
        exact ⟨p, List.mem_append_left _ hp, e⟩
      · exact ⟨_, List.mem_append_right _ List.mem_cons_self, by show 0 + (i : Int) + 1 = j; omega⟩
    · by_cases hz : 0 < i
      · obtain ⟨p, hp, e⟩ := h0 hz
        exact ⟨p, List.mem_append_left _ hp, e⟩
      · exact ⟨_, List.mem_append_right _ List.mem_cons_self, by show r = 0; omega⟩
  rintro acc m3 ⟨ps, rfl, hl, hb, hj, h0, mm0, mm1⟩
  rw [rgD_length] at hl hj h0 mm1
  show dThen _ _ _ [SV.tin t m3, .sh (.int 4), .sh (.int k), .sh (.int kd), .sh (.list ((lineP k).map eP)), .un, .ow (ps.map eP), .un, .un, .un, .un, .un]
  have all : ∀ j, 0 ≤ j → j < k → ∃ p ∈ ps, j = p.1 ∨ j = p.2 := by
    intro j j0 j1
    by_cases hz : j = 0
    · obtain ⟨p, hp, e⟩ := h0 (by omega)
      exact ⟨p, hp, .inl (by omega)⟩
    · obtain ⟨p, hp, e⟩ := hj j (by omega) (by omega)
      exact ⟨p, hp, .inr e.symm⟩
  have hb : ∀ p ∈ ps, 0 ≤ p.1 ∧ p.1 < k ∧ 0 ≤ p.2 ∧ p.2 < k ∧ p.1 ≠ p.2 := fun p hp => by have := hb p hp; omega
  clear h0 hj
  refine ⟨_, _, rfl, _, rfl, by decide, by decide, by omega, fun laps m4 l0 l1 m40 m41 => ⟨_, rfl, ⟨by omega, by omega⟩, ?_⟩⟩
  refine ⟨fun i ρ => ∃ (ps : List Pr) (m : Nat) (x7 x8 x9 x10 : SV), ρ = [SV.tin t m, .sh (.int 4), .sh (.int k), .sh (.int kd), .sh (.list ((lineP k).map eP)), .un, .ow (ps.map eP), x7, x8, x9, x10, .un] ∧ ps.length ≤ 3 + i ∧ (∀ p ∈ ps, 0 ≤ p.1 ∧ p.1 < k ∧ 0 ≤ p.2 ∧ p.2 < k ∧ p.1 ≠ p.2) ∧ (∀ j, 0 ≤ j → j < k → ∃ p ∈ ps, j = p.1 ∨ j = p.2) ∧ m4 ≤ m ∧ m ≤ m4 + 2 * i,
    ⟨ps, m4, .un, .un, .un, .un, rfl, by omega, hb, all, Nat.le_refl _, Nat.le_refl _⟩, ?_, ?_⟩
  · rintro i x ρ1 hx ⟨ps, m, x7, x8, x9, x10, rfl, pl, pb, pa, pm0, pm1⟩
    obtain ⟨hi, rfl⟩ := rgD_get hx
    refine ⟨_, _, rfl, _, rfl, _, rfl, by omega, by omega, by omega, fun a ma a0 a1 ma0 ma1 => ⟨_, rfl, _, rfl, by omega, by omega, by omega, fun b mb b0 b1 mb0 mb1 => ?_⟩⟩
    refine ⟨_, rfl, _, rfl, rfl, rfl, _, rfl, ?_⟩
    rw [eqv_int]
    cases hd : decide (a = b) with
    | true => exact ⟨ps, mb, .sh (.int (0 + (i : Int))), .sh (.int a), .sh (.int b), x10, rfl, by omega, pb, pa, by omega, by omega⟩
    | false =>
      have hd := of_decide_eq_false hd
      refine ⟨_, rfl, _, rfl, _, rfl, by show 2 ≤ 16777216; decide, by rw [List.length_map]; omega, ps ++ [(a, b)], mb, .sh (.int (0 + (i : Int))), .sh (.int a), .sh (.int b), x10, by rw [List.map_append]; rfl, by rw [List.length_append]; show ps.length + 1 ≤ _; omega, fun p hp => ?_, fun j j0 j1 => ?_, by omega, by omega⟩
      · rcases List.mem_append.mp hp with h | h
        · exact pb p h
        · rw [List.mem_singleton.mp h]
          exact ⟨a0, a1, b0, b1, hd⟩
      · obtain ⟨p, hp, e⟩ := pa j j0 j1
        exact ⟨p, List.mem_append_left _ hp, e⟩
  · rintro ρ1 ⟨ps, m, x7, x8, x9, x10, rfl, pl, pb, pa, pm0, pm1⟩
    rw [rgD_length] at pl pm1
    exact ⟨_, _, rfl, rfl, _, rfl, _, rfl, J _ ps m rfl (by omega) pb pa (by omega) (by omega)⟩
def C_law_next_to : TF := fun ds P => ∃ (n : Int) (bs : List Pr) (k : Int), ds = [eF n bs, .int k] ∧ bs.length < 32 ∧ P (.list ((nxt bs k).map .int))
abbrev N_law_next_to : List Str := ["_law_frame_so", "_law_k", "_law_own"]
theorem sc_law_next_to : FnScope N_law_next_to ["_law_frame_so", "_law_k"] (defScope s_law_next_to) := ⟨rfl, rfl, rfl, by decide +kernel, rfl, by decide +kernel, by decide +kernel⟩
theorem o_law_next_to (B : B0 K mg) : Ok P w K mg base "_law_next_to" ["_law_frame_so", "_law_k"] 1 C_law_next_to := by
  have nd := sc_law_next_to.nd
  obtain ⟨fd, F⟩ := B.says.def_ 44 (d := mkD "_law_next_to" s_law_next_to) rfl
  refine ⟨fd, fn_dl (C := C_law_next_to) F sc_law_next_to (by rintro ds Q ⟨_, _, _, rfl, _⟩; rfl) (fun cdv A outer s H E hr => (dss_one (ds_ret (dp_callB (cr_sortE (hu67 hr)) cd_sortE (by rfl) (f_sorted B) (by decide +kernel) (da_cons (DF.dp (df_lc (own := [("_law_own", 2)]) (ws := [2]) rfl nd (di_seq (dp_ix (dp_var (pv 0 rfl (Or.inl rfl))) dp_int (fun _ _ => rfl))) (blkOk_by (N := N_law_next_to) (sc := (defScope s_law_next_to)) (by decide +kernel)) (by decide) (fun _ _ _ _ _ => (dg_name (pg_name (i := 2) nd rfl (Or.inl rfl)))) (fun _ _ _ _ _ => (dts_one (dt_cmp (op_in2 (hu65 hr)) od_in (dp_var (pv 1 rfl (Or.inr (Or.inl rfl)))) (dp_var (pv 2 rfl (Or.inl rfl))) (by rfl)))) (fun _ _ _ _ _ => (dp_if (dt_cmp (op_eqD hr.units) od_eq (dp_ix (dp_var (pv 2 rfl (Or.inl rfl))) dp_int (fun _ _ => rfl)) (dp_var (pv 1 rfl (Or.inr (Or.inl rfl)))) (nomark _)) (dp_ix (dp_var (pv 2 rfl (Or.inl rfl))) dp_int (fun _ _ => rfl)) (dp_ix (dp_var (pv 2 rfl (Or.inl rfl))) dp_int (fun _ _ => rfl)))))) da_nil))))) ?_, FunD.bindsN F (fun _ _ _ _ _ _ us hl => match us, hl with | [_, _], _ => rfl), F.kp, B.glo _ (B.says.fact 44 (f := .glo "_law_next_to") rfl)⟩
  rintro ds Q ⟨n, bs, k, rfl, hl, q⟩
  refine lcF (ti := dSeq (dOp gIx (dV 0) (dC (.int 1)))) bs eP (fun b => decide (k = b.1 ∨ k = b.2)) (fun b => if b.1 = k then b.2 else b.1) PyData.int (fun R hR => ⟨_, rfl, by decide, _, rfl, _, rfl, hR⟩) (by omega) (fun b hb R h1 R2 h2 => ?_) ?_
  · refine ⟨_, rfl, _, rfl, rfl, rfl, _, rfl, ?_⟩
    rw [show inD (.int k) [.int b.1, .int b.2] = decide (k = b.1 ∨ k = b.2) from (inD_ints k [b.1, b.2]).trans (decide_eq_decide.mpr (by simp))]
    cases hd : decide (k = b.1 ∨ k = b.2) with
    | false => exact h2 hd
    | true =>
      refine ⟨_, rfl, by decide, _, rfl, _, rfl, rfl, rfl, _, rfl, ?_⟩
      rw [eqv_int]
      have h1 := h1 hd
      cases he : decide (b.1 = k) with
      | true =>
        rw [if_pos (of_decide_eq_true he)] at h1
        exact ⟨_, rfl, by decide, _, rfl, h1⟩
      | false =>
        rw [if_neg (of_decide_eq_false he)] at h1
        exact ⟨_, rfl, by decide, _, rfl, h1⟩
  · refine ⟨Int, PyData.int, ((bs.filter fun b : Pr => decide (k = b.1 ∨ k = b.2)).map fun b : Pr => if b.1 = k then b.2 else b.1), rfl, ?_, .inr ?_, fun _ _ => rfl, q⟩
    · intro d hd d' hd'
      obtain ⟨i, _, rfl⟩ := List.mem_map.mp hd
      obtain ⟨j, _, rfl⟩ := List.mem_map.mp hd'
      rfl
    · intro d hd
      obtain ⟨i, _, rfl⟩ := List.mem_map.mp hd
      exact ⟨fun z => (by cases z), fun xs z => (by cases z)⟩
def C_law_some_stand : TFM := fun ds n P => ∃ (k : Int) (bs : List Pr) (lo hi : Int), ds = [eF k bs, .int lo, .int hi] ∧ VF k bs ∧ k ≤ 4 ∧ -100 ≤ lo ∧ lo ≤ hi ∧ hi ≤ 100 ∧ n ≤ 1000000000 ∧ ∀ (s : List Int) (m : Nat), VS k bs s → (∀ x ∈ s, lo ≤ x ∧ x ≤ hi) → n ≤ m → m ≤ n + 20 → P (eS s) m
abbrev N_law_some_stand : List Str := ["_law_tin", "_law_frame_so", "_law_low_so", "_law_high_so", "_law_k", "_law_goal_so", "_law_found", "_law_lap", "_law_way_so", "_law_j"]
theorem sc_law_some_stand : FnScope N_law_some_stand ["_law_tin", "_law_frame_so", "_law_low_so", "_law_high_so"] (defScope s_law_some_stand) := ⟨rfl, rfl, rfl, by decide +kernel, rfl, by decide +kernel, by decide +kernel⟩
theorem o_law_some_stand (B : B0 K mg) : OkT P w K mg base "_law_some_stand" ["_law_tin", "_law_frame_so", "_law_low_so", "_law_high_so"] 2 C_law_some_stand := by
  have nd := sc_law_some_stand.nd
  obtain ⟨fd, F⟩ := B.says.def_ 45 (d := mkD "_law_some_stand" s_law_some_stand) rfl
  refine ⟨fd, fn_dm (C := C_law_some_stand) F sc_law_some_stand (by rintro ds n Q ⟨_, _, _, _, rfl, _⟩; rfl) (fun cdv A outer s H E hr => (dss_cons (dsm_if (dmt_cmp (op_eqD hr.units) od_eq (dm_fn (o_law_take B) hr (by rfl) (pv 0 rfl (Or.inr (Or.inl rfl))) (dma_cons (dm_of dp_int) dma_nil)) (dm_of dp_int) (nomark _)) (dss_one (dsm_ret (dm_op op_mul3 od_mul (dm_tup (dma_cons (dm_op op_add3 od_add (dm_of (dp_var (pv 2 rfl (Or.inr (Or.inl rfl))))) (dm_fn (o_law_take B) hr (by rfl) (pv 0 rfl (Or.inr (Or.inl rfl))) (dma_cons (dm_of (dp_op op_add3 od_add (dp_op op_sub od_sub (dp_var (pv 3 rfl (Or.inr (Or.inl rfl)))) (dp_var (pv 2 rfl (Or.inr (Or.inl rfl))))) dp_int)) dma_nil))) dma_nil)) (dm_of (dp_ix (dp_var (pv 1 rfl (Or.inl rfl))) dp_int (fun _ _ => rfl)))))) dss_nil)
    (dss_cons (ds_frzA 5 (dsm_setLc (i := 5) rfl nd rfl rfl (sw_true rfl rfl rfl (by decide +kernel)) (own := [("_law_k", 4)]) (ws := [4])  (di_range1 (by rfl) (f_range B) (da_cons (dp_ix (dp_var (pv 1 rfl (Or.inl rfl))) dp_int (fun _ _ => rfl)) da_nil)) (blkOk_by (N := N_law_some_stand) (sc := (defScope s_law_some_stand)) (by decide +kernel)) (by decide) (by decide) (fun _ _ _ _ _ => (dg_name (pg_name (i := 4) nd rfl (Or.inl rfl)))) (fun _ _ _ _ _ => (dm_op op_add3 od_add (dm_of (dp_var (pv 2 rfl (Or.inr (Or.inl rfl))))) (dm_fn (o_law_take B) hr (by rfl) (pv 0 rfl (Or.inr (Or.inl rfl))) (dma_cons (dm_of (dp_op op_add3 od_add (dp_op op_sub od_sub (dp_var (pv 3 rfl (Or.inr (Or.inl rfl)))) (dp_var (pv 2 rfl (Or.inr (Or.inl rfl))))) dp_int)) dma_nil))))))
    (dss_cons (ds_set (i := 6) nd rfl (Or.inr rfl) (DF.de (df_rep (DF.dp (df_lst (da_cons (dp_ix (dp_var (pv 5 rfl (Or.inl rfl))) dp_int (fun _ _ => rfl)) da_nil))) (dp_ix (dp_var (pv 1 rfl (Or.inl rfl))) dp_int (fun _ _ => rfl)))))
    (dss_cons (ds_for PassesOwn.never rfl (di_range1 (by rfl) (f_range B) (da_cons (dp_ix (dp_var (pv 1 rfl (Or.inl rfl))) dp_int (fun _ _ => rfl)) da_nil)) (dg_name (pg_name (i := 7) nd rfl (Or.inl rfl))) (dss_one (ds_for PassesOwn.never rfl (di_range1 (by rfl) (f_range B) (da_cons (dp_ix (dp_var (pv 1 rfl (Or.inl rfl))) dp_int (fun _ _ => rfl)) da_nil)) (dg_name (pg_name (i := 4) nd rfl (Or.inl rfl))) (dss_cons (ds_set (i := 8) nd rfl (Or.inr rfl) (DP.de (dp_op op_sub_ib od_subIB (dp_op op_add_ib od_addIB (dp_ixO (pv 6 rfl (Or.inr (Or.inl rfl))) (dp_var (pv 4 rfl (Or.inl rfl))) (fun _ _ => rfl)) (dp_cmp op_gt od_gt (dp_ix (dp_var (pv 5 rfl (Or.inl rfl))) (dp_var (pv 4 rfl (Or.inl rfl))) (fun _ _ => rfl)) (dp_ixO (pv 6 rfl (Or.inr (Or.inl rfl))) (dp_var (pv 4 rfl (Or.inl rfl))) (fun _ _ => rfl)) (nomark _))) (dp_cmp op_lt od_lt (dp_ix (dp_var (pv 5 rfl (Or.inl rfl))) (dp_var (pv 4 rfl (Or.inl rfl))) (fun _ _ => rfl)) (dp_ixO (pv 6 rfl (Or.inr (Or.inl rfl))) (dp_var (pv 4 rfl (Or.inl rfl))) (fun _ _ => rfl)) (nomark _)))))
    (dss_one (ds_if (dt_cmp (op_eqD hr.units) od_eq (DF.dp (df_lc (own := [("_law_j", 9)]) (ws := [9]) rfl nd (di_seq (dp_fn (o_law_next_to B) hr (by rfl) (da_cons (dp_var (pv 1 rfl (Or.inl rfl))) (da_cons (dp_var (pv 4 rfl (Or.inl rfl))) da_nil)))) (blkOk_by (N := N_law_some_stand) (sc := (defScope s_law_some_stand)) (by decide +kernel)) (by decide) (fun _ _ _ _ _ => (dg_name (pg_name (i := 9) nd rfl (Or.inl rfl)))) (fun _ _ _ _ _ => (dts_one (dt_cmp op_gt od_gt (dp_callB call_abs cd_abs (by rfl) (f_abs B) (by decide +kernel) (da_cons (dp_op op_sub od_sub (dp_ixO (pv 6 rfl (Or.inr (Or.inl rfl))) (dp_var (pv 9 rfl (Or.inl rfl))) (fun _ _ => rfl)) (dp_var (pv 8 rfl (Or.inr (Or.inl rfl))))) da_nil)) dp_int (nomark _)))) (fun _ _ _ _ _ => dp_int))) (DF.dp (df_lst da_nil)) (nomark _)) (dss_one (ds_setI (pv 6 rfl (Or.inr (Or.inl rfl))) (dp_var (pv 4 rfl (Or.inl rfl))) (dp_var (pv 8 rfl (Or.inr (Or.inl rfl)))))) dss_nil))))))
    (dss_frzS 6 (dss_one (ds_ret (dp_callTy call_tuple_of cd_tup (by rfl) (f_tuple B) (by decide +kernel) (da_cons (dp_var (pv 6 rfl (Or.inr (Or.inl rfl)))) da_nil)))))))))) ?_, FunD.bindsN F (fun _ _ _ _ _ _ us hl => match us, hl with | [_, _, _, _], _ => rfl), F.kp, B.glo _ (B.says.fact 45 (f := .glo "_law_some_stand") rfl)⟩
  rintro t ds n Q ⟨k, bs, lo, hi, rfl, v, k4, l0, l1, l2, hn, q⟩
  have k2 := v.n2
  refine ⟨t, n, rfl, _, rfl, by decide, by decide, by omega, fun r m1 r0 r1 m10 m11 => ⟨rfl, rfl, _, rfl, ?_⟩⟩
  rw [eqv_int]
  cases hd : decide (r = 0) with
  | true =>
    refine ⟨t, m1, rfl, _, rfl, _, rfl, _, rfl, _, rfl, by omega, by omega, by omega, fun a m2 a0 a1 m20 m21 => ⟨by show 1 ≤ 16777216; decide, _, rfl, by decide, _, rfl, ?_⟩⟩
    refine ⟨by simp, k2, by omega, by show 1 ≤ 1000; decide, m2, rfl, ?_⟩
    have e : (List.replicate k.toNat [PyData.int (lo + a)]).flatten = (List.replicate k.toNat (lo + a)).map PyData.int := by
      rw [List.map_replicate]
      generalize k.toNat = z
      induction z with
      | zero => rfl
      | succ z ih => rw [List.replicate_succ, List.flatten_cons, ih, List.replicate_succ]; rfl
    show Q (.tuple _) m2
    rw [e]
    refine q _ m2 ⟨by rw [List.length_replicate]; omega, fun b hb x y hx hy => ?_⟩ (fun x hx => ?_) (by omega) (by omega)
    · have h1 := List.eq_of_mem_replicate (List.mem_of_getElem? hx)
      have h2 := List.eq_of_mem_replicate (List.mem_of_getElem? hy)
      omega
    · have := List.eq_of_mem_replicate hx
      omega
  | false =>
  refine ⟨t, m1, rfl, _, rfl, by decide, _, rfl, _, rfl, ⟨by omega, by omega⟩, fun i acc m => ∃ g : List Int, acc = g.map PyData.int ∧ g.length = i ∧ (∀ x ∈ g, lo ≤ x ∧ x ≤ hi) ∧ m1 ≤ m ∧ m ≤ m1 + i, ⟨[], rfl, rfl, (fun _ z => nomatch z), Nat.le_refl _, Nat.le_refl _⟩, ?_, ?_⟩
  · rintro i x acc m hx ⟨g, rfl, gl, gb, gm0, gm1⟩
    obtain ⟨hi', rfl⟩ := rgD_get hx
    refine ⟨by rw [List.length_map]; omega, _, rfl, _, rfl, _, rfl, _, rfl, by omega, by omega, by omega, fun a m' a0 a1 ma0 ma1 => ⟨g ++ [lo + a], by rw [List.map_append]; rfl, by rw [List.length_append, gl]; rfl, fun x hx => ?_, by omega, by omega⟩⟩
    rcases List.mem_append.mp hx with h | h
    · exact gb x h
    · rw [List.mem_singleton.mp h]; omega
  rintro acc m2 ⟨g, rfl, gl, gb, gm0, gm1⟩
  rw [rgD_length] at gl gm1
  refine ⟨_, _, rfl, rfl, ?_⟩
  have g0 : ∃ x, g[0]? = some x := ⟨_, List.getElem?_eq_getElem (show 0 < g.length by omega)⟩
  obtain ⟨x0, hx0⟩ := g0
  have hx0' : (g.map PyData.int)[(0 : Int).toNat]? = some (.int x0) := by
    show (g.map PyData.int)[0]? = _
    rw [List.getElem?_map, hx0]
    rfl
  refine ⟨_, rfl, by decide, _, hx0', by show 1 ≤ 16777216; decide, _, rfl, by decide, _, rfl, _, _, rfl, rfl, by omega, by omega, by show 1 ≤ 1000; decide, ?_⟩
  have e0 : (List.replicate k.toNat [PyData.int x0]).flatten = (List.replicate k.toNat x0).map PyData.int := by
    rw [List.map_replicate]
    generalize k.toNat = z
    induction z with
    | zero => rfl
    | succ z ih => rw [List.replicate_succ, List.flatten_cons, ih, List.replicate_succ]; rfl
  rw [e0]
  have I0 : ∃ (s : List Int) (x4 x7 x8 x9 : SV), (((DL.startT t n N_law_some_stand [eF k bs, PyData.int lo, PyData.int hi]).set 0 (SV.tin t m2)).set 5 (.sh (.list (g.map PyData.int)))).set 6 (.ow ((List.replicate k.toNat x0).map PyData.int)) =
      [SV.tin t m2, .sh (eF k bs), .sh (.int lo), .sh (.int hi), x4, .sh (.list (g.map PyData.int)), .ow (s.map PyData.int), x7, x8, x9] ∧ VS k bs s ∧ (∀ x ∈ s, lo ≤ x ∧ x ≤ hi) := by
    refine ⟨List.replicate k.toNat x0, .un, .un, .un, .un, rfl, ⟨by rw [List.length_replicate]; omega, fun b hb x y hx hy => ?_⟩, fun x hx => ?_⟩
    · have h1 := List.eq_of_mem_replicate (List.mem_of_getElem? hx)
      have h2 := List.eq_of_mem_replicate (List.mem_of_getElem? hy)
      omega
    · rw [List.eq_of_mem_replicate hx]
      exact gb _ (List.mem_of_getElem? hx0)
  refine forI (ti := dRg1 (dCons (dOp gIx (dV 1) (dC (.int 0))) dNil)) (jacks k) PyData.int (fun R hR => ⟨_, rfl, by decide, _, rfl, _, rfl, ⟨by omega, by omega⟩, by rw [rgD_jacks]; exact hR⟩)
    (fun _ ρ => ∃ (s : List Int) (x4 x7 x8 x9 : SV), ρ = [SV.tin t m2, .sh (eF k bs), .sh (.int lo), .sh (.int hi), x4, .sh (.list (g.map PyData.int)), .ow (s.map PyData.int), x7, x8, x9] ∧ VS k bs s ∧ (∀ x ∈ s, lo ≤ x ∧ x ≤ hi)) I0 ?_ ?_
  · rintro i lap ρ1 hlap ⟨s, x4, x7, x8, x9, rfl, vs, sb⟩
    refine forI (ti := dRg1 (dCons (dOp gIx (dV 1) (dC (.int 0))) dNil)) (jacks k) PyData.int (fun R hR => ⟨_, rfl, by decide, _, rfl, _, rfl, ⟨by omega, by omega⟩, by rw [rgD_jacks]; exact hR⟩)
      (fun _ ρ => ∃ (s : List Int) (x4 x7 x8 x9 : SV), ρ = [SV.tin t m2, .sh (eF k bs), .sh (.int lo), .sh (.int hi), x4, .sh (.list (g.map PyData.int)), .ow (s.map PyData.int), x7, x8, x9] ∧ VS k bs s ∧ (∀ x ∈ s, lo ≤ x ∧ x ≤ hi)) ⟨s, x4, .sh (.int lap), x8, x9, rfl, vs, sb⟩ ?_ (fun ρ h => h)
    clear vs sb
    rintro i2 j ρ1 hj ⟨s, x4, x7, x8, x9, rfl, vs, sb⟩
    have hj1 := mem_jacks.mp (List.mem_of_getElem? hj)
    have sl := vs.len
    obtain ⟨sj, hsj⟩ : ∃ x, s[j.toNat]? = some x := ⟨_, List.getElem?_eq_getElem (show j.toNat < s.length by omega)⟩
    obtain ⟨gj, hgj⟩ : ∃ x, g[j.toNat]? = some x := ⟨_, List.getElem?_eq_getElem (show j.toNat < g.length by omega)⟩
    have hsj' : (s.map PyData.int)[j.toNat]? = some (.int sj) := by rw [List.getElem?_map, hsj]; rfl
    have hgj' : (g.map PyData.int)[j.toNat]? = some (.int gj) := by rw [List.getElem?_map, hgj]; rfl
    refine ⟨_, rfl, _, rfl, j, _, rfl, hj1.1, hsj', _, rfl, _, rfl, hj1.1, _, hgj', _, rfl, _, rfl, j, _, rfl, hj1.1, hsj', _, rfl, _, rfl, hj1.1, _, hgj', _, rfl, _, rfl, j, _, rfl, hj1.1, hsj', ?_⟩
    refine gLt_of (gIB_of ?_)
    generalize hway : sj + b2i (decide (sj < gj)) - b2i (decide (gj < sj)) = way
    have bs1 := sb _ (List.mem_of_getElem? hsj)
    have bg1 := gb _ (List.mem_of_getElem? hgj)
    have bway : lo ≤ way ∧ way ≤ hi := by
      rw [← hway]
      by_cases h1 : sj < gj
      · rw [decide_eq_true h1, decide_eq_false (show ¬ gj < sj by omega)]
        show lo ≤ sj + 1 - 0 ∧ sj + 1 - 0 ≤ hi
        omega
      · by_cases h2 : gj < sj
        · rw [decide_eq_false h1, decide_eq_true h2]
          show lo ≤ sj + 0 - 1 ∧ sj + 0 - 1 ≤ hi
          omega
        · rw [decide_eq_false h1, decide_eq_false h2]
          show lo ≤ sj + 0 - 0 ∧ sj + 0 - 0 ≤ hi
          omega
    have near : ∀ z ∈ nxt bs j, ∃ y, s[z.toNat]? = some y ∧ 0 ≤ z := fun z hz => by
      have := adj_ok v ((mem_nxt v).mp hz)
      exact ⟨_, List.getElem?_eq_getElem (show z.toNat < s.length by omega), by omega⟩
    refine lcF (ti := dSeq (dApp C_law_next_to (dCons (dV 1) (dCons (dV 4) dNil)))) (nxt bs j) PyData.int (fun z => decide (1 < (if s.getD z.toNat 0 - way < 0 then -(s.getD z.toNat 0 - way) else s.getD z.toNat 0 - way))) (fun _ => (1 : Int)) PyData.int (fun R hR => ⟨_, rfl, _, rfl, k, bs, j, rfl, v.len, _, rfl, hR⟩) (by have := nxt_len bs j; have := v.len; omega) (fun z hz R h1 R2 h2 => ?_) ?_
    · obtain ⟨y, hy, z0⟩ := near z hz
      have hd : s.getD z.toNat 0 = y := by rw [List.getD_eq_getElem?_getD, hy]; rfl
      rw [hd] at h1 h2
      refine ⟨_, rfl, _, rfl, z, .int y, rfl, z0, (by rw [List.getElem?_map, hy]; rfl), _, rfl, _, rfl, _, rfl, ?_⟩
      cases hc : decide (1 < (if y - way < 0 then -(y - way) else y - way)) with
      | true => exact h1 hc
      | false => exact h2 hc
    · refine ⟨by show 0 ≤ 16777216; decide, (Pl.lst (n := 0) (pl_map fun i => .int 0 i)).sh, rfl, _, rfl, ?_⟩
      rw [PyData.eqv, eqvAll_nil]
      cases hc : (List.map PyData.int (List.map (fun _ => (1 : Int)) ((nxt bs j).filter fun z => decide (1 < (if s.getD z.toNat 0 - way < 0 then -(s.getD z.toNat 0 - way) else s.getD z.toNat 0 - way))))).isEmpty with
      | false => exact ⟨s, _, _, _, _, rfl, vs, sb⟩
      | true =>
        have all : ∀ z ∈ nxt bs j, ∀ y, s[z.toNat]? = some y → y ≤ way + 1 ∧ way ≤ y + 1 := by
          intro z hz y hy
          have hc := List.isEmpty_iff.mp hc
          rw [List.map_eq_nil_iff, List.map_eq_nil_iff, List.filter_eq_nil_iff] at hc
          have := hc z hz
          have hd : s.getD z.toNat 0 = y := by rw [List.getD_eq_getElem?_getD, hy]; rfl
          rw [hd, decide_eq_true_eq] at this
          split at this <;> omega
        refine ⟨_, rfl, _, rfl, _, rfl, j, rfl, hj1.1, by rw [List.length_map]; omega, s.set j.toNat way, .sh (.int j), x7, .sh (.int way), x9, by rw [List.map_set]; rfl, ⟨by rw [List.length_set]; exact sl, fun b hb x y hx hy => ?_⟩, fun x hx => ?_⟩
        · obtain ⟨o1, o2, o3⟩ := v.ok b hb
          by_cases e1 : j = b.1
          · rw [← e1, List.getElem?_set_self (by omega)] at hx
            cases hx
            rw [List.getElem?_set_ne (by omega)] at hy
            have := all b.2 ((mem_nxt v).mpr (by unfold adj; rw [decide_eq_true_eq, e1]; exact .inl hb)) y hy
            omega
          · rw [List.getElem?_set_ne (by omega)] at hx
            by_cases e2 : j = b.2
            · rw [← e2, List.getElem?_set_self (by omega)] at hy
              cases hy
              have := all b.1 ((mem_nxt v).mpr (by unfold adj; rw [decide_eq_true_eq, e2]; exact .inr hb)) x hx
              omega
            · rw [List.getElem?_set_ne (by omega)] at hy
              exact vs.ok b hb x y hx hy
        · rcases List.mem_or_eq_of_mem_set hx with h | h
          · exact sb x h
          · rw [h]; exact bway
  · rintro ρ1 ⟨s, x4, x7, x8, x9, rfl, vs, sb⟩
    exact ⟨_, _, rfl, rfl, _, rfl, _, _, rfl, rfl, m2, rfl, q s m2 vs sb (by omega) (by omega)⟩
end
end EvL

-- text DL24
set_option Elab.async false
set_option linter.all false
set_option maxRecDepth 100000
set_option maxHeartbeats 4000000
/-! sorted of a list of one item, whatever it is. -/
namespace DL
open PySem PySem.Spec PyProof.Rows L2
def rSort1 : List V → Hp → VK → Prop := fun vs H Q => ∃ (G : Hp) (a : Addr) (u : V) (d : PyData), vs = [.ref a] ∧ Same G H ∧ G a = some (.lst [u]) ∧ RD G u d ∧ ∀ (p : Addr), H p = none → Q (.ref p) (upd H p (.lst [u]))
theorem cr_sort1 {X : Cx} : CallR X (.builtin "sorted") rSort1 := by
  intro pins s σ H vs us Q I r ⟨G, a, u, d, ex, sm, ea, rd, q⟩
  subst ex
  rw [Vals.ref1 r]
  obtain ⟨its, rv, pl, hz⟩ := I.list (SqL.of (sm _ _ ea))
  have hlen : its.length = 1 := rv.length.symm
  refine SrtO.sorted_ord (swo_data (SeqAt.readOf s.heap)) pl.isList (by rw [hlen]; exact hz) (fun h2 => by omega) fun out hs hb => ?_
  have e : out = its := by
    obtain ⟨x, rfl⟩ := List.length_eq_one_iff.mp hlen
    exact List.perm_singleton.mp hb.perm
  subst e
  obtain ⟨ep, he'⟩ := PyProof.Rows.sortedAll_at s.heap out out.toArray
  exact ⟨.ref _, upd H (s.heap.objs.size + 1) (.lst [u]), I.laid (t' := s.toks) (fun _ _ => PyProof.Rows.sortedAll_old) (Nat.le_succ _) ⟨hz, out, ep, rv, by simpa using he'⟩, rfl, q _ (I.hok.fresh (Nat.le_succ _))⟩
def gSort1 : TF := fun qs P => ∃ d, qs = [.list [d]] ∧ P (.list [d])
theorem cd_sort1 : CallD rSort1 gSort1 := by
  intro G H vs qs P Q s r ⟨d, e, p⟩ k
  subst e
  obtain ⟨v, rfl, rv⟩ := r.one
  obtain ⟨a, us, rfl, ea, ra⟩ := rv.lst_of
  obtain ⟨u, rfl, ru⟩ := ra.one
  refine ⟨G, a, u, d, rfl, s, ea, ru, fun q hq => ?_⟩
  have g := Grow.new (o := .lst [u]) s hq
  exact k _ _ _ _ p g (.lst upd_same (.cons (ru.mono (g.gg s)) .nil))
def gSortZ1 : TF := fun qs P => gSortZ qs P ∨ gSort1 qs P
theorem cr_sortZ1 {X : Cx} (hu : X.A.units + 67 < cLine) : CallR X (.builtin "sorted") (fun xs H Q => rSortZ xs H Q ∨ rSort1 xs H Q) := (cr_sortZ hu).or cr_sort1
theorem cd_sortZ1 : CallD (fun xs H Q => rSortZ xs H Q ∨ rSort1 xs H Q) gSortZ1 := by
  intro G H vs qs P Q s r h k
  rcases h with h | h
  · exact .inl (cd_sortZ G H vs qs P Q s r h k)
  · exact .inr (cd_sort1 G H vs qs P Q s r h k)
end DL

-- text V7
set_option Elab.async false
set_option linter.all false
set_option maxRecDepth 100000
set_option maxHeartbeats 4000000
/-! The law's side: pairs between, beside one another. -/
namespace EvL
open PySem PySem.Spec PyProof.Rows L2 DL
def ups (a b : Int) : List Int := (List.range (b - a).toNat).map fun i : Nat => a + (i : Int)
theorem mem_ups {a b x : Int} : x ∈ ups a b ↔ a ≤ x ∧ x < b := by
  unfold ups
  rw [List.mem_map]
  constructor
  · rintro ⟨i, hi, rfl⟩
    have := List.mem_range.mp hi
    omega
  · rintro ⟨h0, h1⟩
    exact ⟨(x - a).toNat, List.mem_range.mpr (by omega), by omega⟩
def btwJ (one other : List Int) (i : Nat) : List Pr := match one[i]?, other[i]? with
  | some x, some y => (ups (min x y + 1) (max x y)).map fun l => ((i : Int), l)
  | _, _ => []
def btwP (one other : List Int) : List Pr := ((List.range one.length).map (btwJ one other)).flatten
theorem mem_btw {one other : List Int} {p : Pr} : p ∈ btwP one other ↔ ∃ (i : Nat) (x y : Int), p.1 = (i : Int) ∧ one[i]? = some x ∧ other[i]? = some y ∧ min x y < p.2 ∧ p.2 < max x y := by
  unfold btwP
  rw [mem_flat_range]
  constructor
  · rintro ⟨i, hi, hp⟩
    unfold btwJ at hp
    cases e1 : one[i]? with
    | none => rw [e1] at hp; cases hp
    | some x =>
      cases e2 : other[i]? with
      | none => rw [e1, e2] at hp; cases hp
      | some y =>
        rw [e1, e2] at hp
        obtain ⟨l, hl, rfl⟩ := List.mem_map.mp hp
        have := mem_ups.mp hl
        exact ⟨i, x, y, rfl, e1, e2, by show min x y < l; omega, by show l < max x y; omega⟩
  · rintro ⟨i, x, y, e, e1, e2, h1, h2⟩
    refine ⟨i, (List.getElem?_eq_some_iff.mp e1).1, ?_⟩
    unfold btwJ
    rw [e1, e2]
    exact List.mem_map.mpr ⟨p.2, mem_ups.mpr ⟨by omega, h2⟩, Prod.ext e.symm rfl⟩
theorem ups_len (a b : Int) : (ups a b).length = (b - a).toNat := by
  unfold ups
  rw [List.length_map, List.length_range]
theorem ups_sorted (a b : Int) : (ups a b).Pairwise (· < ·) := by
  unfold ups
  rw [List.pairwise_map]
  exact List.Pairwise.imp (fun h => by omega) List.pairwise_lt_range
theorem rgC_ups (a b : Int) : rgD a (b - a).toNat = (ups a b).map PyData.int := by
  unfold ups rgD
  rw [List.map_map]
  rfl
def besP (bs : List Pr) (p q : Pr) : Bool := if p.1 = q.1 then decide (p.2 - q.2 = 1 ∨ q.2 - p.2 = 1) else decide (p.2 = q.2) && adj bs p.1 q.1
theorem besP_symm {bs : List Pr} {p q : Pr} (h : besP bs p q = false) : besP bs q p = false := by
  unfold besP adj at h ⊢
  by_cases e : p.1 = q.1
  · rw [if_pos e] at h
    rw [if_pos e.symm]
    rw [decide_eq_false_iff_not] at h ⊢
    omega
  · rw [if_neg e] at h
    rw [if_neg (Ne.symm e)]
    rw [Bool.and_eq_false_iff, decide_eq_false_iff_not, decide_eq_false_iff_not] at h ⊢
    rcases h with h | h
    · exact .inl (Ne.symm h)
    · exact .inr fun z => h z.symm
theorem besP_self {bs : List Pr} (p : Pr) : besP bs p p = false := by
  unfold besP
  rw [if_pos rfl, decide_eq_false_iff_not]
  omega
theorem alikeAll_map {α : Type} {f : α → PyData} (h : ∀ x y, PySem.W.alike (f x) (f y) = true) : ∀ a b : List α, PySem.W.alikeAll (a.map f) (b.map f) = true
  | [], [] => by simp [PySem.W.alikeAll]
  | [], _ :: _ => by simp [PySem.W.alikeAll]
  | _ :: _, [] => by simp [PySem.W.alikeAll]
  | x :: a, y :: b => by
    have := alikeAll_map h a b
    simp [PySem.W.alikeAll, h, this]
theorem map_inj {α β : Type} {f : α → β} (hf : ∀ a b, f a = f b → a = b) : ∀ {xs ys : List α}, xs.map f = ys.map f → xs = ys
  | [], [], _ => rfl
  | [], _ :: _, h => by cases h
  | _ :: _, [], h => by cases h
  | x :: xs, y :: ys, h => by
    rw [List.map_cons, List.map_cons] at h
    injection h with h1 h2
    rw [hf _ _ h1, map_inj hf h2]
theorem rep_flat (k : Nat) (x : Int) : (List.replicate k [PyData.int x]).flatten = (List.replicate k x).map PyData.int := by
  rw [List.map_replicate]
  induction k with
  | zero => rfl
  | succ z ih => rw [List.replicate_succ, List.flatten_cons, ih, List.replicate_succ]; rfl
theorem vs_level {k : Int} {bs : List Pr} (k0 : 0 ≤ k) (x : Int) : VS k bs (List.replicate k.toNat x) := by
  refine ⟨by rw [List.length_replicate]; omega, fun b hb y z hy hz => ?_⟩
  have h1 := List.eq_of_mem_replicate (List.mem_of_getElem? hy)
  have h2 := List.eq_of_mem_replicate (List.mem_of_getElem? hz)
  omega
theorem btwJ_len {one other : List Int} {i : Nat} (hb : ∀ x y, one[i]? = some x → other[i]? = some y → (x - y).natAbs ≤ 1000) : (btwJ one other i).length ≤ 1000 := by
  unfold btwJ
  cases e1 : one[i]? with
  | none => simp
  | some x =>
    cases e2 : other[i]? with
    | none => simp
    | some y =>
      show (((ups (min x y + 1) (max x y)).map fun l => ((i : Int), l))).length ≤ 1000
      rw [List.length_map, ups_len]
      have := hb x y e1 e2
      omega
end EvL

-- text D11
set_option Elab.async false
set_option linter.all false
set_option maxRecDepth 100000
set_option maxHeartbeats 4000000
namespace EvL
open PySem PySem.Spec PyProof.Rows L2 DL
section
variable {P : Program} {w : World} {K : PySem.W.Frag} {mg : Str → Option Value} {base : Heap}
def C_law_two_stands : TFM := fun ds n P => ∃ (k : Int) (bs : List Pr) (hi : Int), ds = [eF k bs, .int hi] ∧ VF k bs ∧ k ≤ 4 ∧ 0 ≤ hi ∧ hi ≤ 100 ∧ n ≤ 100000000 ∧ ∀ (s u : List Int) (m : Nat), VS k bs s → VS k bs u → (∀ x ∈ s, 0 ≤ x ∧ x ≤ hi) → (∀ x ∈ u, 0 ≤ x ∧ x ≤ hi) → n ≤ m → m ≤ n + 50 → P (.tuple [eS s, eS u]) m
abbrev N_law_two_stands : List Str := ["_law_tin", "_law_frame_so", "_law_high_so", "_law_kind_so", "_law_near_so", "_law_one_so", "_law_other_so"]
theorem sc_law_two_stands : FnScope N_law_two_stands ["_law_tin", "_law_frame_so", "_law_high_so"] (defScope s_law_two_stands) := ⟨rfl, rfl, rfl, by decide +kernel, rfl, by decide +kernel, by decide +kernel⟩
theorem o_law_two_stands (B : B0 K mg) : OkT P w K mg base "_law_two_stands" ["_law_tin", "_law_frame_so", "_law_high_so"] 3 C_law_two_stands := by
  have nd := sc_law_two_stands.nd
  obtain ⟨fd, F⟩ := B.says.def_ 46 (d := mkD "_law_two_stands" s_law_two_stands) rfl
  refine ⟨fd, fn_dm (C := C_law_two_stands) F sc_law_two_stands (by rintro ds n Q ⟨_, _, _, rfl, _⟩; rfl) (fun cdv A outer s H E hr => (dss_cons (dsm_par (i := 3) (j := 4) rfl nd rfl rfl (by decide) rfl rfl (dm_fn (o_law_take B) hr (by rfl) (pv 0 rfl (Or.inl rfl)) (dma_cons (dm_of dp_int) dma_nil)) (dm_of (dp_callB (cr_min2 rfl) cd_min (by rfl) (f_min B) (by decide +kernel) (da_cons dp_int (da_cons (dp_var (pv 2 rfl (Or.inl rfl))) da_nil)))) (by rfl))
    (dss_cons (ds_if (dt_cmp (op_eqD hr.units) od_eq (dp_var (pv 3 rfl (Or.inl rfl))) dp_int (nomark _)) (dss_cons (dsm_set (i := 5) nd rfl (Or.inl rfl) (dm_fn (o_law_some_stand B) hr (by rfl) (pv 0 rfl (Or.inl rfl)) (dma_cons (dm_of (dp_var (pv 1 rfl (Or.inl rfl)))) (dma_cons (dm_of dp_int) (dma_cons (dm_of (dp_var (pv 2 rfl (Or.inl rfl)))) dma_nil)))))
    (dss_one (ds_ret (dp_tup (da_cons (dp_var (pv 5 rfl (Or.inl rfl))) (da_cons (dp_var (pv 5 rfl (Or.inl rfl))) da_nil)))))) dss_nil)
    (dss_cons (ds_if (dt_cmp (op_eqD hr.units) od_eq (dp_var (pv 3 rfl (Or.inl rfl))) dp_int (nomark _)) (dss_one (ds_ret (dp_tup (da_cons (dp_op op_mul3 od_mul (dp_tup (da_cons dp_int da_nil)) (dp_ix (dp_var (pv 1 rfl (Or.inl rfl))) dp_int (fun _ _ => rfl))) (da_cons (dp_op op_mul3 od_mul (dp_tup (da_cons (dp_var (pv 2 rfl (Or.inl rfl))) da_nil)) (dp_ix (dp_var (pv 1 rfl (Or.inl rfl))) dp_int (fun _ _ => rfl))) da_nil))))) dss_nil)
    (dss_cons (ds_if (dt_cmp op_lt od_lt (dp_var (pv 3 rfl (Or.inl rfl))) dp_int (nomark _)) (dss_one (dsm_ret (dm_tup (dma_cons (dm_fn (o_law_some_stand B) hr (by rfl) (pv 0 rfl (Or.inl rfl)) (dma_cons (dm_of (dp_var (pv 1 rfl (Or.inl rfl)))) (dma_cons (dm_of dp_int) (dma_cons (dm_of (dp_var (pv 2 rfl (Or.inl rfl)))) dma_nil)))) (dma_cons (dm_fn (o_law_some_stand B) hr (by rfl) (pv 0 rfl (Or.inl rfl)) (dma_cons (dm_of (dp_var (pv 1 rfl (Or.inl rfl)))) (dma_cons (dm_of dp_int) (dma_cons (dm_of (dp_var (pv 2 rfl (Or.inl rfl)))) dma_nil)))) dma_nil))))) dss_nil)
    (dss_cons (dsm_par (i := 5) (j := 6) rfl nd rfl rfl (by decide) rfl rfl (dm_fn (o_law_some_stand B) hr (by rfl) (pv 0 rfl (Or.inl rfl)) (dma_cons (dm_of (dp_var (pv 1 rfl (Or.inl rfl)))) (dma_cons (dm_of dp_int) (dma_cons (dm_of (dp_var (pv 4 rfl (Or.inl rfl)))) dma_nil)))) (dm_fn (o_law_some_stand B) hr (by rfl) (pv 0 rfl (Or.inl rfl)) (dma_cons (dm_of (dp_var (pv 1 rfl (Or.inl rfl)))) (dma_cons (dm_of (dp_op op_sub od_sub (dp_var (pv 2 rfl (Or.inl rfl))) (dp_var (pv 4 rfl (Or.inl rfl))))) (dma_cons (dm_of (dp_var (pv 2 rfl (Or.inl rfl)))) dma_nil)))) (by rfl))
    (dss_one (ds_ret (dp_if (dt_cmp op_lt od_lt (dp_var (pv 3 rfl (Or.inl rfl))) dp_int (nomark _)) (dp_tup (da_cons (dp_var (pv 5 rfl (Or.inl rfl))) (da_cons (dp_var (pv 6 rfl (Or.inl rfl))) da_nil))) (dp_tup (da_cons (dp_var (pv 6 rfl (Or.inl rfl))) (da_cons (dp_var (pv 5 rfl (Or.inl rfl))) da_nil)))))))))))) ?_, FunD.bindsN F (fun _ _ _ _ _ _ us hl => match us, hl with | [_, _, _], _ => rfl), F.kp, B.glo _ (B.says.fact 46 (f := .glo "_law_two_stands") rfl)⟩
  rintro t ds n Q ⟨k, bs, hi, rfl, v, k4, h0, h1, hn, q⟩
  have k2 := v.n2
  refine ⟨t, n, rfl, _, rfl, by decide, by decide, by omega, fun kd m1 kd0 kd1 m10 m11 => ⟨_, rfl, .inl ⟨_, _, rfl, ?_⟩⟩⟩
  obtain ⟨nr, hnr⟩ : ∃ nr, nr = if hi < 1 then hi else 1 := ⟨_, rfl⟩
  rw [← hnr]
  have nr0 : 0 ≤ nr ∧ nr ≤ hi := by rw [hnr]; split <;> omega
  clear hnr
  refine ⟨_, rfl, rfl, rfl, _, rfl, ?_⟩
  rw [eqv_int]
  cases h2 : decide (kd = 0) with
  | true => exact ⟨t, m1, rfl, _, rfl, _, rfl, k, bs, 0, hi, rfl, v, k4, by decide, h0, h1, by omega, fun s m2 vs sb m20 m21 => ⟨_, rfl, _, rfl, by show 2 ≤ 16777216; decide, m2, rfl, q s s m2 vs vs sb sb (by omega) (by omega)⟩⟩
  | false =>
  refine ⟨_, rfl, rfl, rfl, _, rfl, ?_⟩
  rw [eqv_int]
  cases h3 : decide (kd = 1) with
  | true =>
    refine ⟨by show 1 ≤ 16777216; decide, _, rfl, by decide, _, rfl, by simp, by omega, by omega, by show 1 ≤ 1000; decide, _, rfl, by show 1 ≤ 16777216; decide, _, rfl, by decide, _, rfl, by simp, by omega, by omega, by show 1 ≤ 1000; decide, by show 2 ≤ 16777216; decide, m1, rfl, ?_⟩
    show Q (.tuple [.tuple _, .tuple _]) m1
    rw [rep_flat, rep_flat]
    refine q _ _ m1 (vs_level (by omega) 0) (vs_level (by omega) hi) (fun x hx => ?_) (fun x hx => ?_) (by omega) (by omega)
    · rw [List.eq_of_mem_replicate hx]; omega
    · rw [List.eq_of_mem_replicate hx]; omega
  | false =>
  refine ⟨_, rfl, _, rfl, ?_⟩
  cases h4 : decide (kd < 4) with
  | true => exact ⟨t, m1, rfl, _, rfl, _, rfl, k, bs, 0, hi, rfl, v, k4, by decide, h0, h1, by omega, fun s m2 vs sb m20 m21 => ⟨_, rfl, _, rfl, k, bs, 0, hi, rfl, v, k4, by decide, h0, h1, by omega, fun u m3 vu ub m30 m31 => ⟨by show 2 ≤ 16777216; decide, m3, rfl, q s u m3 vs vu sb ub (by omega) (by omega)⟩⟩⟩
  | false =>
  refine ⟨t, m1, rfl, _, rfl, _, rfl, k, bs, 0, nr, rfl, v, k4, by decide, nr0.1, by omega, by omega, fun s m2 vs sb m20 m21 => ⟨_, rfl, _, rfl, _, rfl, _, rfl, k, bs, hi - nr, hi, rfl, v, k4, by omega, by omega, h1, by omega, fun u m3 vu ub m30 m31 => ?_⟩⟩
  have sb : ∀ x ∈ s, 0 ≤ x ∧ x ≤ hi := fun x hx => by have := sb x hx; omega
  have ub : ∀ x ∈ u, 0 ≤ x ∧ x ≤ hi := fun x hx => by have := ub x hx; omega
  refine ⟨_, rfl, _, rfl, ?_⟩
  cases h5 : decide (kd < 8) with
  | true => exact ⟨_, rfl, _, rfl, by show 2 ≤ 16777216; decide, m3, rfl, q s u m3 vs vu sb ub (by omega) (by omega)⟩
  | false => exact ⟨_, rfl, _, rfl, by show 2 ≤ 16777216; decide, m3, rfl, q u s m3 vu vs ub sb (by omega) (by omega)⟩
def C_law_roomy : TF := fun ds P => ∃ (n : Int) (bs : List Pr) (s : List Int) (k : Int), ds = [eF n bs, eS s, .int k] ∧ VF n bs ∧ (s.length : Int) = n ∧ (∀ x ∈ s, -1000 ≤ x ∧ x ≤ 1000) ∧ 0 ≤ k ∧ k < n ∧ ∀ rs : List Int, (∀ x, x ∈ rs ↔ ∀ j y, adj bs k j = true → s[j.toNat]? = some y → x ≤ y + 1 ∧ y ≤ x + 1) → P (.list (rs.map .int))
abbrev N_law_roomy : List Str := ["_law_frame_so", "_law_own", "_law_k", "_law_near_so", "_law_j"]
theorem sc_law_roomy : FnScope N_law_roomy ["_law_frame_so", "_law_own", "_law_k"] (defScope s_law_roomy) := ⟨rfl, rfl, rfl, by decide +kernel, rfl, by decide +kernel, by decide +kernel⟩
theorem o_law_roomy (B : B0 K mg) : Ok P w K mg base "_law_roomy" ["_law_frame_so", "_law_own", "_law_k"] 2 C_law_roomy := by
  have nd := sc_law_roomy.nd
  obtain ⟨fd, F⟩ := B.says.def_ 47 (d := mkD "_law_roomy" s_law_roomy) rfl
  refine ⟨fd, fn_dl (C := C_law_roomy) F sc_law_roomy (by rintro ds Q ⟨_, _, _, _, rfl, _⟩; rfl) (fun cdv A outer s H E hr => (dss_cons (ds_frzA 3 (ds_setLc (i := 3) rfl nd rfl rfl (sw_true rfl rfl rfl (by decide +kernel)) (own := [("_law_j", 4)]) (ws := [4])  (di_seq (dp_fn (o_law_next_to B) hr (by rfl) (da_cons (dp_var (pv 0 rfl (Or.inl rfl))) (da_cons (dp_var (pv 2 rfl (Or.inl rfl))) da_nil)))) (blkOk_by (N := N_law_roomy) (sc := (defScope s_law_roomy)) (by decide +kernel)) (by decide) (fun _ _ _ _ _ => (dg_name (pg_name (i := 4) nd rfl (Or.inl rfl)))) (fun _ _ _ _ _ => dts_nil) (fun _ _ _ _ _ => (dp_ix (dp_var (pv 1 rfl (Or.inr (Or.inl rfl)))) (dp_var (pv 4 rfl (Or.inl rfl))) (fun _ _ => rfl)))))
    (dss_one (ds_ret (DF.dp (df_lrange rfl (by rfl) (f_list B) (by rfl) (f_range B) (dp_op op_sub od_sub (dp_callB (cr_max2 rfl) cd_max (by rfl) (f_max B) (by decide +kernel) (da_cons (dp_var (pv 3 rfl (Or.inl rfl))) da_nil)) dp_int) (dp_op op_add3 od_add (dp_callB (cr_min2 rfl) cd_min (by rfl) (f_min B) (by decide +kernel) (da_cons (dp_var (pv 3 rfl (Or.inl rfl))) da_nil)) dp_int))))))) ?_, FunD.bindsN F (fun _ _ _ _ _ _ us hl => match us, hl with | [_, _, _], _ => rfl), F.kp, B.glo _ (B.says.fact 47 (f := .glo "_law_roomy") rfl)⟩
  rintro ds Q ⟨n, bs, s, k, rfl, v, sl, sb, k0, k1, q⟩
  have near : ∀ j ∈ nxt bs k, adj bs k j = true ∧ ∃ y, s[j.toNat]? = some y ∧ 0 ≤ j ∧ s.getD j.toNat 0 = y := fun j hj => by
    have h := (mem_nxt v).mp hj
    have := adj_ok v h
    have e : s[j.toNat]? = some (s[j.toNat]'(by omega)) := List.getElem?_eq_getElem (show j.toNat < s.length by omega)
    exact ⟨h, _, e, by omega, by rw [List.getD_eq_getElem?_getD, e]; rfl⟩
  refine lcM (ti := dSeq (dApp C_law_next_to (dCons (dV 0) (dCons (dV 2) dNil)))) (nxt bs k) PyData.int (fun j => s.getD j.toNat 0) PyData.int (fun R hR => ⟨_, rfl, _, rfl, n, bs, k, rfl, v.len, _, rfl, hR⟩) (by have := nxt_len bs k; have := v.len; omega) (fun j hj R hR => ?_) ?_
  · obtain ⟨ha, y, hy, j0, e⟩ := near j hj
    rw [e] at hR
    exact ⟨_, rfl, _, rfl, j0, .int y, (by rw [List.getElem?_map, hy]; rfl), hR⟩
  refine ⟨_, _, rfl, rfl, ?_⟩
  generalize hns : (nxt bs k).map (fun j => s.getD j.toNat 0) = ns
  have hmem : ∀ y, y ∈ ns ↔ ∃ j, adj bs k j = true ∧ s[j.toNat]? = some y := by
    intro y
    rw [← hns, List.mem_map]
    constructor
    · rintro ⟨j, hj, rfl⟩
      obtain ⟨ha, y, hy, j0, e⟩ := near j hj
      exact ⟨j, ha, by rw [e]; exact hy⟩
    · rintro ⟨j, ha, hy⟩
      exact ⟨j, (mem_nxt v).mpr ha, by rw [List.getD_eq_getElem?_getD, hy]; rfl⟩
  have pos : 0 < ns.length := by
    obtain ⟨b, hb, e⟩ := v.all k k0 k1
    have o := v.ok b hb
    have : ∃ j, adj bs k j = true := by
      rcases e with e | e
      · exact ⟨b.2, by unfold adj; rw [decide_eq_true_eq, e]; exact .inl hb⟩
      · exact ⟨b.1, by unfold adj; rw [decide_eq_true_eq, e]; exact .inr hb⟩
    obtain ⟨j, hj⟩ := this
    rw [← hns, List.length_map]
    exact List.length_pos_of_mem ((mem_nxt v).mpr hj)
  have nb : ∀ y ∈ ns, -1000 ≤ y ∧ y ≤ 1000 := fun y hy => by
    obtain ⟨j, _, h⟩ := (hmem y).mp hy
    exact sb y (List.mem_of_getElem? h)
  refine ⟨_, rfl, .inr ⟨ns, rfl, pos, fun mx hmx mxm => ⟨_, rfl, .inr ⟨ns, rfl, pos, fun mn hmn mnm => ?_⟩⟩⟩⟩
  have b1 := nb mx hmx
  have b2 := nb mn hmn
  refine ⟨_, _, rfl, rfl, ⟨by omega, by omega, by omega, by omega, by omega⟩, ?_⟩
  rw [rgC_ups]
  refine q _ fun x => ?_
  rw [mem_ups]
  constructor
  · rintro ⟨h1, h2⟩ j y ha hy
    have hy' := (hmem y).mpr ⟨j, ha, hy⟩
    have := mxm y hy'
    have := mnm y hy'
    omega
  · intro h
    obtain ⟨j1, a1, e1⟩ := (hmem mx).mp hmx
    obtain ⟨j2, a2, e2⟩ := (hmem mn).mp hmn
    have := h j1 mx a1 e1
    have := h j2 mn a2 e2
    omega
def C_law_between_pairs : TF := fun ds P => ∃ (one other : List Int), ds = [eS one, eS other] ∧ one.length = other.length ∧ one.length ≤ 8 ∧ (∀ x ∈ one, -100 ≤ x ∧ x ≤ 100) ∧ (∀ x ∈ other, -100 ≤ x ∧ x ≤ 100) ∧ P (.list ((btwP one other).map eP))
abbrev N_law_between_pairs : List Str := ["_law_one_so", "_law_other_so", "_law_found", "_law_k", "_law_own", "_law_level_so"]
theorem sc_law_between_pairs : FnScope N_law_between_pairs ["_law_one_so", "_law_other_so"] (defScope s_law_between_pairs) := ⟨rfl, rfl, rfl, by decide +kernel, rfl, by decide +kernel, by decide +kernel⟩
theorem o_law_between_pairs (B : B0 K mg) : Ok P w K mg base "_law_between_pairs" ["_law_one_so", "_law_other_so"] 1 C_law_between_pairs := by
  have nd := sc_law_between_pairs.nd
  obtain ⟨fd, F⟩ := B.says.def_ 48 (d := mkD "_law_between_pairs" s_law_between_pairs) rfl
  refine ⟨fd, fn_dl (C := C_law_between_pairs) F sc_law_between_pairs (by rintro ds Q ⟨_, _, rfl, _⟩; rfl) (fun cdv A outer s H E hr => (dss_cons (ds_set (i := 2) nd rfl (Or.inl rfl) (DP.de (DF.dp (df_lst da_nil))))
    (dss_cons (ds_for PassesOwn.never rfl (di_enumT (by rfl) (f_enumerate B) (da_cons (dp_var (pv 0 rfl (Or.inl rfl))) da_nil)) (dg_tup rfl (dgs_cons (dg_name (pg_name (i := 3) nd rfl (Or.inr rfl))) (dgs_cons (dg_name (pg_name (i := 4) nd rfl (Or.inl rfl))) dgs_nil))) (dss_one (ds_set (i := 2) nd rfl (Or.inl rfl) (DP.de (dp_op op_add3 od_add (dp_var (pv 2 rfl (Or.inl rfl))) (DF.dp (df_lc (own := [("_law_level_so", 5)]) (ws := [5]) rfl nd (di_range2 (by rfl) (f_range B) (da_cons (dp_op op_add3 od_add (dp_callB (cr_min2 rfl) cd_min (by rfl) (f_min B) (by decide +kernel) (da_cons (dp_var (pv 4 rfl (Or.inl rfl))) (da_cons (dp_ix (dp_var (pv 1 rfl (Or.inl rfl))) (dp_var (pv 3 rfl (Or.inr (Or.inl rfl)))) (fun _ _ => rfl)) da_nil))) dp_int) (da_cons (dp_callB (cr_max2 rfl) cd_max (by rfl) (f_max B) (by decide +kernel) (da_cons (dp_var (pv 4 rfl (Or.inl rfl))) (da_cons (dp_ix (dp_var (pv 1 rfl (Or.inl rfl))) (dp_var (pv 3 rfl (Or.inr (Or.inl rfl)))) (fun _ _ => rfl)) da_nil))) da_nil))) (blkOk_by (N := N_law_between_pairs) (sc := (defScope s_law_between_pairs)) (by decide +kernel)) (by decide) (fun _ _ _ _ _ => (dg_name (pg_name (i := 5) nd rfl (Or.inl rfl)))) (fun _ _ _ _ _ => dts_nil) (fun _ _ _ _ _ => (dp_tup (da_cons (dp_var (pv 3 rfl (Or.inr (Or.inl rfl)))) (da_cons (dp_var (pv 5 rfl (Or.inl rfl))) da_nil)))))))))))
    (dss_one (ds_ret (dp_var (pv 2 rfl (Or.inl rfl)))))))) ?_, FunD.bindsN F (fun _ _ _ _ _ _ us hl => match us, hl with | [_, _], _ => rfl), F.kp, B.glo _ (B.says.fact 48 (f := .glo "_law_between_pairs") rfl)⟩
  rintro ds Q ⟨one, other, rfl, hl, h8, ob, tb, q⟩
  have bnd : ∀ (i : Nat) (x y : Int), one[i]? = some x → other[i]? = some y → (x - y).natAbs ≤ 1000 := by
    intro i x y hx hy
    have := ob x (List.mem_of_getElem? hx)
    have := tb y (List.mem_of_getElem? hy)
    omega
  have flen : ∀ i, i ≤ one.length → ((((List.range one.length).take i).map (btwJ one other)).flatten).length ≤ 8000 := by
    intro i hi
    have h1 := flat_len (btwJ one other) 1000 ((List.range one.length).take i) fun k _ => btwJ_len (bnd k)
    have h2 : ((List.range one.length).take i).length ≤ 8 := by rw [List.length_take, List.length_range]; omega
    have h3 : ((List.range one.length).take i).length * 1000 ≤ 8 * 1000 := Nat.mul_le_mul_right _ h2
    omega
  refine ⟨by show 0 ≤ 16777216; decide, ?_⟩
  refine forI (ti := dEnumT (dCons (dV 0) dNil)) ((List.range one.length).zip one) (fun p => .tuple [.int (p.1 : Nat), .int p.2]) (fun R hR => ⟨_, rfl, _, rfl, by rw [enumD_enc]; exact hR⟩)
    (fun i ρ => ∃ x3 x4 x5, ρ = [.sh (eS one), .sh (eS other), .sh (.list (((((List.range one.length).take i).map (btwJ one other)).flatten).map eP)), x3, x4, x5]) ⟨_, _, _, rfl⟩ ?_ ?_
  · rintro i ⟨k, h⟩ ρ hk ⟨x3, x4, x5, rfl⟩
    rw [List.getElem?_zip_eq_some] at hk
    obtain ⟨hk1, hk2⟩ := hk
    have hi : i < one.length := (List.getElem?_eq_some_iff.mp hk2).1
    have ek : k = i := by
      have e : (List.range one.length)[i]? = some i := List.getElem?_range hi
      rw [e] at hk1
      exact (Option.some.inj hk1).symm
    subst ek
    obtain ⟨e, he⟩ : ∃ e, other[k]? = some e := ⟨_, List.getElem?_eq_getElem (by omega)⟩
    have ge : (other.map PyData.int)[(k : Int).toNat]? = some (.int e) := by rw [Int.toNat_natCast, List.getElem?_map, he]; rfl
    have bh := ob h (List.mem_of_getElem? hk2)
    have be := tb e (List.mem_of_getElem? he)
    have jm : btwJ one other k = (ups (min h e + 1) (max h e)).map fun l => ((k : Int), l) := by
      unfold btwJ
      rw [hk2, he]
    have emin : (if e < h then e else h) = min h e := by split <;> omega
    have emax : (if e > h then e else h) = max h e := by split <;> omega
    refine ⟨_, rfl, rfl, ?_⟩
    refine ⟨_, rfl, ?_⟩
    refine lcM (ti := dRg2 (dCons (dOp gAdd (dApp gMin (dCons (dV 4) (dCons (dOp gIx (dV 1) (dV 3)) dNil))) (dC (.int 1))) (dCons (dApp gMax (dCons (dV 4) (dCons (dOp gIx (dV 1) (dV 3)) dNil))) dNil))) (ups (min h e + 1) (max h e)) PyData.int (fun l => ((k : Int), l)) eP
      (fun R hR => ⟨_, rfl, _, rfl, _, rfl, by omega, _, ge, .inl ⟨_, _, rfl, _, rfl, _, rfl, _, rfl, by omega, _, ge, .inl ⟨_, _, rfl, _, _, rfl, ⟨by rw [emin]; omega, by rw [emin]; omega, by rw [emax]; omega, by rw [emax]; omega⟩, by rw [emin, emax, rgC_ups]; exact hR⟩⟩⟩) (by rw [ups_len]; omega) (fun l hl R hR => ⟨_, rfl, _, rfl, by show 2 ≤ 16777216; decide, hR⟩) ?_
    refine ⟨?_, ?_⟩
    · have := flen k (by omega)
      rw [List.length_map, List.length_map, List.length_map, ups_len]
      omega
    · refine ⟨.sh (.int (k : Nat)), .sh (.int h), x5, ?_⟩
      rw [take_range_flat _ _ _ hi, jm, List.map_append]
      rfl
  · rintro ρ ⟨x3, x4, x5, rfl⟩
    have e : (((List.range one.length).take ((List.range one.length).zip one).length).map (btwJ one other)).flatten = btwP one other := by
      rw [List.length_zip, List.length_range, Nat.min_self]
      unfold btwP
      rw [List.take_of_length_le (by rw [List.length_range]; exact Nat.le_refl _)]
    rw [e]
    exact ⟨_, rfl, q⟩
def C_law_beside_so : TF := fun ds P => ∃ (n : Int) (bs : List Pr) (p q : Pr), ds = [eF n bs, eP p, eP q] ∧ VF n bs ∧ P (.bool (besP bs p q))
abbrev N_law_beside_so : List Str := ["_law_frame_so", "_law_near_so", "_law_far_so"]
theorem sc_law_beside_so : FnScope N_law_beside_so ["_law_frame_so", "_law_near_so", "_law_far_so"] (defScope s_law_beside_so) := ⟨rfl, rfl, rfl, by decide +kernel, rfl, by decide +kernel, by decide +kernel⟩
theorem o_law_beside_so (B : B0 K mg) : Ok P w K mg base "_law_beside_so" ["_law_frame_so", "_law_near_so", "_law_far_so"] 1 C_law_beside_so := by
  have nd := sc_law_beside_so.nd
  obtain ⟨fd, F⟩ := B.says.def_ 49 (d := mkD "_law_beside_so" s_law_beside_so) rfl
  refine ⟨fd, fn_dl (C := C_law_beside_so) F sc_law_beside_so (by rintro ds Q ⟨_, _, _, _, rfl, _⟩; rfl) (fun cdv A outer s H E hr => (dss_cons (ds_if (dt_cmp (op_eqD hr.units) od_eq (dp_ix (dp_var (pv 1 rfl (Or.inl rfl))) dp_int (fun _ _ => rfl)) (dp_ix (dp_var (pv 2 rfl (Or.inl rfl))) dp_int (fun _ _ => rfl)) (nomark _)) (dss_one (ds_ret (dp_cmp (op_eqD hr.units) od_eq (dp_callB call_abs cd_abs (by rfl) (f_abs B) (by decide +kernel) (da_cons (dp_op op_sub od_sub (dp_ix (dp_var (pv 1 rfl (Or.inl rfl))) dp_int (fun _ _ => rfl)) (dp_ix (dp_var (pv 2 rfl (Or.inl rfl))) dp_int (fun _ _ => rfl))) da_nil)) dp_int (nomark _)))) dss_nil)
    (dss_one (ds_ret (dp_and (dp_cmp (op_eqD hr.units) od_eq (dp_ix (dp_var (pv 1 rfl (Or.inl rfl))) dp_int (fun _ _ => rfl)) (dp_ix (dp_var (pv 2 rfl (Or.inl rfl))) dp_int (fun _ _ => rfl)) (nomark _)) (dp_one (dp_cmp (op_in2 (hu65 hr)) od_in (dp_tup (da_cons (dp_callB (cr_min2 rfl) cd_min (by rfl) (f_min B) (by decide +kernel) (da_cons (dp_ix (dp_var (pv 1 rfl (Or.inl rfl))) dp_int (fun _ _ => rfl)) (da_cons (dp_ix (dp_var (pv 2 rfl (Or.inl rfl))) dp_int (fun _ _ => rfl)) da_nil))) (da_cons (dp_callB (cr_max2 rfl) cd_max (by rfl) (f_max B) (by decide +kernel) (da_cons (dp_ix (dp_var (pv 1 rfl (Or.inl rfl))) dp_int (fun _ _ => rfl)) (da_cons (dp_ix (dp_var (pv 2 rfl (Or.inl rfl))) dp_int (fun _ _ => rfl)) da_nil))) da_nil))) (dp_ix (dp_var (pv 0 rfl (Or.inl rfl))) dp_int (fun _ _ => rfl)) (by rfl)))))))) ?_, FunD.bindsN F (fun _ _ _ _ _ _ us hl => match us, hl with | [_, _, _], _ => rfl), F.kp, B.glo _ (B.says.fact 49 (f := .glo "_law_beside_so") rfl)⟩
  rintro ds Q ⟨n, bs, p, p2, rfl, v, q⟩
  refine ⟨_, rfl, by decide, _, rfl, _, rfl, by decide, _, rfl, rfl, rfl, _, rfl, ?_⟩
  rw [eqv_int]
  unfold besP at q
  cases h : decide (p.1 = p2.1) with
  | true =>
    rw [if_pos (of_decide_eq_true h)] at q
    refine ⟨_, rfl, by decide, _, rfl, _, rfl, by decide, _, rfl, _, rfl, rfl, rfl, ?_⟩
    rw [eqv_int]
    have e : decide ((if p.2 - p2.2 < 0 then -(p.2 - p2.2) else p.2 - p2.2) = 1) = decide (p.2 - p2.2 = 1 ∨ p2.2 - p.2 = 1) := decide_eq_decide.mpr (by split <;> omega)
    rw [e]
    exact q
  | false =>
    rw [if_neg (of_decide_eq_false h)] at q
    have hne := of_decide_eq_false h
    refine ⟨_, rfl, by decide, _, rfl, _, rfl, by decide, _, rfl, rfl, rfl, _, rfl, ?_⟩
    rw [eqv_int]
    cases h2 : decide (p.2 = p2.2) with
    | false => rw [h2] at q; exact q
    | true =>
      rw [h2] at q
      refine ⟨_, rfl, by decide, _, rfl, _, rfl, by decide, _, rfl, .inl ⟨_, _, rfl, _, rfl, by decide, _, rfl, _, rfl, by decide, _, rfl, .inl ⟨_, _, rfl, by show 2 ≤ 16777216; decide, _, rfl, by decide, _, rfl, rfl, (pl_TP bs).sh, ?_⟩⟩⟩
      have e : inD (eP ((if p2.1 < p.1 then p2.1 else p.1), (if p2.1 > p.1 then p2.1 else p.1))) (bs.map eP) = adj bs p.1 p2.1 := by
        rw [inD_map pl_P (fun _ _ => eP_inj)]
        unfold adj
        refine decide_eq_decide.mpr ?_
        by_cases hlt : p2.1 < p.1
        · rw [if_pos hlt, if_neg (by omega)]
          constructor
          · exact .inr
          · rintro (z | z)
            · have := v.ok _ z; simp only at this; omega
            · exact z
        · rw [if_neg hlt, if_pos (by omega)]
          constructor
          · exact .inl
          · rintro (z | z)
            · exact z
            · have := v.ok _ z; simp only at this; omega
      show Q (.bool (inD (eP ((if p2.1 < p.1 then p2.1 else p.1), (if p2.1 > p.1 then p2.1 else p.1))) (bs.map eP)))
      rw [e]
      exact q
def C_law_every_passing : TF := fun ds P => ∃ (n : Int) (bs : List Pr) (ps : List Pr), ds = [eF n bs, .list (ps.map eP)] ∧ VF n bs ∧ ps.length < 11 ∧ ∀ ys : List (List Pr), ys.length ≤ 1024 → (∀ y ∈ ys, y.Sublist ps ∧ ∀ p ∈ y, ∀ r ∈ y, besP bs p r = false) → P (.list (ys.map eTP))
abbrev N_law_every_passing : List Str := ["_law_frame_so", "_law_pairs_so", "_law_found", "_law_near_so", "_law_its", "_law_own"]
abbrev c1_law_every_passing : Scope := { kind := PySem.ScopeKind.function, names := [ (PySem.Str.ofString ".0", PySem.NameKind.local), (PySem.Str.ofString "_law_own", PySem.NameKind.local), (PySem.Str.ofString "_law_frame_so", PySem.NameKind.free), (PySem.Str.ofString "_law_near_so", PySem.NameKind.free)], isGenerator := false, isCoroutine := false, more := [] : PySem.Scope }
theorem sc_law_every_passing : FnScope N_law_every_passing ["_law_frame_so", "_law_pairs_so"] (defScope s_law_every_passing) := ⟨rfl, rfl, rfl, by decide +kernel, rfl, by decide +kernel, by decide +kernel⟩
theorem o_law_every_passing (B : B0 K mg) : Ok P w K mg base "_law_every_passing" ["_law_frame_so", "_law_pairs_so"] 2 C_law_every_passing := by
  have nd := sc_law_every_passing.nd
  obtain ⟨fd, F⟩ := B.says.def_ 50 (d := mkD "_law_every_passing" s_law_every_passing) rfl
  refine ⟨fd, fn_dl (C := C_law_every_passing) F sc_law_every_passing (by rintro ds Q ⟨_, _, _, rfl, _⟩; rfl) (fun cdv A outer s H E hr => (dss_cons (ds_set (i := 2) nd rfl (Or.inl rfl) (DP.de (DF.dp (df_lst (da_cons (dp_tup da_nil) da_nil)))))
    (dss_cons (ds_for PassesOwn.never rfl (di_seq (dp_var (pv 1 rfl (Or.inl rfl)))) (dg_name (pg_name (i := 3) nd rfl (Or.inr rfl))) (dss_one (ds_set (i := 2) nd rfl (Or.inl rfl) (DP.de (dp_op op_add3 od_add (dp_var (pv 2 rfl (Or.inl rfl))) (DF.dp (df_lc (own := [("_law_own", 5)]) (ws := [5]) rfl nd (di_seq (dp_var (pv 2 rfl (Or.inl rfl)))) (blkOk_by (N := N_law_every_passing) (sc := (defScope s_law_every_passing)) (by decide +kernel)) (by decide) (fun _ _ _ _ _ => (dg_name (pg_name (i := 5) nd rfl (Or.inl rfl)))) (fun _ _ _ _ _ => (dts_one (dt_cmp (op_eqD hr.units) od_eq (DF.dp (df_lc (own := [("_law_its", 4)]) (ws := [4]) rfl nd (di_seq (dp_var (pv 5 rfl (Or.inl rfl)))) (blkOk_by (N := N_law_every_passing) (sc := (relS c1_law_every_passing (defScope s_law_every_passing))) (by decide +kernel)) (by decide) (fun _ _ _ _ _ => (dg_name (pg_name (i := 4) nd rfl (Or.inl rfl)))) (fun _ _ _ _ _ => (dts_one (dt_val (dp_fn (o_law_beside_so B) hr (by rfl) (da_cons (dp_var (pv 0 rfl (Or.inr (Or.inl rfl)))) (da_cons (dp_var (pv 4 rfl (Or.inl rfl))) (da_cons (dp_var (pv 3 rfl (Or.inr (Or.inl rfl)))) da_nil))))))) (fun _ _ _ _ _ => dp_int))) (DF.dp (df_lst da_nil)) (nomark _)))) (fun _ _ _ _ _ => (dp_op op_add3 od_add (dp_var (pv 5 rfl (Or.inl rfl))) (dp_tup (da_cons (dp_var (pv 3 rfl (Or.inr (Or.inl rfl)))) da_nil)))))))))))
    (dss_one (ds_ret (dp_callB (cr_sortP (hu67 hr)) cd_sortP (by rfl) (f_sorted B) (by decide +kernel) (da_cons (dp_var (pv 2 rfl (Or.inl rfl))) da_nil))))))) ?_, FunD.bindsN F (fun _ _ _ _ _ _ us hl => match us, hl with | [_, _], _ => rfl), F.kp, B.glo _ (B.says.fact 50 (f := .glo "_law_every_passing") rfl)⟩
  rintro ds Q ⟨n, bs, ps, rfl, v, pl, q⟩
  refine ⟨by show 0 ≤ 16777216; decide, by show 1 ≤ 16777216; decide, ?_⟩
  refine forI (ti := dSeq (dV 1)) ps eP (fun R hR => ⟨_, rfl, _, rfl, hR⟩) (fun i ρ => ∃ (ys : List (List Pr)) (x3 x4 x5 : SV), ρ = [.sh (eF n bs), .sh (.list (ps.map eP)), .sh (.list (ys.map fun y => eTP y)), x3, x4, x5] ∧ ys.head? = some [] ∧ ys.length ≤ 2 ^ i ∧ ∀ y ∈ ys, y.Sublist (ps.take i) ∧ ∀ p ∈ y, ∀ r ∈ y, besP bs p r = false)
    ⟨[[]], .un, .un, .un, rfl, rfl, by decide, fun y hy => by rw [List.mem_singleton.mp hy]; exact ⟨List.nil_sublist _, (fun _ z => nomatch z)⟩⟩ ?_ ?_
  · rintro i near ρ hi ⟨ys, x3, x4, x5, rfl, hh, hl, hy⟩
    have lt := (List.getElem?_eq_some_iff.mp hi).1
    have yl : ∀ y ∈ ys, y.length ≤ 11 := fun y h => by
      have := (hy y h).1.length_le
      rw [List.length_take] at this
      omega
    have p2 : 2 ^ i ≤ 1024 := by
      have : 2 ^ i ≤ 2 ^ 10 := Nat.pow_le_pow_right (by decide) (by omega)
      omega
    refine ⟨_, rfl, ?_⟩
    refine lcF (ti := dSeq (dV 2)) ys (fun y => eTP y) (fun y => !(y.any fun p => besP bs p near)) (fun y => y ++ [near]) (fun y => eTP y) (fun R hR => ⟨_, rfl, _, rfl, hR⟩) (by omega) (fun y hym R h1 R2 h2 => ?_) ?_
    · refine lcF (ti := dSeq (dV 5)) y eP (fun p => besP bs p near) (fun _ => (1 : Int)) PyData.int (fun R hR => ⟨_, rfl, _, rfl, hR⟩) (by have := yl y hym; omega) (fun p hp R3 h3 R4 h4 => ?_) ?_
      · refine ⟨_, rfl, _, rfl, _, rfl, n, bs, p, near, rfl, v, _, rfl, ?_⟩
        cases hb : besP bs p near with
        | true => exact h3 hb
        | false => exact h4 hb
      · refine ⟨by show 0 ≤ 16777216; decide, (Pl.lst (n := 0) (pl_map fun i => .int 0 i)).sh, rfl, _, rfl, ?_⟩
        rw [PyData.eqv, eqvAll_nil]
        have e : (List.map PyData.int (List.map (fun _ => (1 : Int)) (y.filter fun p => besP bs p near))).isEmpty = !(y.any fun p => besP bs p near) := by
          cases ha : (y.any fun p => besP bs p near) with
          | true =>
            obtain ⟨p, hp, hb⟩ := List.any_eq_true.mp ha
            cases hf : (y.filter fun p => besP bs p near) with
            | nil =>
              have := (List.mem_filter (p := fun p => besP bs p near)).mpr ⟨hp, hb⟩
              rw [hf] at this
              cases this
            | cons _ _ => rfl
          | false =>
            rw [List.any_eq_false] at ha
            rw [List.filter_eq_nil_iff.mpr ha]
            rfl
        rw [e]
        cases ha : (!(y.any fun p => besP bs p near)) with
        | false => exact h2 ha
        | true =>
          refine ⟨_, rfl, _, rfl, by show 1 ≤ 16777216; decide, by rw [List.length_map]; have := yl y hym; show y.length + 1 ≤ 16777216; omega, ?_⟩
          show R (.tuple (y.map eP ++ [eP near]))
          rw [show y.map eP ++ [eP near] = (y ++ [near]).map eP from by rw [List.map_append]; rfl]
          exact h1 ha
    · have fl := List.length_filter_le (fun y => !(y.any fun p => besP bs p near)) ys
      refine ⟨by rw [List.length_map, List.length_map, List.length_map]; omega, ys ++ (ys.filter fun y => !(y.any fun p => besP bs p near)).map (fun y => y ++ [near]), .sh (eP near), x4, x5, by rw [List.map_append]; rfl, ?_, ?_, fun y hym => ?_⟩
      · rw [List.head?_append, hh]; rfl
      · rw [List.length_append, List.length_map, Nat.pow_succ]; omega
      · have tk : ps.take (i + 1) = ps.take i ++ [near] := by rw [List.take_add_one, hi]; rfl
        rw [tk]
        rcases List.mem_append.mp hym with h | h
        · exact ⟨(hy y h).1.trans (List.sublist_append_left _ _), (hy y h).2⟩
        · obtain ⟨z, hz, rfl⟩ := List.mem_map.mp h
          obtain ⟨hz1, hz2⟩ := List.mem_filter.mp hz
          have hz2 : ∀ p ∈ z, besP bs p near = false := by
            rw [Bool.not_eq_true', List.any_eq_false] at hz2
            exact fun p hp => by simpa using hz2 p hp
          refine ⟨List.Sublist.append (hy z hz1).1 (List.Sublist.refl _), fun p hp r hr => ?_⟩
          rcases List.mem_append.mp hp with h1 | h1
          · rcases List.mem_append.mp hr with h2 | h2
            · exact (hy z hz1).2 p h1 r h2
            · rw [List.mem_singleton.mp h2]; exact hz2 p h1
          · rw [List.mem_singleton.mp h1]
            rcases List.mem_append.mp hr with h2 | h2
            · exact besP_symm (hz2 r h2)
            · rw [List.mem_singleton.mp h2]; exact besP_self _
  · rintro ρ ⟨ys, x3, x4, x5, rfl, hh, hl, hy⟩
    have fi : ∀ a b : List Pr, a.map eP = b.map eP → a = b := fun a b h => map_inj (fun _ _ => eP_inj.mp) h
    have hl2 : ys.length ≤ 1024 := by
      have : 2 ^ ps.length ≤ 2 ^ 10 := Nat.pow_le_pow_right (by decide) (by omega)
      omega
    refine ⟨_, rfl, ys.map (fun y => y.map eP), by rw [List.map_map]; rfl, by rw [List.head?_map, hh]; rfl, fun a ha b hb => ?_, fun a ha => ?_, fun es pe => ?_⟩
    · obtain ⟨a, _, rfl⟩ := List.mem_map.mp ha
      obtain ⟨b, _, rfl⟩ := List.mem_map.mp hb
      exact alikeAll_map alike_P a b
    · obtain ⟨a, _, rfl⟩ := List.mem_map.mp ha
      exact (pl_TP a).sh
    · obtain ⟨zs, rfl⟩ := map_enc (fun y : List Pr => y.map eP) (ms := es) fun e he => by
        obtain ⟨a, _, h⟩ := List.mem_map.mp (pe.mem_iff.mp he)
        exact ⟨a, h⟩
      have hlen := pe.length_eq
      rw [List.length_map, List.length_map] at hlen
      rw [List.map_map]
      refine q zs (by omega) fun y hy' => ?_
      obtain ⟨a, ha, h⟩ := List.mem_map.mp (pe.mem_iff.mp (List.mem_map_of_mem (f := fun y : List Pr => y.map eP) hy'))
      have := fi _ _ h
      subst this
      have := hy _ ha
      rwa [List.take_length] at this
end
end EvL

-- text V8
set_option Elab.async false
set_option linter.all false
set_option maxRecDepth 100000
set_option maxHeartbeats 4000000
/-! The law's side: a drawn case. -/
namespace EvL
open PySem PySem.Spec PyProof.Rows L2 DL
theorem btw_sorted (one other : List Int) : (btwP one other).Pairwise fun x y => HT.lexLt (kP x) (kP y) = true := by
  unfold btwP
  rw [List.pairwise_flatten]
  have fst : ∀ i, ∀ p ∈ btwJ one other i, p.1 = (i : Int) := by
    intro i p hp
    unfold btwJ at hp
    cases e1 : one[i]? with
    | none => rw [e1] at hp; cases hp
    | some x =>
      cases e2 : other[i]? with
      | none => rw [e1, e2] at hp; cases hp
      | some y =>
        rw [e1, e2] at hp
        obtain ⟨l, hl, rfl⟩ := List.mem_map.mp hp
        rfl
  have lt1 : ∀ p q : Pr, p.1 < q.1 → HT.lexLt (kP p) (kP q) = true := by
    intro p q h
    unfold kP
    rw [HT.lexLt_cons, if_neg (by omega)]
    exact decide_eq_true h
  have lt2 : ∀ p q : Pr, p.1 = q.1 → p.2 < q.2 → HT.lexLt (kP p) (kP q) = true := by
    intro p q h h2
    unfold kP
    rw [HT.lexLt_cons, if_pos h, HT.lexLt_cons, if_neg (by omega)]
    exact decide_eq_true h2
  constructor
  · intro l hl
    obtain ⟨i, _, rfl⟩ := List.mem_map.mp hl
    unfold btwJ
    cases e1 : one[i]? with
    | none => exact List.Pairwise.nil
    | some x =>
      cases e2 : other[i]? with
      | none => exact List.Pairwise.nil
      | some y =>
        rw [List.pairwise_map]
        exact List.Pairwise.imp (fun {a b} h => lt2 ((i : Int), a) ((i : Int), b) rfl h) (ups_sorted _ _)
  · rw [List.pairwise_map]
    exact List.Pairwise.imp (fun h p hp q hq => lt1 p q (by rw [fst _ p hp, fst _ q hq]; omega)) List.pairwise_lt_range
theorem vps_of {n : Int} {bs : List Pr} {one other : List Int} {ps : List Pr} (v : VF n bs) (hs : ps.Sublist (btwP one other)) (hb : ∀ p ∈ ps, ∀ r ∈ ps, besP bs p r = false) (hl : ps.length < 500) : VPs n bs one other ps := by
  refine ⟨hl, fun p hp => ?_, asc_of_pw ((btw_sorted one other).sublist hs), fun p hp q hq hq' => ?_⟩
  · obtain ⟨i, x, y, e, e1, e2, h1, h2⟩ := mem_btw.mp (hs.subset hp)
    refine ⟨x, y, by rw [e, Int.toNat_natCast]; exact e1, by rw [e, Int.toNat_natCast]; exact e2, by omega, h1, h2⟩
  · have h := hb p hp q hq'
    unfold besP at h
    unfold besides at hq
    simp only [List.cons_append, List.nil_append, List.mem_cons] at hq
    rcases hq with e | e | hq
    · subst e
      rw [if_pos rfl, decide_eq_false_iff_not] at h
      simp only at h
      omega
    · subst e
      rw [if_pos rfl, decide_eq_false_iff_not] at h
      simp only at h
      omega
    · obtain ⟨b, hbm, rfl⟩ := List.mem_map.mp hq
      obtain ⟨hb1, hb2⟩ := List.mem_filter.mp hbm
      have hb2 := of_decide_eq_true hb2
      have o := v.ok b hb1
      have ad : adj bs p.1 (if b.1 = p.1 then b.2 else b.1) = true := by
        unfold adj
        rw [decide_eq_true_eq]
        split
        · rename_i e
          left
          rw [← e]
          exact hb1
        · rename_i e
          right
          have : p.1 = b.2 := by omega
          rw [this]
          exact hb1
      have ne := (adj_ok v ad).2.2.2.2
      simp only at h
      rw [if_neg ne, ad] at h
      simp at h
theorem range_zip {one other : List Int} {F : Nat → Nat} {g : Int × Int → Nat} (hl : one.length = other.length) (h : ∀ i x y, one[i]? = some x → other[i]? = some y → F i = g (x, y)) : (List.range one.length).map F = (one.zip other).map g := by
  apply List.ext_getElem?
  intro i
  rw [List.getElem?_map, List.getElem?_map]
  by_cases hi : i < one.length
  · rw [List.getElem?_range hi]
    have e1 : one[i]? = some one[i] := List.getElem?_eq_getElem hi
    have e2 : other[i]? = some (other[i]'(by omega)) := List.getElem?_eq_getElem (by omega)
    have e3 : (one.zip other)[i]? = some (one[i], other[i]'(by omega)) := List.getElem?_zip_eq_some.mpr ⟨e1, e2⟩
    rw [e3]
    show some (F i) = some (g _)
    rw [h i _ _ e1 e2]
  · rw [List.getElem?_eq_none (by rw [List.length_range]; omega), List.getElem?_eq_none (by rw [List.length_zip]; omega)]
    rfl
theorem sum_add (f g : Nat → Nat) : ∀ l : List Nat, (l.map f).sum + (l.map g).sum = (l.map fun i => f i + g i).sum
  | [] => rfl
  | x :: l => by
    have := sum_add f g l
    simp only [List.map_cons, List.sum_cons]
    omega
theorem sum_le {c : Nat} : ∀ {l : List Nat}, (∀ x ∈ l, x ≤ c) → l.sum ≤ l.length * c
  | [], _ => by simp
  | x :: l, h => by
    have ih := sum_le (l := l) fun y hy => h y (List.mem_cons_of_mem _ hy)
    have := h x List.mem_cons_self
    rw [List.sum_cons, List.length_cons, Nat.add_mul]
    omega
theorem sum_abs : ∀ l : List (Int × Int), (l.map fun p => if p.1 - p.2 < 0 then -(p.1 - p.2) else p.1 - p.2).sum = (((l.map fun p => (p.1 - p.2).natAbs).sum : Nat) : Int)
  | [] => rfl
  | p :: l => by
    have ih := sum_abs l
    rw [List.map_cons, List.map_cons, List.sum_cons, List.sum_cons, ih, Int.natCast_add]
    congr 1
    split <;> omega
def inJ (one other : List Int) (ps : List Pr) (i : Nat) : List Pr := match one[i]?, other[i]? with
  | some h, some e => if h = e then [] else ((levels h e).filter fun l => decide (((i : Int), l) ∈ ps)).map fun l => ((i : Int), l)
  | _, _ => []
theorem levels_len' {h e : Int} (ne : h ≠ e) : (levels h e).length + 1 = (h - e).natAbs := by
  unfold levels
  split
  · rw [List.length_map, List.length_range]; omega
  · rw [List.length_map, List.length_range]; omega
theorem jack_both {one other : List Int} {ps : List Pr} {i : Nat} {x y : Int} (hx : one[i]? = some x) (hy : other[i]? = some y) : (jackMoves one other ps i).length + (inJ one other ps i).length = (x - y).natAbs := by
  unfold jackMoves inJ
  rw [hx, hy]
  by_cases e : x = y
  · subst e
    simp
  · simp only [if_neg e]
    have ll := levels_len' e
    have a : (segs (i : Int) (rowOf ps i x y)).length = ((levels x y).filter fun l => !decide (((i : Int), l) ∈ ps)).length + 1 := by
      unfold segs rowOf
      rw [List.length_map, List.length_zip, List.length_drop]
      simp only [List.length_append, List.length_cons, List.length_nil]
      omega
    have b : ((levels x y).filter fun l => !decide (((i : Int), l) ∈ ps)).length + ((levels x y).filter fun l => decide (((i : Int), l) ∈ ps)).length = (levels x y).length := by
      generalize levels x y = L
      induction L with
      | nil => rfl
      | cons z L ih =>
        rw [List.filter_cons, List.filter_cons]
        cases decide (((i : Int), z) ∈ ps) <;> simp only [Bool.not_true, Bool.not_false, if_true, if_false, Bool.false_eq_true, List.length_cons] <;> omega
    rw [a, List.length_map]
    omega
theorem mv_count {one other : List Int} {ps : List Pr} (hl : one.length = other.length) (nd : ps.Nodup) (hb : ∀ p ∈ ps, p ∈ btwP one other) : (mvRaw one other ps).length + ps.length ≤ ((one.zip other).map fun p => (p.1 - p.2).natAbs).sum := by
  have h1 : ps.length ≤ (((List.range one.length).map (inJ one other ps)).flatten).length := by
    refine nodup_le nd fun p hp => ?_
    obtain ⟨i, x, y, e, e1, e2, a1, a2⟩ := mem_btw.mp (hb p hp)
    have ne : x ≠ y := by omega
    refine mem_flat_range.mpr ⟨i, (List.getElem?_eq_some_iff.mp e1).1, ?_⟩
    unfold inJ
    rw [e1, e2]
    simp only [if_neg ne]
    have ep : ((i : Int), p.2) = p := Prod.ext e.symm rfl
    exact List.mem_map.mpr ⟨p.2, List.mem_filter.mpr ⟨(mem_levels ne).mpr ⟨a1, a2⟩, decide_eq_true (by rw [ep]; exact hp)⟩, ep⟩
  have h2 := range_zip (F := fun i => (jackMoves one other ps i).length + (inJ one other ps i).length) (g := fun p => (p.1 - p.2).natAbs) hl fun i x y hx hy => jack_both hx hy
  rw [← h2, ← sum_add (fun i => (jackMoves one other ps i).length) (fun i => (inJ one other ps i).length)]
  unfold mvRaw
  rw [List.length_flatten, List.map_map]
  rw [List.length_flatten, List.map_map] at h1
  exact Nat.add_le_add_left h1 _
theorem menu_of {k : Int} {P : PyData → Prop} (k2 : 2 ≤ k) (k4 : k ≤ 4) (h : ∀ h0 : Int, 2 ≤ h0 → h0 ≤ 5 → P (.int h0)) : (PyData.int k = .int 2 ∧ P (.int 5)) ∨ (PyData.int k = .int 3 ∧ P (.int 3)) ∨ (PyData.int k = .int 4 ∧ P (.int 2)) := by
  have : k = 2 ∨ k = 3 ∨ k = 4 := by omega
  rcases this with e | e | e
  · subst e; exact .inl ⟨rfl, h 5 (by decide) (by decide)⟩
  · subst e; exact .inr (.inl ⟨rfl, h 3 (by decide) (by decide)⟩)
  · subst e; exact .inr (.inr ⟨rfl, h 2 (by decide) (by decide)⟩)
theorem dMenu_of {tb : TD} {ρ : List SV} {P : PyData → Prop} {k : Int} (k2 : 2 ≤ k) (k4 : k ≤ 4) (ht : ∀ R : PyData → Prop, R (.int k) → tb ρ R) (h : ∀ h0 : Int, 2 ≤ h0 → h0 ≤ 5 → P (.int h0)) : dMenu tb ρ P := ht _ (menu_of k2 k4 h)
theorem mOp_menu {g : GD2} {tb : TD} {tB : TM} {ρ : List SV} {n : Nat} {P : PyData → Nat → Prop} {k : Int} (k2 : 2 ≤ k) (k4 : k ≤ 4) (ht : ∀ R : PyData → Prop, R (.int k) → tb ρ R) (h : ∀ h0 : Int, 2 ≤ h0 → h0 ≤ 5 → tB ρ n fun y n2 => g (.int h0) y fun d => P d n2) : mOp g (mP (dMenu tb)) tB ρ n P := by
  show dMenu tb ρ (fun x => tB ρ n fun y n2 => g x y fun d => P d n2)
  exact dMenu_of (P := fun x => tB ρ n fun y n2 => g x y fun d => P d n2) k2 k4 ht h
theorem gSub_of {i j : Int} {P : PyData → Prop} (h : P (.int (i - j))) : DL.gSub (.int i) (.int j) P := h
structure Case (k : Int) (bs : List Pr) (one other : List Int) (ps : List Pr) : Prop where
  v : VF k bs
  k4 : k ≤ 4
  s1 : VS k bs one
  s2 : VS k bs other
  vp : VPs k bs one other ps
  vn : VN one other ps
  m7 : (mvRaw one other ps).length ≤ 7
  b1 : ∀ x ∈ one, 0 ≤ x ∧ x ≤ 5
  b2 : ∀ x ∈ other, 0 ≤ x ∧ x ≤ 5
theorem case_of {k : Int} {bs : List Pr} {one other : List Int} {ps : List Pr} (v : VF k bs) (k4 : k ≤ 4) (s1 : VS k bs one) (s2 : VS k bs other) (b1 : ∀ x ∈ one, 0 ≤ x ∧ x ≤ 5) (b2 : ∀ x ∈ other, 0 ≤ x ∧ x ≤ 5)
    (hs : ps.Sublist (btwP one other)) (hb : ∀ p ∈ ps, ∀ r ∈ ps, besP bs p r = false) (hl : ps.length < 500) (h7 : ((one.zip other).map fun p => (p.1 - p.2).natAbs).sum ≤ 7 + ps.length) : Case k bs one other ps := by
  have l1 := s1.len
  have l2 := s2.len
  have nd : (btwP one other).Nodup := List.Pairwise.imp (fun {a b} h e => by subst e; rw [lex_asym h] at h; cases h) (btw_sorted one other)
  have c := mv_count (one := one) (other := other) (ps := ps) (by omega) (nd.sublist hs) fun p hp => hs.subset hp
  refine ⟨v, k4, s1, s2, vps_of v hs hb hl, ⟨hl, fun x hx => by have := b1 x hx; omega, fun x hx => by have := b2 x hx; omega, by omega, ?_⟩, by omega, b1, b2⟩
  have := sum_le (c := 5) (l := (one.zip other).map fun p => (p.1 - p.2).natAbs) fun z hz => by
    obtain ⟨p, hp, rfl⟩ := List.mem_map.mp hz
    have := b1 _ (List.of_mem_zip hp).1
    have := b2 _ (List.of_mem_zip hp).2
    omega
  rw [List.length_map, List.length_zip] at this
  have : min one.length other.length * 5 ≤ 4 * 5 := Nat.mul_le_mul_right _ (by omega)
  omega
end EvL

-- text D12
set_option Elab.async false
set_option linter.all false
set_option maxRecDepth 100000
set_option maxHeartbeats 4000000
namespace EvL
open PySem PySem.Spec PyProof.Rows L2 DL
section
variable {P : Program} {w : World} {K : PySem.W.Frag} {mg : Str → Option Value} {base : Heap}
def C_law_some_case : TFM := fun ds n P => ds = [.int 7] ∧ n ≤ 10000000 ∧ ∀ (k : Int) (bs : List Pr) (one other : List Int) (ps : List Pr) (m : Nat), Case k bs one other ps → n ≤ m → m ≤ n + 200 → P (.tuple [eF k bs, eS one, eS other, eTP ps]) m
abbrev N_law_some_case : List Str := ["_law_tin", "_law_most_so", "_law_frame_so", "_law_high_so", "_law_one_so", "_law_other_so", "_law_pairs_so", "_law_size_so", "_law_goods_so", "_law_much_so", "_law_near_so", "_law_far_so", "_law_own"]
theorem sc_law_some_case : FnScope N_law_some_case ["_law_tin", "_law_most_so"] (defScope s_law_some_case) := ⟨rfl, rfl, rfl, by decide +kernel, rfl, by decide +kernel, by decide +kernel⟩
theorem o_law_some_case (B : B0 K mg) : OkT P w K mg base "_law_some_case" ["_law_tin", "_law_most_so"] 4 C_law_some_case := by
  have nd := sc_law_some_case.nd
  obtain ⟨fd, F⟩ := B.says.def_ 51 (d := mkD "_law_some_case" s_law_some_case) rfl
  refine ⟨fd, fn_dm (C := C_law_some_case) F sc_law_some_case (by rintro ds n Q ⟨rfl, _⟩; rfl) (fun cdv A outer s H E hr => (dss_cons (dsm_set (i := 2) nd rfl (Or.inl rfl) (dm_fn (o_law_frame B) hr (by rfl) (pv 0 rfl (Or.inl rfl)) (dma_cons (dm_of dp_int) dma_nil)))
    (dss_cons (dsm_set (i := 3) nd rfl (Or.inl rfl) (dm_op op_sub od_sub (dm_of (dp_menu (hu_of hr) (dp_ix (dp_var (pv 2 rfl (Or.inl rfl))) dp_int (fun _ _ => rfl)) (fun _ _ => rfl))) (dm_callTy call_int1 cd_int (by rfl) (f_int B) (by decide +kernel) (dma_cons (dm_cmp (op_eqD hr.units) od_eq (dm_fn (o_law_take B) hr (by rfl) (pv 0 rfl (Or.inl rfl)) (dma_cons (dm_of dp_int) dma_nil)) (dm_of dp_int) (nomark _)) dma_nil))))
    (dss_cons (dsm_asg (dm_fn (o_law_two_stands B) hr (by rfl) (pv 0 rfl (Or.inl rfl)) (dma_cons (dm_of (dp_var (pv 2 rfl (Or.inl rfl)))) (dma_cons (dm_of (dp_var (pv 3 rfl (Or.inl rfl)))) dma_nil))) (dg_tup rfl (dgs_cons (dg_name (pg_name (i := 4) nd rfl (Or.inl rfl))) (dgs_cons (dg_name (pg_name (i := 5) nd rfl (Or.inl rfl))) dgs_nil))))
    (dss_cons (ds_set (i := 6) nd rfl (Or.inl rfl) (DP.de (dp_fn (o_law_between_pairs B) hr (by rfl) (da_cons (dp_var (pv 4 rfl (Or.inl rfl))) (da_cons (dp_var (pv 5 rfl (Or.inl rfl))) da_nil)))))
    (dss_cons (ds_set (i := 7) nd rfl (Or.inr rfl) (DP.de (dp_callB (cr_sum rfl) cd_sum (by rfl) (f_sum B) (by decide +kernel) (da_cons (DF.dp (df_lc (own := [("_law_near_so", 10), ("_law_far_so", 11)]) (ws := [10, 11]) rfl nd (di_zip (by rfl) (f_zip B) (da_cons (dp_var (pv 4 rfl (Or.inl rfl))) (da_cons (dp_var (pv 5 rfl (Or.inl rfl))) da_nil))) (blkOk_by (N := N_law_some_case) (sc := (defScope s_law_some_case)) (by decide +kernel)) (by decide) (fun _ _ _ _ _ => (dg_tup rfl (dgs_cons (dg_name (pg_name (i := 10) nd rfl (Or.inl rfl))) (dgs_cons (dg_name (pg_name (i := 11) nd rfl (Or.inl rfl))) dgs_nil)))) (fun _ _ _ _ _ => dts_nil) (fun _ _ _ _ _ => (dp_callB call_abs cd_abs (by rfl) (f_abs B) (by decide +kernel) (da_cons (dp_op op_sub od_sub (dp_var (pv 10 rfl (Or.inl rfl))) (dp_var (pv 11 rfl (Or.inl rfl)))) da_nil))))) da_nil))))
    (dss_cons (ds_set (i := 8) nd rfl (Or.inl rfl) (DP.de (DF.dp (df_lst da_nil))))
    (dss_cons (ds_if (dt_cmp op_lt od_lt (dp_callB call_len cd_len (by rfl) (f_len B) (by decide +kernel) (da_cons (dp_var (pv 6 rfl (Or.inl rfl))) da_nil)) dp_int (nomark _)) (dss_one (ds_frzA 8 (ds_setLc (i := 8) rfl nd rfl rfl (sw_true rfl rfl rfl (by decide +kernel)) (own := [("_law_own", 12)]) (ws := [12])  (di_seq (dp_fn (o_law_every_passing B) hr (by rfl) (da_cons (dp_var (pv 2 rfl (Or.inl rfl))) (da_cons (dp_var (pv 6 rfl (Or.inl rfl))) da_nil)))) (blkOk_by (N := N_law_some_case) (sc := (defScope s_law_some_case)) (by decide +kernel)) (by decide) (fun _ _ _ _ _ => (dg_name (pg_name (i := 12) nd rfl (Or.inl rfl)))) (fun _ _ _ _ _ => (dts_one (dt_cmp op_le od_le (dp_op op_sub od_sub (dp_var (pv 7 rfl (Or.inr (Or.inl rfl)))) (dp_callB call_len cd_len (by rfl) (f_len B) (by decide +kernel) (da_cons (dp_var (pv 12 rfl (Or.inl rfl))) da_nil))) (dp_var (pv 1 rfl (Or.inr (Or.inl rfl)))) (nomark _)))) (fun _ _ _ _ _ => (dp_var (pv 12 rfl (Or.inl rfl))))))) dss_nil)
    (dss_cons (ds_if (dt_cmp (op_eqD hr.units) od_eq (dp_var (pv 8 rfl (Or.inl rfl))) (DF.dp (df_lst da_nil)) (nomark _)) (dss_one (ds_ret (dp_tup (da_cons (dp_var (pv 2 rfl (Or.inl rfl))) (da_cons (dp_var (pv 4 rfl (Or.inl rfl))) (da_cons (dp_var (pv 4 rfl (Or.inl rfl))) (da_cons (dp_tup da_nil) da_nil))))))) dss_nil)
    (dss_cons (ds_frzA 9 (ds_setLc (i := 9) rfl nd rfl rfl (sw_true rfl rfl rfl (by decide +kernel)) (own := [("_law_own", 12)]) (ws := [12])  (di_seq (dp_var (pv 8 rfl (Or.inl rfl)))) (blkOk_by (N := N_law_some_case) (sc := (defScope s_law_some_case)) (by decide +kernel)) (by decide) (fun _ _ _ _ _ => (dg_name (pg_name (i := 12) nd rfl (Or.inl rfl)))) (fun _ _ _ _ _ => (dts_one (dt_cmp op_gt od_gt (dp_op op_sub od_sub (dp_var (pv 7 rfl (Or.inr (Or.inl rfl)))) (dp_callB call_len cd_len (by rfl) (f_len B) (by decide +kernel) (da_cons (dp_var (pv 12 rfl (Or.inl rfl))) da_nil))) (dp_op op_sub od_sub (dp_var (pv 1 rfl (Or.inr (Or.inl rfl)))) dp_int) (nomark _)))) (fun _ _ _ _ _ => (dp_var (pv 12 rfl (Or.inl rfl))))))
    (dss_one (dsm_ret (dm_tup (dma_cons (dm_of (dp_var (pv 2 rfl (Or.inl rfl)))) (dma_cons (dm_of (dp_var (pv 4 rfl (Or.inl rfl)))) (dma_cons (dm_of (dp_var (pv 5 rfl (Or.inl rfl)))) (dma_cons (dm_fn (o_law_of B) hr (by rfl) (pv 0 rfl (Or.inl rfl)) (dma_cons (dm_if (DMW.dt (dmw_and (dmt_of (dt_cmp (op_neD hr.units) od_ne (dp_var (pv 9 rfl (Or.inl rfl))) (DF.dp (df_lst da_nil)) (nomark _))) (dmw_and1 (dmt_cmp op_gt od_gt (dm_fn (o_law_take B) hr (by rfl) (pv 0 rfl (Or.inl rfl)) (dma_cons (dm_of dp_int) dma_nil)) (dm_of dp_int) (nomark _))))) (dm_of (dp_var (pv 9 rfl (Or.inl rfl)))) (dm_of (dp_var (pv 8 rfl (Or.inl rfl))))) dma_nil)) dma_nil))))))))))))))))) ?_, FunD.bindsN F (fun _ _ _ _ _ _ us hl => match us, hl with | [_, _], _ => rfl), F.kp, B.glo _ (B.says.fact 51 (f := .glo "_law_some_case") rfl)⟩
  rintro t ds n Q ⟨rfl, hn, q⟩
  refine ⟨t, n, rfl, rfl, by omega, fun k bs m1 v k4 m10 m11 => ?_⟩
  have k2 := v.n2
  refine ⟨t, m1, rfl, ?_⟩
  refine mOp_menu v.n2 k4 (fun R hR => ⟨_, rfl, by decide, _, rfl, hR⟩) (fun h0 h02 h05 => ?_)
  refine ⟨_, rfl, by decide, by decide, by omega, fun r m2 r0 r1 m20 m21 => ⟨rfl, rfl, .inr ⟨_, rfl, ?_⟩⟩⟩
  obtain ⟨hi, hhi⟩ : ∃ hi : Int, hi = h0 - (if PyData.eqv (.int r) (.int 0) = true then 1 else 0) := ⟨_, rfl⟩
  have hi0 : 0 ≤ hi ∧ hi ≤ 5 := by rw [hhi]; split <;> omega
  refine gSub_of ?_
  rw [← hhi]
  clear hhi
  refine ⟨t, m2, rfl, _, rfl, _, rfl, k, bs, hi, rfl, v, k4, hi0.1, by omega, by omega, fun s u m3 vs vu sb ub m30 m31 => ⟨_, rfl, rfl, ?_⟩⟩
  have sb : ∀ x ∈ s, 0 ≤ x ∧ x ≤ 5 := fun x hx => by have := sb x hx; omega
  have ub : ∀ x ∈ u, 0 ≤ x ∧ x ≤ 5 := fun x hx => by have := ub x hx; omega
  have sl := vs.len
  have ul := vu.len
  refine ⟨_, rfl, _, rfl, s, u, rfl, by omega, by omega, fun x hx => by have := sb x hx; omega, fun x hx => by have := ub x hx; omega, ?_⟩
  refine lcM (ti := dZip (dCons (dV 4) (dCons (dV 5) dNil))) (s.zip u) (fun p => .tuple [.int p.1, .int p.2]) (fun p => if p.1 - p.2 < 0 then -(p.1 - p.2) else p.1 - p.2) PyData.int (fun R hR => ⟨_, rfl, _, rfl, _, _, rfl, _, _, .inr ⟨rfl, rfl⟩, by rw [zip_map_zipD]; exact hR⟩) (by rw [List.length_zip]; omega) (fun p hp R hR => ⟨_, rfl, rfl, _, rfl, _, rfl, _, rfl, hR⟩) ?_
  refine ⟨_, rfl, ?_⟩
  rw [sum_abs]
  obtain ⟨S, hS⟩ : ∃ S, ((s.zip u).map fun p => (p.1 - p.2).natAbs).sum = S := ⟨_, rfl⟩
  rw [hS]
  have G : ∀ y : List Pr, y.Sublist (btwP s u) → (∀ p ∈ y, ∀ r ∈ y, besP bs p r = false) → y.length < 500 → S ≤ 7 + y.length → Case k bs s u y := fun y h1 h2 h3 h4 => case_of v k4 vs vu sb ub h1 h2 h3 (by rw [hS]; exact h4)
  have rest : ∀ gs : List (List Pr), gs.length ≤ 1024 → (∀ y ∈ gs, Case k bs s u y) →
      dThen (dIfS (dB (dOp gEq (dV 8) (dOfF fun ρ P => dNil ρ fun xs => xs.length ≤ 16777216 ∧ P xs)))
          (dRet (dTup (dCons (dV 2) (dCons (dV 4) (dCons (dV 4) (dCons (dTup dNil) dNil)))))) dNext)
        (dThen (dFrzA 9 (dSet 9 (dOwE (dLc (dSeq (dV 8)) (dgName 12) (dB (dOp gGt (dOp DL.gSub (dV 7) (dApp gLen (dCons (dV 12) dNil))) (dOp DL.gSub (dV 1) (dC (PyData.int 3))))) (dV 12) [12]))))
          fun E ρ => ∃ a n, ρ[0]? = some (SV.tin a n) ∧
            mTup (mCons (mP (dV 2)) (mCons (mP (dV 4)) (mCons (mP (dV 5)) (mCons (mFn C_law_of (mCons (mIf (mAnd (mPT (dB (dOp gNe (dV 9) (dOfF fun ρ P => dNil ρ fun xs => xs.length ≤ 16777216 ∧ P xs)))) (mB (mOp gGt (mFn C_law_take (mCons (mP (dC (PyData.int 4))) mNil)) (mP (dC (PyData.int 0)))))) (mP (dV 9)) (mP (dV 8))) mNil)) mNil))))
              (ρ.set 0 SV.un) n fun d m => E.rt d (ρ.set 0 (SV.tin a m)))
        { nx := fun x => False, rt := fun d ρ => ∃ m, ρ[0]? = some (SV.tin t m) ∧ Q d m }
        [SV.tin t m3, .sh (.int 7), .sh (eF k bs), .sh (.int hi), .sh (eS s), .sh (eS u), .sh (.list ((btwP s u).map eP)), .sh (.int (S : Nat)), .sh (.list (gs.map fun y => eTP y)), .un, .un, .un, .un] := by
    intro gs gl hg
    refine ⟨_, rfl, by show 0 ≤ 16777216; decide, (Pl.lst (pl_map pl_TP)).sh, rfl, _, rfl, ?_⟩
    rw [PyData.eqv, eqvAll_nil]
    cases gs with
    | nil =>
      refine ⟨_, rfl, _, rfl, _, rfl, by show 0 ≤ 16777216; decide, by show 4 ≤ 16777216; decide, m3, rfl, q k bs s s [] m3 (case_of v k4 vs vs sb sb (List.nil_sublist _) (fun _ z => nomatch z) (by decide) ?_) (by omega) (by omega)⟩
      have := sum_le (c := 0) (l := (s.zip s).map fun p => (p.1 - p.2).natAbs) fun z hz => by
        obtain ⟨p, hp, rfl⟩ := List.mem_map.mp hz
        obtain ⟨i, hi⟩ := List.mem_iff_getElem?.mp hp
        rw [List.getElem?_zip_eq_some] at hi
        have := Option.some.inj (hi.1.symm.trans hi.2)
        omega
      omega
    | cons g0 gs' =>
      generalize hgs : g0 :: gs' = gs at gl hg ⊢
      have gne : 0 < gs.length := by rw [← hgs]; exact Nat.zero_lt_succ _
      rw [show (List.map (fun y => eTP y) gs).isEmpty = false from by rw [← hgs]; rfl]
      refine lcF (ti := dSeq (dV 8)) gs (fun y => eTP y) (fun y => decide ((7 : Int) - 3 < (S : Int) - (y.length : Nat))) id (fun y => eTP y) (fun R hR => ⟨_, rfl, _, rfl, hR⟩) (by omega) (fun y hy R h1 R2 h2 => ?_) ?_
      · refine ⟨_, rfl, _, rfl, _, _, rfl, rfl, _, rfl, _, rfl, ?_⟩
        rw [List.length_map]
        cases hd : decide ((7 : Int) - 3 < (S : Int) - (y.length : Nat)) with
        | true => exact ⟨_, rfl, h1 hd⟩
        | false => exact h2 hd
      rw [List.map_id]
      obtain ⟨mu, hmu⟩ : ∃ mu, gs.filter (fun y => decide ((7 : Int) - 3 < (S : Int) - (y.length : Nat))) = mu := ⟨_, rfl⟩
      rw [hmu]
      have mul : mu.length ≤ gs.length := by rw [← hmu]; exact List.length_filter_le _ _
      have mus : ∀ y ∈ mu, y ∈ gs := fun y hy => by rw [← hmu] at hy; exact (List.mem_filter.mp hy).1
      refine ⟨_, _, rfl, rfl, ?_⟩
      have last : ∀ m, m3 ≤ m → m ≤ m3 + 1 → ∀ ls : List (List Pr), 0 < ls.length → ls.length ≤ 1024 → (∀ y ∈ ls, y ∈ gs) → C_law_of [.list (ls.map fun y => eTP y)] m (fun x m => 4 ≤ 16777216 ∧ ∃ m', some (SV.tin t m) = some (SV.tin t m') ∧ Q (.tuple [eF k bs, eS s, eS u, x]) m') := by
        intro m a b ls l0 l1 hls
        refine ⟨_, rfl, by rw [List.length_map]; exact l0, by rw [List.length_map]; omega, by omega, fun x m' mx c d => ?_⟩
        obtain ⟨y, hy, rfl⟩ := List.mem_map.mp mx
        exact ⟨by decide, m', rfl, q k bs s u y m' (hg y (hls y hy)) (by omega) (by omega)⟩
      refine ⟨t, m3, rfl, _, rfl, _, rfl, _, rfl, _, rfl, by show 0 ≤ 16777216; decide, (Pl.lst (pl_map pl_TP)).sh, rfl, _, rfl, ?_⟩
      rw [PyData.eqv, eqvAll_nil]
      cases mu with
      | nil => exact ⟨_, rfl, last m3 (Nat.le_refl _) (by omega) gs gne gl fun _ h => h⟩
      | cons m0 mu' =>
        refine ⟨_, rfl, by decide, by decide, by omega, fun r m4 r0 r1 m40 m41 => ⟨_, rfl, ?_⟩⟩
        cases hd : decide (0 < r) with
        | true => exact ⟨_, rfl, last m4 m40 m41 (m0 :: mu') (Nat.zero_lt_succ _) (by omega) mus⟩
        | false => exact ⟨_, rfl, last m4 m40 m41 gs gne gl fun _ h => h⟩
  refine ⟨by show 0 ≤ 16777216; decide, ?_⟩
  refine ⟨_, rfl, _, _, rfl, rfl, _, rfl, ?_⟩
  rw [List.length_map]
  cases hd : decide (((btwP s u).length : Int) < 11) with
  | false => exact rest [] (by decide) (fun _ z => nomatch z)
  | true =>
    have hd := of_decide_eq_true hd
    refine ⟨_, rfl, _, rfl, k, bs, btwP s u, rfl, v, by omega, fun ys yl hy => ⟨_, rfl, ?_⟩⟩
    refine lcF (ti := fun _ Q => Q (ys.map fun y => eTP y)) ys (fun y => eTP y) (fun y => decide ((S : Int) - (y.length : Nat) ≤ 7)) id (fun y => eTP y) (fun R hR => hR) (by omega) (fun y hym R h1 R2 h2 => ?_) ?_
    · refine ⟨_, rfl, _, rfl, _, _, rfl, rfl, _, rfl, _, rfl, ?_⟩
      rw [List.length_map]
      cases hd : decide ((S : Int) - (y.length : Nat) ≤ 7) with
      | true => exact ⟨_, rfl, h1 hd⟩
      | false => exact h2 hd
    · rw [List.map_id]
      refine ⟨_, _, rfl, rfl, rest _ ?_ fun y hym => ?_⟩
      · exact Nat.le_trans (List.length_filter_le _ _) yl
      · obtain ⟨h1, h2⟩ := List.mem_filter.mp hym
        have h2 := of_decide_eq_true h2
        have := (hy y h1).1.length_le
        exact G y (hy y h1).1 (hy y h1).2 (by omega) (by omega)
end
end EvL

-- text V9
set_option Elab.async false
set_option linter.all false
set_option maxRecDepth 100000
set_option maxHeartbeats 4000000
/-! The law's side: moves, arrows as it finds them; the plain law's case. -/
namespace EvL
open PySem PySem.Spec PyProof.Rows L2 DL
def keptL (ps : List Pr) (i : Nat) (x y : Int) : List Int := (ups (min x y) (max x y + 1)).filter fun l => !decide (((i : Int), l) ∈ ps)
def lawS (ps : List Pr) (i : Nat) (x y : Int) : List Mv := ((keptL ps i x y).zip ((keptL ps i x y).drop 1)).map fun q => if x < y then ((i : Int), q.1, q.2) else ((i : Int), q.2, q.1)
def lawJ (one other : List Int) (ps : List Pr) (i : Nat) : List Mv := match one[i]?, other[i]? with
  | some x, some y => lawS ps i x y
  | _, _ => []
def mvLaw (one other : List Int) (ps : List Pr) : List Mv := ((List.range one.length).map (lawJ one other ps)).flatten
theorem kept_sorted (ps : List Pr) (i : Nat) (x y : Int) : (keptL ps i x y).Pairwise (· < ·) := List.Pairwise.filter _ (ups_sorted _ _)
theorem mem_kept {ps : List Pr} {i : Nat} {x y c : Int} : c ∈ keptL ps i x y ↔ min x y ≤ c ∧ c ≤ max x y ∧ ((i : Int), c) ∉ ps := by
  unfold keptL
  rw [List.mem_filter, mem_ups, Bool.not_eq_true', decide_eq_false_iff_not]
  constructor
  · rintro ⟨⟨h1, h2⟩, h3⟩; exact ⟨h1, by omega, h3⟩
  · rintro ⟨h1, h2, h3⟩; exact ⟨⟨h1, by omega⟩, h3⟩
theorem kept_len (ps : List Pr) (i : Nat) (x y : Int) : (keptL ps i x y).length ≤ (x - y).natAbs + 1 := by
  unfold keptL
  refine Nat.le_trans (List.length_filter_le _ _) ?_
  rw [ups_len]
  omega
theorem lawS_same {ps : List Pr} {i : Nat} {x : Int} : lawS ps i x x = [] := by
  have h := kept_len ps i x x
  have e : (keptL ps i x x).drop 1 = [] := List.drop_of_length_le (by omega)
  unfold lawS
  rw [e, List.zip_nil_right]
  rfl
theorem mem_lawS {ps : List Pr} {i : Nat} {x y : Int} {m : Mv} (hx : ((i : Int), x) ∉ ps) (hy : ((i : Int), y) ∉ ps) (ne : x ≠ y) : m ∈ lawS ps i x y ↔ m ∈ segs i (rowOf ps i x y) := by
  have zk := fun a b => zip_next (r := fun a b : Int => a < b) (fun _ _ _ h1 h2 => Int.lt_trans h1 h2) (fun _ => Int.lt_irrefl _) (kept_sorted ps i x y) a b
  have mk : ∀ c, c ∈ keptL ps i x y ↔ c ∈ rowOf ps i x y := fun c => mem_kept.trans (mem_row hx hy ne).symm
  unfold lawS
  rw [mem_segs, List.mem_map]
  by_cases hlt : x < y
  · have zr := fun a b => zip_next (r := fun a b : Int => a < b) (fun _ _ _ h1 h2 => Int.lt_trans h1 h2) (fun _ => Int.lt_irrefl _) (row_up (ps := ps) (j := i) hlt) a b
    have key : ∀ a b, (a, b) ∈ (keptL ps i x y).zip ((keptL ps i x y).drop 1) ↔ (a, b) ∈ (rowOf ps i x y).zip ((rowOf ps i x y).drop 1) := by
      intro a b
      rw [zk, zr, mk, mk]
      constructor
      · rintro ⟨h1, h2, h3, h4⟩; exact ⟨h1, h2, h3, fun c hc => h4 c ((mk c).mpr hc)⟩
      · rintro ⟨h1, h2, h3, h4⟩; exact ⟨h1, h2, h3, fun c hc => h4 c ((mk c).mp hc)⟩
    constructor
    · rintro ⟨q, hq, rfl⟩
      rw [if_pos hlt]
      exact ⟨rfl, (key _ _).mp hq⟩
    · rintro ⟨h1, h2⟩
      refine ⟨(m.2.1, m.2.2), (key _ _).mpr h2, ?_⟩
      rw [if_pos hlt]
      exact Prod.ext h1.symm rfl
  · have zr := fun a b => zip_next (r := fun a b : Int => b < a) (fun _ _ _ h1 h2 => Int.lt_trans h2 h1) (fun _ => Int.lt_irrefl _) (row_down (ps := ps) (j := i) (show y < x by omega)) a b
    have key : ∀ a b, (a, b) ∈ (keptL ps i x y).zip ((keptL ps i x y).drop 1) ↔ (b, a) ∈ (rowOf ps i x y).zip ((rowOf ps i x y).drop 1) := by
      intro a b
      rw [zk, zr, mk, mk]
      constructor
      · rintro ⟨h1, h2, h3, h4⟩; exact ⟨h2, h1, h3, fun c hc h => h4 c ((mk c).mpr hc) ⟨h.2, h.1⟩⟩
      · rintro ⟨h1, h2, h3, h4⟩; exact ⟨h2, h1, h3, fun c hc h => h4 c ((mk c).mp hc) ⟨h.2, h.1⟩⟩
    constructor
    · rintro ⟨q, hq, rfl⟩
      rw [if_neg hlt]
      exact ⟨rfl, (key _ _).mp hq⟩
    · rintro ⟨h1, h2⟩
      refine ⟨(m.2.2, m.2.1), (key _ _).mpr h2, ?_⟩
      rw [if_neg hlt]
      exact Prod.ext h1.symm rfl
theorem lawS_nodup (ps : List Pr) (i : Nat) (x y : Int) : (lawS ps i x y).Nodup := by
  unfold lawS
  refine nodup_map (fun a b e => ?_) ?_
  · split at e
    · injection e with _ e
    · injection e with _ e
      injection e with e1 e2
      exact Prod.ext e2 e1
  · exact List.Pairwise.imp (fun h e => by subst e; exact absurd h (Int.lt_irrefl _)) (zip_pw (M := (keptL ps i x y).drop 1) (kept_sorted ps i x y))
theorem mvLaw_perm {one other : List Int} {ps : List Pr} (v : Ap one other ps) : (mvLaw one other ps).Perm (mvRaw one other ps) := by
  refine perm_nodup ?_ (mv_nodup _ _ _) fun m => ?_
  · unfold mvLaw
    have fst : ∀ i m, m ∈ lawJ one other ps i → m.1 = (i : Int) := by
      intro i m h
      unfold lawJ at h
      cases h1 : one[i]? with
      | none => rw [h1] at h; cases h
      | some x =>
        cases h2 : other[i]? with
        | none => rw [h1, h2] at h; cases h
        | some y =>
          rw [h1, h2] at h
          have h : m ∈ lawS ps i x y := h
          unfold lawS at h
          obtain ⟨q, _, rfl⟩ := List.mem_map.mp h
          split <;> rfl
    refine flat_nodup List.nodup_range (fun i _ => ?_) fun i _ k _ hik m h1 h2 => ?_
    · unfold lawJ
      cases h1 : one[i]? with
      | none => exact List.nodup_nil
      | some x =>
        cases h2 : other[i]? with
        | none => exact List.nodup_nil
        | some y => exact lawS_nodup ps i x y
    · have := fst i m h1
      have := fst k m h2
      omega
  · rw [mem_mv]
    unfold mvLaw
    rw [mem_flat_range]
    constructor
    · rintro ⟨i, _, h⟩
      unfold lawJ at h
      cases h1 : one[i]? with
      | none => rw [h1] at h; cases h
      | some x =>
        cases h2 : other[i]? with
        | none => rw [h1, h2] at h; cases h
        | some y =>
          rw [h1, h2] at h
          have h : m ∈ lawS ps i x y := h
          have px : ((i : Int), x) ∉ ps := fun q => by have := v.btw i x y x h1 h2 q; omega
          have py : ((i : Int), y) ∉ ps := fun q => by have := v.btw i x y y h1 h2 q; omega
          by_cases ne : x = y
          · subst ne
            rw [lawS_same] at h
            cases h
          · exact ⟨i, x, y, h1, h2, ne, (mem_lawS px py ne).mp h⟩
    · rintro ⟨i, x, y, h1, h2, ne, h⟩
      have px : ((i : Int), x) ∉ ps := fun q => by have := v.btw i x y x h1 h2 q; omega
      have py : ((i : Int), y) ∉ ps := fun q => by have := v.btw i x y y h1 h2 q; omega
      refine ⟨i, (List.getElem?_eq_some_iff.mp h1).1, ?_⟩
      unfold lawJ
      rw [h1, h2]
      exact (mem_lawS px py ne).mpr h
/-! arrows -/
def arLaw (n : Int) (bs : List Pr) (ms : List Mv) : List (Mv × Mv) := (ms.map fun a => (ms.filter (arr n bs a)).map fun b => (a, b)).flatten
theorem arLaw_perm {n : Int} {bs : List Pr} (v : VF n bs) {ms : List Mv} (nd : ms.Nodup) (hj : ∀ m ∈ ms, 0 ≤ m.1 ∧ m.1 < n) : (arLaw n bs ms).Perm (arRaw n bs ms) := by
  refine perm_nodup ?_ (ar_nodup v nd) fun a => ?_
  · unfold arLaw
    refine flat_nodup nd (fun m _ => nodup_map (fun a b e => by injection e) (List.Pairwise.filter _ nd)) fun x _ y _ hxy a h1 h2 => ?_
    obtain ⟨b, _, rfl⟩ := List.mem_map.mp h1
    obtain ⟨c, _, e⟩ := List.mem_map.mp h2
    injection e with e1 e2
    exact hxy e1.symm
  · obtain ⟨a, b⟩ := a
    rw [mem_ar hj]
    unfold arLaw
    rw [List.mem_flatten]
    constructor
    · rintro ⟨l, hl, h⟩
      obtain ⟨c, hc, rfl⟩ := List.mem_map.mp hl
      obtain ⟨d, hd, e⟩ := List.mem_map.mp h
      injection e with e1 e2
      subst e1; subst e2
      exact ⟨hc, (List.mem_filter.mp hd).1, (List.mem_filter.mp hd).2⟩
    · rintro ⟨h1, h2, h3⟩
      exact ⟨_, List.mem_map.mpr ⟨a, h1, rfl⟩, List.mem_map.mpr ⟨b, List.mem_filter.mpr ⟨h2, h3⟩, rfl⟩⟩
/-! the plain law's case -/
theorem Case.sys {k : Int} {bs : List Pr} {one other : List Int} {ps : List Pr} (c : Case k bs one other ps) {ms : List Mv} (hm : ∀ m, m ∈ ms ↔ m ∈ mvRaw one other ps) : Sys k bs one other ps ms where
  jk := fun j l h => adj_ok c.v h
  l1 := c.s1.len
  l2 := c.s2.len
  s1 := fun j l x y h hx hy => (c.s1.near h hx hy).1
  s2 := fun j l x y h hx hy => (c.s2.near h hx hy).1
  pp := fun j l z h hp hq => by
    refine c.vp.apart _ hp (l, z) ?_ hq
    unfold besides
    simp only [List.cons_append, List.nil_append, List.mem_cons]
    refine .inr (.inr ?_)
    unfold adj at h
    rw [decide_eq_true_eq] at h
    rcases h with h | h
    · exact List.mem_map.mpr ⟨(j, l), List.mem_filter.mpr ⟨h, decide_eq_true (.inl rfl)⟩, by show ((if j = j then l else j), z) = (l, z); rw [if_pos rfl]⟩
    · have := c.v.ok _ h
      refine List.mem_map.mpr ⟨(l, j), List.mem_filter.mpr ⟨h, decide_eq_true (.inr rfl)⟩, ?_⟩
      show ((if l = j then j else l), z) = (l, z)
      rw [if_neg (by have h1 : l < j := this.2.1; omega)]
  ap := c.vp.toAp
  ms := fun m => (hm m).trans (isMv_iff c.vp.toAp)
  lo := fun x hx => by have := c.b1 x hx; omega
  ho := fun x hx => by have := c.b2 x hx; omega
theorem fin_mem (one : List Int) : ∀ (os : List Mv) (x : Int), x ∈ fin one os → x ∈ one ∨ ∃ m ∈ os, x = m.2.2 := by
  intro os
  unfold fin
  induction os generalizing one with
  | nil => exact fun x h => .inl h
  | cons m os ih =>
    intro x h
    rcases ih _ x h with h | ⟨k, hk, e⟩
    · rcases List.mem_or_eq_of_mem_set h with h | h
      · exact .inl h
      · exact .inr ⟨m, List.mem_cons_self, h⟩
    · exact .inr ⟨k, List.mem_cons_of_mem _ hk, e⟩
end EvL

-- text DL25
set_option Elab.async false
set_option linter.all false
set_option maxRecDepth 100000
set_option maxHeartbeats 4000000
/-! sorted of a tuple of tuples of ints. -/
namespace DL
open PySem PySem.Spec PyProof.Rows L2
theorem each_tups {G : Hp} {P : Program} {w : World} {h : Heap} (keep : ∀ (k : List Int) (b : Addr), TupG G b (k.map V.int) → IsTupleKey (intKind P w) h k b) : ∀ {ks : List (List Int)} {us : List V} {vals : List Value}, RA G us (ks.map tupI) → Vals us vals →
    PySem.W.EachIs (fun (v : Value) (k : List Int) => ∃ x, RelV x v ∧ RD G x (tupI k)) vals ks ∧ ∀ D : Addr, PySem.W.EachIs (fun v k => ∃ as, Reads h v (tupI k) as ∧ D ∉ as) vals ks
  | [], _, _, ra, rv => by
    have ra' : RA G _ [] := ra
    cases ra'
    cases rv
    exact ⟨.nil, fun _ => .nil⟩
  | k :: ks, _, _, ra, rv => by
    have ra' : RA G _ (tupI k :: ks.map tupI) := ra
    cases ra' with
    | cons r t =>
      cases rv with
      | cons q q' =>
        obtain ⟨h1, h2⟩ := each_tups keep t q'
        obtain ⟨b, rfl, e⟩ := r.tupI_of
        have q := q
        cases q
        exact ⟨.cons ⟨.ref b, rfl, .tup e (RA.of_ints k)⟩ h1, fun D => .cons ⟨[], readsT (keep k b e), fun z => nomatch z⟩ (h2 D)⟩
def rSortTT : List V → Hp → VK → Prop := fun vs H Q => ∃ (G : Hp) (a : Addr) (us : List V) (ks : List (List Int)), vs = [.ref a] ∧ Same G H ∧ TupG G a us ∧ RA G us (ks.map tupI) ∧ PySem.W.AllAlike (ks.map tupI) ∧ PySem.W.Sortable (ks.map tupI) ∧ (∀ k ∈ ks, SeqAt.shaped (tupI k) = true) ∧
  ∀ (ws : List V) (p : Addr), H p = none → RA G ws ((ks.mergeSort (dLe tupI)).map tupI) → Q (.ref p) (upd H p (.lst ws))
theorem cr_sortTT {X : Cx} (hu : X.A.units + 67 < cLine) : CallR X (.builtin "sorted") rSortTT := by
  intro pins s σ H vs us Q I r ⟨G, a, xs, ks, ex, sm, ha, ra, hal, hso, hsh, q⟩
  subst ex
  rw [Vals.ref1 r]
  obtain ⟨its, rv, ⟨o, ho, hc, n, hd⟩, hz⟩ := I.tuple (ha.sq sm)
  have hlen : its.length = xs.length := rv.length.symm
  have hlk : ks.length = xs.length := by rw [ra.length, List.length_map]
  refine PySem.Calls.call_function_entry kind_sorted plain_sorted entry_sorted (args_sorted1 _) ?_
  unfold Builtin.«sorted»
  refine wpAny_bind (m := checkCount "sorted" 1 1 _) (wpAny_pure ?_)
  refine wpAny_bind (wpAny_collect_seq (A := X.A.in1) a (.inr rfl) ho hc hd (fun h' hk' => ?_) (by rw [List.size_toArray, hlen]; exact hz))
  rw [List.toList_toArray]
  refine wpAny_bind (wpAny_newList ?_ (by rw [hlen]; exact hz))
  have hob : (h'.push { cls := .type "list", data := .seq its.toArray }).get? h'.objs.size = some (seqObj "list" its.toArray 0) := Heap.get?_push_size _ rfl
  have kb : ∀ b o, s.heap.get? b = some o → (h'.push { cls := .type "list", data := .seq its.toArray }).get? b = some o := fun b o e => Heap.get?_push_of_some _ (hk' b o e)
  have lt : ∀ b o, s.heap.get? b = some o → b < h'.objs.size := fun b o e => Heap.lt_size (hk' b o e)
  have hn : s.heap.get? h'.objs.size = none := by
    cases e : s.heap.get? h'.objs.size with
    | none => rfl
    | some u => exact absurd (lt _ _ e) (Nat.lt_irrefl _)
  have hnH : H h'.objs.size = none := by
    cases e : H h'.objs.size with
    | none => rfl
    | some u =>
      obtain ⟨u', e'⟩ := objOk_get (I.hok _ _ e)
      rw [hn] at e'; cases e'
  generalize hh2 : h'.push { cls := .type "list", data := .seq its.toArray } = h2 at hob kb ⊢
  obtain ⟨e1, e2⟩ := each_tups (P := X.prog) (w := X.w) (h := h2) (fun k b e => by
    obtain ⟨o, its, n, a1, a2⟩ := Inv.isT I (e.sq sm)
    exact ⟨o, its, n, kb _ _ a1, a2⟩) ra rv
  refine wpAny_bind (wpAny_holding (PySem.W.list_sort_data (enc := tupI) hob e1 (e2 _) hal hso (by rw [hlk]; exact hz) (fun b hb => ?_) fun out ho eo => ?_))
  · have h9 := of_decide_eq_true (Bool.and_eq_true_iff.mp (hsh b hb)).2
    have : X.A.in1.units = X.A.units + 1 := rfl
    omega
  · obtain ⟨ws, w1, w2⟩ := vals_each tupI eo
    obtain ⟨ep', he'⟩ := PyProof.Rows.sortedHeap_at (vs := its) (out := out.toArray) hob
    have hl2 : ws.length ≤ sizeLine := by rw [w1.length, ho, hlk]; exact hz
    refine wpAny_pure ⟨_, rfl, ?_⟩
    exact ⟨.ref h'.objs.size, upd H h'.objs.size (.lst ws), I.laidN (t' := s.toks) (fun b o e => (PyProof.Rows.sortedHeap_old (Nat.ne_of_lt (lt b o e)) (Heap.lt_size (kb b o e))).trans (kb b o e)) hn hnH (show ObjOk X.prog X.w _ _ _ (.lst ws) from ⟨hl2, out, ep', w1, by simpa using he'⟩), rfl, q ws _ hnH w2⟩
def gSortTT : TF := fun qs P => ∃ ks : List (List Int), qs = [.tuple (ks.map tupI)] ∧ PySem.W.AllAlike (ks.map tupI) ∧ PySem.W.Sortable (ks.map tupI) ∧ (∀ k ∈ ks, SeqAt.shaped (tupI k) = true) ∧ P (.list ((ks.mergeSort (dLe tupI)).map tupI))
theorem cd_sortTT : CallD rSortTT gSortTT := by
  intro G H vs qs P Q s r ⟨ks, e, h1, h2, h3, p⟩ k
  subst e
  obtain ⟨v, rfl, rv⟩ := r.one
  obtain ⟨a, us, rfl, ea, ra⟩ := rv.tup_of
  refine ⟨G, a, us, ks, rfl, s, ea, ra, h1, h2, h3, fun ws q hq rw' => ?_⟩
  have g := Grow.new (o := .lst ws) s hq
  exact k _ _ _ _ p g (.lst upd_same (rw'.mono (g.gg s)))
end DL

-- text D13
set_option Elab.async false
set_option linter.all false
set_option maxRecDepth 100000
set_option maxHeartbeats 4000000
namespace EvL
open PySem PySem.Spec PyProof.Rows L2 DL
section
variable {P : Program} {w : World} {K : PySem.W.Frag} {mg : Str → Option Value} {base : Heap}
def C_law_moved : TF := fun ds P => ∃ (k : Int) (bs : List Pr) (one other : List Int) (ps : List Pr), ds = [eS one, eS other, eTP ps] ∧ Case k bs one other ps ∧ P (eTM (srt (mvRaw one other ps)))
abbrev N_law_moved : List Str := ["_law_one_so", "_law_other_so", "_law_passing_so", "_law_found", "_law_k", "_law_own", "_law_levels_so", "_law_near_so", "_law_far_so", "_law_level_so"]
theorem sc_law_moved : FnScope N_law_moved ["_law_one_so", "_law_other_so", "_law_passing_so"] (defScope s_law_moved) := ⟨rfl, rfl, rfl, by decide +kernel, rfl, by decide +kernel, by decide +kernel⟩
theorem o_law_moved (B : B0 K mg) : Ok P w K mg base "_law_moved" ["_law_one_so", "_law_other_so", "_law_passing_so"] 1 C_law_moved := by
  have nd := sc_law_moved.nd
  obtain ⟨fd, F⟩ := B.says.def_ 52 (d := mkD "_law_moved" s_law_moved) rfl
  refine ⟨fd, fn_dl (C := C_law_moved) F sc_law_moved (by rintro ds Q ⟨_, _, _, _, _, rfl, _⟩; rfl) (fun cdv A outer s H E hr => (dss_cons (ds_set (i := 3) nd rfl (Or.inl rfl) (DF.de (df_lst da_nil)))
    (dss_cons (ds_for PassesOwn.never rfl (di_enumT (by rfl) (f_enumerate B) (da_cons (dp_var (pv 0 rfl (Or.inl rfl))) da_nil)) (dg_tup rfl (dgs_cons (dg_name (pg_name (i := 4) nd rfl (Or.inr rfl))) (dgs_cons (dg_name (pg_name (i := 5) nd rfl (Or.inl rfl))) dgs_nil))) (dss_cons (ds_frzA 6 (ds_setLc (i := 6) rfl nd rfl rfl (sw_true rfl rfl rfl (by decide +kernel)) (own := [("_law_level_so", 9)]) (ws := [9])  (di_range2 (by rfl) (f_range B) (da_cons (dp_callB (cr_min2 rfl) cd_min (by rfl) (f_min B) (by decide +kernel) (da_cons (dp_var (pv 5 rfl (Or.inl rfl))) (da_cons (dp_ix (dp_var (pv 1 rfl (Or.inl rfl))) (dp_var (pv 4 rfl (Or.inr (Or.inl rfl)))) (fun _ _ => rfl)) da_nil))) (da_cons (dp_op op_add3 od_add (dp_callB (cr_max2 rfl) cd_max (by rfl) (f_max B) (by decide +kernel) (da_cons (dp_var (pv 5 rfl (Or.inl rfl))) (da_cons (dp_ix (dp_var (pv 1 rfl (Or.inl rfl))) (dp_var (pv 4 rfl (Or.inr (Or.inl rfl)))) (fun _ _ => rfl)) da_nil))) dp_int) da_nil))) (blkOk_by (N := N_law_moved) (sc := (defScope s_law_moved)) (by decide +kernel)) (by decide) (fun _ _ _ _ _ => (dg_name (pg_name (i := 9) nd rfl (Or.inl rfl)))) (fun _ _ _ _ _ => (dts_one (dt_cmp (op_notIn2 (hu65 hr)) od_notIn (dp_tup (da_cons (dp_var (pv 4 rfl (Or.inr (Or.inl rfl)))) (da_cons (dp_var (pv 9 rfl (Or.inl rfl))) da_nil))) (dp_var (pv 2 rfl (Or.inr (Or.inl rfl)))) (by rfl)))) (fun _ _ _ _ _ => (dp_var (pv 9 rfl (Or.inl rfl))))))
    (dss_one (ds_for PassesOwn.never rfl (di_zip (by rfl) (f_zip B) (da_cons (dp_var (pv 6 rfl (Or.inl rfl))) (da_cons (dp_slice (dp_var (pv 6 rfl (Or.inl rfl))) (do_some dp_int) do_none) da_nil))) (dg_tup rfl (dgs_cons (dg_name (pg_name (i := 7) nd rfl (Or.inl rfl))) (dgs_cons (dg_name (pg_name (i := 8) nd rfl (Or.inl rfl))) dgs_nil))) (dss_one (ds_append (pv 3 rfl (Or.inl rfl)) (dp_if (dt_cmp op_lt od_lt (dp_var (pv 5 rfl (Or.inl rfl))) (dp_ix (dp_var (pv 1 rfl (Or.inl rfl))) (dp_var (pv 4 rfl (Or.inr (Or.inl rfl)))) (fun _ _ => rfl)) (nomark _)) (dp_tup (da_cons (dp_var (pv 4 rfl (Or.inr (Or.inl rfl)))) (da_cons (dp_var (pv 7 rfl (Or.inl rfl))) (da_cons (dp_var (pv 8 rfl (Or.inl rfl))) da_nil)))) (dp_tup (da_cons (dp_var (pv 4 rfl (Or.inr (Or.inl rfl)))) (da_cons (dp_var (pv 8 rfl (Or.inl rfl))) (da_cons (dp_var (pv 7 rfl (Or.inl rfl))) da_nil)))))))))))
    (dss_frzS 3 (dss_one (ds_ret (dp_callTy call_tuple_of cd_tup (by rfl) (f_tuple B) (by decide +kernel) (da_cons (dp_callB (cr_sortE (hu67 hr)) cd_sortE (by rfl) (f_sorted B) (by decide +kernel) (da_cons (dp_var (pv 3 rfl (Or.inl rfl))) da_nil)) da_nil)))))))) ?_, FunD.bindsN F (fun _ _ _ _ _ _ us hl => match us, hl with | [_, _, _], _ => rfl), F.kp, B.glo _ (B.says.fact 52 (f := .glo "_law_moved") rfl)⟩
  rintro ds Q ⟨k, bs, one, other, ps, rfl, c, q⟩
  have l1 := c.s1.len
  have l2 := c.s2.len
  have k4 := c.k4
  have bnd : ∀ (i : Nat) (x y : Int), one[i]? = some x → other[i]? = some y → (x - y).natAbs ≤ 5 := by
    intro i x y hx hy
    have := c.b1 x (List.mem_of_getElem? hx)
    have := c.b2 y (List.mem_of_getElem? hy)
    omega
  have jl : ∀ i, (lawJ one other ps i).length ≤ 6 := by
    intro i
    unfold lawJ
    cases e1 : one[i]? with
    | none => simp
    | some x =>
      cases e2 : other[i]? with
      | none => simp
      | some y =>
        show (lawS ps i x y).length ≤ 6
        unfold lawS
        rw [List.length_map, List.length_zip]
        have := kept_len ps i x y
        have := bnd i x y e1 e2
        omega
  have flen : ∀ i, i ≤ one.length → ((((List.range one.length).take i).map (lawJ one other ps)).flatten).length ≤ 24 := by
    intro i hi
    have h1 := flat_len (lawJ one other ps) 6 ((List.range one.length).take i) fun k _ => jl k
    have h2 : ((List.range one.length).take i).length ≤ 4 := by rw [List.length_take, List.length_range]; omega
    have h3 : ((List.range one.length).take i).length * 6 ≤ 4 * 6 := Nat.mul_le_mul_right _ h2
    omega
  refine ⟨by show 0 ≤ 16777216; decide, ?_⟩
  refine forI (ti := dEnumT (dCons (dV 0) dNil)) ((List.range one.length).zip one) (fun p => .tuple [.int (p.1 : Nat), .int p.2]) (fun R hR => ⟨_, rfl, _, rfl, by rw [enumD_enc]; exact hR⟩)
    (fun i ρ => ∃ x4 x5 x6 x7 x8 x9, ρ = [.sh (eS one), .sh (eS other), .sh (eTP ps), .ow (((((List.range one.length).take i).map (lawJ one other ps)).flatten).map fun m => eM m), x4, x5, x6, x7, x8, x9]) ⟨_, _, _, _, _, _, rfl⟩ ?_ ?_
  · rintro i ⟨k, h⟩ ρ hk ⟨x4, x5, x6, x7, x8, x9, rfl⟩
    rw [List.getElem?_zip_eq_some] at hk
    obtain ⟨hk1, hk2⟩ := hk
    have hi : i < one.length := (List.getElem?_eq_some_iff.mp hk2).1
    have ek : k = i := by
      have e : (List.range one.length)[i]? = some i := List.getElem?_range hi
      rw [e] at hk1
      exact (Option.some.inj hk1).symm
    subst ek
    obtain ⟨e, he⟩ : ∃ e, other[k]? = some e := ⟨_, List.getElem?_eq_getElem (by omega)⟩
    have ge : (other.map PyData.int)[(k : Int).toNat]? = some (.int e) := by rw [Int.toNat_natCast, List.getElem?_map, he]; rfl
    have bh := c.b1 h (List.mem_of_getElem? hk2)
    have be := c.b2 e (List.mem_of_getElem? he)
    have jm : lawJ one other ps k = lawS ps k h e := by
      unfold lawJ
      rw [hk2, he]
    have emin : (if e < h then e else h) = min h e := by split <;> omega
    have emax : (if e > h then e else h) = max h e := by split <;> omega
    refine ⟨_, rfl, rfl, ?_⟩
    refine lcF (ti := dRg2 (dCons (dApp gMin (dCons (dV 5) (dCons (dOp gIx (dV 1) (dV 4)) dNil))) (dCons (dOp gAdd (dApp gMax (dCons (dV 5) (dCons (dOp gIx (dV 1) (dV 4)) dNil))) (dC (.int 1))) dNil))) (ups (min h e) (max h e + 1)) PyData.int (fun l => !decide (((k : Int), l) ∈ ps)) id PyData.int
      (fun R hR => ⟨_, rfl, _, rfl, _, rfl, by omega, _, ge, .inl ⟨_, _, rfl, _, rfl, _, rfl, _, rfl, by omega, _, ge, .inl ⟨_, _, rfl, _, _, rfl, ⟨by rw [emin]; omega, by rw [emin]; omega, by rw [emax]; omega, by rw [emax]; omega⟩, by rw [emin, emax, rgC_ups]; exact hR⟩⟩⟩) (by rw [ups_len]; omega) (fun l hl R h1 R2 h2 => ?_) ?_
    · refine ⟨_, rfl, _, rfl, by show 2 ≤ 16777216; decide, _, rfl, rfl, (pl_TP ps).sh, _, rfl, ?_⟩
      rw [show inD (.tuple [.int (k : Nat), .int l]) (ps.map eP) = decide (((k : Int), l) ∈ ps) from (inD_map pl_P (fun _ _ => eP_inj) ((k : Int), l) ps).trans (decide_eq_decide.mpr Iff.rfl)]
      cases hd : decide (((k : Int), l) ∈ ps) with
      | true => exact h2 (by rw [hd]; rfl)
      | false => exact ⟨_, rfl, h1 (by rw [hd]; rfl)⟩
    rw [List.map_id]
    refine ⟨_, _, rfl, rfl, ?_⟩
    have hkl := kept_len ps k h e
    have hb5 := bnd k h e hk2 he
    have hfl := flen k (by omega)
    obtain ⟨A, hA⟩ : ∃ A, (((List.range one.length).take k).map (lawJ one other ps)).flatten = A := ⟨_, rfl⟩
    rw [hA] at hfl ⊢
    obtain ⟨L, hL⟩ : ∃ L, keptL ps k h e = L := ⟨_, rfl⟩
    have hL' : (ups (min h e) (max h e + 1)).filter (fun l => !decide (((k : Int), l) ∈ ps)) = L := hL
    rw [hL']
    rw [hL] at hkl
    obtain ⟨f, hf⟩ : ∃ f : Int × Int → Mv, f = fun q => if h < e then ((k : Int), q.1, q.2) else ((k : Int), q.2, q.1) := ⟨_, rfl⟩
    refine forI (ti := dZip (dCons (dV 6) (dCons (dSl (dV 6) (dPart (dC (.int 1))) dNoPart) dNil))) (L.zip (L.drop 1)) (fun p => .tuple [.int p.1, .int p.2]) (fun R hR => ⟨_, rfl, _, rfl, _, _, rfl, _, _, .inl ⟨rfl, rfl⟩, by rw [show (some (1 : Int)) = some ((1 : Nat) : Int) from rfl, cut_from, ← List.map_drop, zip_map_zipD]; exact hR⟩)
      (fun j ρ => ∃ x7 x8 x9, ρ = [.sh (eS one), .sh (eS other), .sh (eTP ps), .ow ((A ++ ((L.zip (L.drop 1)).take j).map f).map fun m => eM m), .sh (.int (k : Nat)), .sh (.int h), .sh (.list (L.map PyData.int)), x7, x8, x9]) ⟨x7, x8, x9, by rw [List.take_zero, List.map_nil, List.append_nil]; rfl⟩ ?_ ?_
    · rintro j q ρ hq ⟨x7, x8, x9, rfl⟩
      have hjl := (List.getElem?_eq_some_iff.mp hq).1
      rw [List.length_zip] at hjl
      refine ⟨_, rfl, rfl, ?_⟩
      refine ⟨_, rfl, _, rfl, _, rfl, _, rfl, by omega, _, ge, _, rfl, ?_⟩
      have hlen : (((A ++ ((L.zip (L.drop 1)).take j).map f).map fun m => eM m)).length < 16777216 := by
        rw [List.length_map, List.length_append, List.length_map, List.length_take, List.length_zip]
        omega
      have hnx : ∀ m, m = f q → ((A ++ ((L.zip (L.drop 1)).take j).map f).map fun m => eM m) ++ [eM m] = (A ++ ((L.zip (L.drop 1)).take (j + 1)).map f).map fun m => eM m := by
        intro m hm
        rw [take_succ_map f hq, ← List.append_assoc, List.map_append (l₁ := A ++ _), hm]
        rfl
      cases hd : decide (h < e) with
      | true =>
        refine ⟨_, rfl, _, rfl, _, rfl, by show 3 ≤ 16777216; decide, hlen, .sh (.int q.1), .sh (.int q.2), x9, ?_⟩
        rw [← hnx ((k : Int), q.1, q.2) (by rw [hf]; simp only [of_decide_eq_true hd, if_true])]
        rfl
      | false =>
        refine ⟨_, rfl, _, rfl, _, rfl, by show 3 ≤ 16777216; decide, hlen, .sh (.int q.1), .sh (.int q.2), x9, ?_⟩
        rw [← hnx ((k : Int), q.2, q.1) (by rw [hf]; simp only [of_decide_eq_false hd, if_false])]
        rfl
    · rintro ρ ⟨x7, x8, x9, rfl⟩
      refine ⟨.sh (.int (k : Nat)), .sh (.int h), .sh (.list (L.map PyData.int)), x7, x8, x9, ?_⟩
      rw [List.take_length, take_range_flat _ _ _ hi, hA, jm]
      unfold lawS
      rw [hL, hf]
  · rintro ρ ⟨x4, x5, x6, x7, x8, x9, rfl⟩
    have el : ((List.range one.length).zip one).length = one.length := by simp
    rw [el, List.take_of_length_le (by simp)]
    refine ⟨_, _, rfl, rfl, ?_⟩
    refine ⟨_, rfl, Mv, (fun m => eM m), mvLaw one other ps, rfl, alike_map alike_M _, sortable_map (fun a => ⟨_, _, rfl⟩) _, fun b _ => (pl_M b).sh, ?_⟩
    refine ⟨_, _, rfl, rfl, ?_⟩
    rw [← srt_eq (mvLaw_perm c.vp.toAp)] at q
    exact q
def C_law_every_order : TF := fun ds P => ∃ (n : Int) (bs : List Pr) (one : List Int) (ms : List Mv), ds = [eF n bs, eS one, eTM ms] ∧ VF n bs ∧ (one.length : Int) = n ∧ (∀ x ∈ one, -1000 ≤ x ∧ x ≤ 1000) ∧ ms.Nodup ∧ ms.length ≤ 7 ∧ (∀ m ∈ ms, 0 ≤ m.1 ∧ m.1 < n ∧ -1000 ≤ m.2.2 ∧ m.2.2 ≤ 1000) ∧ ∀ rows : List (List Mv), rows.length ≤ 1000000 → (∀ os, os ∈ rows ↔ IsRow bs one ms os) → P (.list (rows.map fun os => zD (os.map eM)))
abbrev N_law_every_order : List Str := ["_law_frame_so", "_law_one_so", "_law_moved_so", "_law_rows_so", "_law_lap", "_law_later_so", "_law_own", "_law_now_so", "_law_move_so"]
theorem sc_law_every_order : FnScope N_law_every_order ["_law_frame_so", "_law_one_so", "_law_moved_so"] (defScope s_law_every_order) := ⟨rfl, rfl, rfl, by decide +kernel, rfl, by decide +kernel, by decide +kernel⟩
theorem o_law_every_order (B : B0 K mg) : Ok P w K mg base "_law_every_order" ["_law_frame_so", "_law_one_so", "_law_moved_so"] 3 C_law_every_order := by
  have nd := sc_law_every_order.nd
  obtain ⟨fd, F⟩ := B.says.def_ 53 (d := mkD "_law_every_order" s_law_every_order) rfl
  refine ⟨fd, fn_dl (C := C_law_every_order) F sc_law_every_order (by rintro ds Q ⟨_, _, _, _, rfl, _⟩; rfl) (fun cdv A outer s H E hr => (dss_cons (ds_set (i := 3) nd rfl (Or.inl rfl) (DP.de (DF.dp (df_lst (da_cons (dp_tup (da_cons (dp_tupZ da_nil) (da_cons (dp_var (pv 1 rfl (Or.inl rfl))) da_nil))) da_nil)))))
    (dss_cons (ds_for PassesOwn.never rfl (di_range1 (by rfl) (f_range B) (da_cons (dp_callB call_len cd_len (by rfl) (f_len B) (by decide +kernel) (da_cons (dp_var (pv 2 rfl (Or.inl rfl))) da_nil)) da_nil)) (dg_name (pg_name (i := 4) nd rfl (Or.inl rfl))) (dss_cons (ds_set (i := 5) nd rfl (Or.inl rfl) (DF.de (df_lst da_nil)))
    (dss_cons (ds_for PassesOwn.never rfl (di_seq (dp_var (pv 3 rfl (Or.inl rfl)))) (dg_tup rfl (dgs_cons (dg_name (pg_name (i := 6) nd rfl (Or.inl rfl))) (dgs_cons (dg_name (pg_name (i := 7) nd rfl (Or.inl rfl))) dgs_nil))) (dss_one (ds_for PassesOwn.never rfl (di_seq (dp_var (pv 2 rfl (Or.inl rfl)))) (dg_name (pg_name (i := 8) nd rfl (Or.inl rfl))) (dss_one (ds_if (DW.dt (dw_and (dt_cmp (op_notIn2 (hu65 hr)) od_notIn (dp_var (pv 8 rfl (Or.inl rfl))) (dp_unz (dp_var (pv 6 rfl (Or.inl rfl)))) (by rfl)) (dw_and (dt_cmp (op_eqD hr.units) od_eq (dp_ix (dp_var (pv 7 rfl (Or.inl rfl))) (dp_ix (dp_var (pv 8 rfl (Or.inl rfl))) dp_int (fun _ _ => rfl)) (fun _ _ => rfl)) (dp_ix (dp_var (pv 8 rfl (Or.inl rfl))) dp_int (fun _ _ => rfl)) (nomark _)) (dw_and1 (dt_cmp (op_in2 (hu65 hr)) od_in (dp_ix (dp_var (pv 8 rfl (Or.inl rfl))) dp_int (fun _ _ => rfl)) (dp_fn (o_law_roomy B) hr (by rfl) (da_cons (dp_var (pv 0 rfl (Or.inl rfl))) (da_cons (dp_var (pv 7 rfl (Or.inl rfl))) (da_cons (dp_ix (dp_var (pv 8 rfl (Or.inl rfl))) dp_int (fun _ _ => rfl)) da_nil)))) (by rfl)))))) (dss_one (ds_append (pv 5 rfl (Or.inl rfl)) (dp_tup (da_cons (dp_op op_catZ od_catZ (dp_var (pv 6 rfl (Or.inl rfl))) (dp_tupZ (da_cons (dp_var (pv 8 rfl (Or.inl rfl))) da_nil))) (da_cons (dp_fn (o_law_put B) hr (by rfl) (da_cons (dp_var (pv 7 rfl (Or.inl rfl))) (da_cons (dp_ix (dp_var (pv 8 rfl (Or.inl rfl))) dp_int (fun _ _ => rfl)) (da_cons (dp_ix (dp_var (pv 8 rfl (Or.inl rfl))) dp_int (fun _ _ => rfl)) da_nil)))) da_nil))))) dss_nil)))))
    (dss_frzS 5 (dss_one (ds_set (i := 3) nd rfl (Or.inl rfl) (DP.de (dp_var (pv 5 rfl (Or.inl rfl))))))))))
    (dss_one (ds_ret (dp_callB (cr_sortZ1 (hu67 hr)) cd_sortZ1 (by rfl) (f_sorted B) (by decide +kernel) (da_cons (DF.dp (df_lc (own := [("_law_own", 6), ("_law_now_so", 7)]) (ws := [6, 7]) rfl nd (di_seq (dp_var (pv 3 rfl (Or.inl rfl)))) (blkOk_by (N := N_law_every_order) (sc := (defScope s_law_every_order)) (by decide +kernel)) (by decide) (fun _ _ _ _ _ => (dg_tup rfl (dgs_cons (dg_name (pg_name (i := 6) nd rfl (Or.inl rfl))) (dgs_cons (dg_name (pg_name (i := 7) nd rfl (Or.inl rfl))) dgs_nil)))) (fun _ _ _ _ _ => dts_nil) (fun _ _ _ _ _ => (dp_var (pv 6 rfl (Or.inl rfl)))))) da_nil))))))) ?_, FunD.bindsN F (fun _ _ _ _ _ _ us hl => match us, hl with | [_, _, _], _ => rfl), F.kp, B.glo _ (B.says.fact 53 (f := .glo "_law_every_order") rfl)⟩
  rintro ds Q ⟨n, bs, one, ms, rfl, v, ol, ob, nd2, ml, mb, q⟩
  have n8 := v.n8
  obtain ⟨enc, henc⟩ : ∃ enc : List Mv → PyData, enc = fun os => .tuple [zD (os.map eM), eS (fin one os)] := ⟨_, rfl⟩
  have rl : ∀ i, i ≤ 7 → (rowsN bs one ms i).length ≤ 823543 := fun i hi => rowsN_b ml hi
  refine ⟨by show 0 ≤ 16777216; decide, _, rfl, by show 2 ≤ 16777216; decide, by show 1 ≤ 16777216; decide, ?_⟩
  refine forI (ti := dRg1 (dCons (dApp gLen (dCons (dV 2) dNil)) dNil)) (List.range ms.length) (fun i : Nat => .int (0 + (i : Int))) (fun R hR => ⟨_, rfl, _, _, rfl, rfl, _, rfl, ⟨by omega, by rw [List.length_map]; omega⟩, by rw [List.length_map, Int.toNat_natCast]; exact hR⟩)
    (fun i ρ => ∃ x4 x5 x6 x7 x8, ρ = [.sh (eF n bs), .sh (eS one), .sh (eTM ms), .sh (.list ((rowsN bs one ms i).map enc)), x4, x5, x6, x7, x8]) ⟨.un, .un, .un, .un, .un, by rw [henc]; rfl⟩ ?_ ?_
  · rintro i lap ρ hlap ⟨x4, x5, x6, x7, x8, rfl⟩
    have hi := (List.getElem?_eq_some_iff.mp hlap).1
    rw [List.length_range] at hi
    refine ⟨by show 0 ≤ 16777216; decide, ?_⟩
    obtain ⟨rows, hrows⟩ : ∃ rows, rowsN bs one ms i = rows := ⟨_, rfl⟩
    have hrl := rl i (by omega)
    have hrl1 := rl (i + 1) (by omega)
    rw [rowsN] at hrl1
    have hmem : ∀ own ∈ rows, own.length = i ∧ own.Nodup ∧ (∀ m ∈ own, m ∈ ms) ∧ Wk bs one own := fun own h => mem_rowsN.mp (by rw [hrows]; exact h)
    rw [hrows] at hrl hrl1 ⊢
    refine forI (ti := dSeq (dV 3)) rows enc (fun R hR => ⟨_, rfl, _, rfl, hR⟩)
      (fun j ρ => ∃ x6 x7 x8, ρ = [.sh (eF n bs), .sh (eS one), .sh (eTM ms), .sh (.list (rows.map enc)), .sh (.int (0 + (lap : Int))), .ow ((((rows.take j).map (addRow bs one ms)).flatten).map enc), x6, x7, x8]) ⟨_, _, _, rfl⟩ ?_ ?_
    · rintro j own ρ hown ⟨x6, x7, x8, rfl⟩
      have hjl := (List.getElem?_eq_some_iff.mp hown).1
      obtain ⟨o1, o2, o3, o4⟩ := hmem own (List.mem_of_getElem? hown)
      rw [henc]
      refine ⟨_, rfl, rfl, ?_⟩
      rw [← henc]
      obtain ⟨A, hA⟩ : ∃ A, ((rows.take j).map (addRow bs one ms)).flatten = A := ⟨_, rfl⟩
      have hAl : A.length + (addRow bs one ms own).length ≤ 823543 := by
        have e : (((rows.take (j + 1)).map (addRow bs one ms)).flatten).length ≤ ((rows.map (addRow bs one ms)).flatten).length := by
          have e2 : (rows.map (addRow bs one ms)).flatten = ((rows.take (j + 1)).map (addRow bs one ms)).flatten ++ ((rows.drop (j + 1)).map (addRow bs one ms)).flatten := by
            rw [← List.flatten_append, ← List.map_append, List.take_append_drop]
          rw [e2, List.length_append]
          omega
        rw [flat_take _ hown, hA, List.length_append] at e
        omega
      rw [hA]
      obtain ⟨s, hs⟩ : ∃ s, fin one own = s := ⟨_, rfl⟩
      have sl : (s.length : Int) = n := by rw [← hs, fin_len]; exact ol
      have sb : ∀ x ∈ s, -1000 ≤ x ∧ x ≤ 1000 := fun x hx => by
        rw [← hs] at hx
        rcases fin_mem one own x hx with h | ⟨m, hm, e⟩
        · exact ob x h
        · have := mb m (o3 m hm)
          omega
      obtain ⟨cond, hcond⟩ : ∃ cond : Mv → Bool, cond = fun m => !decide (m ∈ own) && doB bs s m := ⟨_, rfl⟩
      have hadd : addRow bs one ms own = (ms.filter cond).map fun m => own ++ [m] := by
        unfold addRow
        rw [hs, hcond]
      rw [hs]
      refine forI (ti := dSeq (dV 2)) ms eM (fun R hR => ⟨_, rfl, _, rfl, hR⟩)
        (fun l ρ => ∃ x8, ρ = [.sh (eF n bs), .sh (eS one), .sh (eTM ms), .sh (.list (rows.map enc)), .sh (.int (0 + (lap : Int))), .ow ((A ++ ((ms.take l).filter cond).map fun m => own ++ [m]).map enc), .sh (zD (own.map eM)), .sh (eS s), x8]) ⟨x8, by rw [List.take_zero, List.filter_nil, List.map_nil, List.append_nil]; rfl⟩ ?_ ?_
      · rintro l m ρ hm ⟨x8, rfl⟩
        have hmm := List.mem_of_getElem? hm
        obtain ⟨m0, m1, m2, m3⟩ := mb m hmm
        have hll := (List.getElem?_eq_some_iff.mp hm).1
        have skip : cond m = false → ∃ x8', [SV.sh (eF n bs), .sh (eS one), .sh (eTM ms), .sh (.list (rows.map enc)), .sh (.int (0 + (lap : Int))), .ow ((A ++ ((ms.take l).filter cond).map fun m => own ++ [m]).map enc), .sh (zD (own.map eM)), .sh (eS s), .sh (eM m)] =
            [SV.sh (eF n bs), .sh (eS one), .sh (eTM ms), .sh (.list (rows.map enc)), .sh (.int (0 + (lap : Int))), .ow ((A ++ ((ms.take (l + 1)).filter cond).map fun m => own ++ [m]).map enc), .sh (zD (own.map eM)), .sh (eS s), x8'] := fun h => ⟨.sh (eM m), by
          rw [List.take_add_one, hm, List.filter_append]
          simp [h]⟩
        obtain ⟨sj, hsj⟩ : ∃ x, s[m.1.toNat]? = some x := ⟨_, List.getElem?_eq_getElem (show m.1.toNat < s.length by omega)⟩
        have hsj' : (s.map PyData.int)[m.1.toNat]? = some (.int sj) := by rw [List.getElem?_map, hsj]; rfl
        refine ⟨_, rfl, _, rfl, _, rfl, rfl, (pl_TM own).sh, _, rfl, ?_⟩
        rw [show inD (eM m) (own.map eM) = decide (m ∈ own) from (inD_map pl_M (fun _ _ => eM_inj) m own).trans (decide_eq_decide.mpr Iff.rfl)]
        cases hd : decide (m ∈ own) with
        | true => exact skip (by rw [hcond]; simp only [hd, Bool.not_true, Bool.false_and])
        | false =>
        refine ⟨_, rfl, _, rfl, by decide, _, rfl, m0, _, hsj', _, rfl, by decide, _, rfl, rfl, rfl, _, rfl, ?_⟩
        rw [eqv_int]
        cases hd2 : decide (sj = m.2.1) with
        | false =>
          have hd2 := of_decide_eq_false hd2
          refine skip ?_
          rw [hcond]
          have : doB bs s m = false := by
            cases h : doB bs s m with
            | false => rfl
            | true =>
              have := (doB_iff.mp h).1
              rw [hsj] at this
              exact absurd (Option.some.inj this) hd2
          simp only [this, Bool.and_false]
        | true =>
        have hd2 := of_decide_eq_true hd2
        refine ⟨_, rfl, by decide, _, rfl, _, rfl, _, rfl, _, rfl, by decide, _, rfl, n, bs, s, m.1, rfl, v, sl, sb, m0, m1, fun rs hrs => ⟨rfl, (Pl.lst (n := 0) (pl_map fun i => .int 0 i)).sh, _, rfl, ?_⟩⟩
        rw [inD_ints]
        have hdo : doB bs s m = decide (m.2.2 ∈ rs) := by
          rw [Bool.eq_iff_iff, doB_iff, decide_eq_true_eq, hrs]
          constructor
          · exact fun h => h.2
          · exact fun h => ⟨by rw [hsj, hd2], h⟩
        cases hd3 : decide (m.2.2 ∈ rs) with
        | false => exact skip (by rw [hcond]; simp only [hdo, hd3, Bool.and_false])
        | true =>
          have hc : cond m = true := by rw [hcond]; simp only [hdo, hd3, hd, Bool.not_false, Bool.and_self]
          have hlen : ((A ++ ((ms.take l).filter cond).map fun m => own ++ [m]).map enc).length < 16777216 := by
            have h1 := List.length_filter_le cond (ms.take l)
            rw [List.length_take] at h1
            rw [List.length_map, List.length_append, List.length_map]
            omega
          refine ⟨_, rfl, _, rfl, _, rfl, by show 1 ≤ 16777216; decide, _, _, rfl, rfl, by rw [List.length_map, o1]; show i + 1 ≤ 16777216; omega, _, rfl, _, rfl, by decide, _, rfl, _, rfl, by decide, _, rfl, s, m.1, m.2.2, rfl, m0, by omega, by omega, by show 2 ≤ 16777216; decide, hlen, .sh (eM m), ?_⟩
          have e1 : ((some m).toList.filter cond) = [m] := by simp [hc]
          have e3 : ((ms.take (l + 1)).filter cond).map (fun m => own ++ [m]) = ((ms.take l).filter cond).map (fun m => own ++ [m]) ++ [own ++ [m]] := by
            rw [List.take_add_one, hm, List.filter_append, e1, List.map_append]
            rfl
          rw [e3, ← List.append_assoc, List.map_append (l₁ := A ++ _)]
          have e2 : enc (own ++ [m]) = .tuple [zD (own.map eM ++ [eM m]), eS (s.set m.1.toNat m.2.2)] := by
            rw [henc]
            show PyData.tuple [zD ((own ++ [m]).map eM), eS (fin one (own ++ [m]))] = _
            rw [fin_snoc, hs, List.map_append]
            rfl
          show _ = [SV.sh (eF n bs), _, _, _, _, SV.ow (_ ++ [enc (own ++ [m])]), _, _, _]
          rw [e2]
          rfl
      · rintro ρ ⟨x8, rfl⟩
        refine ⟨.sh (zD (own.map eM)), .sh (eS s), x8, ?_⟩
        rw [List.take_length, flat_take _ hown, hA, hadd]
    · rintro ρ ⟨x6, x7, x8, rfl⟩
      refine ⟨_, _, rfl, rfl, _, rfl, .sh (.int (0 + (lap : Int))), .sh (.list ((((rows.take rows.length).map (addRow bs one ms)).flatten).map enc)), x6, x7, x8, ?_⟩
      rw [List.take_length, rowsN, hrows]
      rfl
  · rintro ρ ⟨x4, x5, x6, x7, x8, rfl⟩
    rw [List.length_range]
    obtain ⟨rows, hrows⟩ : ∃ rows, rowsN bs one ms ms.length = rows := ⟨_, rfl⟩
    have hrl := rl ms.length ml
    have hmem : ∀ os, os ∈ rows ↔ IsRow bs one ms os := fun os => by rw [← hrows]; exact mem_rows nd2
    have hlen : ∀ os ∈ rows, os.length = ms.length := fun os h => ((hmem os).mp h).1.length_eq
    rw [hrows] at hrl ⊢
    refine lcM (ti := dSeq (dV 3)) rows enc id (fun os => zD (os.map eM)) (fun R hR => ⟨_, rfl, _, rfl, hR⟩) (by omega) (fun os _ R hR => by rw [henc]; exact ⟨_, rfl, rfl, _, rfl, hR⟩) ?_
    rw [List.map_id]
    cases ms with
    | nil =>
      have hr : rows = [[]] := by rw [← hrows]; rfl
      rw [hr]
      exact .inr ⟨zD [], rfl, q [[]] (by decide) (by rw [← hr]; exact hmem)⟩
    | cons m0 ms' =>
      have fi : ∀ a b : List Mv, a.map eM = b.map eM → a = b := fun a b h => map_inj (fun _ _ => eM_inj.mp) h
      refine .inl ⟨rows.map (fun os => os.map eM), by rw [List.map_map]; rfl, ?_, .inl ?_, ?_, ?_⟩
      · intro d hd d' hd'
        obtain ⟨x, hx, rfl⟩ := List.mem_map.mp hd
        obtain ⟨y, hy, rfl⟩ := List.mem_map.mp hd'
        obtain ⟨a, _, rfl⟩ := List.mem_map.mp hx
        obtain ⟨b, _, rfl⟩ := List.mem_map.mp hy
        have := alikeAll_map alike_M a b
        simpa [PySem.W.alike] using this
      · intro d hd
        obtain ⟨x, hx, rfl⟩ := List.mem_map.mp hd
        obtain ⟨a, ha, rfl⟩ := List.mem_map.mp hx
        have := hlen a ha
        cases a with
        | nil => cases this
        | cons z a => exact ⟨_, _, rfl⟩
      · intro x hx
        obtain ⟨a, _, rfl⟩ := List.mem_map.mp hx
        exact (pl_TM a).sh
      · have pm := sort_perm PyData.tuple (rows.map fun os => os.map eM)
        obtain ⟨zs, hz⟩ := map_enc (fun os : List Mv => os.map eM) (ms := (rows.map fun os => os.map eM).mergeSort (dLe PyData.tuple)) fun e he => by
          obtain ⟨a, _, h⟩ := List.mem_map.mp (pm.mem_iff.mp he)
          exact ⟨a, h⟩
        rw [hz, List.map_map]
        rw [hz] at pm
        refine q zs ?_ fun os => ?_
        · have := pm.length_eq
          rw [List.length_map, List.length_map] at this
          omega
        · rw [← hmem]
          constructor
          · intro h
            obtain ⟨a, ha, e⟩ := List.mem_map.mp (pm.mem_iff.mp (List.mem_map_of_mem (f := fun os : List Mv => os.map eM) h))
            rw [← fi _ _ e]
            exact ha
          · intro h
            obtain ⟨a, ha, e⟩ := List.mem_map.mp (pm.mem_iff.mpr (List.mem_map_of_mem (f := fun os : List Mv => os.map eM) h))
            rw [← fi _ _ e]
            exact ha
def C_law_arrows_so : TF := fun ds P => ∃ (n : Int) (bs : List Pr) (ms : List Mv), ds = [eF n bs, eTM ms] ∧ VF n bs ∧ ms.Nodup ∧ ms.length ≤ 7 ∧ (∀ m ∈ ms, 0 ≤ m.1 ∧ m.1 < n) ∧ P (eTA (srtA (arRaw n bs ms)))
abbrev N_law_arrows_so : List Str := ["_law_frame_so", "_law_moved_so", "_law_found", "_law_near_so", "_law_far_so", "_law_up_so", "_law_goes_so"]
theorem sc_law_arrows_so : FnScope N_law_arrows_so ["_law_frame_so", "_law_moved_so"] (defScope s_law_arrows_so) := ⟨rfl, rfl, rfl, by decide +kernel, rfl, by decide +kernel, by decide +kernel⟩
theorem o_law_arrows_so (B : B0 K mg) : Ok P w K mg base "_law_arrows_so" ["_law_frame_so", "_law_moved_so"] 2 C_law_arrows_so := by
  have nd := sc_law_arrows_so.nd
  obtain ⟨fd, F⟩ := B.says.def_ 54 (d := mkD "_law_arrows_so" s_law_arrows_so) rfl
  refine ⟨fd, fn_dl (C := C_law_arrows_so) F sc_law_arrows_so (by rintro ds Q ⟨_, _, _, rfl, _⟩; rfl) (fun cdv A outer s H E hr => (dss_cons (ds_set (i := 2) nd rfl (Or.inl rfl) (DF.de (df_lst da_nil)))
    (dss_cons (ds_for PassesOwn.never rfl (di_seq (dp_var (pv 1 rfl (Or.inl rfl)))) (dg_name (pg_name (i := 3) nd rfl (Or.inl rfl))) (dss_one (ds_for PassesOwn.never rfl (di_seq (dp_var (pv 1 rfl (Or.inl rfl)))) (dg_name (pg_name (i := 4) nd rfl (Or.inl rfl))) (dss_cons (ds_set (i := 5) nd rfl (Or.inl rfl) (DP.de (dp_cmp op_lt od_lt (dp_ix (dp_var (pv 3 rfl (Or.inl rfl))) dp_int (fun _ _ => rfl)) (dp_ix (dp_var (pv 3 rfl (Or.inl rfl))) dp_int (fun _ _ => rfl)) (nomark _))))
    (dss_cons (ds_if (dt_cmp (op_eqD hr.units) od_eq (dp_ix (dp_var (pv 3 rfl (Or.inl rfl))) dp_int (fun _ _ => rfl)) (dp_ix (dp_var (pv 4 rfl (Or.inl rfl))) dp_int (fun _ _ => rfl)) (nomark _)) (dss_one (ds_set (i := 6) nd rfl (Or.inl rfl) (DP.de (dp_cmp (op_eqD hr.units) od_eq (dp_ix (dp_var (pv 3 rfl (Or.inl rfl))) dp_int (fun _ _ => rfl)) (dp_ix (dp_var (pv 4 rfl (Or.inl rfl))) dp_int (fun _ _ => rfl)) (nomark _))))) (dss_one (ds_if (DW.dt (dw_or (dt_cmp (op_notIn2 (hu65 hr)) od_notIn (dp_ix (dp_var (pv 4 rfl (Or.inl rfl))) dp_int (fun _ _ => rfl)) (dp_fn (o_law_next_to B) hr (by rfl) (da_cons (dp_var (pv 0 rfl (Or.inl rfl))) (da_cons (dp_ix (dp_var (pv 3 rfl (Or.inl rfl))) dp_int (fun _ _ => rfl)) da_nil))) (by rfl)) (dw_or1 (dt_cmp (op_neD hr.units) od_ne (dp_var (pv 5 rfl (Or.inl rfl))) (dp_cmp op_lt od_lt (dp_ix (dp_var (pv 4 rfl (Or.inl rfl))) dp_int (fun _ _ => rfl)) (dp_ix (dp_var (pv 4 rfl (Or.inl rfl))) dp_int (fun _ _ => rfl)) (nomark _)) (nomark _))))) (dss_one (ds_set (i := 6) nd rfl (Or.inl rfl) (DP.de dp_bl))) (dss_one (ds_set (i := 6) nd rfl (Or.inl rfl) (DP.de (dp_if (dt_val (dp_var (pv 5 rfl (Or.inl rfl)))) (dp_cmp op_le od_le (dp_op op_add3 od_add (dp_ix (dp_var (pv 3 rfl (Or.inl rfl))) dp_int (fun _ _ => rfl)) dp_int) (dp_ix (dp_var (pv 4 rfl (Or.inl rfl))) dp_int (fun _ _ => rfl)) (nomark _)) (dp_cmp op_ge od_ge (dp_ix (dp_var (pv 3 rfl (Or.inl rfl))) dp_int (fun _ _ => rfl)) (dp_op op_add3 od_add (dp_ix (dp_var (pv 4 rfl (Or.inl rfl))) dp_int (fun _ _ => rfl)) dp_int) (nomark _)))))))))
    (dss_one (ds_if (dt_val (dp_var (pv 6 rfl (Or.inl rfl)))) (dss_one (ds_append (pv 2 rfl (Or.inl rfl)) (dp_tup (da_cons (dp_var (pv 3 rfl (Or.inl rfl))) (da_cons (dp_var (pv 4 rfl (Or.inl rfl))) da_nil))))) dss_nil)))))))
    (dss_frzS 2 (dss_one (ds_ret (dp_callTy call_tuple_of cd_tup (by rfl) (f_tuple B) (by decide +kernel) (da_cons (dp_callB (cr_sortE (hu67 hr)) cd_sortE (by rfl) (f_sorted B) (by decide +kernel) (da_cons (dp_var (pv 2 rfl (Or.inl rfl))) da_nil)) da_nil)))))))) ?_, FunD.bindsN F (fun _ _ _ _ _ _ us hl => match us, hl with | [_, _], _ => rfl), F.kp, B.glo _ (B.says.fact 54 (f := .glo "_law_arrows_so") rfl)⟩
  rintro ds Q ⟨n, bs, ms, rfl, v, nd2, ml, mj, q⟩
  have al : ∀ i, ((((ms.take i).map fun a => (ms.filter (arr n bs a)).map fun b => (a, b)).flatten)).length ≤ 49 := by
    intro i
    have h1 := flat_len (fun a => (ms.filter (arr n bs a)).map fun b => (a, b)) 7 (ms.take i) fun a _ => by
      rw [List.length_map]
      exact Nat.le_trans (List.length_filter_le _ _) ml
    have h2 : (ms.take i).length ≤ 7 := by rw [List.length_take]; omega
    have h3 : (ms.take i).length * 7 ≤ 7 * 7 := Nat.mul_le_mul_right _ h2
    omega
  refine ⟨by show 0 ≤ 16777216; decide, ?_⟩
  refine forI (ti := dSeq (dV 1)) ms eM (fun R hR => ⟨_, rfl, _, rfl, hR⟩)
    (fun i ρ => ∃ x3 x4 x5 x6, ρ = [.sh (eF n bs), .sh (eTM ms), .ow ((((ms.take i).map fun a => (ms.filter (arr n bs a)).map fun b => (a, b)).flatten).map fun a => eA a), x3, x4, x5, x6]) ⟨_, _, _, _, rfl⟩ ?_ ?_
  · rintro i a ρ ha ⟨x3, x4, x5, x6, rfl⟩
    have hal := al i
    obtain ⟨A, hA⟩ : ∃ A, (((ms.take i).map fun a => (ms.filter (arr n bs a)).map fun b => (a, b)).flatten) = A := ⟨_, rfl⟩
    rw [hA] at hal ⊢
    refine forI (ti := dSeq (dV 1)) ms eM (fun R hR => ⟨_, rfl, _, rfl, hR⟩)
      (fun j ρ => ∃ x4 x5 x6, ρ = [.sh (eF n bs), .sh (eTM ms), .ow ((A ++ ((ms.take j).filter (arr n bs a)).map fun b => (a, b)).map fun a => eA a), .sh (eM a), x4, x5, x6]) ⟨x4, x5, x6, by rw [List.take_zero, List.filter_nil, List.map_nil, List.append_nil]; rfl⟩ ?_ ?_
    · rintro j b ρ hb ⟨x4, x5, x6, rfl⟩
      have last : ∀ (E : EndsD) (gb : Bool) (y5 : SV), gb = arr n bs a b → (∀ ρ, (∃ x4 x5 x6, ρ = [.sh (eF n bs), .sh (eTM ms), .ow ((A ++ ((ms.take (j + 1)).filter (arr n bs a)).map fun b => (a, b)).map fun a => eA a), .sh (eM a), x4, x5, x6]) → E.nx ρ) →
          dIfS (dB (dV 6)) (dApnd 2 (dTup (dCons (dV 3) (dCons (dV 4) dNil)))) dNext E [.sh (eF n bs), .sh (eTM ms), .ow ((A ++ ((ms.take j).filter (arr n bs a)).map fun b => (a, b)).map fun a => eA a), .sh (eM a), .sh (eM b), y5, .sh (.bool gb)] := by
        intro E gb y5 hg hE
        refine ⟨_, rfl, _, rfl, ?_⟩
        cases gb with
        | false =>
          refine hE _ ⟨.sh (eM b), y5, .sh (.bool false), ?_⟩
          rw [List.take_add_one, hb, List.filter_append]
          simp [← hg]
        | true =>
          have hlen : ((A ++ ((ms.take j).filter (arr n bs a)).map fun b => (a, b)).map fun a => eA a).length < 16777216 := by
            have h1 := List.length_filter_le (arr n bs a) (ms.take j)
            rw [List.length_take] at h1
            rw [List.length_map, List.length_append, List.length_map]
            omega
          have e1 : ((some b).toList.filter (arr n bs a)) = [b] := by simp [← hg]
          have e3 : ((ms.take (j + 1)).filter (arr n bs a)).map (fun b => (a, b)) = ((ms.take j).filter (arr n bs a)).map (fun b => (a, b)) ++ [(a, b)] := by
            rw [List.take_add_one, hb, List.filter_append, e1, List.map_append]
            rfl
          refine ⟨_, rfl, _, rfl, _, rfl, by show 2 ≤ 16777216; decide, hlen, hE _ ⟨.sh (eM b), y5, .sh (.bool true), ?_⟩⟩
          rw [e3, ← List.append_assoc, List.map_append (l₁ := A ++ _)]
          rfl
      refine ⟨_, rfl, by decide, _, rfl, _, rfl, by decide, _, rfl, gLt_of ?_⟩
      refine ⟨_, rfl, by decide, _, rfl, _, rfl, by decide, _, rfl, rfl, rfl, _, rfl, ?_⟩
      rw [eqv_int]
      cases h1 : decide (a.1 = b.1) with
      | true =>
        have h1' := of_decide_eq_true h1
        refine ⟨_, rfl, by decide, _, rfl, _, rfl, by decide, _, rfl, rfl, rfl, ?_⟩
        rw [eqv_int]
        refine last _ _ _ ?_ fun ρ h => h
        unfold arr isAhead
        rw [h1, if_pos h1', Bool.true_or, Bool.true_and]
      | false =>
        have h1' := of_decide_eq_false h1
        refine ⟨_, rfl, by decide, _, rfl, _, rfl, _, rfl, by decide, _, rfl, n, bs, a.1, rfl, v.len, rfl, (Pl.lst (n := 0) (pl_map fun i => .int 0 i)).sh, _, rfl, ?_⟩
        rw [inD_ints]
        have hin : decide (b.1 ∈ nxt bs a.1) = adj bs a.1 b.1 := by
          rw [Bool.eq_iff_iff, decide_eq_true_eq, mem_nxt v]
        rw [hin]
        cases h2 : adj bs a.1 b.1 with
        | false =>
          refine last _ _ _ ?_ fun ρ h => h
          unfold arr
          rw [h1, h2]
          rfl
        | true =>
          refine ⟨_, rfl, _, rfl, by decide, _, rfl, _, rfl, by decide, _, rfl, rfl, rfl, _, rfl, ?_⟩
          have eb : ∀ x y : Bool, PyData.eqv (.bool x) (.bool y) = (x == y) := fun x y => by simp [PyData.eqv]
          rw [eb]
          have har : arr n bs a b = isAhead a b := by
            unfold arr
            rw [h1, h2]
            rfl
          unfold isAhead at har
          rw [if_neg h1'] at har
          cases h3 : decide (a.2.1 < a.2.2) with
          | false =>
            have h3' := of_decide_eq_false h3
            cases h4 : decide (b.2.1 < b.2.2) with
            | true =>
              refine last _ _ _ ?_ fun ρ h => h
              rw [har, h3, h4]
              rfl
            | false =>
              refine ⟨_, rfl, _, rfl, _, rfl, by decide, _, rfl, _, rfl, by decide, _, rfl, last _ _ _ ?_ fun ρ h => h⟩
              rw [har, h3, h4, if_neg h3']
              rfl
          | true =>
            have h3' := of_decide_eq_true h3
            cases h4 : decide (b.2.1 < b.2.2) with
            | false =>
              refine last _ _ _ ?_ fun ρ h => h
              rw [har, h3, h4]
              rfl
            | true =>
              refine ⟨_, rfl, _, rfl, _, rfl, by decide, _, rfl, _, rfl, by decide, _, rfl, last _ _ _ ?_ fun ρ h => h⟩
              rw [har, h3, h4, if_pos h3']
              exact decide_eq_decide.mpr (by omega)
    · rintro ρ ⟨x4, x5, x6, rfl⟩
      refine ⟨.sh (eM a), x4, x5, x6, ?_⟩
      rw [List.take_length, flat_take _ ha, hA]
  · rintro ρ ⟨x3, x4, x5, x6, rfl⟩
    rw [List.take_length]
    refine ⟨_, _, rfl, rfl, ?_⟩
    refine ⟨_, rfl, Mv × Mv, (fun a => eA a), arLaw n bs ms, rfl, alike_map alike_A _, sortable_map (fun a => ⟨_, _, rfl⟩) _, fun b _ => (pl_A b).sh, ?_⟩
    refine ⟨_, _, rfl, rfl, ?_⟩
    rw [← srtA_eq (arLaw_perm v nd2 mj)] at q
    exact q
end
end EvL

-- text D14
set_option Elab.async false
set_option linter.all false
set_option maxRecDepth 100000
set_option maxHeartbeats 4000000
namespace EvL
open PySem PySem.Spec PyProof.Rows L2 DL
def Thing (d : PyData) : Prop := (∃ os : List Mv, d = eTM os ∧ os.length < 100) ∨ (∃ os : List Mv, d = .list (os.map eM)) ∨ d = .none ∨ ∃ os : List Mv, d = .tuple (os.map fun m => .list [.int m.1, .int m.2.1, .int m.2.2]) ∧ os.length < 100
theorem idx_before {k : Mv} : ∀ {os : List Mv} {i : Nat} {a : Mv}, os[i]? = some a → i < os.idxOf k → a ≠ k
  | [], _, _, h, _ => by simp at h
  | x :: os, 0, a, h, hi => fun e => by
    have h : x = a := by simpa using h
    rw [h, e, List.idxOf_cons_self] at hi
    omega
  | x :: os, i + 1, a, h, hi => by
    have h : os[i]? = some a := by simpa using h
    by_cases hx : x = k
    · rw [hx, List.idxOf_cons_self] at hi
      omega
    · rw [List.idxOf_cons, show (x == k) = false from by simpa using hx] at hi
      exact idx_before h (by simp only [cond_false] at hi; omega)
theorem idx_fact {os : List Mv} {k : Mv} (h : k ∈ os) : (os.map eM)[os.idxOf k]? = some (eM k) ∧ PyData.eqv (eM k) (eM k) = true ∧ ∀ (i : Nat) (z : PyData), i < os.idxOf k → (os.map eM)[i]? = some z → PyData.eqv z (eM k) = false := by
  have hl := List.idxOf_lt_length_of_mem h
  have e : os[os.idxOf k]? = some k := by rw [List.getElem?_eq_getElem hl, List.getElem_idxOf]
  refine ⟨by rw [List.getElem?_map, e]; rfl, by rw [eqv_M, decide_eq_true rfl], fun i z hi hz => ?_⟩
  rw [List.getElem?_map] at hz
  cases ha : os[i]? with
  | none => rw [ha] at hz; cases hz
  | some a =>
    rw [ha] at hz
    have hz : eM a = z := Option.some.inj hz
    rw [← hz, eqv_M]
    exact decide_eq_false (idx_before ha hi)
section
variable {P : Program} {w : World} {K : PySem.W.Frag} {mg : Str → Option Value} {base : Heap}
def C_law_ahead_always : TF := fun ds P => ∃ (r0 : List Mv) (rs : List (List Mv)) (ms : List Mv) (m : Mv), ds = [.list ((r0 :: rs).map fun os => zD (os.map eM)), eM m] ∧ m ∈ ms ∧ ms.length ≤ 7 ∧ rs.length ≤ 1000000 ∧ (∀ os ∈ r0 :: rs, os.Perm ms) ∧ P (eTM ((srt r0).filter fun k => (r0 :: rs).all fun os => decide (os.idxOf k < os.idxOf m)))
abbrev N_law_ahead_always : List Str := ["_law_rows_so", "_law_move_so", "_law_row_so", "_law_own"]
abbrev c1_law_ahead_always : Scope := { kind := PySem.ScopeKind.function, names := [ (PySem.Str.ofString ".0", PySem.NameKind.local), (PySem.Str.ofString "_law_own", PySem.NameKind.cell), (PySem.Str.ofString "_law_move_so", PySem.NameKind.free), (PySem.Str.ofString "_law_rows_so", PySem.NameKind.free)], isGenerator := false, isCoroutine := false, more := [] : PySem.Scope }
theorem sc_law_ahead_always : FnScope N_law_ahead_always ["_law_rows_so", "_law_move_so"] (defScope s_law_ahead_always) := ⟨rfl, rfl, rfl, by decide +kernel, rfl, by decide +kernel, by decide +kernel⟩
theorem o_law_ahead_always (B : B0 K mg) : Ok P w K mg base "_law_ahead_always" ["_law_rows_so", "_law_move_so"] 1 C_law_ahead_always := by
  have nd := sc_law_ahead_always.nd
  obtain ⟨fd, F⟩ := B.says.def_ 55 (d := mkD "_law_ahead_always" s_law_ahead_always) rfl
  refine ⟨fd, fn_dl (C := C_law_ahead_always) F sc_law_ahead_always (by rintro ds Q ⟨_, _, _, _, rfl, _⟩; rfl) (fun cdv A outer s H E hr => (dss_one (ds_ret (dp_callTy call_tuple_of cd_tup (by rfl) (f_tuple B) (by decide +kernel) (da_cons (DF.dp (df_lc (own := [("_law_own", 3)]) (ws := [3]) rfl nd (di_seq (dp_callB (cr_sortTT (hu67 hr)) cd_sortTT (by rfl) (f_sorted B) (by decide +kernel) (da_cons (dp_unz (dp_ix (dp_var (pv 0 rfl (Or.inr (Or.inl rfl)))) dp_int (fun _ _ => rfl))) da_nil))) (blkOk_by (N := N_law_ahead_always) (sc := (defScope s_law_ahead_always)) (by decide +kernel)) (by decide) (fun _ _ _ _ _ => (dg_name (pg_name (i := 3) nd rfl (Or.inr rfl)))) (fun _ _ _ _ _ => (dts_one (dt_cmp (op_eqD hr.units) od_eq (DF.dp (df_lc (own := [("_law_row_so", 2)]) (ws := [2]) rfl nd (di_seq (dp_var (pv 0 rfl (Or.inr (Or.inl rfl))))) (blkOk_by (N := N_law_ahead_always) (sc := (relS c1_law_ahead_always (defScope s_law_ahead_always))) (by decide +kernel)) (by decide) (fun _ _ _ _ _ => (dg_name (pg_name (i := 2) nd rfl (Or.inl rfl)))) (fun _ _ _ _ _ => (dts_one (dt_cmp op_ge od_ge (dp_tindex (hu65 hr) (dp_var (pv 2 rfl (Or.inl rfl))) (dp_var (pv 3 rfl (Or.inr (Or.inl rfl))))) (dp_tindex (hu65 hr) (dp_var (pv 2 rfl (Or.inl rfl))) (dp_var (pv 1 rfl (Or.inr (Or.inl rfl))))) (nomark _)))) (fun _ _ _ _ _ => dp_int))) (DF.dp (df_lst da_nil)) (nomark _)))) (fun _ _ _ _ _ => (dp_var (pv 3 rfl (Or.inr (Or.inl rfl))))))) da_nil))))) ?_, FunD.bindsN F (fun _ _ _ _ _ _ us hl => match us, hl with | [_, _], _ => rfl), F.kp, B.glo _ (B.says.fact 55 (f := .glo "_law_ahead_always") rfl)⟩
  rintro ds Q ⟨r0, rs, ms, m, rfl, hm, ml, rl, hp, q⟩
  obtain ⟨st1, st2, st3⟩ := sortT_M r0
  have p0 := hp r0 List.mem_cons_self
  have pr := sort_perm (fun m => eM m) r0
  have lr : (srt r0).length ≤ 7 := by rw [show (srt r0).length = r0.length from pr.length_eq, p0.length_eq]; exact ml
  refine lcF (ti := dSeq (dApp gSortTT (dCons (dUnz (dOp gIx (dV 0) (dC (.int 0)))) dNil))) (srt r0) (fun m => eM m) (fun k => (r0 :: rs).all fun os => decide (os.idxOf k < os.idxOf m)) id (fun m => eM m)
    (fun R hR => ⟨_, rfl, by decide, zD (r0.map eM), rfl, r0.map eM, rfl, r0.map kM, by rw [List.map_map]; rfl, st1, st2, st3, _, rfl, by rw [srt_keys, List.map_map]; exact hR⟩) (by omega) (fun k hk R h1 R2 h2 => ?_) ?_
  · have hkm : k ∈ ms := p0.mem_iff.mp (pr.mem_iff.mp hk)
    refine lcF (ti := dSeq (dV 0)) (r0 :: rs) (fun os => zD (os.map eM)) (fun os => decide (os.idxOf m ≤ os.idxOf k)) (fun _ => (1 : Int)) PyData.int (fun R hR => ⟨_, rfl, _, rfl, hR⟩) (by rw [List.length_cons]; omega) (fun os hos R3 h3 R4 h4 => ?_) ?_
    · obtain ⟨a1, a2, a3⟩ := idx_fact ((hp os hos).mem_iff.mpr hkm)
      obtain ⟨b1, b2, b3⟩ := idx_fact ((hp os hos).mem_iff.mpr hm)
      refine ⟨_, rfl, _, rfl, _, rfl, os.idxOf k, eM k, (pl_TM os).sh, (pl_M k).sh, a1, a2, a3, _, rfl, _, rfl, _, rfl, os.idxOf m, eM m, (pl_TM os).sh, (pl_M m).sh, b1, b2, b3, _, rfl, ?_⟩
      have e : decide (((os.idxOf m : Nat) : Int) ≤ ((os.idxOf k : Nat) : Int)) = decide (os.idxOf m ≤ os.idxOf k) := decide_eq_decide.mpr (by omega)
      rw [e]
      cases hd : decide (os.idxOf m ≤ os.idxOf k) with
      | true => exact h3 hd
      | false => exact h4 hd
    · refine ⟨by show 0 ≤ 16777216; decide, (Pl.lst (n := 0) (pl_map fun i => .int 0 i)).sh, rfl, _, rfl, ?_⟩
      rw [PyData.eqv, eqvAll_nil]
      have e : (List.map PyData.int (List.map (fun _ => (1 : Int)) ((r0 :: rs).filter fun os => decide (os.idxOf m ≤ os.idxOf k)))).isEmpty = (r0 :: rs).all fun os => decide (os.idxOf k < os.idxOf m) := by
        rw [Bool.eq_iff_iff, List.isEmpty_iff, List.map_eq_nil_iff, List.map_eq_nil_iff, List.filter_eq_nil_iff, List.all_eq_true]
        constructor
        · intro h os hos
          have := h os hos
          rw [decide_eq_true_eq] at this ⊢
          omega
        · intro h os hos
          have := h os hos
          rw [decide_eq_true_eq] at this ⊢
          omega
      rw [e]
      cases ha : ((r0 :: rs).all fun os => decide (os.idxOf k < os.idxOf m)) with
      | true => exact ⟨_, rfl, h1 ha⟩
      | false => exact h2 ha
  · rw [List.map_id]
    exact ⟨_, _, rfl, rfl, q⟩
def C_law_some_rows : TFM := fun ds n P => ∃ (rows : List (List Mv)) (ms : List Mv), ds = [.list (rows.map fun os => zD (os.map eM)), eTM ms] ∧ 0 < rows.length ∧ rows.length ≤ 1000000 ∧ ms.length ≤ 7 ∧ (∀ os ∈ rows, os.length = ms.length) ∧ n ≤ 10000000 ∧ ∀ (ts : List PyData) (m : Nat), ts.length < 100 → (∀ d ∈ ts, Thing d) → P (.list ts) m
abbrev N_law_some_rows : List Str := ["_law_tin", "_law_rows_so", "_law_moved_so", "_law_row_so", "_law_found", "_law_lap", "_law_k", "_law_own"]
theorem sc_law_some_rows : FnScope N_law_some_rows ["_law_tin", "_law_rows_so", "_law_moved_so"] (defScope s_law_some_rows) := ⟨rfl, rfl, rfl, by decide +kernel, rfl, by decide +kernel, by decide +kernel⟩
theorem o_law_some_rows (B : B0 K mg) : OkT P w K mg base "_law_some_rows" ["_law_tin", "_law_rows_so", "_law_moved_so"] 3 C_law_some_rows := by
  have nd := sc_law_some_rows.nd
  obtain ⟨fd, F⟩ := B.says.def_ 56 (d := mkD "_law_some_rows" s_law_some_rows) rfl
  refine ⟨fd, fn_dm (C := C_law_some_rows) F sc_law_some_rows (by rintro ds n Q ⟨_, _, rfl, _⟩; rfl) (fun cdv A outer s H E hr => (dss_cons (dsm_set (i := 3) nd rfl (Or.inl rfl) (dm_unz (dm_fn (o_law_of B) hr (by rfl) (pv 0 rfl (Or.inl rfl)) (dma_cons (dm_of (dp_var (pv 1 rfl (Or.inl rfl)))) dma_nil))))
    (dss_cons (dsm_setF (i := 4) nd rfl (Or.inl rfl) (mf_lst (dma_cons (dm_of (dp_var (pv 3 rfl (Or.inl rfl)))) (dma_cons (dm_unz (dm_fn (o_law_of B) hr (by rfl) (pv 0 rfl (Or.inl rfl)) (dma_cons (dm_of (dp_var (pv 1 rfl (Or.inl rfl)))) dma_nil))) (dma_cons (dm_callTy call_tuple_of cd_tup (by rfl) (f_tuple B) (by decide +kernel) (dma_cons (dm_fn (o_law_pick B) hr (by rfl) (pv 0 rfl (Or.inl rfl)) (dma_cons (dm_of (dp_var (pv 2 rfl (Or.inl rfl)))) (dma_cons (dm_of (dp_callB call_len cd_len (by rfl) (f_len B) (by decide +kernel) (da_cons (dp_var (pv 2 rfl (Or.inl rfl))) da_nil))) dma_nil))) dma_nil)) (dma_cons (dm_of (dp_callTy call_list_of cd_lst (by rfl) (f_list B) (by decide +kernel) (da_cons (dp_var (pv 3 rfl (Or.inl rfl))) da_nil))) (dma_cons (dm_of (dp_rev (dp_var (pv 3 rfl (Or.inl rfl))))) (dma_cons (dm_of (dp_slice (dp_var (pv 3 rfl (Or.inl rfl))) (do_some dp_int) do_none)) (dma_cons (dm_of dp_non) dma_nil)))))))))
    (dss_cons (ds_for PassesOwn.never rfl (di_range1 (by rfl) (f_range B) (da_cons dp_int da_nil)) (dg_name (pg_name (i := 5) nd rfl (Or.inl rfl))) (dss_cons (dsm_set (i := 6) nd rfl (Or.inl rfl) (dm_fn (o_law_take B) hr (by rfl) (pv 0 rfl (Or.inl rfl)) (dma_cons (dm_of (dp_op op_add3 od_add (dp_callB call_len cd_len (by rfl) (f_len B) (by decide +kernel) (da_cons (dp_var (pv 3 rfl (Or.inl rfl))) da_nil)) dp_int)) dma_nil)))
    (dss_one (ds_if (dt_cmp op_lt od_lt (dp_op op_add3 od_add (dp_var (pv 6 rfl (Or.inl rfl))) dp_int) (dp_callB call_len cd_len (by rfl) (f_len B) (by decide +kernel) (da_cons (dp_var (pv 3 rfl (Or.inl rfl))) da_nil)) (nomark _)) (dss_one (ds_append (pv 4 rfl (Or.inl rfl)) (dp_op op_add3 od_add (dp_op op_add3 od_add (dp_slice (dp_var (pv 3 rfl (Or.inl rfl))) do_none (do_some (dp_var (pv 6 rfl (Or.inl rfl))))) (dp_tup (da_cons (dp_ix (dp_var (pv 3 rfl (Or.inl rfl))) (dp_op op_add3 od_add (dp_var (pv 6 rfl (Or.inl rfl))) dp_int) (fun _ _ => rfl)) (da_cons (dp_ix (dp_var (pv 3 rfl (Or.inl rfl))) (dp_var (pv 6 rfl (Or.inl rfl))) (fun _ _ => rfl)) da_nil)))) (dp_slice (dp_var (pv 3 rfl (Or.inl rfl))) (do_some (dp_op op_add3 od_add (dp_var (pv 6 rfl (Or.inl rfl))) dp_int)) do_none)))) (dss_one (ds_append (pv 4 rfl (Or.inl rfl)) (dp_op op_add3 od_add (dp_slice (dp_var (pv 3 rfl (Or.inl rfl))) do_none (do_some (dp_var (pv 6 rfl (Or.inl rfl))))) (dp_slice (dp_var (pv 3 rfl (Or.inl rfl))) do_none (do_some dp_int)))))))))
    (dss_frzS 4 (dss_one (ds_ret (dp_op op_add3 od_add (dp_var (pv 4 rfl (Or.inl rfl))) (DF.dp (df_lst (da_cons (dp_callTy call_tuple_of cd_tup (by rfl) (f_tuple B) (by decide +kernel) (da_cons (DF.dp (df_lc (own := [("_law_own", 7)]) (ws := [7]) rfl nd (di_seq (dp_var (pv 3 rfl (Or.inl rfl)))) (blkOk_by (N := N_law_some_rows) (sc := (defScope s_law_some_rows)) (by decide +kernel)) (by decide) (fun _ _ _ _ _ => (dg_name (pg_name (i := 7) nd rfl (Or.inl rfl)))) (fun _ _ _ _ _ => dts_nil) (fun _ _ _ _ _ => (dp_callTy call_list_of cd_lst (by rfl) (f_list B) (by decide +kernel) (da_cons (dp_var (pv 7 rfl (Or.inl rfl))) da_nil))))) da_nil)) da_nil))))))))))) ?_, FunD.bindsN F (fun _ _ _ _ _ _ us hl => match us, hl with | [_, _, _], _ => rfl), F.kp, B.glo _ (B.says.fact 56 (f := .glo "_law_some_rows") rfl)⟩
  rintro t ds n Q ⟨rows, ms, rfl, r0, rl, ml, hr, hn, q⟩
  refine ⟨t, n, rfl, _, rfl, _, rfl, by rw [List.length_map]; exact r0, by rw [List.length_map]; omega, by omega, fun x m1 hx m10 m11 => ?_⟩
  obtain ⟨os, hos, rfl⟩ := List.mem_map.mp hx
  have ol := hr os hos
  refine ⟨_, rfl, ?_⟩
  refine ⟨t, m1, rfl, _, rfl, _, rfl, _, rfl, by rw [List.length_map]; exact r0, by rw [List.length_map]; omega, by omega, fun x2 m2 hx2 m20 m21 => ?_⟩
  obtain ⟨os2, hos2, rfl⟩ := List.mem_map.mp hx2
  have ol2 := hr os2 hos2
  refine ⟨_, rfl, _, rfl, _, rfl, _, _, rfl, rfl, _, rfl, by rw [List.length_map]; omega, by omega, fun ys m3 hys yl m30 m31 => ?_⟩
  obtain ⟨os3, rfl⟩ := map_enc (fun m => eM m) (ms := ys) fun y hy => by
    obtain ⟨a, _, e⟩ := List.mem_map.mp (hys y hy)
    exact ⟨a, e⟩
  rw [List.length_map, List.length_map] at yl
  refine ⟨_, _, rfl, rfl, _, rfl, _, _, rfl, rfl, _, rfl, _, rfl, _, rfl, by show 7 ≤ 16777216; decide, ?_⟩
  have c1 : cutD (os.map eM) (some 1) none = (os.drop 1).map eM := by
    rw [show (some (1 : Int)) = some ((1 : Nat) : Int) from rfl, cut_from, List.map_drop]
  have c2 : cutD (os.map eM) none (some 1) = (os.take 1).map eM := by
    rw [show (some (1 : Int)) = some ((1 : Nat) : Int) from rfl, cut_to, List.map_take]
  rw [c1]
  have T : ∀ l : List Mv, l.length < 100 → Thing (eTM l) := fun l h => .inl ⟨l, rfl, h⟩
  have start : ∀ d ∈ ([.tuple (os.map eM), .tuple (os2.map eM), .tuple (os3.map fun m => eM m), .list (os.map eM), .tuple (os.map eM).reverse, .tuple ((os.drop 1).map eM), .none] : List PyData), Thing d := by
    intro d hd
    simp only [List.mem_cons, List.not_mem_nil, or_false] at hd
    rcases hd with e | e | e | e | e | e | e
    · rw [e]; exact T os (by omega)
    · rw [e]; exact T os2 (by omega)
    · rw [e]; exact T os3 (by omega)
    · rw [e]; exact .inr (.inl ⟨os, rfl⟩)
    · rw [e, ← List.map_reverse]; exact T os.reverse (by rw [List.length_reverse]; omega)
    · rw [e]; exact T (os.drop 1) (by rw [List.length_drop]; omega)
    · rw [e]; exact .inr (.inr (.inl rfl))
  refine forI (ti := dRg1 (dCons (dC (.int 4)) dNil)) (List.range 4) (fun i : Nat => .int (0 + (i : Int))) (fun R hR => ⟨_, rfl, ⟨by decide, by decide⟩, hR⟩)
    (fun i ρ => ∃ (ts : List PyData) (m : Nat) (x5 x6 : SV), ρ = [SV.tin t m, .sh (.list (rows.map fun os => zD (os.map eM))), .sh (eTM ms), .sh (.tuple (os.map eM)), .ow ts, x5, x6, .un] ∧ ts.length ≤ 7 + i ∧ (∀ d ∈ ts, Thing d) ∧ m3 ≤ m ∧ m ≤ m3 + i)
    ⟨_, m3, .un, .un, rfl, by show 7 ≤ 7 + 0; decide, start, Nat.le_refl _, Nat.le_refl _⟩ ?_ ?_
  · rintro i lap ρ hlap ⟨ts, m, x5, x6, rfl, tl, th, ma, mb⟩
    have hi := (List.getElem?_eq_some_iff.mp hlap).1
    rw [List.length_range] at hi
    refine ⟨_, _, rfl, _, rfl, _, _, rfl, rfl, _, rfl, by rw [List.length_map]; omega, by rw [List.length_map]; omega, by omega, fun k m' k0 k1 mc md => ?_⟩
    rw [List.length_map] at k1
    obtain ⟨kn, rfl⟩ : ∃ kn : Nat, k = (kn : Int) := ⟨k.toNat, by omega⟩
    have c3 : cutD (os.map eM) none (some (kn : Int)) = (os.take kn).map eM := by rw [cut_to, List.map_take]
    have c4 : cutD (os.map eM) (some ((kn : Int) + 2)) none = (os.drop (kn + 2)).map eM := by
      rw [show (kn : Int) + 2 = ((kn + 2 : Nat) : Int) by omega, cut_from, List.map_drop]
    have fin : ∀ l : List Mv, l.length < 100 → ∀ d ∈ ts ++ [eTM l], Thing d := by
      intro l hl d hd
      rcases List.mem_append.mp hd with h | h
      · exact th d h
      · rw [List.mem_singleton.mp h]; exact T l hl
    refine ⟨_, rfl, _, rfl, _, _, rfl, rfl, _, rfl, ?_⟩
    rw [List.length_map]
    cases hd : decide ((kn : Int) + 1 < ((os.length : Nat) : Int)) with
    | true =>
      have hd := of_decide_eq_true hd
      obtain ⟨a, ha⟩ : ∃ a, os[kn]? = some a := ⟨_, List.getElem?_eq_getElem (show kn < os.length by omega)⟩
      obtain ⟨b, hb⟩ : ∃ b, os[kn + 1]? = some b := ⟨_, List.getElem?_eq_getElem (show kn + 1 < os.length by omega)⟩
      have ha' : (os.map eM)[((kn : Int)).toNat]? = some (eM a) := by rw [Int.toNat_natCast, List.getElem?_map, ha]; rfl
      have hb' : (os.map eM)[((kn : Int) + 1).toNat]? = some (eM b) := by rw [show ((kn : Int) + 1).toNat = kn + 1 by omega, List.getElem?_map, hb]; rfl
      refine ⟨_, rfl, _, rfl, _, rfl, _, rfl, _, rfl, by omega, _, hb', _, rfl, _, rfl, by omega, _, ha', by show 2 ≤ 16777216; decide, ?_⟩
      rw [c3]
      refine ⟨by rw [List.length_map, List.length_take]; show _ + 2 ≤ _; omega, _, rfl, _, rfl, ?_⟩
      refine ⟨by rw [c4, List.length_append, List.length_map, List.length_map, List.length_take, List.length_drop]; show _ + 2 + _ ≤ _; omega, by omega, ?_⟩
      rw [c4]
      have e : (os.take kn).map eM ++ [eM b, eM a] ++ (os.drop (kn + 2)).map eM = (os.take kn ++ [b, a] ++ os.drop (kn + 2)).map eM := by
        rw [List.map_append, List.map_append]
        rfl
      rw [e]
      exact ⟨_, m', .sh (.int (0 + (lap : Int))), .sh (.int (kn : Int)), rfl, by rw [List.length_append]; show ts.length + 1 ≤ _; omega, fin _ (by simp only [List.length_append, List.length_take, List.length_drop, List.length_cons, List.length_nil]; omega), by omega, by omega⟩
    | false =>
      refine ⟨_, rfl, _, rfl, _, rfl, _, rfl, ?_⟩
      refine ⟨by rw [c3, c2, List.length_map, List.length_map, List.length_take, List.length_take]; omega, by omega, ?_⟩
      rw [c3, c2, ← List.map_append]
      exact ⟨_, m', .sh (.int (0 + (lap : Int))), .sh (.int (kn : Int)), rfl, by rw [List.length_append]; show ts.length + 1 ≤ _; omega, fin _ (by simp only [List.length_append, List.length_take]; omega), by omega, by omega⟩
  · rintro ρ ⟨ts, m, x5, x6, rfl, tl, th, ma, mb⟩
    rw [List.length_range] at tl
    refine ⟨_, _, rfl, rfl, _, rfl, ?_⟩
    refine lcM (ti := dSeq (dV 3)) os eM id (fun m : Mv => .list [.int m.1, .int m.2.1, .int m.2.2]) (fun R hR => ⟨_, rfl, _, rfl, hR⟩) (by omega) (fun m _ R hR => ⟨_, rfl, _, _, rfl, rfl, hR⟩) ?_
    rw [List.map_id]
    refine ⟨_, _, rfl, rfl, by show 1 ≤ 16777216; decide, by show ts.length + 1 ≤ _; omega, m, rfl, q _ m (by rw [List.length_append]; show ts.length + 1 < _; omega) fun d hd => ?_⟩
    rcases List.mem_append.mp hd with h | h
    · exact th d h
    · rw [List.mem_singleton.mp h]
      exact .inr (.inr (.inr ⟨os, rfl, by omega⟩))
end
end EvL

-- text V10
set_option Elab.async false
set_option linter.all false
set_option maxRecDepth 100000
set_option maxHeartbeats 4000000
/-! The law's side: lists for tuples, sorted moves, cases by hand. -/
namespace EvL
open PySem PySem.Spec PyProof.Rows L2 DL
mutual
theorem tup_lists : ∀ d : PyData, tupledD (listsD d) = tupledD d
  | .list ds => by rw [listsD, tupledD, tupledD, tup_listsAll ds]
  | .tuple ds => by rw [listsD, tupledD, tupledD, tup_listsAll ds]
  | .none => by rw [listsD]
  | .bool _ => by rw [listsD]
  | .int _ => by rw [listsD]
  | .str _ => by rw [listsD]
  | .dict _ => by rw [listsD]
theorem tup_listsAll : ∀ ds : List PyData, tupledAll (listsAll ds) = tupledAll ds
  | [] => by rw [listsAll]
  | d :: ds => by rw [listsAll, tupledAll, tupledAll, tup_lists d, tup_listsAll ds]
end
theorem lists_len (ds : List PyData) : (listsAll ds).length = ds.length := by rw [listsAll_map, List.length_map]
mutual
theorem ok_lists : ∀ (n : Nat) (d : PyData), okD n (listsD d) = okD n d
  | 0, d => by simp [okD]
  | n + 1, .list ds => by rw [listsD, okD, okD, ok_listsAll n ds, lists_len]
  | n + 1, .tuple ds => by rw [listsD, okD, okD, ok_listsAll n ds, lists_len]
  | _ + 1, .none => by rw [listsD]
  | _ + 1, .bool _ => by rw [listsD]
  | _ + 1, .int _ => by rw [listsD]
  | _ + 1, .str _ => by rw [listsD]
  | _ + 1, .dict _ => by rw [listsD]
theorem ok_listsAll : ∀ (n : Nat) (ds : List PyData), okAll n (listsAll ds) = okAll n ds
  | n, [] => by rw [listsAll]
  | n, d :: ds => by rw [listsAll, okAll, okAll, ok_lists n d, ok_listsAll n ds]
end
theorem ok_TM {n : Nat} {ms : List Mv} (h : ms.length < 16777216) : okD (n + 3) (eTM ms) = true := by
  rw [okD, Bool.and_eq_true]
  refine ⟨decide_eq_true (by rw [List.length_map]; exact h), okAll_iff.mpr fun d hd => ?_⟩
  obtain ⟨x, _, rfl⟩ := List.mem_map.mp hd
  exact ok_M x
theorem ok_A {n : Nat} (a : Mv × Mv) : okD (n + 3) (eA a) = true := by
  rw [okD, Bool.and_eq_true]
  refine ⟨decide_eq_true (by show 2 < 16777216; decide), okAll_iff.mpr fun d hd => ?_⟩
  simp only [List.mem_cons, List.not_mem_nil, or_false] at hd
  rcases hd with e | e
  · rw [e]; exact ok_M _
  · rw [e]; exact ok_M _
theorem ok_TA {n : Nat} {as : List (Mv × Mv)} (h : as.length < 16777216) : okD (n + 4) (eTA as) = true := by
  rw [okD, Bool.and_eq_true]
  refine ⟨decide_eq_true (by rw [List.length_map]; exact h), okAll_iff.mpr fun d hd => ?_⟩
  obtain ⟨x, _, rfl⟩ := List.mem_map.mp hd
  exact ok_A x
theorem ok_lst {n : Nat} {ds : List PyData} (h : ds.length < 16777216) (h2 : ∀ d ∈ ds, okD n d = true) : okD (n + 1) (.list ds) = true := by
  rw [okD, Bool.and_eq_true]
  exact ⟨decide_eq_true h, okAll_iff.mpr h2⟩
/-- sorted moves ascend -/
theorem srt_strict {ms : List Mv} (nd : ms.Nodup) : (srt ms).Pairwise fun a b => HT.lexLt (kM a) (kM b) = true := by
  have p := sort_perm (fun m => eM m) ms
  have := List.Pairwise.and (p.nodup_iff.mpr nd) (sort_pw (fun m => eM m) ms)
  refine List.Pairwise.imp (fun {a b} ⟨h1, h2⟩ => ?_) this
  rw [dle_M, Bool.not_eq_true'] at h2
  cases h : HT.lexLt (kM a) (kM b) with
  | true => rfl
  | false =>
    have e : kM a = kM b := lex_anti rfl h h2
    exact absurd (kM_inj e) h1
theorem strict_eq {xs ys : List Mv} (h1 : xs.Pairwise fun a b => HT.lexLt (kM a) (kM b) = true) (h2 : ys.Pairwise fun a b => HT.lexLt (kM a) (kM b) = true) (h : ∀ z, z ∈ xs ↔ z ∈ ys) : xs = ys :=
  strict_ext (lt := fun a b => HT.lexLt (kM a) (kM b) = true) (fun a b h1 h2 => by rw [lex_asym h1] at h2; cases h2) h1 h2 h
theorem self_strict {ks : List Mv} (nd : ks.Nodup) (h : srt ks = ks) : ks.Pairwise fun a b => HT.lexLt (kM a) (kM b) = true := by
  have := srt_strict nd
  rwa [h] at this
theorem lists4 (a b c d : PyData) : listsD (.list [a, b, c, d]) = .list [listsD a, listsD b, listsD c, listsD d] := by
  simp [listsD, listsAll]
theorem dIf_both {t : TDT} {ta tb : TD} {ρ : List SV} {P : PyData → Prop} (b : Bool) (d : PyData) (ht : ∀ R : Bool → Prop, R b → t ρ R) (h1 : b = true → ∀ R : PyData → Prop, R d → ta ρ R) (h2 : b = false → ∀ R : PyData → Prop, R d → tb ρ R) (hP : P d) : dIf t ta tb ρ P := by
  refine ht _ ?_
  cases b with
  | true => exact h1 rfl _ hP
  | false => exact h2 rfl _ hP
theorem eTM_inj {a b : List Mv} : eTM a = eTM b ↔ a = b := by
  constructor
  · intro h
    injection h with h
    exact map_inj (fun _ _ => eM_inj.mp) h
  · intro h; rw [h]
/-- a thing is one of the rows -/
noncomputable def isR (rows : List (List Mv)) (d : PyData) : Bool := @decide (∃ os ∈ rows, d = eTM os) (Classical.propDecidable _)
theorem isR_iff {rows : List (List Mv)} {d : PyData} : isR rows d = true ↔ ∃ os ∈ rows, d = eTM os := by
  unfold isR
  exact ⟨fun h => @of_decide_eq_true _ (Classical.propDecidable _) h, fun h => @decide_eq_true _ (Classical.propDecidable _) h⟩
theorem isR_TM {rows : List (List Mv)} {os : List Mv} : isR rows (eTM os) = decide (os ∈ rows) := by
  rw [Bool.eq_iff_iff, isR_iff, decide_eq_true_eq]
  refine ⟨?_, fun h => ⟨os, h, rfl⟩⟩
  rintro ⟨o, h, e⟩
  rw [eTM_inj.mp e]
  exact h
theorem isR_no {rows : List (List Mv)} {d : PyData} (h : ∀ os, d ≠ eTM os) : isR rows d = false := by
  cases e : isR rows d with
  | false => rfl
  | true =>
    obtain ⟨os, _, e⟩ := isR_iff.mp e
    exact absurd e (h os)
end EvL

-- text V11
set_option Elab.async false
set_option linter.all false
set_option maxRecDepth 100000
set_option maxHeartbeats 4000000
/-! The cases by hand. -/
namespace EvL
open PySem PySem.Spec PyProof.Rows L2 DL
abbrev bsX : List Pr := [(0, 1)]
abbrev bsT : List Pr := [(0, 1), (0, 2)]
theorem vfX : VF 2 bsX := by
  refine ⟨by decide, by decide, by decide, by decide, asc_of_pw (by decide), fun k h0 h1 => ?_⟩
  exact ⟨(0, 1), List.mem_cons_self, by show k = 0 ∨ k = 1; omega⟩
theorem vfT : VF 3 bsT := by
  refine ⟨by decide, by decide, by decide, by decide, asc_of_pw (by decide), fun k h0 h1 => ?_⟩
  by_cases h : k = 2
  · exact ⟨(0, 2), by simp, by show k = 0 ∨ k = 2; omega⟩
  · exact ⟨(0, 1), by simp, by show k = 0 ∨ k = 1; omega⟩
theorem vs1 : VS 2 bsX [0, 1] := ⟨rfl, fun b hb x y hx hy => by
  rw [List.mem_singleton.mp hb] at hx hy
  cases hx
  cases hy
  decide⟩
theorem vs2 : VS 2 bsX [1, 0] := ⟨rfl, fun b hb x y hx hy => by
  rw [List.mem_singleton.mp hb] at hx hy
  cases hx
  cases hy
  decide⟩
theorem caseX : Case 2 bsX [0, 1] [1, 0] [] := case_of vfX (by decide) vs1 vs2 (by decide) (by decide) (List.nil_sublist _) (fun _ z => nomatch z) (by decide) (by decide)
theorem caseT : Case 3 bsT [0, 0, 0] [2, 2, 2] [(0, 1)] := case_of vfT (by decide) (vs_level (k := 3) (by decide) 0) (vs_level (k := 3) (by decide) 2) (by decide) (by decide) (by
  rw [show btwP [0, 0, 0] [2, 2, 2] = [(0, 1), (1, 1), (2, 1)] by decide +kernel]
  exact List.Sublist.cons₂ _ (List.nil_sublist _)) (fun p hp r hr => by rw [List.mem_singleton.mp hp, List.mem_singleton.mp hr]; exact besP_self _) (by decide) (by decide)
theorem caseU : Case 3 bsT [2, 2, 2] [0, 0, 0] [(1, 1), (2, 1)] := case_of vfT (by decide) (vs_level (k := 3) (by decide) 2) (vs_level (k := 3) (by decide) 0) (by decide) (by decide) (by
  rw [show btwP [2, 2, 2] [0, 0, 0] = [(0, 1), (1, 1), (2, 1)] by decide +kernel]
  exact List.Sublist.cons _ (List.Sublist.refl _)) (by decide +kernel) (by decide) (by decide)
theorem srt_lit {ms l : List Mv} (h : ms = l) (hl : l.Pairwise fun a b => HT.lexLt (kM b) (kM a) = false) : srt ms = l := by
  rw [h]
  exact srt_self (List.Pairwise.imp (fun {a b} h => by rw [dle_M, h]; rfl) hl)
theorem mvX : srt (mvRaw [0, 1] [1, 0] []) = [(0, 0, 1), (1, 1, 0)] := srt_lit (by decide +kernel) (by decide +kernel)
theorem mvT : srt (mvRaw [0, 0, 0] [2, 2, 2] [(0, 1)]) = [(0, 0, 2), (1, 0, 1), (1, 1, 2), (2, 0, 1), (2, 1, 2)] := srt_lit (by decide +kernel) (by decide +kernel)
theorem mvT' : mvRaw [0, 0, 0] [2, 2, 2] [(0, 1)] = [(0, 0, 2), (1, 0, 1), (1, 1, 2), (2, 0, 1), (2, 1, 2)] := by decide +kernel
theorem mvU : srt (mvRaw [2, 2, 2] [0, 0, 0] [(1, 1), (2, 1)]) = [(0, 1, 0), (0, 2, 1), (1, 2, 0), (2, 2, 0)] := srt_lit' where
  srt_lit' : srt (mvRaw [2, 2, 2] [0, 0, 0] [(1, 1), (2, 1)]) = [(0, 1, 0), (0, 2, 1), (1, 2, 0), (2, 2, 0)] := by
    rw [show mvRaw [2, 2, 2] [0, 0, 0] [(1, 1), (2, 1)] = [(0, 2, 1), (0, 1, 0), (1, 2, 0), (2, 2, 0)] by decide +kernel]
    rw [srt_eq (List.Perm.swap (0, 1, 0) (0, 2, 1) [(1, 2, 0), (2, 2, 0)])]
    exact srt_lit rfl (by decide +kernel)
theorem arX : srtA (arRaw 2 bsX [(0, 0, 1), (1, 1, 0)]) = [] := by
  rw [show arRaw 2 bsX [(0, 0, 1), (1, 1, 0)] = [] by decide +kernel]
  exact List.mergeSort_nil
theorem ccX : ([(0, 0, 1), (1, 1, 0)] : List Mv).filter (fun m => !([(0, 0, 1), (1, 1, 0)] : List Mv).any fun k => arr 2 bsX k m) = [(0, 0, 1), (1, 1, 0)] := by decide +kernel
theorem ccU : ([(0, 1, 0), (0, 2, 1), (1, 2, 0), (2, 2, 0)] : List Mv).filter (fun m => !([(0, 1, 0), (0, 2, 1), (1, 2, 0), (2, 2, 0)] : List Mv).any fun k => arr 3 bsT k m) = [(0, 2, 1)] := by decide +kernel
theorem lead_closed {n : Int} {bs : List Pr} {ms S : List Mv} {m : Mv} (h : ∀ x ∈ ms, ∀ y ∈ ms, (y = m ∨ y ∈ S) → arr n bs x y = true → x ∈ S) : ∀ {a c : Mv}, Lead n bs ms a c → (c = m ∨ c ∈ S) → a ∈ S := by
  intro a c l
  induction l with
  | one h1 h2 h3 => exact fun hc => h _ h1 _ h2 hc h3
  | step h1 h2 h3 _ ih => exact fun hc => h _ h1 _ h2 (.inr (ih hc)) h3
theorem leadT (z : Mv) : Lead 3 bsT (mvRaw [0, 0, 0] [2, 2, 2] [(0, 1)]) z (0, 0, 2) ↔ z ∈ ([(1, 0, 1), (2, 0, 1)] : List Mv) := by
  rw [mvT']
  constructor
  · exact fun h => lead_closed (S := [(1, 0, 1), (2, 0, 1)]) (m := (0, 0, 2)) (by decide +kernel) h (.inl rfl)
  · intro h
    simp only [List.mem_cons, List.not_mem_nil, or_false] at h
    rcases h with e | e
    · rw [e]; exact .one (by decide) (by decide) (by decide +kernel)
    · rw [e]; exact .one (by decide) (by decide) (by decide +kernel)
end EvL

-- text D15
set_option Elab.async false
set_option linter.all false
set_option maxRecDepth 100000
set_option maxHeartbeats 8000000
namespace EvL
open PySem PySem.Spec PyProof.Rows L2 DL
section
variable {P : Program} {w : World} {K : PySem.W.Frag} {mg : Str → Option Value} {base : Heap}
def C_law_right : TFM := fun ds n P => ds = [] ∧ n ≤ 1000000 ∧ ∀ m : Nat, P (.bool true) m
abbrev N_law_right : List Str := ["_law_tin", "_law_frame_so", "_law_one_so", "_law_other_so", "_law_passing_so", "_law_moved_so", "_law_rows_so", "_law_soft_so", "_law_got", "_law_first_so", "_law_things_so", "_law_own", "_law_its"]
abbrev c5_law_right : Scope := { kind := PySem.ScopeKind.function, names := [ (PySem.Str.ofString ".0", PySem.NameKind.local), (PySem.Str.ofString "_law_own", PySem.NameKind.local), (PySem.Str.ofString "isinstance", PySem.NameKind.globalImplicit), (PySem.Str.ofString "tuple", PySem.NameKind.globalImplicit), (PySem.Str.ofString "all", PySem.NameKind.globalImplicit), (PySem.Str.ofString "_law_rows_so", PySem.NameKind.free)], isGenerator := false, isCoroutine := false, more := [] : PySem.Scope }
theorem sc_law_right : FnScope N_law_right ["_law_tin"] (defScope s_law_right) := ⟨rfl, rfl, rfl, by decide +kernel, rfl, by decide +kernel, by decide +kernel⟩
theorem o_law_right (B : B0 K mg) : OkT P w K mg base "_law_right" ["_law_tin"] 12 C_law_right := by
  have nd := sc_law_right.nd
  obtain ⟨fd, F⟩ := B.says.def_ 57 (d := mkD "_law_right" s_law_right) rfl
  refine ⟨fd, fn_dm (C := C_law_right) F sc_law_right (by rintro ds n Q ⟨rfl, _⟩; rfl) (fun cdv A outer s H E hr => (dss_cons (dsm_asg (dm_fn (o_law_some_case B) hr (by rfl) (pv 0 rfl (Or.inl rfl)) (dma_cons (dm_of dp_int) dma_nil)) (dg_tup rfl (dgs_cons (dg_name (pg_name (i := 1) nd rfl (Or.inl rfl))) (dgs_cons (dg_name (pg_name (i := 2) nd rfl (Or.inr rfl))) (dgs_cons (dg_name (pg_name (i := 3) nd rfl (Or.inr rfl))) (dgs_cons (dg_name (pg_name (i := 4) nd rfl (Or.inr rfl))) dgs_nil))))))
    (dss_cons (ds_set (i := 5) nd rfl (Or.inl rfl) (DP.de (dp_fn (o_law_moved B) hr (by rfl) (da_cons (dp_var (pv 2 rfl (Or.inr (Or.inl rfl)))) (da_cons (dp_var (pv 3 rfl (Or.inr (Or.inl rfl)))) (da_cons (dp_var (pv 4 rfl (Or.inr (Or.inl rfl)))) da_nil))))))
    (dss_cons (ds_set (i := 6) nd rfl (Or.inr rfl) (DP.de (dp_fn (o_law_every_order B) hr (by rfl) (da_cons (dp_var (pv 1 rfl (Or.inl rfl))) (da_cons (dp_var (pv 2 rfl (Or.inr (Or.inl rfl)))) (da_cons (dp_var (pv 5 rfl (Or.inl rfl))) da_nil))))))
    (dss_cons (ds_set (i := 7) nd rfl (Or.inr rfl) (DP.de (dp_fn (o_law_lists B 6) hr (by rfl) (da_cons (DF.dp (df_lst (da_cons (dp_var (pv 1 rfl (Or.inl rfl))) (da_cons (dp_var (pv 2 rfl (Or.inr (Or.inl rfl)))) (da_cons (dp_var (pv 3 rfl (Or.inr (Or.inl rfl)))) (da_cons (dp_var (pv 4 rfl (Or.inr (Or.inl rfl)))) da_nil)))))) da_nil))))
    (dss_cons (ds_set (i := 8) nd rfl (Or.inl rfl) (DP.de (DF.dp (df_lst (da_cons (dp_fn (o_moves B) hr (by rfl) (da_cons (dp_ix (dp_var (pv 7 rfl (Or.inr (Or.inl rfl)))) dp_int (fun _ _ => rfl)) (da_cons (dp_var (pv 2 rfl (Or.inr (Or.inl rfl)))) (da_cons (dp_ix (dp_var (pv 7 rfl (Or.inr (Or.inl rfl)))) dp_int (fun _ _ => rfl)) (da_cons (dp_ix (dp_var (pv 7 rfl (Or.inr (Or.inl rfl)))) dp_int (fun _ _ => rfl)) da_nil))))) (da_cons (dp_fn (o_arrows B) hr (by rfl) (da_cons (dp_var (pv 1 rfl (Or.inl rfl))) (da_cons (dp_ix (dp_var (pv 7 rfl (Or.inr (Or.inl rfl)))) dp_int (fun _ _ => rfl)) (da_cons (dp_var (pv 3 rfl (Or.inr (Or.inl rfl)))) (da_cons (dp_ix (dp_var (pv 7 rfl (Or.inr (Or.inl rfl)))) dp_int (fun _ _ => rfl)) da_nil))))) da_nil))))))
    (dss_cons (ds_if (dt_not (dt_val (dp_fn (o_law_same B 6) hr (by rfl) (da_cons (dp_var (pv 8 rfl (Or.inl rfl))) (da_cons (DF.dp (df_lst (da_cons (dp_var (pv 5 rfl (Or.inl rfl))) (da_cons (dp_fn (o_law_arrows_so B) hr (by rfl) (da_cons (dp_var (pv 1 rfl (Or.inl rfl))) (da_cons (dp_var (pv 5 rfl (Or.inl rfl))) da_nil))) da_nil)))) da_nil))))) (dss_one (ds_ret dp_bl)) dss_nil)
    (dss_cons (ds_set (i := 9) nd rfl (Or.inl rfl) (DP.de (dp_if (dt_cmp (op_neD hr.units) od_ne (dp_var (pv 5 rfl (Or.inl rfl))) (dp_tup da_nil) (nomark _)) (dp_callTy call_tuple_of cd_tup (by rfl) (f_tuple B) (by decide +kernel) (da_cons (dp_ssetT (hu65 hr) rfl (by rfl) (f_sorted B) (by rfl) (f_set B) (DF.dp (df_lc (own := [("_law_own", 11)]) (ws := [11]) rfl nd (di_seq (dp_var (pv 6 rfl (Or.inr (Or.inl rfl))))) (blkOk_by (N := N_law_right) (sc := (defScope s_law_right)) (by decide +kernel)) (by decide) (fun _ _ _ _ _ => (dg_name (pg_name (i := 11) nd rfl (Or.inl rfl)))) (fun _ _ _ _ _ => dts_nil) (fun _ _ _ _ _ => (dp_ix (dp_unz (dp_var (pv 11 rfl (Or.inl rfl)))) dp_int (fun _ _ => rfl)))))) da_nil)) (dp_tup da_nil))))
    (dss_cons (ds_if (dt_not (dt_val (dp_fn (o_law_same B 6) hr (by rfl) (da_cons (dp_fnK (ok_can_come_first B) hr (by rfl) (dk_cons (dp_ix (dp_var (pv 7 rfl (Or.inr (Or.inl rfl)))) dp_int (fun _ _ => rfl)) (dk_cons (dp_ix (dp_var (pv 7 rfl (Or.inr (Or.inl rfl)))) dp_int (fun _ _ => rfl)) (dk_cons (dp_var (pv 2 rfl (Or.inr (Or.inl rfl)))) (dk_cons (dp_ix (dp_var (pv 7 rfl (Or.inr (Or.inl rfl)))) dp_int (fun _ _ => rfl)) dk_nil))))) (da_cons (dp_var (pv 9 rfl (Or.inl rfl))) da_nil))))) (dss_one (ds_ret dp_bl)) dss_nil)
    (dss_cons (ds_frzA 8 (ds_setLc (i := 8) rfl nd rfl rfl (sw_true rfl rfl rfl (by decide +kernel)) (own := [("_law_own", 11)]) (ws := [11])  (di_seq (dp_var (pv 5 rfl (Or.inl rfl)))) (blkOk_by (N := N_law_right) (sc := (defScope s_law_right)) (by decide +kernel)) (by decide) (fun _ _ _ _ _ => (dg_name (pg_name (i := 11) nd rfl (Or.inl rfl)))) (fun _ _ _ _ _ => dts_nil) (fun _ _ _ _ _ => (dp_fn (o_must_come_ahead B) hr (by rfl) (da_cons (dp_ix (dp_var (pv 7 rfl (Or.inr (Or.inl rfl)))) dp_int (fun _ _ => rfl)) (da_cons (dp_var (pv 2 rfl (Or.inr (Or.inl rfl)))) (da_cons (dp_var (pv 3 rfl (Or.inr (Or.inl rfl)))) (da_cons (dp_ix (dp_var (pv 7 rfl (Or.inr (Or.inl rfl)))) dp_int (fun _ _ => rfl)) (da_cons (dp_callTy call_list_of cd_lst (by rfl) (f_list B) (by decide +kernel) (da_cons (dp_var (pv 11 rfl (Or.inl rfl))) da_nil)) da_nil)))))))))
    (dss_cons (ds_if (dt_not (dt_val (dp_fn (o_law_same B 6) hr (by rfl) (da_cons (dp_var (pv 8 rfl (Or.inl rfl))) (da_cons (DF.dp (df_lc (own := [("_law_own", 11)]) (ws := [11]) rfl nd (di_seq (dp_var (pv 5 rfl (Or.inl rfl)))) (blkOk_by (N := N_law_right) (sc := (defScope s_law_right)) (by decide +kernel)) (by decide) (fun _ _ _ _ _ => (dg_name (pg_name (i := 11) nd rfl (Or.inl rfl)))) (fun _ _ _ _ _ => dts_nil) (fun _ _ _ _ _ => (dp_fn (o_law_ahead_always B) hr (by rfl) (da_cons (dp_var (pv 6 rfl (Or.inr (Or.inl rfl)))) (da_cons (dp_var (pv 11 rfl (Or.inl rfl))) da_nil)))))) da_nil))))) (dss_one (ds_ret dp_bl)) dss_nil)
    (dss_cons (dsm_set (i := 10) nd rfl (Or.inl rfl) (dm_fn (o_law_some_rows B) hr (by rfl) (pv 0 rfl (Or.inl rfl)) (dma_cons (dm_of (dp_var (pv 6 rfl (Or.inr (Or.inl rfl))))) (dma_cons (dm_of (dp_var (pv 5 rfl (Or.inl rfl)))) dma_nil))))
    (dss_cons (ds_frzA 8 (ds_setLc (i := 8) rfl nd rfl rfl (sw_true rfl rfl rfl (by decide +kernel)) (own := [("_law_own", 11)]) (ws := [11])  (di_seq (dp_var (pv 10 rfl (Or.inl rfl)))) (blkOk_by (N := N_law_right) (sc := (defScope s_law_right)) (by decide +kernel)) (by decide) (fun _ _ _ _ _ => (dg_name (pg_name (i := 11) nd rfl (Or.inl rfl)))) (fun _ _ _ _ _ => dts_nil) (fun _ _ _ _ _ => (dp_fn (o_is_order B) hr (by rfl) (da_cons (dp_ix (dp_var (pv 7 rfl (Or.inr (Or.inl rfl)))) dp_int (fun _ _ => rfl)) (da_cons (dp_var (pv 2 rfl (Or.inr (Or.inl rfl)))) (da_cons (dp_ix (dp_var (pv 7 rfl (Or.inr (Or.inl rfl)))) dp_int (fun _ _ => rfl)) (da_cons (dp_var (pv 4 rfl (Or.inr (Or.inl rfl)))) (da_cons (dp_var (pv 11 rfl (Or.inl rfl))) da_nil)))))))))
    (dss_one (ds_ret (dp_fn (o_law_same B 6) hr (by rfl) (da_cons (dp_var (pv 8 rfl (Or.inl rfl))) (da_cons (DF.dp (df_lc (own := [("_law_own", 11)]) (ws := [11]) rfl nd (di_seq (dp_var (pv 10 rfl (Or.inl rfl)))) (blkOk_by (N := N_law_right) (sc := (defScope s_law_right)) (by decide +kernel)) (by decide) (fun _ _ _ _ _ => (dg_name (pg_name (i := 11) nd rfl (Or.inl rfl)))) (fun _ _ _ _ _ => dts_nil) (fun _ _ _ _ _ => (dp_and (dp_isi tab_tup (dp_var (pv 11 rfl (Or.inl rfl))) (by rfl) (f_isinstance B) (pe_bltn (by rfl) (f_tuple B) (by decide +kernel) rfl)) (dp_and (dp_callB (cr_all rfl) cd_all (by rfl) (f_all B) (by decide +kernel) (da_cons (DF.dp (df_lc (own := [("_law_its", 12)]) (ws := [12]) rfl nd (di_seq (dp_var (pv 11 rfl (Or.inl rfl)))) (blkOk_by (N := N_law_right) (sc := (relS c5_law_right (defScope s_law_right))) (by decide +kernel)) (by decide) (fun _ _ _ _ _ => (dg_name (pg_name (i := 12) nd rfl (Or.inl rfl)))) (fun _ _ _ _ _ => dts_nil) (fun _ _ _ _ _ => (dp_isi tab_tup (dp_var (pv 12 rfl (Or.inl rfl))) (by rfl) (f_isinstance B) (pe_bltn (by rfl) (f_tuple B) (by decide +kernel) rfl))))) da_nil)) (dp_one (dp_cmp (op_in2 (hu65 hr)) od_in (dp_var (pv 11 rfl (Or.inl rfl))) (dp_unzL (dp_var (pv 6 rfl (Or.inr (Or.inl rfl))))) (by rfl)))))))) da_nil)))))))))))))))))) ?_, FunD.bindsN F (fun _ _ _ _ _ _ us hl => match us, hl with | [_], _ => rfl), F.kp, B.glo _ (B.says.fact 57 (f := .glo "_law_right") rfl)⟩
  rintro t ds n Q ⟨rfl, hn, q⟩
  refine ⟨t, n, rfl, rfl, by omega, fun k bs one other ps m1 c m10 m11 => ⟨_, rfl, rfl, ?_⟩⟩
  have v := c.v
  have k4 := c.k4
  have l1 := c.s1.len
  have l2 := c.s2.len
  have bl := v.len
  have pl := c.vn.len
  refine ⟨_, rfl, _, rfl, _, rfl, k, bs, one, other, ps, rfl, c, ?_⟩
  obtain ⟨ms, hms⟩ : ∃ ms, srt (mvRaw one other ps) = ms := ⟨_, rfl⟩
  have pm : ms.Perm (mvRaw one other ps) := by rw [← hms]; exact sort_perm (fun m => eM m) _
  have nd2 : ms.Nodup := pm.nodup_iff.mpr (mv_nodup _ _ _)
  have ml : ms.length ≤ 7 := by rw [pm.length_eq]; exact c.m7
  have ss : srt ms = ms := by rw [← hms]; exact srt_self (sort_pw (fun m => eM m) _)
  have S : Sys k bs one other ps ms := c.sys fun m => pm.mem_iff
  have mj : ∀ m ∈ ms, 0 ≤ m.1 ∧ m.1 < k := fun m hm => mv_jack c.s1 (pm.mem_iff.mp hm)
  have mb : ∀ m ∈ ms, 0 ≤ m.2.1 ∧ m.2.1 ≤ 5 ∧ 0 ≤ m.2.2 ∧ m.2.2 ≤ 5 := fun m hm => by
    obtain ⟨i, x, y, w⟩ := (S.ms m).mp hm
    have h1 := c.b1 x (List.mem_of_getElem? w.gx)
    have h2 := c.b2 y (List.mem_of_getElem? w.gy)
    have := w.a1
    have := w.a2
    have := w.b1
    have := w.b2
    omega
  rw [hms]
  refine ⟨_, rfl, _, rfl, _, rfl, k, bs, one, ms, rfl, v, l1, fun x hx => by have := c.b1 x hx; omega, nd2, ml, fun m hm => by have := mj m hm; have := mb m hm; omega, fun rows rl hrows => ?_⟩
  cases rows with
  | nil =>
    obtain ⟨os, h⟩ := S.some_row nd2
    cases (hrows os).mpr h
  | cons r0 rs =>
  have rl : rs.length ≤ 1000000 := by rw [List.length_cons] at rl; omega
  have hp : ∀ os ∈ r0 :: rs, os.Perm ms := fun os h => ((hrows os).mp h).1
  have kF : okD 6 (eF k bs) = true := ok_F (n := 2) (by omega)
  have k1 : okD 6 (eS one) = true := ok_S (n := 4) (by omega)
  have k2 : okD 6 (eS other) = true := ok_S (n := 4) (by omega)
  have kP' : okD 6 (eTP ps) = true := ok_TP (n := 3) (by omega)
  refine ⟨_, rfl, _, rfl, _, rfl, _, rfl, by show 4 ≤ 16777216; decide, _, rfl, ok_lst (n := 5) (by show 4 < 16777216; decide) (fun d hd => ?_), ?_⟩
  · simp only [List.mem_cons, List.not_mem_nil, or_false] at hd
    rcases hd with e | e | e | e
    · rw [e]; exact ok_F (n := 1) (by omega)
    · rw [e]; exact ok_S (n := 3) (by omega)
    · rw [e]; exact ok_S (n := 3) (by omega)
    · rw [e]; exact ok_TP (n := 2) (by omega)
  rw [lists4]
  have oF : okD 6 (listsD (eF k bs)) = true := by rw [ok_lists]; exact kF
  have o1 : okD 6 (listsD (eS one)) = true := by rw [ok_lists]; exact k1
  have o2 : okD 6 (listsD (eS other)) = true := by rw [ok_lists]; exact k2
  have oP : okD 6 (listsD (eTP ps)) = true := by rw [ok_lists]; exact kP'
  have tF : tupledD (listsD (eF k bs)) = eF k bs := by rw [tup_lists]; exact tup_F k bs
  have t1 : tupledD (listsD (eS one)) = eS one := by rw [tup_lists]; exact tup_S one
  have t2 : tupledD (listsD (eS other)) = eS other := by rw [tup_lists]; exact tup_S other
  have tP' : tupledD (listsD (eTP ps)) = eTP ps := by rw [tup_lists]; exact tup_TP ps
  obtain ⟨sF, hsF⟩ : ∃ x, listsD (eF k bs) = x := ⟨_, rfl⟩
  obtain ⟨s1, hs1⟩ : ∃ x, listsD (eS one) = x := ⟨_, rfl⟩
  obtain ⟨s2, hs2⟩ : ∃ x, listsD (eS other) = x := ⟨_, rfl⟩
  obtain ⟨sP, hsP⟩ : ∃ x, listsD (eTP ps) = x := ⟨_, rfl⟩
  rw [hsF] at oF tF ⊢
  rw [hs1] at o1 t1 ⊢
  rw [hs2] at o2 t2 ⊢
  rw [hsP] at oP tP' ⊢
  show dThen _ _ _ [SV.tin t m1, .sh (eF k bs), .sh (eS one), .sh (eS other), .sh (eTP ps), .sh (eTM ms), .sh (.list ((r0 :: rs).map fun os => zD (os.map eM))), .sh (.list [sF, s1, s2, sP]), .un, .un, .un, .un, .un]
  refine ⟨_, rfl, by decide, _, rfl, _, rfl, _, rfl, by decide, _, rfl, _, rfl, by decide, _, rfl, sF, eS one, s2, sP, k, bs, one, other, ps, rfl, oF, k1, o2, oP, tF, tup_S one, t2, tP', v, c.s1, c.s2, c.vp, c.vn, _, _, rfl, ?_⟩
  rw [hms]
  refine ⟨_, rfl, _, rfl, by decide, _, rfl, _, rfl, _, rfl, by decide, _, rfl, eF k bs, s1, eS other, sP, k, bs, one, other, ps, rfl, kF, o1, k2, oP, tup_F k bs, t1, tup_S other, tP', v, c.s1, c.s2, c.vp, c.vn, _, _, rfl, by show 2 ≤ 16777216; decide, ?_⟩
  rw [hms]
  show dThen _ _ _ [SV.tin t m1, .sh (eF k bs), .sh (eS one), .sh (eS other), .sh (eTP ps), .sh (eTM ms), .sh (.list ((r0 :: rs).map fun os => zD (os.map eM))), .sh (.list [sF, s1, s2, sP]), .sh (.list [eTM ms, eTA (srtA (arRaw k bs ms))]), .un, .un, .un, .un]
  have asl : (srtA (arRaw k bs ms)).length ≤ 720000 := by
    rw [(sort_perm (fun a => eA a) (arRaw k bs ms)).length_eq]
    exact ar_len v.n8 (by omega)
  refine ⟨_, rfl, _, rfl, _, rfl, _, rfl, k, bs, ms, rfl, v, nd2, ml, mj, by show 2 ≤ 16777216; decide, _, rfl, ok_lst (n := 5) (by show 2 < 16777216; decide) (fun d hd => ?_), _, rfl, ?_⟩
  · simp only [List.mem_cons, List.not_mem_nil, or_false] at hd
    rcases hd with e | e
    · rw [e]; exact ok_TM (n := 2) (by omega)
    · rw [e]; exact ok_TA (n := 1) (by omega)
  obtain ⟨F, hF⟩ : ∃ F, (ms.filter fun m => !ms.any fun k' => arr k bs k' m) = F := ⟨_, rfl⟩
  have memF : ∀ z, z ∈ F ↔ ∃ os, IsRow bs one ms os ∧ os.head? = some z := by
    intro z
    rw [← hF, List.mem_filter, Bool.not_eq_true', List.any_eq_false]
    constructor
    · rintro ⟨h1, h2⟩
      exact (S.first nd2 h1).mpr fun k' hk => by simpa using h2 k' hk
    · rintro ⟨os, h1, h2⟩
      have hz : z ∈ ms := h1.1.mem_iff.mp (List.mem_of_mem_head? h2)
      exact ⟨hz, fun k' hk => by rw [(S.first nd2 hz).mp ⟨os, h1, h2⟩ k' hk]; decide⟩
  have stm : ms.Pairwise fun a b => HT.lexLt (kM a) (kM b) = true := self_strict nd2 ss
  have stF : F.Pairwise fun a b => HT.lexLt (kM a) (kM b) = true := by rw [← hF]; exact List.Pairwise.filter _ stm
  have lF : F.length ≤ 7 := by rw [← hF]; exact Nat.le_trans (List.length_filter_le _ _) ml
  refine dIf_both (t := dB (dOp gNe (dV 5) (dTup dNil))) (ta := dApp gTupOf (dCons (dSSetT (dOfF (dLc (dSeq (dV 6)) (dgName 11) dYes (dOp gIx (dUnz (dV 11)) (dC (PyData.int 0))) [11]))) dNil)) (tb := dTup dNil) (!ms.isEmpty) (eTM F) (fun R hR => ?_) (fun hne R hR => ?_) (fun he R hR => ?_) ?_
  · refine ⟨_, rfl, by show 0 ≤ 16777216; decide, (pl_TM ms).sh, rfl, _, rfl, ?_⟩
    rw [PyData.eqv, eqvAll_nil, List.isEmpty_map]
    exact hR
  · have hne : ms ≠ [] := fun e => by rw [e] at hne; cases hne
    have pos : 0 < ms.length := List.length_pos_iff.mpr hne
    have heads : ∀ os ∈ r0 :: rs, ∃ h tl, os = h :: tl ∧ h ∈ ms := fun os hos => by
      have := (hp os hos).length_eq
      cases os with
      | nil => rw [List.length_nil] at this; omega
      | cons h tl => exact ⟨h, tl, rfl, (hp _ hos).mem_iff.mp List.mem_cons_self⟩
    refine lcM (ti := dSeq (dV 6)) (r0 :: rs) (fun os => zD (os.map eM)) (fun os => kM (os.headD (0, 0, 0))) tupI (fun R hR => ⟨_, rfl, _, rfl, hR⟩) (by rw [List.length_cons]; omega) (fun os hos R hR => ?_) ?_
    · obtain ⟨h, tl, rfl, _⟩ := heads os hos
      exact ⟨_, rfl, _, rfl, by decide, eM h, rfl, hR⟩
    have kmem : ∀ x ∈ (r0 :: rs).map (fun os => kM (os.headD (0, 0, 0))), ∃ m ∈ ms, x = kM m := fun x hx => by
      obtain ⟨os, hos, rfl⟩ := List.mem_map.mp hx
      obtain ⟨h, tl, rfl, hm⟩ := heads os hos
      exact ⟨h, hm, rfl⟩
    have kbd : ∀ x ∈ (r0 :: rs).map (fun os => kM (os.headD (0, 0, 0))), x.length = 3 ∧ TS.Bd 8 x := fun x hx => by
      obtain ⟨m, hm, rfl⟩ := kmem x hx
      have := mj m hm
      have := mb m hm
      refine ⟨rfl, fun z hz => ?_⟩
      unfold kM at hz
      simp only [List.mem_cons, List.not_mem_nil, or_false] at hz
      omega
    refine ⟨(r0 :: rs).map (fun os => kM (os.headD (0, 0, 0))), 3, 8, rfl, by decide, kbd, fun L ndL hL => ?_, fun ms' nd' hm' pw' => ?_⟩
    · have := nodup_le ndL (ys := ms.map kM) fun x hx => by
        obtain ⟨m, hm, e⟩ := kmem x (hL x hx)
        rw [e]
        exact List.mem_map_of_mem hm
      rw [List.length_map] at this
      omega
    · have pw2 := lex_sorted (fun x hx => kbd x ((hm' x).mp hx)) nd' pw'
      obtain ⟨fs, rfl⟩ := map_enc kM (ms := ms') fun x hx => by
        obtain ⟨m, _, e⟩ := kmem x ((hm' x).mp hx)
        exact ⟨m, e.symm⟩
      have e : fs = F := strict_eq (List.pairwise_map.mp pw2) stF fun z => by
        rw [memF]
        constructor
        · intro hz
          obtain ⟨os, hos, e⟩ := List.mem_map.mp ((hm' _).mp (List.mem_map_of_mem (f := kM) hz))
          obtain ⟨h, tl, rfl, hm⟩ := heads os hos
          have e : h = z := kM_inj e
          exact ⟨_, (hrows _).mp hos, by rw [e]; rfl⟩
        · rintro ⟨os, h1, h2⟩
          have hos := (hrows os).mpr h1
          obtain ⟨h, tl, rfl, hm⟩ := heads os hos
          have e : h = z := Option.some.inj h2
          obtain ⟨y, hy, e2⟩ := List.mem_map.mp ((hm' (kM h)).mpr (List.mem_map.mpr ⟨_, hos, rfl⟩))
          rw [← e, ← kM_inj e2]
          exact hy
      refine ⟨_, _, rfl, rfl, ?_⟩
      rw [List.map_map, e]
      exact hR
  · have he : ms = [] := by
      cases ms with
      | nil => rfl
      | cons _ _ => cases he
    have : F = [] := by rw [← hF, he]; rfl
    rw [this] at hR
    exact ⟨by show 0 ≤ 16777216; decide, hR⟩
  show dThen _ _ _ [SV.tin t m1, .sh (eF k bs), .sh (eS one), .sh (eS other), .sh (eTP ps), .sh (eTM ms), .sh (.list ((r0 :: rs).map fun os => zD (os.map eM))), .sh (.list [sF, s1, s2, sP]), .sh (.list [eTM ms, eTA (srtA (arRaw k bs ms))]), .sh (eTM F), .un, .un, .un]
  refine ⟨_, rfl, by decide, _, rfl, _, rfl, by decide, _, rfl, _, rfl, _, rfl, by decide, _, rfl, sF, eS one, s2, sP, k, bs, one, other, ps, rfl, oF, k1, o2, oP, tF, tup_S one, t2, tP', v, c.s1, c.s2, c.vp, c.vn, ?_⟩
  rw [hms, hF]
  refine ⟨_, rfl, _, rfl, ok_TM (n := 3) (by omega), _, rfl, ?_⟩
  obtain ⟨Kf, hKf⟩ : ∃ Kf : Mv → List Mv, Kf = fun m => (srt r0).filter fun k => (r0 :: rs).all fun os => decide (os.idxOf k < os.idxOf m) := ⟨_, rfl⟩
  have nr : r0.Nodup := (hp r0 List.mem_cons_self).nodup_iff.mpr nd2
  have memr : ∀ z, z ∈ srt r0 ↔ z ∈ ms := fun z => by rw [show z ∈ srt r0 ↔ z ∈ r0 from (sort_perm (fun m => eM m) r0).mem_iff]; exact (hp r0 List.mem_cons_self).mem_iff
  have stK : ∀ m, (Kf m).Pairwise fun a b => HT.lexLt (kM a) (kM b) = true := fun m => by rw [hKf]; exact List.Pairwise.filter _ (srt_strict nr)
  have lK : ∀ m, (Kf m).length ≤ 7 := fun m => by
    rw [hKf]
    refine Nat.le_trans (List.length_filter_le _ _) ?_
    rw [show (srt r0).length = r0.length from (sort_perm (fun m => eM m) r0).length_eq, (hp r0 List.mem_cons_self).length_eq]
    exact ml
  have memK : ∀ m ∈ ms, ∀ z, z ∈ Kf m ↔ Lead k bs (mvRaw one other ps) z m := by
    intro m hm z
    rw [hKf]
    show z ∈ (srt r0).filter _ ↔ _
    rw [List.mem_filter, memr, List.all_eq_true]
    constructor
    · rintro ⟨h1, h2⟩
      exact ((S.must nd2 h1 hm).mpr fun os h => by simpa using h2 os ((hrows os).mpr h)).mono fun a ha => pm.mem_iff.mp ha
    · intro h
      have h : Lead k bs ms z m := h.mono fun a ha => pm.mem_iff.mpr ha
      exact ⟨h.mem1, fun os hos => decide_eq_true ((S.must nd2 h.mem1 hm).mp h os ((hrows os).mp hos))⟩
  refine lcM (ti := dSeq (dV 5)) ms (fun m => eM m) Kf (fun l => eTM l) (fun R hR => ⟨_, rfl, _, rfl, hR⟩) (by omega) (fun m hm R hR => ?_) ?_
  · refine ⟨_, rfl, by decide, _, rfl, _, rfl, _, rfl, _, rfl, by decide, _, rfl, _, rfl, _, _, rfl, rfl, sF, eS one, eS other, sP, _, k, bs, one, other, ps, m, rfl, oF, k1, k2, oP, ok_lst (n := 5) (by show 3 < 16777216; decide) (fun d hd => ?_), tF, tup_S one, tup_S other, tP', ?_, v, c.s1, c.s2, c.vp, c.vn, pm.mem_iff.mp hm, fun ks nk sk hk => ?_⟩
    · simp only [List.mem_cons, List.not_mem_nil, or_false] at hd
      rcases hd with e | e | e <;> rw [e] <;> rfl
    · have : tupledD (.list [.int m.1, .int m.2.1, .int m.2.2]) = tupledD (eM m) := by rw [tupledD, tupledD]
      rw [this]
      exact tup_M m
    · have e : ks = Kf m := strict_eq (self_strict nk sk) (stK m) fun z => by rw [hk, memK m hm]
      rw [e]
      exact hR
  refine ⟨_, _, rfl, rfl, ?_⟩
  show dThen _ _ _ [SV.tin t m1, .sh (eF k bs), .sh (eS one), .sh (eS other), .sh (eTP ps), .sh (eTM ms), .sh (.list ((r0 :: rs).map fun os => zD (os.map eM))), .sh (.list [sF, s1, s2, sP]), .sh (.list ((ms.map Kf).map fun l => eTM l)), .sh (eTM F), .un, .un, .un]
  refine ⟨_, rfl, ?_⟩
  refine lcM (ti := dSeq (dV 5)) ms (fun m => eM m) Kf (fun l => eTM l) (fun R hR => ⟨_, rfl, _, rfl, hR⟩) (by omega) (fun m hm R hR => ⟨_, rfl, _, rfl, r0, rs, ms, m, rfl, hm, ml, rl, hp, by rw [hKf] at hR; exact hR⟩) ?_
  refine ⟨_, rfl, ok_lst (n := 5) (by rw [List.length_map, List.length_map]; omega) (fun d hd => ?_), _, rfl, ?_⟩
  · obtain ⟨l, hl, rfl⟩ := List.mem_map.mp hd
    obtain ⟨m, _, rfl⟩ := List.mem_map.mp hl
    exact ok_TM (n := 2) (by have := lK m; omega)
  refine ⟨t, m1, rfl, _, rfl, _, rfl, r0 :: rs, ms, rfl, Nat.zero_lt_succ _, by rw [List.length_cons]; omega, ml, fun os h => (hp os h).length_eq, by omega, fun ts m2 tl th => ?_⟩
  show dThen _ _ _ [SV.tin t m2, .sh (eF k bs), .sh (eS one), .sh (eS other), .sh (eTP ps), .sh (eTM ms), .sh (.list ((r0 :: rs).map fun os => zD (os.map eM))), .sh (.list [sF, s1, s2, sP]), .sh (.list ((ms.map Kf).map fun l => eTM l)), .sh (eTM F), .sh (.list ts), .un, .un]
  refine lcM (ti := dSeq (dV 10)) ts id (isR (r0 :: rs)) PyData.bool (fun R hR => ⟨_, rfl, _, rfl, by rw [List.map_id] at hR; exact hR⟩) (by omega) (fun d hd R hR => ?_) ?_
  · refine ⟨_, rfl, by decide, _, rfl, _, rfl, _, rfl, by decide, _, rfl, _, rfl, _, rfl, sF, eS one, s2, eTP ps, k, bs, one, other, ps, d, rfl, oF, k1, o2, kP', tF, tup_S one, t2, tup_TP ps, v, c.s1, c.s2, c.vp, c.vn, ?_⟩
    have tm : ∀ os : List Mv, d = eTM os → os.length < 100 → ∃ os : List Mv, d = eTM os ∧ os.length < 200 ∧ ∀ b : Bool, (b = true ↔ os.Perm (mvRaw one other ps) ∧ ∀ x ∈ mvRaw one other ps, ∀ y ∈ mvRaw one other ps, arr k bs x y = true → os.idxOf x < os.idxOf y) → R (.bool b) := by
      intro os e hl
      refine ⟨os, e, by omega, fun b hb => ?_⟩
      have : b = isR (r0 :: rs) d := by
        rw [e, isR_TM, Bool.eq_iff_iff, decide_eq_true_eq, hrows, S.row nd2, hb]
        constructor
        · exact fun ⟨h1, h2⟩ => ⟨h1.trans pm.symm, fun x hx y hy => h2 x (pm.mem_iff.mp hx) y (pm.mem_iff.mp hy)⟩
        · exact fun ⟨h1, h2⟩ => ⟨h1.trans pm, fun x hx y hy => h2 x (pm.mem_iff.mpr hx) y (pm.mem_iff.mpr hy)⟩
      rw [this]
      exact hR
    rcases th d hd with ⟨os, e, hl⟩ | ⟨os, e⟩ | e | ⟨os, e, hl⟩
    · exact .inr (.inr (tm os e hl))
    · rw [isR_no (fun os' z => by rw [e] at z; cases z)] at hR
      exact .inl ⟨by rw [e]; rfl, by rw [e]; rfl, hR⟩
    · rw [isR_no (fun os' z => by rw [e] at z; cases z)] at hR
      exact .inl ⟨by rw [e]; rfl, by rw [e]; rfl, hR⟩
    · cases os with
      | nil => exact .inr (.inr (tm [] e (by decide)))
      | cons m os =>
        have no : isR (r0 :: rs) d = false := isR_no fun os' z => by
          rw [e] at z
          cases os' with
          | nil => cases z
          | cons _ _ => cases z
        show _ ∨ _ ∨ _
        refine .inr (.inl ⟨[.int m.1, .int m.2.1, .int m.2.2], os.map fun m : Mv => .list [.int m.1, .int m.2.1, .int m.2.2], e, fun y hy => ?_, by rw [List.length_map]; rw [List.length_cons] at hl; omega, ?_⟩)
        · obtain ⟨a, _, rfl⟩ := List.mem_map.mp hy
          exact ⟨_, rfl⟩
        · have hR' : R (.bool (isR (r0 :: rs) d)) := hR
          rw [no] at hR'
          exact hR'
  refine ⟨_, _, rfl, rfl, ?_⟩
  refine ⟨_, rfl, ?_⟩
  refine lcM (ti := dSeq (dV 10)) ts id (isR (r0 :: rs)) PyData.bool (fun R hR => ⟨_, rfl, _, rfl, by rw [List.map_id] at hR; exact hR⟩) (by omega) (fun d hd R hR => ?_) ?_
  · have hR' : R (.bool (isR (r0 :: rs) d)) := hR
    have hd3 : (∃ os : List Mv, d = eTM os ∧ os.length < 100) ∨ (isTup d = false ∧ isDic d = false ∧ isR (r0 :: rs) d = false) ∨ (∃ (m : Mv) (os : List Mv), d = .tuple ((m :: os).map fun m => .list [.int m.1, .int m.2.1, .int m.2.2]) ∧ (m :: os).length < 100 ∧ isR (r0 :: rs) d = false) := by
      rcases th d hd with ⟨os, e, hl⟩ | ⟨os, e⟩ | e | ⟨os, e, hl⟩
      · exact .inl ⟨os, e, hl⟩
      · exact .inr (.inl ⟨by rw [e]; rfl, by rw [e]; rfl, isR_no (fun os' z => by rw [e] at z; cases z)⟩)
      · exact .inr (.inl ⟨by rw [e]; rfl, by rw [e]; rfl, isR_no (fun os' z => by rw [e] at z; cases z)⟩)
      · cases os with
        | nil => exact .inl ⟨[], e, by decide⟩
        | cons m os =>
          refine .inr (.inr ⟨m, os, e, hl, isR_no fun os' z => ?_⟩)
          rw [e] at z
          cases os' with
          | nil => cases z
          | cons _ _ => cases z
    rcases hd3 with ⟨os, e, hl⟩ | ⟨h1, h2, h3⟩ | ⟨m, os, e, hl, h3⟩
    · subst e
      refine ⟨_, rfl, rfl, true, rfl, ?_⟩
      refine lcM (ti := dSeq (dV 11)) os (fun m => eM m) (fun _ => true) PyData.bool (fun R hR => ⟨_, rfl, _, rfl, hR⟩) (by omega) (fun m _ R hR => ⟨_, rfl, rfl, hR⟩) ?_
      refine ⟨_, rfl, true, ?_, ?_⟩
      · rw [show ((os.map fun _ => true).all id) = true from by simp]
      · refine ⟨_, rfl, _, rfl, (r0 :: rs).map (fun os => os.map eM), by rw [List.map_map]; rfl, (pl_TM os).sh, by rw [List.map_map]; exact (Pl.lst (pl_map fun os => pl_TM os)).sh, ?_⟩
        have e : inD (eTM os) (((r0 :: rs).map fun os => os.map eM).map PyData.tuple) = isR (r0 :: rs) (eTM os) := by
          rw [List.map_map, isR_TM]
          exact (inD_map (f := fun os : List Mv => eTM os) pl_TM (fun _ _ => eTM_inj) os (r0 :: rs)).trans (decide_eq_decide.mpr Iff.rfl)
        show R (.bool (inD (eTM os) (((r0 :: rs).map fun os => os.map eM).map PyData.tuple)))
        rw [e]
        exact hR'
    · rw [h3] at hR'
      refine ⟨_, rfl, h2, false, ?_, hR'⟩
      show PyData.bool (isTup d) = _
      rw [h1]
    · rw [h3] at hR'
      subst e
      refine ⟨_, rfl, rfl, true, rfl, ?_⟩
      refine lcM (ti := dSeq (dV 11)) (m :: os) (fun m : Mv => .list [.int m.1, .int m.2.1, .int m.2.2]) (fun _ => false) PyData.bool (fun R hR => ⟨_, rfl, _, rfl, hR⟩) (by omega) (fun m _ R hR => ⟨_, rfl, rfl, hR⟩) ?_
      exact ⟨_, rfl, false, rfl, hR'⟩
  refine ⟨_, rfl, ok_lst (n := 5) (by rw [List.length_map, List.length_map]; omega) (fun d hd => ?_), m2, rfl, q m2⟩
  obtain ⟨b, _, rfl⟩ := List.mem_map.mp hd
  rfl
def C_law_by_hand_right : TF := fun ds P => ds = [] ∧ P (.bool true)
abbrev N_law_by_hand_right : List Str := ["_law_cross_so", "_law_star_so", "_law_got", "_law_due"]
theorem sc_law_by_hand_right : FnScope N_law_by_hand_right [] (defScope s_law_by_hand_right) := ⟨rfl, rfl, rfl, by decide +kernel, rfl, by decide +kernel, by decide +kernel⟩
theorem o_law_by_hand_right (B : B0 K mg) : Ok P w K mg base "_law_by_hand_right" [] 12 C_law_by_hand_right := by
  have nd := sc_law_by_hand_right.nd
  obtain ⟨fd, F⟩ := B.says.def_ 58 (d := mkD "_law_by_hand_right" s_law_by_hand_right) rfl
  refine ⟨fd, fn_dl (C := C_law_by_hand_right) F sc_law_by_hand_right (by rintro ds Q ⟨rfl, _⟩; rfl) (fun cdv A outer s H E hr => (dss_cons (ds_asg (dp_tup (da_cons (dp_tup (da_cons dp_int (da_cons (dp_tup (da_cons (dp_tup (da_cons dp_int (da_cons dp_int da_nil))) da_nil)) da_nil))) (da_cons (dp_tup (da_cons dp_int (da_cons (dp_tup (da_cons (dp_tup (da_cons dp_int (da_cons dp_int da_nil))) (da_cons (dp_tup (da_cons dp_int (da_cons dp_int da_nil))) da_nil))) da_nil))) da_nil))) (dg_tup rfl (dgs_cons (dg_name (pg_name (i := 0) nd rfl (Or.inl rfl))) (dgs_cons (dg_name (pg_name (i := 1) nd rfl (Or.inl rfl))) dgs_nil))))
    (dss_cons (ds_set (i := 2) nd rfl (Or.inl rfl) (DP.de (DF.dp (df_lst (da_cons (dp_fn (o_moves B) hr (by rfl) (da_cons (dp_var (pv 0 rfl (Or.inl rfl))) (da_cons (dp_tup (da_cons dp_int (da_cons dp_int da_nil))) (da_cons (dp_tup (da_cons dp_int (da_cons dp_int da_nil))) (da_cons (dp_tup da_nil) da_nil))))) (da_cons (dp_fn (o_arrows B) hr (by rfl) (da_cons (dp_var (pv 0 rfl (Or.inl rfl))) (da_cons (dp_tup (da_cons dp_int (da_cons dp_int da_nil))) (da_cons (dp_tup (da_cons dp_int (da_cons dp_int da_nil))) (da_cons (dp_tup da_nil) da_nil))))) (da_cons (dp_fn (o_can_come_first B) hr (by rfl) (da_cons (dp_var (pv 0 rfl (Or.inl rfl))) (da_cons (dp_tup (da_cons dp_int (da_cons dp_int da_nil))) (da_cons (dp_tup (da_cons dp_int (da_cons dp_int da_nil))) (da_cons (dp_tup da_nil) da_nil))))) da_nil)))))))
    (dss_cons (ds_set (i := 2) nd rfl (Or.inl rfl) (DP.de (dp_op op_add3 od_add (dp_var (pv 2 rfl (Or.inl rfl))) (DF.dp (df_lst (da_cons (dp_fn (o_must_come_ahead B) hr (by rfl) (da_cons (dp_var (pv 1 rfl (Or.inl rfl))) (da_cons (dp_op op_mul3 od_mul (dp_tup (da_cons dp_int da_nil)) dp_int) (da_cons (dp_op op_mul3 od_mul (dp_tup (da_cons dp_int da_nil)) dp_int) (da_cons (dp_tup (da_cons (dp_tup (da_cons dp_int (da_cons dp_int da_nil))) da_nil)) (da_cons (dp_tup (da_cons dp_int (da_cons dp_int (da_cons dp_int da_nil)))) da_nil)))))) (da_cons (dp_fn (o_can_come_first B) hr (by rfl) (da_cons (dp_var (pv 1 rfl (Or.inl rfl))) (da_cons (dp_op op_mul3 od_mul (dp_tup (da_cons dp_int da_nil)) dp_int) (da_cons (dp_op op_mul3 od_mul (dp_tup (da_cons dp_int da_nil)) dp_int) (da_cons (dp_tup (da_cons (dp_tup (da_cons dp_int (da_cons dp_int da_nil))) (da_cons (dp_tup (da_cons dp_int (da_cons dp_int da_nil))) da_nil))) da_nil))))) da_nil)))))))
    (dss_cons (ds_set (i := 3) nd rfl (Or.inl rfl) (DP.de (DF.dp (df_lst (da_cons (dp_tup (da_cons (dp_tup (da_cons dp_int (da_cons dp_int (da_cons dp_int da_nil)))) (da_cons (dp_tup (da_cons dp_int (da_cons dp_int (da_cons dp_int da_nil)))) da_nil))) (da_cons (dp_tup da_nil) (da_cons (dp_tup (da_cons (dp_tup (da_cons dp_int (da_cons dp_int (da_cons dp_int da_nil)))) (da_cons (dp_tup (da_cons dp_int (da_cons dp_int (da_cons dp_int da_nil)))) da_nil))) (da_cons (dp_tup (da_cons (dp_tup (da_cons dp_int (da_cons dp_int (da_cons dp_int da_nil)))) (da_cons (dp_tup (da_cons dp_int (da_cons dp_int (da_cons dp_int da_nil)))) da_nil))) (da_cons (dp_tup (da_cons (dp_tup (da_cons dp_int (da_cons dp_int (da_cons dp_int da_nil)))) da_nil)) da_nil)))))))))
    (dss_one (ds_ret (dp_fn (o_law_same B 6) hr (by rfl) (da_cons (dp_var (pv 2 rfl (Or.inl rfl))) (da_cons (dp_var (pv 3 rfl (Or.inl rfl))) da_nil)))))))))) ?_, FunD.bindsN F (fun _ _ _ _ _ _ us hl => match us, hl with | [], _ => rfl), F.kp, B.glo _ (B.says.fact 58 (f := .glo "_law_by_hand_right") rfl)⟩
  rintro ds Q ⟨rfl, q⟩
  refine ⟨(show 2 ≤ 16777216 by decide), (show 1 ≤ 16777216 by decide), (show 2 ≤ 16777216 by decide), (show 2 ≤ 16777216 by decide), (show 2 ≤ 16777216 by decide), (show 2 ≤ 16777216 by decide), (show 2 ≤ 16777216 by decide), (show 2 ≤ 16777216 by decide), _, rfl, rfl, ?_⟩
  show dThen _ _ _ [SV.sh (eF 2 bsX), .sh (eF 3 bsT), .un, .un]
  refine ⟨_, rfl, (show 2 ≤ 16777216 by decide), (show 2 ≤ 16777216 by decide), (show 0 ≤ 16777216 by decide), eF 2 bsX, eS [0, 1], eS [1, 0], eTP [], 2, bsX, [0, 1], [1, 0], [], rfl, ok_F (n := 2) (by decide), ok_S (n := 4) (by decide), ok_S (n := 4) (by decide), ok_TP (n := 3) (by decide), tup_F _ _, tup_S _, tup_S _, tup_TP _, caseX.v, caseX.s1, caseX.s2, caseX.vp, caseX.vn, _, _, rfl, ?_⟩
  rw [mvX]
  refine ⟨_, rfl, (show 2 ≤ 16777216 by decide), (show 2 ≤ 16777216 by decide), (show 0 ≤ 16777216 by decide), eF 2 bsX, eS [0, 1], eS [1, 0], eTP [], 2, bsX, [0, 1], [1, 0], [], rfl, ok_F (n := 2) (by decide), ok_S (n := 4) (by decide), ok_S (n := 4) (by decide), ok_TP (n := 3) (by decide), tup_F _ _, tup_S _, tup_S _, tup_TP _, caseX.v, caseX.s1, caseX.s2, caseX.vp, caseX.vn, _, _, rfl, ?_⟩
  rw [mvX, arX]
  refine ⟨_, rfl, (show 2 ≤ 16777216 by decide), (show 2 ≤ 16777216 by decide), (show 0 ≤ 16777216 by decide), eF 2 bsX, eS [0, 1], eS [1, 0], eTP [], 2, bsX, [0, 1], [1, 0], [], rfl, ok_F (n := 2) (by decide), ok_S (n := 4) (by decide), ok_S (n := 4) (by decide), ok_TP (n := 3) (by decide), tup_F _ _, tup_S _, tup_S _, tup_TP _, caseX.v, caseX.s1, caseX.s2, caseX.vp, caseX.vn, ?_⟩
  rw [mvX, ccX]
  refine ⟨(show 3 ≤ 16777216 by decide), ?_⟩
  show dThen _ _ _ [SV.sh (eF 2 bsX), .sh (eF 3 bsT), .sh (.list [eTM [(0, 0, 1), (1, 1, 0)], eTA [], eTM [(0, 0, 1), (1, 1, 0)]]), .un]
  refine ⟨_, rfl, _, rfl, (show 1 ≤ 16777216 by decide), by simp, by decide, by decide, by show 1 ≤ 1000; decide, (show 1 ≤ 16777216 by decide), by simp, by decide, by decide, by show 1 ≤ 1000; decide, (show 2 ≤ 16777216 by decide), (show 1 ≤ 16777216 by decide), (show 3 ≤ 16777216 by decide), eF 3 bsT, eS [0, 0, 0], eS [2, 2, 2], eTP [(0, 1)], eM (0, 0, 2), 3, bsT, [0, 0, 0], [2, 2, 2], [(0, 1)], (0, 0, 2), rfl, ok_F (n := 2) (by decide), ok_S (n := 4) (by decide), ok_S (n := 4) (by decide), ok_TP (n := 3) (by decide), ok_M (n := 4) _, tup_F _ _, tup_S _, tup_S _, tup_TP _, tup_M _, caseT.v, caseT.s1, caseT.s2, caseT.vp, caseT.vn, by rw [mvT']; exact List.mem_cons_self, fun ks nk sk hk => ?_⟩
  have e : ks = [(1, 0, 1), (2, 0, 1)] := strict_eq (self_strict nk sk) (by decide +kernel) fun z => (hk z).trans (leadT z)
  rw [e]
  refine ⟨_, rfl, (show 1 ≤ 16777216 by decide), by simp, by decide, by decide, by show 1 ≤ 1000; decide, (show 1 ≤ 16777216 by decide), by simp, by decide, by decide, by show 1 ≤ 1000; decide, (show 2 ≤ 16777216 by decide), (show 2 ≤ 16777216 by decide), (show 2 ≤ 16777216 by decide), eF 3 bsT, eS [2, 2, 2], eS [0, 0, 0], eTP [(1, 1), (2, 1)], 3, bsT, [2, 2, 2], [0, 0, 0], [(1, 1), (2, 1)], rfl, ok_F (n := 2) (by decide), ok_S (n := 4) (by decide), ok_S (n := 4) (by decide), ok_TP (n := 3) (by decide), tup_F _ _, tup_S _, tup_S _, tup_TP _, caseU.v, caseU.s1, caseU.s2, caseU.vp, caseU.vn, ?_⟩
  rw [mvU, ccU]
  refine ⟨(show 2 ≤ 16777216 by decide), by show 3 + 2 ≤ 16777216; decide, ?_⟩
  show dThen _ _ _ [SV.sh (eF 2 bsX), .sh (eF 3 bsT), .sh (.list [eTM [(0, 0, 1), (1, 1, 0)], eTA [], eTM [(0, 0, 1), (1, 1, 0)], eTM [(1, 0, 1), (2, 0, 1)], eTM [(0, 2, 1)]]), .un]
  refine ⟨(show 3 ≤ 16777216 by decide), (show 3 ≤ 16777216 by decide), (show 2 ≤ 16777216 by decide), (show 0 ≤ 16777216 by decide), (show 3 ≤ 16777216 by decide), (show 3 ≤ 16777216 by decide), (show 2 ≤ 16777216 by decide), (show 3 ≤ 16777216 by decide), (show 3 ≤ 16777216 by decide), (show 2 ≤ 16777216 by decide), (show 3 ≤ 16777216 by decide), (show 1 ≤ 16777216 by decide), (show 5 ≤ 16777216 by decide), ?_⟩
  refine ⟨_, rfl, _, rfl, .list [eTM [(0, 0, 1), (1, 1, 0)], eTA [], eTM [(0, 0, 1), (1, 1, 0)], eTM [(1, 0, 1), (2, 0, 1)], eTM [(0, 2, 1)]], rfl, ok_lst (n := 5) (by decide) (fun d hd => ?_), q⟩
  simp only [List.mem_cons, List.not_mem_nil, or_false] at hd
  rcases hd with e | e | e | e | e
  · rw [e]; exact ok_TM (n := 2) (by decide)
  · rw [e]; exact ok_TA (n := 1) (by decide)
  · rw [e]; exact ok_TM (n := 2) (by decide)
  · rw [e]; exact ok_TM (n := 2) (by decide)
  · rw [e]; exact ok_TM (n := 2) (by decide)
end
end EvL

-- text C1
set_option Elab.async false
set_option linter.all false
set_option maxRecDepth 100000
set_option maxHeartbeats 4000000
/-! The law's ends: the cells of the script, the source of draws, the law. -/
namespace DL
open PySem PySem.Spec PyProof.Rows L2
theorem for_body {J : It} {D : Ends} {T : Addr → Prop} {G0 H0 G H G1 H1 : Hp} {ρ : List SV} {A : Nat → List Addr} {E : EndsD} {σ : L2.St} {xs : List PyData} {ws : List Nat} {g : TDG} {tb : TDS} (S : SR G H σ ρ A) (f : Fr0 T G0 H0 G H A) (k : EndOk T G0 H0 E D) (g1 : Grow G H G1 H1) (it : ItD J G1 xs)
    (I : Nat → List SV → Prop) (i0 : I 0 ρ) (turn : ∀ i x ρ1, xs[i]? = some x → I i ρ1 → g x ρ1 fun ρ2 => tb { nx := I (i + 1), rt := E.rt, bk := E.nx, ct := I (i + 1) } ρ2) (fin : ∀ ρ1, I xs.length ρ1 → E.nx ρ1) : tFor (fun _ _ R => R J H1) (tGt ws g) (tSt tb) D σ H := by
  have f1 := f.grow S.gh g1
  have S1 := S.grow g1
  refine ⟨fun i m σ' H' => m = xs.length - i ∧ i ≤ xs.length ∧ ∃ G' ρ' A', SR G' H' σ' ρ' A' ∧ Fr0 (TL T A) G1 H1 G' H' A' ∧ I i ρ', ⟨xs.length, by simp, Nat.zero_le _, G1, ρ, A, S1, Fr0.start, i0⟩, ?_⟩
  rintro i m σ2 H2 ⟨rfl, hi', G2, ρ2, A2, S2, f2, p2⟩
  obtain ⟨it1, it2⟩ := it G2 H2 f2.gg S2.gh
  by_cases hlt : i < xs.length
  · obtain ⟨x, hx⟩ : ∃ x, xs[i]? = some x := ⟨_, List.getElem?_eq_getElem hlt⟩
    obtain ⟨go, yl⟩ := it1 i x hx
    refine .inr ⟨go, fun σ' H' => i + 1 ≤ xs.length ∧ ∃ G' ρ' A', SR G' H' σ' ρ' A' ∧ Fr0 (TL T A) G1 H1 G' H' A' ∧ I (i + 1) ρ', fun σ' H' ⟨a, b⟩ => ⟨xs.length - (i + 1), by omega, rfl, a, b⟩, fun v H3 yv => ?_⟩
    obtain ⟨G3, g3, rv⟩ := yl v H3 yv
    refine ⟨G3, ρ2, A2, x, _, S2.grow g3, rv, turn i x ρ2 hx p2, fun σ4 ρ4 A4 p4 S4 t4 => ?_⟩
    exact ⟨TL T A, G1, H1, G3, ρ4, A4, _, S4, (f2.grow S2.gh g3).sub t4.ad, p4, fun ρ5 σ5 G5 H5 A5 p5 S5 f5 => ⟨hlt, G5, ρ5, A5, S5, f5, p5⟩, fun d ρ5 σ5 v G5 H5 A5 p5 S5 f5 r5 => k.2.1 d ρ5 σ5 v G5 H5 A5 p5 S5 (f1.out f5) r5,
      fun ρ5 σ5 G5 H5 A5 p5 S5 f5 => k.1 _ _ _ _ _ p5 S5 (f1.out f5), fun ρ5 σ5 G5 H5 A5 p5 S5 f5 => ⟨hlt, G5, ρ5, A5, S5, f5, p5⟩⟩
  · have e : i = xs.length := by omega
    subst e
    exact .inl ⟨it2 _ (Nat.le_refl _), k.1 _ _ _ _ _ (fin ρ2 p2) S2 (f1.out f2)⟩
end DL
namespace EvL
open PySem PySem.Spec PyProof.Rows L2 DL
section
variable {P : Program} {w : World} {K : PySem.W.Frag} {mg : Str → Option Value} {base : Heap}
def spCells (K : PySem.W.Frag) : Sp := fun vs H Q _ => ∃ (a : Addr) (ns : List Int), vs = [.ref a, .int 1] ∧ SqL K H a (ns.map V.int) ∧ ns.length ≤ 63 ∧ ∀ (l : Addr) (c : Int) (H' : Hp), Same H H' → H l = none → H' l = some (.lst [.int c]) → Q (.ref l) H'
theorem cutV_to (xs : List V) (k : Nat) : cutV xs none (some (k : Int)) = xs.take k := by
  unfold cutV
  have a1 : HT.sIx xs.length xs.length (some (k : Int)) = min k xs.length := by
    simp [HT.sIx]
    try omega
  have a2 : HT.sIx xs.length 0 none = 0 := by simp [HT.sIx]
  rw [a1, a2]
  simp [List.take_eq_take_iff]
theorem cutV_ints (ns : List Int) (lo hi : Option Int) : ∃ zs : List Int, cutV (ns.map V.int) lo hi = zs.map V.int ∧ zs.length ≤ ns.length := by
  unfold cutV
  refine ⟨_, by rw [← List.map_drop, ← List.map_take], ?_⟩
  rw [List.length_take, List.length_drop]
  omega
theorem SqL.same {K : PySem.W.Frag} {H H' : Hp} {a : Addr} {xs : List V} (s : Same H H') (h : SqL K H a xs) : SqL K H' a xs := by
  rcases h with (h | ⟨o, h⟩) | h
  · exact .inl (.inl (s _ _ h))
  · exact .inl (.inr ⟨o, s _ _ h⟩)
  · exact .inr h
theorem same_up {H : Hp} {p : Addr} {o : HO} (hp : H p = none) : Same H (upd H p o) := fun b o e => by rw [upd_ne (ne_of_none e hp)]; exact e
/-- one own list in slot 2, a number in slot 1 -/
theorem sr_cells {H : Hp} {l : Addr} {c : Int} {o : Option V} (h : H l = some (.lst [.int c])) : SR (fun _ => none) H [o, some (.int 1), some (.ref l), none, none, none] [.un, .sh (.int 1), .ow [.int c], .un, .un, .un] (fun i => if i = 2 then [l] else []) where
  gh := fun _ _ e => nomatch e
  at_ := fun i s e => by
    match i, e with
    | 0, e => cases e; rfl
    | 1, e => cases e; exact ⟨rfl, .int 1, rfl, .int 1⟩
    | 2, e => cases e; exact ⟨l, [.int c], rfl, rfl, h, .cons (.int c) .nil⟩
    | 3, e => cases e; rfl
    | 4, e => cases e; rfl
    | 5, e => cases e; rfl
    | i + 6, e => simp at e
  dis := fun i j a h1 h2 => by
    by_cases hi : i = 2
    · by_cases hj : j = 2
      · omega
      · rw [if_neg hj] at h2; cases h2
    · rw [if_neg hi] at h1; cases h1
  nod := fun i => by
    by_cases hi : i = 2
    · rw [if_pos hi]; simp
    · rw [if_neg hi]; exact List.nodup_nil
  own := fun i a h1 => by
    by_cases hi : i = 2
    · rw [if_pos hi] at h1
      rw [List.mem_singleton.mp h1, h]
      exact ⟨(fun z => nomatch z), rfl⟩
    · rw [if_neg hi] at h1; cases h1
  len := rfl
abbrev N_law_cells : List Str := ["_law_script", "_law_most_so", "_law_cells_so", "_law_k", "_law_cell_so", "_law_at_so"]
theorem sc_law_cells : FnScope N_law_cells ["_law_script", "_law_most_so"] (defScope s_law_cells) := ⟨rfl, rfl, rfl, by decide +kernel, rfl, by decide +kernel, by decide +kernel⟩
theorem o_law_cells (B : B0 K mg) : ∃ fd, FnOk P w K mg base CX0 2 (He.ga K "_law_cells") fd ["_law_script", "_law_most_so"] (spCells K) ∧ L2.Binds K fd ["_law_script", "_law_most_so"] [] ∧ PySem.W.keepIn K (.ref (He.ga K "_law_cells")) = true ∧ mg "_law_cells" = some (.ref (He.ga K "_law_cells")) := by
  have nd := sc_law_cells.nd
  obtain ⟨fd, F⟩ := B.says.def_ 36 (d := mkD "_law_cells" s_law_cells) rfl
  refine ⟨fd, F.ok sc_law_cells (by rintro vs H Q E ⟨_, _, rfl, _⟩; rfl) (fun cdv A outer s H vs Q E hr h => ⟨_, PSs.nox (pss_cons (ps_set (i := 2) nd rfl (Or.inl rfl) (pe_orT (pe_callTy call_list_of (by rfl) (f_list B) (by decide +kernel) (pa_cons (pe_slice sl_list (pv 0 rfl (Or.inl rfl)) po_none (po_some (pv 1 rfl (Or.inl rfl)))) pa_nil)) (pe_one (pe_lst (pa_cons pe_int pa_nil)))))
    (pss_cons (ps_for PassesOwn.never rfl (pi_enum (by rfl) (f_enumerate B) (pa_cons (pe_slice sl_list (pv 0 rfl (Or.inl rfl)) (po_some (pv 1 rfl (Or.inl rfl))) (po_some pe_int)) pa_nil)) (dg_tup rfl (dgs_cons (dg_name (pg_name (i := 3) nd rfl (Or.inl rfl))) (dgs_cons (dg_name (pg_name (i := 4) nd rfl (Or.inl rfl))) dgs_nil)))
      (dss_cons (ds_set (i := 5) nd rfl (Or.inl rfl) (DP.de (dp_op op_mod od_mod (dp_callTy call_int1 cd_int (by rfl) (f_int B) (by decide +kernel) (da_cons (dp_var (pv 3 rfl (Or.inl rfl))) da_nil)) (dp_var (pv 1 rfl (Or.inl rfl))))))
        (dss_one (ds_setI (pv 2 rfl (Or.inl rfl)) (dp_var (pv 5 rfl (Or.inl rfl))) (dp_op op_add3 od_add (dp_ixO (pv 2 rfl (Or.inl rfl)) (dp_var (pv 5 rfl (Or.inl rfl))) (fun _ _ => rfl)) (dp_op op_mul3 od_mul (dp_var (pv 4 rfl (Or.inl rfl))) (dp_op op_add3 od_add (dp_var (pv 3 rfl (Or.inl rfl))) dp_int)))))))
    (pss_one (ps_ret (pv 2 rfl (Or.inl rfl)))))), ?_⟩), FunD.bindsN F (fun _ _ _ _ _ _ us hl => match us, hl with | [_, _], _ => rfl), F.kp, B.glo _ (B.says.fact 36 (f := .glo "_law_cells") rfl)⟩
  obtain ⟨a, ns, rfl, hs, hl, q⟩ := h
  have rest : ∀ (l : Addr) (c : Int) (H2 : Hp), Same H H2 → H l = none → H2 l = some (.lst [.int c]) →
      tSeq (tFor (iEnum K (tCons (tSl (rSlL K) (tVar 0) (tPart (tVar 1)) (tPart (tC (V.int 63)))) tNil)) (DL.tGt [3, 4] (dgTup [3, 4]))
        (tSt (dThen (dSet 5 (dShE (dOp gMod (dApp gIntOf (dCons (dV 3) dNil)) (dV 1)))) (dSetI 2 (dV 5) (dOp gAdd (dIxO 2 (dV 5)) (dOp gMul (dV 4) (dOp gAdd (dV 3) (dC (PyData.int 2)))))))))
      (tRet (tVar 2)) { nx := fun x H' => Q V.non H', rt := Q } [some (.ref a), some (.int 1), some (.ref l), none, none, none] H2 := by
    intro l c H2 s2 hl0 hl2
    obtain ⟨zs, hz, zl⟩ := cutV_ints ns (some 1) (some 63)
    refine ⟨_, rfl, _, rfl, 1, rfl, 63, rfl, a, ns.map V.int, rfl, SqL.same s2 hs, fun p hp => ⟨p, _, rfl, SqL.of upd_same, ?_⟩⟩
    rw [hz]
    have g1 : Grow (fun _ => none) H2 (upd (fun _ => none) p (.lst (zs.map V.int))) (upd H2 p (.lst (zs.map V.int))) := Grow.new (fun _ _ e => nomatch e) hp
    refine for_body (J := Ite K p) (H1 := upd H2 p (.lst (zs.map V.int))) (G1 := upd (fun _ => none) p (.lst (zs.map V.int))) (T := fun _ => False) (G0 := fun _ => none) (H0 := H) (xs := enumD (zs.map .int)) (E := { nx := fun ρ => ∃ c : Int, ρ[2]? = some (.ow [.int c]), rt := fun _ _ => False })
      (sr_cells (o := some (.ref a)) hl2) ⟨fun b o e _ => s2 _ _ e, fun _ _ e => e, fun _ _ _ => rfl, fun i b hb => ?_, fun _ z => z.elim⟩ ⟨?_, fun _ _ _ _ _ _ _ z => z.elim, fun _ _ _ _ _ z => z.elim, fun _ _ _ _ _ z => z.elim⟩ g1 (itd_enum upd_same (RA.of_ints zs))
      (fun i ρ => ∃ (c : Int) (x3 x4 x5 : SV), ρ = [.un, .sh (.int 1), .ow [.int c], x3, x4, x5]) ⟨c, .un, .un, .un, rfl⟩ ?_ (fun ρ ⟨c, _, _, _, e⟩ => ⟨c, by rw [e]; rfl⟩)
    · by_cases hi : i = 2
      · rw [if_pos hi] at hb
        rw [List.mem_singleton.mp hb]
        exact .inl hl0
      · rw [if_neg hi] at hb; cases hb
    · rintro ρ σ G' H' A' ⟨c, e⟩ S' f'
      obtain ⟨l', vs, e1, e2, e3, e4⟩ := S'.at_ 2 _ e
      have ev : vs = [V.int c] := RA.ints (ns := [c]) e4
      refine ⟨_, e1, q l' c H' (fun b o e => f'.hh b o e fun z => z) ((f'.own 2 l' (by rw [e2]; exact List.mem_cons_self)).resolve_right fun z => z) (by rw [e3, ev])⟩
    · rintro i x ρ1 hx ⟨c, x3, x4, x5, rfl⟩
      obtain ⟨y, hy, rfl⟩ := enumD_get hx
      rw [List.getElem?_map] at hy
      have hlt := (List.getElem?_eq_some_iff.mp hx).1
      rw [enumD_length, List.length_map] at hlt
      cases hz' : zs[i]? with
      | none => rw [hz'] at hy; cases hy
      | some z =>
      rw [hz'] at hy
      have hy : PyData.int z = y := Option.some.inj hy
      subst hy
      have e0 : ((i : Int) % 1).toNat = 0 := by rw [Int.emod_one]; rfl
      refine ⟨_, rfl, rfl, ?_⟩
      refine ⟨_, rfl, .inl ⟨_, rfl, _, rfl, (show (0 : Int) < 1 by decide), ?_⟩⟩
      refine ⟨_, rfl, _, rfl, (i : Int) % 1, .int c, rfl, by omega, by rw [e0]; rfl, _, rfl, _, rfl, cmul_r (by omega) (by omega), _, rfl, _, rfl, (i : Int) % 1, rfl, by omega, by show (i : Int) % 1 < 1; omega, c + z * ((i : Int) + 2), .sh (.int (i : Nat)), .sh (.int z), .sh (.int ((i : Int) % 1)), ?_⟩
      rw [e0]
      rfl
  refine ⟨_, rfl, _, rfl, 1, rfl, a, ns.map V.int, rfl, hs, fun p hp => ⟨p, _, rfl, .inl (SqL.of upd_same), fun l hl => ⟨_, .inl ⟨_, SqL.of upd_same, rfl⟩, ?_⟩⟩⟩
  rw [show cutV (ns.map V.int) none (some 1) = (ns.map V.int).take 1 from cutV_to _ 1] at hl ⊢
  have s1 : Same H _ := same_up (o := .lst ((ns.map V.int).take 1)) hp
  have s2 := s1.trans (same_up (o := .lst ((ns.map V.int).take 1)) hl)
  cases ns with
  | nil => exact ⟨by show 1 ≤ sizeLine; rw [sizeLine_eq]; decide, fun l2 hl2 => rest l2 0 _ (s2.trans (same_up hl2)) (sameNone s2 hl2) upd_same⟩
  | cons n ns' => exact rest l n _ s2 (sameNone s1 hl) upd_same
end
end EvL

-- text C2
set_option Elab.async false
set_option linter.all false
set_option maxRecDepth 100000
set_option maxHeartbeats 4000000
/-! The source of draws, the law. -/
namespace EvL
open PySem PySem.Spec PyProof.Rows L2 DL
section
variable {P : Program} {w : World} {K : PySem.W.Frag} {mg : Str → Option Value} {base : Heap}
theorem b01 : ∀ b : Bool, -10000000000000000 ≤ (if b = true then (1 : Int) else 0) ∧ (if b = true then (1 : Int) else 0) ≤ 10000000000000000 := by decide
def spBox : Sp := fun vs H Q _ => ∃ (l : Addr) (c : Int), vs = [.ref l, .int 0] ∧ H l = some (.lst [.int c]) ∧ ∀ (l' : Addr) (x y : Int) (H' : Hp), Same H H' → H l' = none → 0 ≤ y → y < 2 ^ 62 → H' l' = some (.lst [.int x, .int y, .int 0]) → Q (.ref l') H'
abbrev N_law_box : List Str := ["_law_script", "_law_k", "_law_cell_so"]
theorem sc_law_box : FnScope N_law_box ["_law_script", "_law_k"] (defScope s_law_box) := ⟨rfl, rfl, rfl, by decide +kernel, rfl, by decide +kernel, by decide +kernel⟩
theorem o_law_box (B : B0 K mg) : ∃ fd, FnOk P w K mg base CX0 2 (He.ga K "_law_box") fd ["_law_script", "_law_k"] spBox ∧ L2.Binds K fd ["_law_script", "_law_k"] [] ∧ PySem.W.keepIn K (.ref (He.ga K "_law_box")) = true ∧ mg "_law_box" = some (.ref (He.ga K "_law_box")) := by
  have nd := sc_law_box.nd
  obtain ⟨fd, F⟩ := B.says.def_ 34 (d := mkD "_law_box" s_law_box) rfl
  refine ⟨fd, F.ok sc_law_box (by rintro vs H Q E ⟨_, _, rfl, _⟩; rfl) (fun cdv A outer s H vs Q E hr h => ⟨_, PSs.nox (pss_cons (ds_set (i := 2) nd rfl (Or.inl rfl) (DP.de (dp_if (dt_cmp op_lt od_lt (dp_var (pv 1 rfl (Or.inl rfl))) (dp_callB call_len cd_len (by rfl) (f_len B) (by decide +kernel) (da_cons (dp_var (pv 0 rfl (Or.inl rfl))) da_nil)) (nomark _)) (dp_ix (dp_var (pv 0 rfl (Or.inl rfl))) (dp_var (pv 1 rfl (Or.inl rfl))) (fun _ _ => rfl)) dp_int)))
    (pss_one (ps_ret (df_lst (da_cons (dp_op op_mul3 od_mul (dp_callB call_abs cd_abs (by rfl) (f_abs B) (by decide +kernel) (da_cons (dp_var (pv 2 rfl (Or.inl rfl))) da_nil)) (dp_callTy call_int1 cd_int (by rfl) (f_int B) (by decide +kernel) (da_cons (dp_cmp op_ge od_ge (dp_callB call_abs cd_abs (by rfl) (f_abs B) (by decide +kernel) (da_cons (dp_var (pv 2 rfl (Or.inl rfl))) da_nil)) (dp_op op_pow od_pow dp_int dp_int) (nomark _)) da_nil)))
      (da_cons (dp_op op_add3 od_add (dp_op op_add3 od_add (dp_op op_mod od_mod (dp_callTy call_int1 cd_int (by rfl) (f_int B) (by decide +kernel) (da_cons (dp_var (pv 2 rfl (Or.inl rfl))) da_nil)) dp_int) (dp_op op_mul3 od_mul dp_int (dp_var (pv 1 rfl (Or.inl rfl))))) dp_int) (da_cons dp_int da_nil))))))), ?_⟩), FunD.bindsN F (fun _ _ _ _ _ _ us hl => match us, hl with | [_, _], _ => rfl), F.kp, B.glo _ (B.says.fact 34 (f := .glo "_law_box") rfl)⟩
  obtain ⟨l, c, rfl, hl, q⟩ := h
  have s0 : Same (upd (fun _ => none) l (.lst [.int c])) H := fun b o e => by
    by_cases hb : b = l
    · subst hb; rw [upd_same] at e; cases e; exact hl
    · rw [upd_ne hb] at e; cases e
  have r0 : RA (upd (fun _ => none) l (.lst [V.int c])) [.ref l, .int 0] [.list [.int c], .int 0] := .cons (.lst upd_same (.cons (.int c) .nil)) (.cons (.int 0) .nil)
  refine ⟨fun _ => False, _, H, _, startD N_law_box [.list [.int c], .int 0], fun _ => [], { nx := fun ρ => ρ = [.sh (.list [.int c]), .sh (.int 0), .sh (.int c)], rt := fun _ _ => False }, start_sr s0 r0, ⟨fun _ _ e _ => e, fun _ _ e => e, fun _ _ _ => rfl, (fun _ _ h => nomatch h), fun _ h => False.elim h⟩, ?_, ?_, fun _ _ _ _ _ _ _ z => z.elim, fun _ _ _ _ _ z => z.elim, fun _ _ _ _ _ z => z.elim⟩
  · exact ⟨_, rfl, _, rfl, _, _, rfl, rfl, _, rfl, _, rfl, _, rfl, by decide, _, rfl, rfl⟩
  · rintro ρ σ G' H' A' rfl S' f'
    refine ⟨G', _, A', fun ds => ∃ x y : Int, ds = [.int x, .int y, .int 0] ∧ 0 ≤ y ∧ y < 2 ^ 62, S', ?_, fun ds vs l' G2 H2 ⟨x, y, e, y0, y1⟩ g h0 h1 h2 r2 => ?_⟩
    · have y0 := Int.emod_nonneg c (show (2305843009213693951 : Int) ≠ 0 by decide)
      have y1 := Int.emod_lt_of_pos c (show (0 : Int) < 2305843009213693951 by decide)
      have two : (2 : Int) ^ 62 = 4611686018427387904 := rfl
      exact ⟨_, rfl, _, rfl, _, rfl, _, rfl, ⟨by decide, by decide, by decide⟩, .inr ⟨_, rfl, cmul_r (b01 _).1 (b01 _).2, _, rfl, .inl ⟨_, rfl, (show (0 : Int) < 2305843009213693951 by decide), _, rfl, cmul_r (by decide) (by decide), by show 3 ≤ 16777216; decide, _, _, rfl, by omega, by omega⟩⟩⟩
    · subst e
      have ev : vs = [.int x, .int y, .int 0] := RA.ints (ns := [x, y, 0]) r2
      have s1 : Same H H' := fun b o e => f'.hh b o e fun z => z
      refine q l' x y H2 (s1.trans g.hh) (sameNone s1 h0) y0 y1 (by rw [h2, ev])
def spLaw (K : PySem.W.Frag) : Sp := fun vs H Q _ => ∃ (a : Addr) (ns : List Int), vs = [.ref a] ∧ SqL K H a (ns.map V.int) ∧ ns.length ≤ 63 ∧ Only H ∧ ∀ H', Q (.bl true) H'
theorem sc_law : FnScope ["_law_script"] ["_law_script"] (defScope s_law) := ⟨rfl, rfl, rfl, by decide +kernel, rfl, by decide +kernel, by decide +kernel⟩
theorem o_law (B : B0 K mg) {fd : FuncData} (F : FunD K "law" "law" (defArgs s_law) (defBody s_law) (defScope s_law) [] [] (He.ga K "law") fd) : FnOk P w K mg base CX0 30 (He.ga K "law") fd ["_law_script"] (spLaw K) := by
  have nd := sc_law.nd
  obtain ⟨fh, Fh, bh, kh, mh⟩ := o_law_by_hand_right (P := P) (w := w) (base := base) B
  obtain ⟨fr, Fr, br, kr, mr⟩ := o_law_right (P := P) (w := w) (base := base) B
  obtain ⟨fb, Fb, bb, kb, mb⟩ := o_law_box (P := P) (w := w) (base := base) B
  obtain ⟨fc, Fc, bc, kc, mc⟩ := o_law_cells (P := P) (w := w) (base := base) B
  refine F.ok (k := 29) sc_law (by rintro vs H Q E ⟨_, _, rfl, _⟩; rfl) (fun cdv A outer s H vs Q E hr h => ⟨_, PSs.nox (pss_one (ps_ret (pe_and (pe_call0 Fh (hr.mono (by decide)) (by rfl) mh kh bh .nil pass0)
    (pe_one (pe_call Fr (hr.mono (by decide)) (by rfl) mr kr br .nil pass0 (pa_cons (pe_call Fb (hr.mono (by decide)) (by rfl) mb kb bb .nil pass0 (pa_cons (pe_call Fc (hr.mono (by decide)) (by rfl) mc kc bc .nil pass0 (pa_cons (pv 0 rfl (Or.inl rfl)) (pa_cons pe_int pa_nil))) (pa_cons pe_int pa_nil))) pa_nil)))))), ?_⟩)
  obtain ⟨a, ns, rfl, hs, hl, hO, q⟩ := h
  refine ⟨fun _ => none, [], fun d => d = .bool true, fun _ _ e => (nomatch e), .nil, ⟨rfl, rfl⟩, fun d v G1 H1 e g r => ?_⟩
  subst e
  refine ⟨true, r.bl_of, ?_⟩
  refine ⟨_, rfl, a, ns, rfl, SqL.same g.hh hs, hl, fun l c H2 s2 hl0 hl2 => ⟨l, c, rfl, hl2, fun l' x y H3 s3 hl0' y0 y1 hl3 => ?_⟩⟩
  refine ⟨fun _ => none, [], 0, fun d _ => d = .bool true, l', [], rfl, fun _ _ e => (nomatch e), rfl, ⟨x, y, 0, hl3, Int.le_refl _, Int.le_refl _, y0, y1⟩, .nil, ⟨rfl, by decide, fun m => rfl⟩, fun d v m G4 H4 e g4 t4 r4 => ?_⟩
  subst e
  rw [r4.bl_of]
  exact q H4
theorem facts {h : Heap} {f : Addr} (X : K.In h) (G : h.Ns mainGlobals mg) (hfa : mg ("law" : Str) = some (.ref f)) (c : He.SaysD fal fnl K) :
    ∃ fd : FuncData, (∀ (s : Shared) (v : Value), BindsTo s fd ⟨[v], []⟩ [("_law_script", v)]) ∧ ∀ base : Heap, K.In base → base.Ns mainGlobals mg → FnOk P w K mg base CX0 30 f fd ["_law_script"] (spLaw K) := by
  have B : B0 K mg := ⟨c, fun x h => He.glo_ok X G h, fun x h => He.free_ok X G h, fun x i h => He.int_ok X G h⟩
  obtain ⟨fd, F⟩ := B.says.def_ 59 (d := mkD "law" s_law) rfl
  have e : f = He.ga K "law" := by
    have := B.glo _ (B.says.fact 59 (f := .glo "law") rfl)
    rw [hfa] at this
    cases this
    rfl
  subst e
  refine ⟨fd, fun s v => ?_, fun base _ _ => o_law B F⟩
  obtain ⟨oc, od, dV, kV, doc, pm, an, cdv, ct, osl, rfl, lk, hcd, hD, hK⟩ := F.ex
  rcases hD with ⟨_, rfl⟩ | ⟨e, _⟩
  · exact .of_eq rfl
  · exact absurd rfl e
end
end EvL

-- text E1
set_option Elab.async false
set_option linter.all false
set_option maxRecDepth 100000
set_option maxHeartbeats 0
open PySem PySem.W PySem.Calls PyProof.Rows
theorem PySem.Challenge.cw_evenlifts_k37_whole_orders_are_what_can_holds : PySem.Challenge.rw_evenlifts_k37_whole_orders_are_what_can.Holds := by
  w_on; o_law
  refine HandSHeadRun.head_any (r := OpenLaw.row PySem.Challenge.rw_evenlifts_k37_whole_orders_are_what_can) (q := view (OpenLaw.row PySem.Challenge.rw_evenlifts_k37_whole_orders_are_what_can).prog [71]) (H := EvL.hk) (ob := EvL.ob) (M := 3000) (loose := EvL.nml) (d := HandSHeadRun.topDef (OpenLaw.row PySem.Challenge.rw_evenlifts_k37_whole_orders_are_what_can).prog 71) (kwd := []) EvL.ob_eq
    (by kernel_rfl) (fun s => by kernel_rfl) EvL.run (by kernel_rfl) (by kernel_rfl) (by kernel_rfl) (by rfl) (by first | assumption | decide +kernel) (by decide +kernel) ⟨rfl, rfl, rfl, rfl, rfl, by decide +kernel⟩ ?hw ?hc
  case hw => w_witness2
  case hc =>
    refine L2.walk_ofE (l := PySem.Challenge.rw_evenlifts_k37_whole_orders_are_what_can) (n := 63) (k := 30) (x := "_law_script") (CX := L2.CX0) rfl (by decide) (by kernel_rfl) ⟨rfl, by decide, by decide⟩ ?F (fun _ _ _ _ z => z)
    intro w mg fa h Y G hmg0
    obtain ⟨K, KX, c⟩ := Y
    have hmg : mg ("law" : PySem.Str) = some (.ref fa) := by
      have e : (HandSHeadRun.topDef (OpenLaw.row PySem.Challenge.rw_evenlifts_k37_whole_orders_are_what_can).prog 71).name = ("law" : PySem.Str) := by kernel_rfl
      rw [← e]
      exact hmg0
    obtain ⟨fd, hb, hF⟩ := EvL.facts (P := (PySem.Challenge.rw_evenlifts_k37_whole_orders_are_what_can).prog) (w := w) KX G hmg c
    exact ⟨K, fd, EvL.spLaw K, KX, hb, fun H a ns hl hO hS => ⟨a, ns, rfl, hS, hl, hO, fun _ => rfl⟩, hF⟩

