import PyProof.Rows.All
import Wide.All
import OpenK.AllK
import Wide.FinOn
import PyProof.ReprRoads
import HandS.ForMost
import HandS.ForExc
import HandS.IsInst
import HandS.Defaults
import HandS.MakeKw
import HandS.Deep
import HandS.ListItems
import HandS.Lambda
import HandS.HotCalls
import HandS.ExcCtx
import HandS.ExcInit
import HandS.ExcInitHot
import HandS.ExcIs
import HandS.ExcField
import HandS.EndTab
import HandS.Small
import HandS.FStr
import HandS.Wide
import HandS.WideBits
import HandS.CallLocal
import HandS.Set
import HandS.SetBool
import HandS.More
import HandS.SetFor
import HandS.Walk
import HandS.Conv
import KE.KExcIs
import HandS.DeepEq
import HandS.Style
import KE.OsGo
import PySem.Challenge.RW_letdays_k23_whole_days_of_deals
set_option Elab.async false
set_option linter.all false
set_option maxRecDepth 100000
set_option maxHeartbeats 4000000
namespace Ld
open PySem L2
/-! the text by places -/
def top (i : Nat) : Stmt := PySem.Challenge.pw_letdays_k23_whole_days_of_deals.main.body.getD i (.Pass ⟨0, 0, 0, 0⟩)
abbrev sIsInteger : Stmt := top 5
abbrev sIsCount : Stmt := top 6
abbrev sIsList : Stmt := top 7
abbrev sIsName : Stmt := top 8
abbrev sIsMoment : Stmt := top 9
abbrev sIsPoint : Stmt := top 10
abbrev sWrongName : Stmt := top 11
abbrev sNumI : Stmt := inClass (top 16) 0
abbrev sDatesI : Stmt := inClass (top 17) 0
abbrev sDealXI : Stmt := inClass (top 18) 0
abbrev sWantName : Stmt := top 26
abbrev sWantNames : Stmt := top 27
abbrev sWantFew : Stmt := top 28
abbrev sWantPoints : Stmt := top 29
abbrev sDayOf : Stmt := top 30
abbrev sInit : Stmt := inClass (top 31) 0
abbrev sCells : Stmt := inClass (top 31) 10
abbrev sMoments : Stmt := inClass (top 31) 11
abbrev sPoints : Stmt := inClass (top 31) 15
abbrev sDays : Stmt := inClass (top 31) 21
abbrev sIsOn : Stmt := inClass (top 31) 22
abbrev sTouches : Stmt := inClass (top 31) 23
abbrev sAnd : Stmt := inClass (top 31) 24
abbrev sRepr : Stmt := inClass (top 31) 28
abbrev sPot : Stmt := top 33
abbrev sDraw : Stmt := top 34
abbrev sPick : Stmt := top 35
abbrev sSome : Stmt := top 36
abbrev sChart : Stmt := top 37
abbrev sPact : Stmt := top 38
abbrev sDeal : Stmt := top 40
abbrev sLCells : Stmt := top 41
abbrev sStretch : Stmt := top 43
abbrev sHeard : Stmt := top 44
abbrev sDaysR : Stmt := top 45
abbrev sSpoiltR : Stmt := top 46
abbrev sPairR : Stmt := top 47
abbrev sRight : Stmt := top 48
abbrev sLaw : Stmt := top 49
example : (match sPairR with | .FunctionDef n .. => n | _ => "") = ("_law_pair_right" : Str) := by decide +kernel
example : (match sRepr with | .FunctionDef n .. => n | _ => "") = ("__repr__" : Str) := by decide +kernel
end Ld
namespace Ld
open PySem L2
/-! ### heaps that only grow -/
theorem same_upd {H : Hp} {p : Addr} {o : HO} (n : H p = none) : Same H (upd H p o) := fun b u e => by
  rw [upd_ne (ne_of_none e n)]
  exact e

/-! ### data in the abstract heap -/
def kD : Key → PyData
  | .inl i => .int i
  | .inr x => .str x
mutual
inductive Sh (H : Hp) : V → PyData → Prop
  | non : Sh H .non .none
  | bl (b : Bool) : Sh H (.bl b) (.bool b)
  | int (i : Int) : Sh H (.int i) (.int i)
  | str (x : Str) : Sh H (.str x) (.str x)
  | lst {a : Addr} {xs : List V} {ds : List PyData} : H a = some (.lst xs) → ShAll H xs ds → Sh H (.ref a) (.list ds)
  | tup {a : Addr} {xs : List V} {ds : List PyData} : H a = some (.tup xs) → ShAll H xs ds → Sh H (.ref a) (.tuple ds)
  | dct {a : Addr} {kvs : List (Key × V)} {ds : List (PyData × PyData)} : H a = some (.dK kvs) → ShKv H kvs ds → Sh H (.ref a) (.dict ds)
inductive ShAll (H : Hp) : List V → List PyData → Prop
  | nil : ShAll H [] []
  | cons {v : V} {vs : List V} {d : PyData} {ds : List PyData} : Sh H v d → ShAll H vs ds → ShAll H (v :: vs) (d :: ds)
inductive ShKv (H : Hp) : List (Key × V) → List (PyData × PyData) → Prop
  | nil : ShKv H [] []
  | cons {k : Key} {v : V} {r : List (Key × V)} {d : PyData} {ds : List (PyData × PyData)} : Sh H v d → ShKv H r ds → ShKv H ((k, v) :: r) ((kD k, d) :: ds)
end
section
variable {H H' : Hp}
mutual
theorem Sh.same (s : Same H H') : ∀ {v : V} {d : PyData}, Sh H v d → Sh H' v d
  | _, _, .non => .non
  | _, _, .bl b => .bl b
  | _, _, .int i => .int i
  | _, _, .str x => .str x
  | _, _, .lst e h => .lst (s _ _ e) (ShAll.same s h)
  | _, _, .tup e h => .tup (s _ _ e) (ShAll.same s h)
  | _, _, .dct e h => .dct (s _ _ e) (ShKv.same s h)
theorem ShAll.same (s : Same H H') : ∀ {v : List V} {d : List PyData}, ShAll H v d → ShAll H' v d
  | _, _, .nil => .nil
  | _, _, .cons a b => .cons (Sh.same s a) (ShAll.same s b)
theorem ShKv.same (s : Same H H') : ∀ {v : List (Key × V)} {d : List (PyData × PyData)}, ShKv H v d → ShKv H' v d
  | _, _, .nil => .nil
  | _, _, .cons a b => .cons (Sh.same s a) (ShKv.same s b)
end
mutual
theorem Sh.dp {K : PySem.W.Frag} : ∀ {v : V} {d : PyData}, Sh H v d → d.hasDict = false → Dp K H v d
  | _, _, .non, _ => .non
  | _, _, .bl b, _ => .bl b
  | _, _, .int i, _ => .int i
  | _, _, .str x, _ => .str x
  | _, _, .lst e h, n => .lst (SqL.of e) (ShAll.dp h (by simpa [PyData.hasDict] using n))
  | _, _, .tup e h, n => .tup (SqT.of e) (ShAll.dp h (by simpa [PyData.hasDict] using n))
  | _, _, .dct e h, n => by simp [PyData.hasDict] at n
theorem ShAll.dp {K : PySem.W.Frag} : ∀ {v : List V} {d : List PyData}, ShAll H v d → PyData.hasDictAll d = false → DpAll K H v d
  | _, _, .nil, _ => .nil
  | _, _, .cons a b, n => by
    simp only [PyData.hasDictAll, Bool.or_eq_false_iff] at n
    exact .cons (Sh.dp a n.1) (ShAll.dp b n.2)
end
theorem ShAll.length : ∀ {v : List V} {d : List PyData}, ShAll H v d → v.length = d.length
  | _, _, .nil => rfl
  | _, _, .cons _ b => by simp [ShAll.length b]
theorem ShAll.get : ∀ {v : List V} {d : List PyData}, ShAll H v d → ∀ {i : Nat} {x : V}, v[i]? = some x → ∃ e, d[i]? = some e ∧ Sh H x e
  | _, _, .nil, i, x, q => by simp at q
  | _, _, .cons a b, 0, x, q => by
    simp at q
    subst q
    exact ⟨_, rfl, a⟩
  | _, _, .cons a b, i + 1, x, q => by
    obtain ⟨e, h1, h2⟩ := ShAll.get b (i := i) (x := x) (by simpa using q)
    exact ⟨e, by simpa using h1, h2⟩
theorem ShAll.append : ∀ {v w : List V} {d e : List PyData}, ShAll H v d → ShAll H w e → ShAll H (v ++ w) (d ++ e)
  | _, _, _, _, .nil, h => h
  | _, _, _, _, .cons a b, h => .cons a (ShAll.append b h)
theorem ShKv.append : ∀ {v w : List (Key × V)} {d e : List (PyData × PyData)}, ShKv H v d → ShKv H w e → ShKv H (v ++ w) (d ++ e)
  | _, _, _, _, .nil, h => h
  | _, _, _, _, .cons a b, h => .cons a (ShKv.append b h)
theorem ShAll.strs : ∀ (l : List Str), ShAll H (l.map V.str) (l.map PyData.str)
  | [] => .nil
  | x :: r => .cons (.str x) (ShAll.strs r)
end

/-! ### from the abstract heap to the heap -/
section
variable {P : Program} {w : World} {H : Hp} {h : Heap}
theorem kD_rel {k : Key} {u : Value} (e : keyIs k u = true) : Reads h u (kD k) [] := by
  rcases keyIs_shape e with ⟨i, t, rfl, rfl⟩ | ⟨x, t, rfl, rfl⟩
  · exact .int i t
  · exact .str x t
/-- the entries of a dict, side by side with its keys and values -/
theorem kv_sides {es : List DictEntry} {vs : List (Key × Value)} {kvs : List (Key × V)} (hp : Pairs (mixKind P w) es vs) (hr : KV kvs vs) :
    (∀ {ds : List (PyData × PyData)}, ShKv H kvs ds → ∃ as, ReadsAll h (es.map (·.key)) (ds.map (·.1)) as) ∧ Vals (kvs.map (·.2)) (es.map (·.val)) := by
  induction hr generalizing es with
  | nil =>
    cases hp
    exact ⟨fun q => by cases q; exact ⟨_, .nil⟩, .nil⟩
  | @cons p q l1 l2 r t ih =>
    obtain ⟨k1, v1⟩ := p
    obtain ⟨k2, v2⟩ := q
    obtain ⟨rfl, rv⟩ := r
    cases es with
    | nil => cases hp
    | cons e es =>
      cases hp with
      | cons h1 h2 h3 =>
        obtain ⟨a, b⟩ := ih h3
        refine ⟨fun q => ?_, .cons (by show RelV v1 e.val; rw [h2]; exact rv) b⟩
        cases q with
        | cons s1 s2 =>
          obtain ⟨as, z⟩ := a s2
          exact ⟨_, .cons (kD_rel h1) z⟩
theorem keys_flat : ∀ {kvs : List (Key × V)} {ds : List (PyData × PyData)}, ShKv H kvs ds → PyData.hasDictAll (ds.map (·.1)) = false
  | _, _, .nil => rfl
  | _, _, .cons (k := k) _ r => by
    have e := keys_flat r
    cases k <;> simp [PyData.hasDictAll, kD, PyData.hasDict, e]
/-- what stands at a tracked list, tuple, dict -/
theorem at_lst (ok : HOk P w H h) {a : Addr} {xs : List V} (e : H a = some (.lst xs)) : ∃ (o : Obj) (its : List Value) (n : Nat), Vals xs its ∧ h.get? a = some o ∧ o.cls = .type "list" ∧ o.data = .seq its.toArray n := by
  obtain ⟨_, its, n, r, q⟩ := (show ObjOk P w H h a (.lst xs) from ok a _ e)
  exact ⟨_, its, n, r, q, rfl, rfl⟩
theorem at_tup (ok : HOk P w H h) {a : Addr} {xs : List V} (e : H a = some (.tup xs)) : ∃ (o : Obj) (its : List Value) (n : Nat), Vals xs its ∧ h.get? a = some o ∧ o.cls = .type "tuple" ∧ o.data = .seq its.toArray n := by
  obtain ⟨_, its, r, o, q1, q2, n, q3⟩ := (show ObjOk P w H h a (.tup xs) from ok a _ e)
  exact ⟨o, its, n, r, q1, q2, q3⟩
theorem at_dct (ok : HOk P w H h) {a : Addr} {kvs : List (Key × V)} (e : H a = some (.dK kvs)) :
    ∃ (o : Obj) (es : Array DictEntry) (n : Nat) (vs : List (Key × Value)), (a == sysModules) = false ∧ KV kvs vs ∧ h.get? a = some o ∧ o.cls = .type "dict" ∧ o.data = .dict es n ∧ Pairs (mixKind P w) es.toList vs := by
  obtain ⟨_, hs, vs, r, o, es, ep, q1, q2, q3, _, q4, _⟩ := (show ObjOk P w H h a (.dK kvs) from ok a _ e)
  exact ⟨o, es, ep, vs, hs, r, q1, q2.1, q3, q4⟩
mutual
theorem Sh.reads (ok : HOk P w H h) : ∀ {v : V} {d : PyData}, Sh H v d → ∀ {u : Value}, RelV v u → ∃ as, Reads h u d as
  | _, _, .non, _, r => by cases r; exact ⟨_, .none⟩
  | _, _, .bl b, _, r => by cases r; exact ⟨_, .bool b⟩
  | _, _, .int i, _, r => by obtain ⟨t, rfl⟩ := r; exact ⟨_, .int i t⟩
  | _, _, .str x, _, r => by obtain ⟨t, rfl⟩ := r; exact ⟨_, .str x t⟩
  | _, _, .lst e q, _, r => by
    cases r
    obtain ⟨o, its, n, rv, h1, h2, h3⟩ := at_lst ok e
    obtain ⟨as, z⟩ := ShAll.reads ok q rv
    exact ⟨_, .list h1 h2 h3 z⟩
  | _, _, .tup e q, _, r => by
    cases r
    obtain ⟨o, its, n, rv, h1, h2, h3⟩ := at_tup ok e
    obtain ⟨as, z⟩ := ShAll.reads ok q rv
    exact ⟨_, .tuple h1 h2 h3 z⟩
  | _, _, .dct e q, _, r => by
    cases r
    obtain ⟨o, es, n, vs, _, kv, h1, h2, h3, h4⟩ := at_dct ok e
    obtain ⟨k1, k2⟩ := kv_sides (h := h) h4 kv
    obtain ⟨as, z1⟩ := k1 q
    obtain ⟨bs, z2⟩ := ShKv.reads ok q k2
    exact ⟨_, .dict h1 h2 h3 z1 z2⟩
theorem ShAll.reads (ok : HOk P w H h) : ∀ {v : List V} {d : List PyData}, ShAll H v d → ∀ {u : List Value}, Vals v u → ∃ as, ReadsAll h u d as
  | _, _, .nil, _, r => by cases r; exact ⟨_, .nil⟩
  | _, _, .cons a b, _, r => by
    cases r with
    | cons r1 r2 =>
      obtain ⟨as, z1⟩ := Sh.reads ok a r1
      obtain ⟨bs, z2⟩ := ShAll.reads ok b r2
      exact ⟨_, .cons z1 z2⟩
theorem ShKv.reads (ok : HOk P w H h) : ∀ {v : List (Key × V)} {d : List (PyData × PyData)}, ShKv H v d → ∀ {u : List Value}, Vals (v.map (·.2)) u → ∃ as, ReadsAll h u (d.map (·.2)) as
  | _, _, .nil, _, r => by cases r; exact ⟨_, .nil⟩
  | _, _, .cons a b, _, r => by
    cases r with
    | cons r1 r2 =>
      obtain ⟨as, z1⟩ := Sh.reads ok a r1
      obtain ⟨bs, z2⟩ := ShKv.reads ok b r2
      exact ⟨_, .cons z1 z2⟩
end
theorem depth_lt_list {ds : List PyData} : PyData.depthAll ds < (PyData.list ds).depth := by
  simp only [PyData.depth]
  omega
theorem depth_lt_tuple {ds : List PyData} : PyData.depthAll ds < (PyData.tuple ds).depth := by
  simp only [PyData.depth]
  omega
theorem depth_lt_dict {ds : List (PyData × PyData)} : PyData.depthKv ds < (PyData.dict ds).depth := by
  simp only [PyData.depth]
  omega
/-- how each item shows, and how deep what is read for it lies -/
abbrev Shows (P : Program) (w : World) (h : Heap) (u : Value) (d : PyData) : Prop := ∃ bs, ReadAtMost h d.depth bs ∧ ReprK P w bs h d.depth u d.shown
abbrev ShowsAll (P : Program) (w : World) (h : Heap) (us : List Value) (ds : List PyData) : Prop := ∃ bs, ReadAtMost h (PyData.depthAll ds) bs ∧ ReprAllK P w bs h (PyData.depthAll ds) us (PyData.shownAll ds)
theorem shows_leaf {u : Value} {d : PyData} (q : ReprIs P w u d.shown) : Shows P w h u d := ⟨[], (fun _ z => nomatch z), .of_is q _ _ _⟩
theorem shows_cons {u : Value} {us : List Value} {d : PyData} {ds : List PyData} (a : Shows P w h u d) (b : ShowsAll P w h us ds) : ShowsAll P w h (u :: us) (d :: ds) := by
  obtain ⟨b1, p1, k1⟩ := a
  obtain ⟨b2, p2, k2⟩ := b
  have m1 : d.depth ≤ PyData.depthAll (d :: ds) := by simp only [PyData.depthAll]; omega
  have m2 : PyData.depthAll ds ≤ PyData.depthAll (d :: ds) := by simp only [PyData.depthAll]; omega
  refine ⟨b1 ++ b2, (p1.mono m1).append (p2.mono m2), ?_⟩
  simp only [PyData.shownAll]
  exact .cons ((k1.more fun _ z => List.mem_append_left _ z).level_le m1) (k2.more_le (fun _ z => List.mem_append_right _ z) m2)
mutual
theorem Sh.shows (ok : HOk P w H h) : ∀ {v : V} {d : PyData}, Sh H v d → d.showable = true → d.shown.length ≤ sizeLine → ∀ {u : Value}, RelV v u → Shows P w h u d
  | _, _, .non, _, _, _, r => by cases r; exact shows_leaf ReprIs.none
  | _, _, .bl b, _, _, _, r => by cases r; exact shows_leaf (by simp only [PyData.shown]; exact ReprIs.bool b)
  | _, _, .int i, hs, _, _, r => by obtain ⟨t, rfl⟩ := r; exact shows_leaf (by simp only [PyData.shown]; exact ReprIs.int t (by simpa [PyData.showable] using hs))
  | _, _, .str x, _, hz, _, r => by obtain ⟨t, rfl⟩ := r; exact shows_leaf (by simp only [PyData.shown]; exact ReprIs.str x t (by simpa only [PyData.shown] using hz))
  | _, _, .lst e q, hs, hz, _, r => by
    have rd := Sh.reads ok (.lst e q) r
    cases r
    obtain ⟨as, rd⟩ := rd
    obtain ⟨o, its, n, rv, h1, h2, h3⟩ := at_lst ok e
    simp only [PyData.shown] at hz
    obtain ⟨bs, p, k⟩ := ShAll.shows ok q (by simpa [PyData.showable] using hs) (fun t ht => Nat.le_trans (listText_mem_le ht) hz) rv
    have na := not_mem_of_deeper rd depth_lt_list p
    refine ⟨_ :: bs, ReadAtMost.cons rd (Nat.le_of_lt depth_lt_list) p, ?_⟩
    simp only [PyData.depth, PyData.shown]
    cases rv with
    | nil =>
      cases q
      simp only [PyData.shownAll, listText_nil]
      exact ReprK.listEmpty h1 h2 h3
    | cons r1 r2 => exact ReprK.list h1 h2 h3 na (by simpa using k.length_eq) (fun i y z => k.item i y (by simpa using z))
  | _, _, .tup e q, hs, hz, _, r => by
    have rd := Sh.reads ok (.tup e q) r
    cases r
    obtain ⟨as, rd⟩ := rd
    obtain ⟨o, its, n, rv, h1, h2, h3⟩ := at_tup ok e
    simp only [PyData.shown] at hz
    obtain ⟨bs, p, k⟩ := ShAll.shows ok q (by simpa [PyData.showable] using hs) (fun t ht => Nat.le_trans (tupleText_mem_le ht) hz) rv
    have na := not_mem_of_deeper rd depth_lt_tuple p
    refine ⟨_ :: bs, ReadAtMost.cons rd (Nat.le_of_lt depth_lt_tuple) p, ?_⟩
    simp only [PyData.depth, PyData.shown]
    exact ReprK.tuple h1 h2 h3 na (by simpa using k)
  | _, _, .dct (ds := ds) e q, hs, hz, _, r => by
    have rd := Sh.reads ok (.dct e q) r
    cases r
    obtain ⟨as, rd⟩ := rd
    obtain ⟨o, es, n, vs, hsy, kv, h1, h2, h3, h4⟩ := at_dct ok e
    obtain ⟨k1, k2⟩ := kv_sides (h := h) h4 kv
    obtain ⟨cs, z1⟩ := k1 q
    simp only [PyData.shown] at hz
    obtain ⟨s1, s2⟩ := PyData.showableKv_split ds (by simpa [PyData.showable] using hs)
    obtain ⟨b1, p1, r1⟩ := ReprAllK.of_readsAll (prog := P) (w := w) z1 s1 (fun y => by rw [keys_flat q] at y; cases y) (fun t ht => let ⟨p, hp, hl⟩ := PyData.shownKv_key_le ds t ht; Nat.le_trans hl (Nat.le_trans (dictText_mem_le hp) hz))
    obtain ⟨b2, p2, r2⟩ := ShKv.shows ok q s2 (fun t ht => let ⟨p, hp, hl⟩ := PyData.shownKv_val_le ds t ht; Nat.le_trans hl (Nat.le_trans (dictText_mem_le hp) hz)) k2
    have pp : ReadAtMost h (PyData.depthKv ds) (b1 ++ b2) := (p1.mono (PyData.depthAll_keys_le ds)).append (p2.mono (PyData.depthAll_vals_le ds))
    have na := not_mem_of_deeper rd depth_lt_dict pp
    refine ⟨_ :: (b1 ++ b2), ReadAtMost.cons rd (Nat.le_of_lt depth_lt_dict) pp, ?_⟩
    simp only [PyData.depth, PyData.shown, PyData.shownKv_eq]
    exact ReprK.dict h1 h2 h3 hsy na (ReprEntriesK.of_two es.toList _ _ (r1.more_le (fun _ z => List.mem_append_left _ z) (PyData.depthAll_keys_le ds)) (r2.more_le (fun _ z => List.mem_append_right _ z) (PyData.depthAll_vals_le ds)))
theorem ShAll.shows (ok : HOk P w H h) : ∀ {v : List V} {d : List PyData}, ShAll H v d → PyData.showableAll d = true → (∀ t ∈ PyData.shownAll d, t.length ≤ sizeLine) → ∀ {u : List Value}, Vals v u → ShowsAll P w h u d
  | _, _, .nil, _, _, _, r => by cases r; exact ⟨[], (fun _ z => nomatch z), .nil⟩
  | _, _, .cons a b, hs, hz, _, r => by
    simp only [PyData.showableAll, Bool.and_eq_true] at hs
    simp only [PyData.shownAll] at hz
    cases r with
    | cons r1 r2 => exact shows_cons (Sh.shows ok a hs.1 (hz _ List.mem_cons_self) r1) (ShAll.shows ok b hs.2 (fun t ht => hz t (List.mem_cons_of_mem _ ht)) r2)
theorem ShKv.shows (ok : HOk P w H h) : ∀ {v : List (Key × V)} {d : List (PyData × PyData)}, ShKv H v d → PyData.showableAll (d.map (·.2)) = true → (∀ t ∈ PyData.shownAll (d.map (·.2)), t.length ≤ sizeLine) → ∀ {u : List Value}, Vals (v.map (·.2)) u → ShowsAll P w h u (d.map (·.2))
  | _, _, .nil, _, _, _, r => by cases r; exact ⟨[], (fun _ z => nomatch z), .nil⟩
  | _, _, .cons a b, hs, hz, _, r => by
    simp only [List.map_cons, PyData.showableAll, Bool.and_eq_true] at hs
    simp only [List.map_cons, PyData.shownAll] at hz
    cases r with
    | cons r1 r2 => exact shows_cons (Sh.shows ok a hs.1 (hz _ List.mem_cons_self) r1) (ShKv.shows ok b hs.2 (fun t ht => hz t (List.mem_cons_of_mem _ ht)) r2)
end
end

/-! ### repr(x), x data, where no repr runs -/
def rRepr : List V → Hp → VK → Prop := fun xs H Q => ∃ (v : V) (d : PyData), xs = [v] ∧ Sh H v d ∧ d.showable = true ∧ d.depth ≤ 20 ∧ d.shown.length ≤ sizeLine ∧ Q (.str d.shown) H
theorem cr_repr {X : Cx} (hg : X.A.guards = some []) (hu : X.A.units + 40 < cLine) : CallR X (.builtin "repr") rRepr := by
  intro pins s σ H xs us Q I r h
  obtain ⟨v, d, rfl, sh, hs, hd, hz, hQ⟩ := h
  obtain ⟨u, rfl, rv⟩ := vals1 r
  have fin : ∀ (h' : Heap) (t : Tok) (tk : Nat), (∀ b o, s.heap.get? b = some o → h'.get? b = some o) → EP X pins σ Q (.str d.shown t) { s with heap := h', toks := tk } := fun h' t tk k =>
    ⟨.str d.shown, H, I.kept k, ⟨t, rfl⟩, hQ⟩
  cases sh with
  | non =>
    cases rv
    refine PySem.P.repr_of_none ?_
    have z := fin s.heap s.toks (s.toks + 1) fun _ _ e => e
    simp only [PyData.shown] at z
    exact z
  | bl b =>
    cases rv
    refine PySem.P.repr_of_bool ?_
    have z := fin s.heap s.toks (s.toks + 1) fun _ _ e => e
    simp only [PyData.shown] at z
    exact z
  | int i =>
    obtain ⟨t, rfl⟩ := rv
    refine PySem.P.repr_of_int (by simpa [PyData.showable] using hs) ?_
    have z := fin s.heap s.toks (s.toks + 1) fun _ _ e => e
    simp only [PyData.shown] at z
    exact z
  | str x =>
    obtain ⟨t, rfl⟩ := rv
    simp only [PyData.shown] at hz
    refine PySem.P.repr_of_str ?_ hz
    have z := fin s.heap s.toks (s.toks + 1) fun _ _ e => e
    simp only [PyData.shown] at z
    exact z
  | @lst a xs ds e q =>
    have rd := Sh.reads I.hok (.lst e q) rv
    cases rv
    obtain ⟨as, rd⟩ := rd
    obtain ⟨o, its, n, rv, h1, h2, h3⟩ := at_lst I.hok e
    simp only [PyData.shown] at hz fin
    simp only [PyData.depth] at hd
    obtain ⟨bs, p, k⟩ := ShAll.shows (P := X.prog) (w := X.w) I.hok q (by simpa [PyData.showable] using hs) (fun t ht => Nat.le_trans (listText_mem_le ht) hz) rv
    have na := not_mem_of_deeper rd depth_lt_list p
    refine call_repr_slot (by omega) (show s.TypeIs (.ref a) "list" from ⟨o, h1, h2⟩) F.slot_list_repr.toG ?_
    cases rv with
    | nil =>
      cases q
      simp only [PyData.shownAll, listText_nil] at fin
      exact call_list_repr_empty ⟨o, h1, h2⟩ h1 h3 ⟨_, _, rfl, fin s.heap _ _ fun _ _ z => z⟩
    | cons r1 r2 =>
      exact call_list_reprK h1 h2 h3 na (by simpa using k.length_eq) (fun i y z => k.item i y (by simpa using z)) hg (fun b _ => Clear.nil b) (by show X.A.units + 1 + _ < _; omega) (fun _ _ z => z)
        (fun h' u tk hk => ⟨_, _, rfl, fin h' u tk hk⟩) hz
  | @tup a xs ds e q =>
    have rd := Sh.reads I.hok (.tup e q) rv
    cases rv
    obtain ⟨as, rd⟩ := rd
    obtain ⟨o, its, n, rv, h1, h2, h3⟩ := at_tup I.hok e
    simp only [PyData.shown] at hz fin
    simp only [PyData.depth] at hd
    obtain ⟨bs, p, k⟩ := ShAll.shows (P := X.prog) (w := X.w) I.hok q (by simpa [PyData.showable] using hs) (fun t ht => Nat.le_trans (tupleText_mem_le ht) hz) rv
    have na := not_mem_of_deeper rd depth_lt_tuple p
    refine call_repr_slot (by omega) (show s.TypeIs (.ref a) "tuple" from ⟨o, h1, h2⟩) F.slot_tuple_repr ?_
    exact call_tuple_reprK h1 h2 h3 na (by simpa using k) hg (fun b _ => Clear.nil b) (by show X.A.units + 1 + _ < _; omega) (fun _ _ z => z) (fun h' u tk hk => ⟨_, _, rfl, fin h' u tk hk⟩) hz
  | @dct a kvs ds e q =>
    have rd := Sh.reads I.hok (.dct e q) rv
    cases rv
    obtain ⟨as, rd⟩ := rd
    obtain ⟨o, es, n, vs, hsy, kv, h1, h2, h3, h4⟩ := at_dct I.hok e
    obtain ⟨k1, k2⟩ := kv_sides (h := s.heap) h4 kv
    obtain ⟨cs, z1⟩ := k1 q
    simp only [PyData.shown] at hz fin
    simp only [PyData.depth] at hd
    obtain ⟨s1, s2⟩ := PyData.showableKv_split ds (by simpa [PyData.showable] using hs)
    obtain ⟨b1, p1, r1⟩ := ReprAllK.of_readsAll (prog := X.prog) (w := X.w) z1 s1 (fun y => by rw [keys_flat q] at y; cases y) (fun t ht => let ⟨p, hp, hl⟩ := PyData.shownKv_key_le ds t ht; Nat.le_trans hl (Nat.le_trans (dictText_mem_le hp) hz))
    obtain ⟨b2, p2, r2⟩ := ShKv.shows (P := X.prog) (w := X.w) I.hok q s2 (fun t ht => let ⟨p, hp, hl⟩ := PyData.shownKv_val_le ds t ht; Nat.le_trans hl (Nat.le_trans (dictText_mem_le hp) hz)) k2
    have pp : ReadAtMost s.heap (PyData.depthKv ds) (b1 ++ b2) := (p1.mono (PyData.depthAll_keys_le ds)).append (p2.mono (PyData.depthAll_vals_le ds))
    have na := not_mem_of_deeper rd depth_lt_dict pp
    refine call_repr_slot (by omega) (show s.TypeIs (.ref a) "dict" from ⟨o, h1, h2⟩) F.slot_dict_repr ?_
    rw [PyData.shownKv_eq] at hz fin
    exact call_dict_reprK h1 h2 h3 hsy na (ReprEntriesK.of_two es.toList _ _ (r1.more_le (fun _ z => List.mem_append_left _ z) (PyData.depthAll_keys_le ds)) (r2.more_le (fun _ z => List.mem_append_right _ z) (PyData.depthAll_vals_le ds)))
      hg (fun b _ => Clear.nil b) (by show X.A.units + 1 + _ < _; omega) (fun _ _ z => z) (fun h' u tk hk => ⟨_, _, rfl, fin h' u tk hk⟩) hz
end Ld
namespace Ld
open PySem PySem.Spec PyProof.Rows L2
/-! ### readings made easier -/
theorem PE.imp {X : Cx} {e : Expr} {t t' : TE} (h : PE X e t) (i : ∀ σ H Q, t' σ H Q → t σ H Q) : PE X e t' := ⟨fun pins s σ H Q I q => h.run pins s σ H Q I (i _ _ _ q)⟩
theorem PS.imp {X : Cx} {e : Stmt} {t t' : TS} (h : PS X e t) (i : ∀ D σ H, t' D σ H → t D σ H) : PS X e t' := ⟨fun pins s σ H Q I q => h.run pins s σ H Q I (i _ _ _ q)⟩

/-! ### a def's promise where no repr is under way -/
structure FnG (P : Program) (w : World) (K : PySem.W.Frag) (mg : Str → Option Value) (base : Heap) (cx : CXT) (k : Nat) (f : Addr) (fd : FuncData) (ps : List Str) (sp : Sp) : Prop where
  size : ∀ vs H Q E, sp vs H Q E → vs.length = ps.length
  go : ∀ (A : Around) (outer : List Env) (s : Shared) (H : Hp) (args : Args) (us : List Value) (vs : List V) (Q : VK) (E : XK), A.guards = some [] → Room k A → Env0 P w K mg base A outer s H → Vals vs us → BindsTo s fd args (ps.zip us) → sp vs H Q E →
    codeAny (model P w) A (.call (.ref f) args) (CR cx outer P w H s Q E) s
section
variable {P : Program} {w : World} {K : PySem.W.Frag} {mg : Str → Option Value} {base : Heap} {cx : CXT} {k j : Nat} {f : Addr} {fd : FuncData} {ps : List Str} {sp : Sp}
theorem FnG.mono (F : FnG P w K mg base cx j f fd ps sp) (h : j ≤ k) : FnG P w K mg base cx k f fd ps sp :=
  ⟨F.size, fun A outer s H args us vs Q E hg hr => F.go A outer s H args us vs Q E hg (hr.mono h)⟩
theorem Fun.okG {x qual : Str} {st : Stmt} {N : List Str} (F : Fun K x qual st f fd) (S : FnScope N ps (defScope st)) (len : ∀ vs H Q E, sp vs H Q E → vs.length = ps.length)
    (hbody : ∀ (cdv : Value) (A : Around) (outer : List Env) (s : Shared) (H : Hp) (vs : List V) (Q : VK) (E : XK), A.guards = some [] → Room k (A.deeper (envOfC qual (defScope st) s.heap.objs.size f cdv)) → sp vs H Q E →
      ∃ t, PSs (cxOf cx P w K mg base N qual (defScope st) f cdv A outer s H E) (defBody st) t ∧ t { nx := fun _ H' => Q .non H', rt := Q } (start N vs) H) : FnG P w K mg base cx (k + 1) f fd ps sp := by
  obtain ⟨oc, od, kV, doc, pm, an, cdv, ct, osl, rfl, lk, hcd⟩ := F.ex
  refine ⟨len, fun A outer s H args us vs Q E hg hr e0 r hb hsp => ?_⟩
  exact LamX.run_ofS lk hcd S hr e0 hb r (len _ _ _ _ hsp) fun hr' => hbody cdv A outer s H vs Q E hg hr' hsp
end
section
variable {X : Cx} {cx : CXT} {k : Nat} {f : Addr} {fd : FuncData} {ps : List Str} {sp : Sp} {E : XK} {x : Str} {p pos : Pos} {e : Expr} {es : List Expr} {t : TA}
theorem run_g {pins : List (Addr × Obj)} {σ : L2.St} {H : Hp} {s : Shared} {Q : VK} {us : List Value} {vs : List V} (F : FnG X.prog X.w X.K X.mg X.base cx k f fd ps sp) (hr : Room k X.A) (h0 : X.A.guards = some []) (hb : Binds X.K fd ps []) (hx : Passes cx X E)
    (I : Inv X pins σ H s) (r : Vals vs us) (h : sp vs H Q E) : wpAny (model X.prog X.w) X.A (call (.ref f) us) (EP X pins σ Q) X.xe s := by
  have b := hb s us I.kIn (by rw [List.append_nil, ← r.length]; exact F.size _ _ _ _ h)
  rw [List.append_nil] at b
  refine wpAny_call (codeAny_mono (F.go X.A X.stack s H ⟨us, []⟩ us vs Q E h0 hr I.env0 r b h) fun z s' hq => ?_)
  match z, hq with
  | .error e, hq => exact hx pins σ H s e s' I hq
  | .ok (.ret u), hq => exact I.after hq
  | .ok .next, hq => exact False.elim hq
  | .ok .brk, hq => exact False.elim hq
  | .ok .cont, hq => exact False.elim hq
theorem pe_callG (F : FnG X.prog X.w X.K X.mg X.base cx k f fd ps sp) (hr : Room k X.A) (h0 : X.A.guards = some []) (hg : Gl X x) (hm : X.mg x = some (.ref f)) (hk : PySem.W.keepIn X.K (.ref f) = true) (hb : Binds X.K fd ps []) (hx : Passes cx X E)
    (ha : PA X (e :: es) t) (hdb : (x == ("__debug__" : Str)) = false := by decide) (he : starEach (e :: es) X.env = (false, eval e X.env) :: starEach es X.env := by rfl) (hpl : (backTo pos (starEach es X.env)).any (·.1) = false := by rfl) :
    PE X (.Call (.Name x p) (e :: es) [] pos) (fun σ H Q => t σ H fun vs H1 => sp vs H1 Q E) :=
  ⟨fun pins s σ H Q I h => wpAny_Call_Name_kw (ld_glob I hg hm (PySem.W.callWith_K (h₀ := X.base) I.ok.mod.kin hk (thn (ha.run pos pins s σ H _ I h) fun _ _ ⟨_, _, I1, r, q⟩ => ⟨I1.kIn, run_g F hr h0 hb hx I1 r q⟩) he hpl) hdb)⟩
end

/-! ### keywords alone: o.m(k = v, ..) -/
section
variable {X : Cx} {cx : CXT} {k : Nat} {f C : Addr} {fd : FuncData} {ps ks : List Str} {sp : Sp} {E : XK} {m : Str} {pos apos : Pos} {o : Expr} {kws : List Keyword} {ta : TE} {tk : TA} {g : List Value → List Value → List Value} {gV : List V → List V → List V}
theorem pe_methKw {pl : Sem Bool} (he : PE X o ta) (c : Cls X.K C) (hm : Meth X.K C m f) (F : FnOk X.prog X.w X.K X.mg X.base cx k f fd ps sp) (hr : Room k X.A) (hb : KBinds X.K fd ps ks g gV) (hx : Passes cx X E) (hkw : PK X kws tk)
    (hall : (backToKw pos (keywordEach kws X.env)).all (·.1.isSome) = true := by rfl) (hks : (backToKw pos (keywordEach kws X.env)).filterMap (·.1) = ks := by rfl)
    (hpl : ((backTo pos (starEach [] X.env)).any (·.1) || (backToKw pos (keywordEach kws X.env)).any (·.1.isNone)) = false := by rfl)
    (ht : eval (.Call (.Attribute o m apos) [] kws pos) X.env = (do
      let ov ← eval o X.env
      standAt apos.atName
      let (f, first) ← holding [ov] (getMethod ov m pl)
      callWith pos f first (backTo pos (starEach [] X.env)) (backToKw pos (keywordEach kws X.env))) := by rfl) :
    PE X (.Call (.Attribute o m apos) [] kws pos) (fun σ H Q => ta σ H fun x H1 => ∃ a dx fs, x = .ref a ∧ H1 a = some (.ins C dx fs) ∧ fs.lookup m = none ∧ tk σ H1 fun zs H2 => sp (gV [x] zs) H2 Q E) := by
  refine ⟨fun pins s σ H Q I h => PySem.W.methodCall_KW (pl := pl) (thn (he.run pins s σ H _ I h) fun u s1 ⟨x, H1, I1, rx, a, dx, fs, ex, ea, l, q⟩ => ?_) ht⟩
  subst ex
  obtain rfl : u = Value.ref a := rx
  refine getmeth_ok I1 ea c hm l (PySem.W.callWith_KW0 (first := [.ref a]) (h₀ := X.base) I.ok.mod.kin hm.kp hall (thn (hkw.run pos pins s1 σ H1 _ I1 q) fun ws s2 ⟨zs, H2, I2, rz, q2⟩ => ⟨I2.kIn, ?_⟩) hpl)
  rw [hks]
  exact run_fnk (us := [.ref a]) (vs := [.ref a]) F hr hb hx I2 (.cons rfl .nil) rz q2
end

/-! ### x & y by an own __and__ -/
/-- the other value's class: the same one, or a built-in one of another kind -/
structure AndT (K : PySem.W.Frag) (C : Addr) (T : String) : Prop where
  fw : ∃ fo, PySem.W.findIn K (.type T) (PySem.dunder Operator.BitAnd.info.2) = some fo
  bw : ∃ ro, PySem.W.findIn K (.type T) (PySem.dunderR Operator.BitAnd.info.2) = some ro
  no : PySem.W.subIn K (.type T) (.ref C) = some false
section
open PySem.W
theorem and_other {prog : Program} {w : World} {A : Around} {E : Value → Shared → Prop} {s : Shared} {K : Frag} {x C f : Addr} {ox : Obj} {od : Option Obj} {T : String} {b : Value} {Q : Value → Shared → Prop} (X : K.In s.heap) (I : InstAt s.heap x ox C od)
    (hb : Looks (model prog w) s.heap (typeOf b) (.type T)) (hc : selfFirst K C = true) (hs : findIn K (.ref C) (PySem.dunder Operator.BitAnd.info.2) = some (some (.ref f))) (hf : isFn K (.ref f) = true)
    (hr : findIn K (.ref C) (PySem.dunderR Operator.BitAnd.info.2) = some none) (a : AndT K C T) (h : wpAny (model prog w) A (call (.ref f) [.ref x, b]) (PySem.W.CmpBack Q) E s) : wpAny (model prog w) A (binaryOp .BitAnd (.ref x) b) Q E s := by
  obtain ⟨⟨fo, h1⟩, ⟨ro, h2⟩, hsub⟩ := a
  obtain ⟨cd, rest, hcd, hm⟩ := ksp_first hc
  have one := ksp_try X I hs hf h
  rcases hi : Operator.BitAnd.info with ⟨sym, nm'⟩
  rw [hi] at hs hr h1 h2 one
  dsimp only at hs hr h1 h2 one
  obtain ⟨hh, g, d, tt, os⟩ := s
  have L1 : Looks (model prog w) hh (typeOf (.ref x)) (.ref C) := I.type
  have L2 : Looks (model prog w) hh (typeOf b) (.type T) := hb
  have L3 : Looks (model prog w) hh (fillsNumberSlot (.ref C) nm') true := fills_K X hcd hm hs
  have L4 : Looks (model prog w) hh (fillsNumberSlot (.type T) nm') ((fo.isSome && !isSeqSlot fo) || (ro.isSome && !isSeqSlot ro)) := ksp_fillsT X h1 h2
  have L5 : Looks (model prog w) hh (isSubtype (.type T) (.ref C)) false := looks_subIn X hsub
  have L6 : Looks (model prog w) hh (numberSlotInPython (.ref C) nm') true := ksp_inPy X hs hr (.inl rfl)
  have L7 : Looks (model prog w) hh (numberSlotInPython (.type T) nm') false := Looks.of_pure rfl
  have L8 : Looks (model prog w) hh (typeLookup (.type T) (PySem.dunderR nm')) ro := looks_findIn X h2
  generalize ((fo.isSome && !isSeqSlot fo) || (ro.isSome && !isSeqSlot ro)) = right at L4
  have hne : (Value.ref C == Value.type T) = false := Bool.eq_false_iff.mpr fun q => by cases beq_iff_eq.mp q
  simp only [binaryOp, hi]
  refine wpAny_holding (wpAny_bind ?_)
  unfold binaryOp1
  refine wpAny_bind (L1.at (wpAny_bind (L2.at (wpAny_bind (L3.at ?_)))))
  simp only [hne, Bool.false_eq_true, if_false]
  cases right <;>
  · ksp_lk
    refine wpAny_mono one (fun r s' hr' => ?_) fun _ _ e => e
    obtain ⟨v, rfl, hq⟩ := hr'
    ksp_lk
    exact hq
end
theorem cmpBack_of {X : Cx} {pins : List (Addr × Obj)} {σ : L2.St} {Q : VK} {u : Value} {s : Shared} (h : EP X pins σ Q u s) : PySem.W.CmpBack (EP X pins σ Q) u s := by
  cases u <;> first
    | exact h
    | (obtain ⟨v, H', I, r, q⟩ := h
       cases v <;> first
         | exact nomatch (show Value.notImplemented = _ from r)
         | (obtain ⟨t, e⟩ := r; exact nomatch e))
/-- what the class's __and__ asks -/
structure AndC (K : PySem.W.Frag) (C f : Addr) : Prop where
  sf : PySem.W.selfFirst K C = true
  at_ : PySem.W.findIn K (.ref C) (PySem.dunder Operator.BitAnd.info.2) = some (some (.ref f))
  fn : PySem.W.isFn K (.ref f) = true
  nr : PySem.W.findIn K (.ref C) (PySem.dunderR Operator.BitAnd.info.2) = some none
theorem op_andOwn {X : Cx} {cx : CXT} {k : Nat} {f C : Addr} {fd : FuncData} {ps : List Str} {sp : Sp} {E : XK} (M : AndC X.K C f) (F : FnOk X.prog X.w X.K X.mg X.base cx k f fd ps sp) (hr : Room k X.A) (hb : Binds X.K fd ps []) (hx : Passes cx X E) :
    OpR X (binaryOp .BitAnd) (fun x y H Q => ∃ a dx fs t, x = .ref a ∧ H a = some (.ins C dx fs) ∧ TyX X.K H y t ∧ (t = .ref C ∨ ∃ T, t = .type T ∧ AndT X.K C T) ∧ sp [x, y] H Q E) := by
  intro pins s σ H x y u v Q I rx ry h
  obtain ⟨a, dx, fs, t, rfl, ea, ty, ht, q⟩ := h
  obtain rfl : u = Value.ref a := rx
  obtain ⟨mA, O, _⟩ := ins_get I.hok ea
  obtain ⟨od, J, _⟩ := O.look
  obtain ⟨P, Z, p, _⟩ := kit_of I ry ty
  have L := Z.ty (model X.prog X.w) s.heap I.kIn p
  have go : wpAny (model X.prog X.w) X.A (call (.ref f) [.ref a, v]) (PySem.W.CmpBack (EP X pins σ Q)) X.xe s := thn (run_fn (us := [.ref a, v]) (vs := [.ref a, y]) F hr hb .nil hx I (.cons rfl (.cons ry .nil)) q) fun _ _ z => cmpBack_of z
  rcases ht with rfl | ⟨T, rfl, hT⟩
  · obtain ⟨m, fr⟩ := I.fr
    exact PySem.W.binop_K fr I.mod.kin J L M.sf M.at_ M.fn go
  · exact and_other I.kIn J L M.sf M.at_ M.fn M.nr hT go
end Ld
namespace Ld
open PySem PySem.Spec PyProof.Rows L2
/-! ### sets of texts -/
def eKey (e : Int × Value) : Str := match e.2 with
  | .str x _ => x
  | _ => Str.empty
def EOk (w : World) (e : Int × Value) : Prop := ∃ x t, e = (hashStr w x, Value.str x t)
/-- the texts L are the members of the set at a; its table rises and can be walked -/
def TSet (w : World) (h : Heap) (a : Addr) (L : List Str) : Prop :=
  ∃ o es ep t, h.get? a = some o ∧ o.ExactSet ∧ o.data = .set es ep t ∧ (∀ e ∈ es.toList, EOk w e) ∧ (es.toList.map eKey).Perm L ∧ L.Nodup ∧
    es.size < scanBound ∧ t.fits es.size = true ∧ Ris t.place.toList ∧ (w.params.followText "set-order" = true ∨ t.led = true)
def ins (x : Str) (L : List Str) : List Str := if x ∈ L then L else x :: L
section
variable {P : Program} {w : World} {h h' : Heap} {a : Addr} {L : List Str}
theorem TSet.at (R : TSet w h a L) (k : ∀ o, h.get? a = some o → h'.get? a = some o) : TSet w h' a L := by
  obtain ⟨o, es, ep, t, ho, r⟩ := R
  exact ⟨o, es, ep, t, k o ho, r⟩
theorem TSet.obj (R : TSet w h a L) : ∃ o, h.get? a = some o := by
  obtain ⟨o, es, ep, t, ho, r⟩ := R
  exact ⟨o, ho⟩
theorem is_text (P : Program) (w : World) (x : Str) (t : Tok) : (strKind P w).is x (.str x t) = true := keyIs_str x t
theorem eok_elems {l : List (Int × Value)} (g : ∀ e ∈ l, EOk w e) : ElemsOf (strKind P w) l := fun e he => by
  obtain ⟨x, t, rfl⟩ := g e he
  exact ⟨⟨x, is_text P w x t, rfl⟩, rfl⟩
theorem eok_is {e : Int × Value} (g : EOk w e) (k : Str) : (strKind P w).is k e.2 = true ↔ eKey e = k := by
  obtain ⟨x, t, rfl⟩ := g
  show Value.isStrOf k (.str x t) = true ↔ x = k
  constructor
  · intro q
    obtain ⟨u, z⟩ := Value.isStrOf_shape q
    cases z
    rfl
  · rintro rfl
    exact keyIs_str x t
theorem storeT_at {o : Obj} {es es' : Array (Int × Value)} {ep : Nat} {t t' : SetTable} (ho : h.get? a = some o) (hd : o.data = .set es ep t) :
    (h.update a (Obj.putSet es' t')).get? a = some { o with data := .set es' (ep + 1) t' } := PpSet.storeB_at ho hd
end
section
variable {P : Program} {w : World} {A : Around} {E : Value → Shared → Prop} {s : Shared} {a : Addr} {L : List Str}
theorem tset_tail {g : Bool → Sem Unit} (hg : ∀ (b : Bool) (s₁ : Shared) (Q' : Unit → Shared → Prop), Q' () s₁ → wpAny (model P w) A (g b) Q' E s₁) {o : Obj} {es : Array (Int × Value)} {ep : Nat} {t : SetTable}
    (ho : s.heap.get? a = some o) (hex : o.ExactSet) (hd : o.data = .set es ep t) {es1 : Array (Int × Value)} {t2 : SetTable} {L' : List Str} (g1 : ∀ e ∈ es1.toList, EOk w e) (pk : (es1.toList.map eKey).Perm L') (nd : L'.Nodup)
    (hb : es1.size < scanBound) (hf : t2.fits es1.size = true) (hr : Ris t2.place.toList) (hl : w.params.followText "set-order" = true ∨ t2.led = true) {wd : Bool} {R : Option Bool → Shared → Prop}
    (hR : ∀ h', Heap.SameBut a s.heap h' → TSet w h' a L' → R (some true) { s with heap := h' }) :
    wpAny (model P w) A (do
        storeSet a es1 t2
        if (!wd && t2.tooFull) = true then do
            g (relayAll t2 es1 (SetTable.grown es1.size)).2.2
            storeSet a (relayAll t2 es1 (SetTable.grown es1.size)).1 (relayAll t2 es1 (SetTable.grown es1.size)).2.1
            pure (some true)
          else pure (some true)) R E s := by
  have step := storeT_at (es' := es1) (t' := t2) ho hd
  have same := Heap.SameBut.update s.heap a (Obj.putSet es1 t2)
  refine wpAny_bind (wpAny_storeSet_of ho hd ?_ (fits_of_scanBound hb))
  by_cases full : (!wd && t2.tooFull) = true
  · rw [if_pos full]
    have p2 := relayAll_perm t2 es1 (SetTable.grown es1.size)
    have n2 : (relayAll t2 es1 (SetTable.grown es1.size)).1.size = es1.size := by rw [← Array.length_toList, p2.length_eq, Array.length_toList]
    have b2 : (relayAll t2 es1 (SetTable.grown es1.size)).1.size < scanBound := by rw [n2]; exact hb
    refine wpAny_bind (hg _ _ _ (wpAny_bind (wpAny_storeSet_of step rfl (wpAny_pure (hR _ (same.trans (Heap.SameBut.update _ a _)) ?_)) (fits_of_scanBound b2))))
    exact ⟨_, _, _, _, storeT_at step rfl, hex, rfl, fun e he => g1 e (p2.mem_iff.mp he), (p2.map eKey).trans pk, nd, b2, relayAll_fits .., relayAll_ris .., hl.imp id fun z => (relayAll_led ..).trans z⟩
  · rw [if_neg full]
    exact wpAny_pure (hR _ same ⟨_, _, _, _, step, hex, rfl, g1, pk, nd, hb, hf, hr, hl⟩)
theorem tset_hashed {x : Str} {tk : Tok} {Q : Bool → Shared → Prop} (R : TSet w s.heap a L) (room : L.length + 1 < scanBound)
    (hQ : ∀ h' b, Heap.SameBut a s.heap h' → TSet w h' a (ins x L) → Q b { s with heap := h' }) : wpAny (model P w) A (setAddHashed a (.str x tk) (hashStr w x)) Q E s := by
  obtain ⟨o, es, ep, t, ho, hex, hd, g, pk, nd, hb, hf, hr, hl⟩ := R
  have hel : ElemsOf (strKind P w) es.toList := eok_elems g
  have hn : es.size = L.length := by rw [← pk.length_eq, List.length_map, Array.length_toList]
  have ruled : ∀ (n : String) (b : Bool) {s₁ : Shared} {Q' : Unit → Shared → Prop}, Q' () s₁ → wpAny (model P w) A (match b with | true => rule n | false => pure ()) Q' E s₁ := fun n b s₁ Q' q => by
    cases b
    · exact wpAny_pure q
    · exact wpAny_rule q
  unfold setAddHashed setAddHashedIn
  refine wpAny_holding (wpAny_bind (wpAny_setState_of ho hd hf ?_))
  dsimp only
  rw [byScan_of (show (Value.str x tk).scannable = true from rfl) hb hel]
  simp only [↓reduceIte]
  unfold setAddByScan
  refine wpAny_bind (wpAny_bind (wpAny_rule (wpAny_bind (wpAny_setScan_of (is_text P w x tk) ho hd hf hel ?_))))
  cases hfi : List.findIdx? (fun e => (strKind P w).is x e.2) es.toList with
  | some j =>
    obtain ⟨hj, pj, _⟩ := List.findIdx?_eq_some_iff_getElem.mp hfi
    have hx : x ∈ L := pk.mem_iff.mp (List.mem_map.mpr ⟨es.toList[j], List.getElem_mem hj, (eok_is (P := P) (g _ (List.getElem_mem hj)) x).mp pj⟩)
    refine wpAny_pure (wpAny_pure (hQ s.heap _ (Heap.SameBut.refl a s.heap) ?_))
    rw [ins, if_pos hx]
    exact ⟨o, es, ep, t, ho, hex, hd, g, pk, nd, hb, hf, hr, hl⟩
  | none =>
    have hx : x ∉ L := fun z => by
      obtain ⟨e, he, q⟩ := List.mem_map.mp (pk.mem_iff.mpr z)
      have c := List.findIdx?_eq_none_iff.mp hfi e he
      rw [(eok_is (P := P) (g e he) x).mpr q] at c
      cases c
    have pm := layNew_perm t es (hashStr w x) (.str x tk)
    have hf1 := layNew_fits t es (hashStr w x) (.str x tk)
    have hr1 := layNew_ris t es (hashStr w x) (.str x tk) hr
    have hl1 := layNew_led t es (hashStr w x) (.str x tk)
    dsimp only
    generalize layNew t es (hashStr w x) (.str x tk) = Z at pm hf1 hr1 hl1 ⊢
    obtain ⟨es1, t1, wd, gave⟩ := Z
    dsimp only at pm hf1 hr1 hl1 ⊢
    rw [Array.toList_push] at pm
    have pc : es1.toList.Perm ((hashStr w x, Value.str x tk) :: es.toList) := pm.trans (List.perm_append_singleton _ _)
    have g1 : ∀ e ∈ es1.toList, EOk w e := fun e he => (List.mem_cons.mp (pc.mem_iff.mp he)).elim (fun z => ⟨x, tk, z⟩) (g e)
    have pk1 : (es1.toList.map eKey).Perm (ins x L) := by
      rw [ins, if_neg hx]
      exact (pc.map eKey).trans (List.Perm.cons x pk)
    have nd1 : (ins x L).Nodup := by
      rw [ins, if_neg hx]
      exact List.nodup_cons.mpr ⟨hx, nd⟩
    have hb1 : es1.size < scanBound := by rw [← Array.length_toList, pc.length_eq, List.length_cons, Array.length_toList, hn]; exact room
    have hled : w.params.followText "set-order" = true ∨ t1.led = true := hl.imp id fun z => by rw [hl1]; exact z
    have tail : ∀ (b : Bool) (s₁ : Shared) (Q' : Unit → Shared → Prop), Q' () s₁ → wpAny (model P w) A (match b with | true => rule "set.scan.the-table-gave-way" | false => pure ()) Q' E s₁ := fun b s₁ Q' q => ruled _ b q
    refine wpAny_bind (ruled _ _ ?_)
    split
    · refine wpAny_bind ?_
      rw [hashByValue_scannable 8 (show (Value.str x tk).scannable = true from rfl)]
      refine wpAny_pure (tset_tail tail ho hex hd g1 pk1 nd1 hb1 ?_ ?_ ?_ fun h' sb r => wpAny_pure (hQ h' _ sb r))
      · first | (split <;> first | exact hf1 | exact SetTable.fits_plain_off hf1) | exact hf1
      · first | (split <;> exact hr1) | exact hr1
      · first | (split <;> exact hled) | exact hled
    · refine wpAny_bind (wpAny_pure ?_)
      simp only [↓reduceIte]
      exact tset_tail tail ho hex hd g1 pk1 nd1 hb1 hf1 hr1 hled fun h' sb r => wpAny_pure (hQ h' _ sb r)
/-- s.add(x) -/
theorem tset_add {x : Str} {tk : Tok} {Q : Value → Shared → Prop} (R : TSet w s.heap a L) (room : L.length + 1 < scanBound) (hQ : ∀ h' u, Heap.SameBut a s.heap h' → TSet w h' a (ins x L) → Q .none { s with heap := h', toks := u }) :
    wpAny (model P w) A (call (.builtin "set.add") [.ref a, .str x tk]) Q E s := by
  obtain ⟨o, es, ep, t, ho, hex, hd, r⟩ := id R
  refine wpAny_call_entry F.slot_set_add ⟨o, ho, hex.1⟩ F.entry_set_add ?_ (F.args_set_add_2 _ _)
  unfold Builtin.«set.add» Builtin.Frozenset.oneOther
  simp only [List.isEmpty_nil, bind_assoc]
  unfold Builtin.Frozenset.addrOf setAdd
  refine wpAny_bind (wpAny_pure ?_)
  try dsimp only
  refine wpAny_bind (wpAny_pure ?_)
  try dsimp only
  refine wpAny_bind (wpAny_holding (wpAny_bind ((strKind P w).pyHash (is_text P w x tk) ?_)))
  refine tset_hashed (s := { s with toks := s.toks + 1 }) R room fun h' b sb r => ?_
  show wpAny _ _ (ret Value.none) _ _ _
  exact wpAny_pure ⟨_, rfl, hQ h' _ sb r⟩
theorem tset_new {h : Heap} {a : Addr} (w : World) (ho : h.get? a = some { cls := .type "set", dict := none, data := .set #[] 0 (.fresh 0 0 (!w.params.followText "set-order")) }) : TSet w h a [] :=
  ⟨_, _, _, _, ho, ⟨rfl, rfl, rfl⟩, rfl, fun e he => by simp at he, by simp, List.nodup_nil, by decide, by rfl, List.Pairwise.nil, by
    cases q : w.params.followText "set-order"
    · exact .inr (by rw [Bool.not_false]; rfl)
    · exact .inl rfl⟩
end
end Ld
namespace Ld
open PySem PySem.Spec PyProof.Rows L2
section
variable {P : Program} {w : World} {A : Around} {E : Value → Shared → Prop} {s : Shared} {a : Addr} {L : List Str}
theorem strs_of (w : World) : ∀ {vs : List Value} {es : List (Int × Value)}, (∀ e ∈ es, EOk w e) → vs.Perm (es.map (·.2)) → StrsAre vs (vs.map strOf) := fun {vs es} g p => by
  have h : ∀ v ∈ vs, ∃ x t, v = Value.str x t := fun v hv => by
    obtain ⟨e, he, q⟩ := List.mem_map.mp (p.mem_iff.mp hv)
    obtain ⟨x, t, rfl⟩ := g e he
    exact ⟨x, t, q.symm⟩
  exact strsAre_map vs h
/-- sorted(s) -/
theorem tset_sorted {Q : Value → Shared → Prop} (R : TSet w s.heap a L) (hh : A.handled = none) (h64 : L.length < 64)
    (hQ : ∀ s' p (out : Array Value) (c : Nat) (ys : List Str), (∀ b o, s.heap.get? b = some o → s'.heap.get? b = some o) → s'.gens = s.gens → s'.os = s.os → s.heap.objs.size ≤ p →
      s'.heap.get? p = some (seqObj "list" out c) → StrsAre out.toList ys → ys.Perm L → sortedS ys = true → Q (.ref p) s') : wpAny (model P w) A (call (.builtin "sorted") [.ref a]) Q E s := by
  obtain ⟨o, es, ep, t, ho, hex, hd, g, pk, nd, hb, hf, hr, hl⟩ := R
  refine Calls.call_function_entry kind_sorted plain_sorted entry_sorted (args_sorted1 _) ?_
  unfold Builtin.«sorted»
  refine wpAny_bind (m := checkCount "sorted" 1 1 _) (wpAny_pure (wpAny_bind (collect_set (A := A.in1) hh ⟨o, ho, hex.1, hd⟩ hf hb hr hl fun s1 vs k1 hz g1 o1 pm => ?_)))
  have S := strs_of w g pm
  have pv : (vs.map strOf).Perm L := by
    refine (pm.map strOf).trans ?_
    rw [List.map_map]
    refine List.Perm.trans ?_ pk
    exact List.Perm.of_eq (List.map_congr_left fun e he => by obtain ⟨x, t, rfl⟩ := g e he; rfl)
  have hv : vs.length = L.length := by rw [← pv.length_eq, List.length_map]
  have h64' : vs.length < 64 := by rw [hv]; exact h64
  refine wpAny_bind (wpAny_newList ?_ (small64 h64'))
  have here : (s1.heap.push (seqObj "list" vs.toArray 0)).get? s1.heap.objs.size = some (seqObj "list" vs.toArray 0) := Heap.get?_push_size _ rfl
  refine wpAny_bind (wpAny_holding (wpAny_call_entry slot_list_sort ⟨_, here, rfl⟩ entry_list_sort
    (list_sort_treeK strKind_oneLt here S.keysOf (fun v₁ v₂ rest e => keyKind_strs (by rw [← e]; exact S)) h64' fun st' hp hs => ⟨_, rfl, ?_⟩) (args_list_sort _)))
  obtain ⟨ys, q1, q2, q3⟩ := sorted_out_str S hp hs
  obtain ⟨c, hc⟩ := sortedHeap_at (vs := vs) (out := (arrOf st').map (·.2)) here
  refine wpAny_pure ⟨_, rfl, hQ _ s1.heap.objs.size _ c ys (fun b u e => ?_) g1 o1 hz hc q1 (q2.trans pv) q3⟩
  have q := k1 b u e
  have lt := Heap.lt_size q
  show (sortedHeap _ _ vs _).get? b = some u
  rw [sortedHeap_old (Nat.ne_of_lt lt) (by rw [Heap.size_push]; exact Nat.lt_succ_of_lt lt)]
  exact Heap.get?_push_of_some _ q
end

/-! ### as tracked things -/
def TSetO (w : World) (a : Addr) (L : List Str) : HO := .ext fun h => TSet w h a L
theorem tsetO_new {w : World} {P : Program} {H : Hp} {h : Heap} {a : Addr} {L : List Str} (R : TSet w h a L) : ObjOk P w H h a (TSetO w a L) := ⟨R, R.obj, fun _ _ p k => p.at k⟩
section
variable {X : Cx}
theorem tset_get {pins : List (Addr × Obj)} {σ : L2.St} {H : Hp} {s : Shared} {a : Addr} {L : List Str} (I : Inv X pins σ H s) (ha : H a = some (TSetO X.w a L)) : TSet X.w s.heap a L := (I.hok a _ ha).1
theorem addT_ok {pins : List (Addr × Obj)} {σ : L2.St} {H : Hp} {s : Shared} {E : Value → Shared → Prop} {D : Addr} {L : List Str} {x : Str} {tk : Tok} {Q : Value → Shared → Prop} (I : Inv X pins σ H s) (hD : H D = some (TSetO X.w D L)) (room : L.length + 1 < scanBound)
    (h : ∀ s', Inv X pins σ (upd H D (TSetO X.w D (ins x L))) s' → Q .none s') : wpAny (model X.prog X.w) X.A (call (.builtin "set.add") [.ref D, .str x tk]) Q E s :=
  tset_add (tset_get I hD) room fun h' u sb new => h _ (I.write (e := D) (t' := u) (by rw [hD]; trivial) (.inl rfl) (fun b o hb hu => (sb.2 b hb).trans hu) new.obj (tsetO_new new))
/-- sorted(s), s a set of texts -/
theorem cr_sortedTS (hc : X.calm = true) : CallR X (.builtin "sorted") (fun vs H Q => ∃ (a : Addr) (L : List Str), vs = [V.ref a] ∧ H a = some (TSetO X.w a L) ∧ L.length < 64 ∧
    ∀ (ys : List Str) (p : Addr), ys.Perm L → sortedS ys = true → H p = none → Q (.ref p) (upd H p (.lst (ys.map V.str)))) := by
  intro pins s σ H vs us Q I r h
  obtain ⟨a, L, rfl, ha, h64, q⟩ := h
  rw [Vals.ref1 r]
  refine tset_sorted (tset_get I ha) (I.ok.hd hc) h64 fun s' p out c ys k hg ho hp e S pm srt => ?_
  have hlen : (ys.map V.str).length ≤ sizeLine := by rw [List.length_map, pm.length_eq]; exact small64 h64
  obtain ⟨hh, gg, dd, tt, oo⟩ := s'
  cases ho
  have I' : Inv X pins σ H { s with heap := s.heap, gens := gg, drawn := dd, toks := tt } := I.call' (ch := []) rfl (Un.kept fun _ _ z => z) I.hok (by rw [show gg = s.gens from hg]; exact I.bare) (fun _ z => nomatch z)
  exact ⟨.ref p, upd H p (.lst (ys.map V.str)), I'.laid (t' := tt) k hp ⟨hlen, out.toList, c, vals_of_strs S, e⟩, rfl, q ys p pm srt (I.hok.fresh hp)⟩
end
end Ld
namespace Ld
open PySem PySem.Spec PyProof.Rows L2
/-- the members behind so many adds -/
def insAll (zs : List Str) : List Str := zs.foldl (fun L x => ins x L) []
theorem ins_len (x : Str) (L : List Str) : (ins x L).length ≤ L.length + 1 := by
  unfold ins
  split <;> simp
theorem foldl_len : ∀ (zs L : List Str), (zs.foldl (fun L x => ins x L) L).length ≤ L.length + zs.length
  | [], _ => Nat.le_refl _
  | z :: zs, L => by
    have h1 := foldl_len zs (ins z L)
    have h2 := ins_len z L
    show (zs.foldl (fun L x => ins x L) (ins z L)).length ≤ L.length + (zs.length + 1)
    omega
theorem insAll_len (zs : List Str) : (insAll zs).length ≤ zs.length := by
  have := foldl_len zs []
  simpa [insAll] using this
theorem insAll_take {zs : List Str} {i : Nat} {x : Str} (h : zs[i]? = some x) : insAll (zs.take (i + 1)) = ins x (insAll (zs.take i)) := by
  unfold insAll
  rw [List.take_add_one, h, List.foldl_append]
  rfl
section
variable {P : Program} {w : World} {A : Around} {E : Value → Shared → Prop} {s : Shared}
/-- the loop of set(l), l a list of texts -/
theorem tset_update {I : Addr} {fp wr : List Addr} {G : Array GenState → Array GenState → Prop} {n : Nat} {Pv : Nat → Value → Prop} {St : Nat → Shared → Prop} {R : Result → Shared → Prop} (W : WalksS P w A.in1 I fp wr G n Pv St) (S : Addr) (nS : S ∉ fp) (zs : List Str)
    (hn : n = zs.length) (hb : zs.length + 1 < scanBound) (hval : ∀ i v, Pv i v → ∃ x t, zs[i]? = some x ∧ v = .str x t) (hR0 : ∀ (s₀ s' : Shared), Moved (S :: wr) G s₀ s' → TSet w s'.heap S (insAll zs) → s₀ = s → R (.ok (.ret .none)) s') :
    ∀ (k i : Nat) (s' : Shared), n - i = k → i ≤ n → St i s' → TSet w s'.heap S (insAll (zs.take i)) → Moved (S :: wr) G s s' → codeAny (model P w) A (.builtin "set.update.loop" ⟨[.ref S, .ref I], []⟩) R s' := by
  have nW : S ∉ wr := fun h => nS (W.sub _ h)
  have sub : ∀ b ∈ wr, b ∈ S :: wr := fun b hb => List.mem_cons_of_mem _ hb
  intro k
  induction k with
  | zero =>
    intro i s' hk hi hst hS mv
    have e : i = n := by omega
    subst e
    refine codeAny_builtin F.entry_set_update_loop ?_
    rw [Around.under_plainId F.plain_set_update_loop _]
    show wpAny _ A.in1 (pyNext (.ref I) >>= _) _ _ s'
    refine wpAny_bind (W.done s' _ _ hst fun s2 hm => ?_)
    show wpAny _ A.in1 (ret Value.none) _ _ s2
    rw [List.take_of_length_le (by omega)] at hS
    exact wpAny_pure (hR0 s s2 (Moved.trans W.gtrans mv (hm.mono sub)) (hS.at fun o e => hm.heap S o nW e) rfl)
  | succ k ih =>
    intro i s' hk hi hst hS mv
    have lt : i < n := by omega
    refine codeAny_builtin F.entry_set_update_loop ?_
    rw [Around.under_plainId F.plain_set_update_loop _]
    show wpAny _ A.in1 (pyNext (.ref I) >>= _) _ _ s'
    refine wpAny_bind (W.item i s' _ _ lt hst fun v s2 hP hst2 hm => ?_)
    obtain ⟨x, t, hx, rfl⟩ := hval i v hP
    have hS2 : TSet w s2.heap S (insAll (zs.take i)) := hS.at fun o e => hm.heap S o nW e
    have room : (insAll (zs.take i)).length + 1 < scanBound := by
      have h1 := insAll_len (zs.take i)
      rw [List.length_take] at h1
      omega
    show wpAny _ A.in1 (holding [Value.str x t] (setAdd S (.str x t)) >>= _) _ _ s2
    refine wpAny_bind (wpAny_holding ?_)
    unfold setAdd
    refine wpAny_holding (wpAny_bind ((strKind P w).pyHash (is_text P w x t) ?_))
    refine tset_hashed (s := { s2 with toks := s2.toks + 1 }) hS2 room fun h' b sb hS3 => ?_
    rw [← insAll_take hx] at hS3
    refine wpAny_pure ⟨plainId_quiet F.plain_set_update_loop _, ih (i + 1) _ (by omega) lt (W.frame _ s2 _ _ hst2 (Nat.le_succ _) fun b hb o e => ?_) hS3 (Moved.trans W.gtrans mv ((hm.mono sub).then_heap (Nat.le_succ _) fun b o hb e => ?_))⟩
    · rw [sb.2 b fun z => nS (by rw [← z]; exact hb)]
      exact e
    · rw [sb.2 b fun z => hb (by rw [z]; exact List.mem_cons_self)]
      exact e
theorem sub_ls : isSubtype (.type "list") (.type "set") = pure false := by rw [isSubtype_type]; kernel_rfl
theorem sub_lf : isSubtype (.type "list") (.type "frozenset") = pure false := by rw [isSubtype_type]; kernel_rfl
theorem call_set_texts {l : Addr} {items : Array Value} (zs : List Str) {Q : Value → Shared → Prop} (hh : A.handled = none) (hl : s.heap.IsList l items) (hit : StrsAre items.toList zs) (hb : zs.length + 1 < scanBound)
    (h : ∀ (h' : Heap) (tk : Nat), TSet w h' s.heap.objs.size (insAll zs) → (∀ b o, s.heap.get? b = some o → h'.get? b = some o) → Q (.ref s.heap.objs.size) { s with heap := h', toks := tk }) :
    wpAny (model P w) A (call (.type "set") [.ref l]) Q E s := by
  have isz : items.size = zs.length := by
    have q := hit.length
    rw [Array.length_toList] at q
    exact q
  obtain ⟨c, tl, hmro⟩ := F.called_set.mro
  have hmade := F.called_set.made
  have hsub := F.called_set.sub
  refine wpAny_call (codeAny_of_tree ?_)
  show wpAny _ _ (callAny (.type "set") _) _ _ _
  refine wpAny_pure ⟨Code.quiet_builtin _ (by decide +kernel), codeAny_builtin F.entry_type_call ?_⟩
  rw [Around.under_plain (weight_type_call_type "set" [.ref l] []) rfl]
  have h1 := F.called_set.notType
  have h2 := F.called_set.canCreate
  have hct := F.typeCall_set_1 (.ref l)
  repeat (any_goals (first | assumption | wp_step))
  refine codeAny_mono (code_set_led1 (.ref l) (E := E) (Q₁ := fun obj s₁ => obj = .ref s.heap.objs.size ∧ s₁ = { s with heap := s.heap.push { cls := .type "set", dict := none, data := .set #[] 0 (.fresh 0 0 (!w.params.followText "set-order")) } }) ⟨rfl, rfl⟩) fun r s₁ hr => ?_
  cases r with
  | error e => exact hr
  | ok fl =>
    cases fl with
    | ret obj =>
      obtain ⟨rfl, rfl⟩ := hr
      have hS : (s.heap.push { cls := .type "set", dict := none, data := .set #[] 0 (.fresh 0 0 (!w.params.followText "set-order")) }).get? s.heap.objs.size = some { cls := .type "set", dict := none, data := .set #[] 0 (.fresh 0 0 (!w.params.followText "set-order")) } := Heap.get?_push_size _ rfl
      have hT : Shared.TypeIs { s with heap := s.heap.push { cls := .type "set", dict := none, data := .set #[] 0 (.fresh 0 0 (!w.params.followText "set-order")) } } (.ref s.heap.objs.size) "set" := ⟨_, hS, rfl⟩
      have hli := F.called_set.init.lookup
      have hbi := F.called_set.init.bind (.ref s.heap.objs.size)
      repeat (any_goals (first | assumption | wp_step))
      refine codeAny_mono (codeAny_call_builtin (R := wants (fun r s₂ => r = .none ∧ ∃ h' tk, s₂ = { s with heap := h', toks := tk } ∧ TSet w h' s.heap.objs.size (insAll zs) ∧ (∀ b o, s.heap.get? b = some o → h'.get? b = some o)) E)
        F.called_set.init.plain F.entry_set_init (check_set_init_1 hT ?_)) fun r₂ s₂ hr₂ => ?_
      · obtain ⟨ol, hol, hcl, nl, hdl⟩ := hl
        obtain ⟨ocls, odict, odata, oslots⟩ := ol
        simp only at hcl hdl
        subst hcl; subst hdl
        have lS : l < s.heap.objs.size := Heap.lt_size hol
        have hol' : (s.heap.push { cls := .type "set", dict := none, data := .set #[] 0 (.fresh 0 0 (!w.params.followText "set-order")) }).get? l = some { cls := .type "list", dict := odict, data := .seq items nl, slots := oslots } := Heap.get?_push_of_some _ hol
        have hsls := sub_ls
        have hslf := sub_lf
        have hne : (Value.type "list" == Value.type "dict") = false := by decide
        have hl1 : (s.heap.push { cls := .type "set", dict := none, data := .set #[] 0 (.fresh 0 0 (!w.params.followText "set-order")) }).IsList l items := ⟨_, hol', rfl, nl, rfl⟩
        unfold Builtin.«set.__init__» noKeywords Builtin.Frozenset.updateFrom
        generalize hPI : pyIter = PI
        wp_walk
        subst hPI
        refine wpAny_pyIter_list hl1 ?_
        refine wpAny_bind (wpAny_runValue ?_)
        have z1 : (s.heap.push { cls := .type "set", dict := none, data := .set #[] 0 (.fresh 0 0 (!w.params.followText "set-order")) }).objs.size = s.heap.objs.size + 1 := Heap.size_push ..
        have neI : l ≠ (s.heap.push { cls := .type "set", dict := none, data := .set #[] 0 (.fresh 0 0 (!w.params.followText "set-order")) }).objs.size := by rw [z1]; exact Nat.ne_of_lt (Nat.lt_succ_of_lt lS)
        have nS : s.heap.objs.size ∉ [(s.heap.push { cls := .type "set", dict := none, data := .set #[] 0 (.fresh 0 0 (!w.params.followText "set-order")) }).objs.size, l] := by
          rw [z1]
          simp only [List.mem_cons, List.not_mem_nil, or_false, not_or]
          exact ⟨Nat.ne_of_lt (Nat.lt_succ_self _), Nat.ne_of_gt lS⟩
        have hh3 : A.in1.in1.in1.handled = none := by simp [hh]
        have hval : ∀ (i : Nat) (v : Value), items[i]? = some v → ∃ x t, zs[i]? = some x ∧ v = .str x t := fun i v hv => strs_here hit i v (by rw [Array.getElem?_toList]; exact hv)
        refine tset_update ((Walks.list hh3 _ l neI items).toS) s.heap.objs.size nS zs isz hb hval ?_ (items.size - 0) 0 _ (by omega) (Nat.zero_le _) ⟨⟨_, Heap.get?_push_size _ rfl, rfl, rfl⟩, hl1.push _⟩
          (tset_new w (Heap.get?_push_of_some _ hS)) (Moved.refl (fun _ => rfl))
        intro s₀ s' hm hS' e0
        subst e0
        obtain ⟨h', g2, d', tk', os'⟩ := s'
        have eg : g2 = s.gens := hm.gens
        have ed : d' = s.drawn := hm.drawn
        have eo : os' = s.os := hm.os
        subst eg; subst ed; subst eo
        show wpAny _ _ _ _ _ _
        refine wpAny_pure ?_
        show wpAny _ _ (ret Value.none) _ _ _
        refine wpAny_pure ⟨rfl, h', tk', rfl, hS', fun b o e => ?_⟩
        have lb : b < s.heap.objs.size := Heap.lt_size e
        exact hm.heap b o (by rw [z1]; simp only [List.mem_cons, List.not_mem_nil, or_false, not_or]; exact ⟨Nat.ne_of_lt lb, Nat.ne_of_lt (Nat.lt_succ_of_lt lb)⟩) (Heap.get?_push_of_some _ (Heap.get?_push_of_some _ e))
      · cases r₂ with
        | error e => exact hr₂
        | ok fl₂ =>
          cases fl₂ with
          | ret r =>
            obtain ⟨rfl, h', tk, rfl, hS', hk'⟩ := hr₂
            repeat (any_goals (first | assumption | wp_step))
            exact h _ _ hS' hk'
          | _ => exact hr₂.elim
    | _ => exact hr.elim
where strs_here : ∀ {l : List Value} {zs : List Str}, StrsAre l zs → ∀ (i : Nat) (v : Value), l[i]? = some v → ∃ x t, zs[i]? = some x ∧ v = .str x t
  | _, _, .nil, i, v, h => by simp at h
  | _, _, .cons x t r, 0, v, h => by
    simp at h
    exact ⟨x, t, rfl, h.symm⟩
  | _, _, .cons x t r, i + 1, v, h => by
    obtain ⟨y, u, h1, h2⟩ := strs_here r i v (by simpa using h)
    exact ⟨y, u, by simpa using h1, h2⟩
end
section
variable {X : Cx}
/-- set(l), l a list of texts -/
theorem cr_setTS (hc : X.calm = true) : CallR X (.type "set") (fun vs H Q => ∃ (a : Addr) (zs : List Str), vs = [V.ref a] ∧ SqL X.K H a (zs.map V.str) ∧ zs.length < 64 ∧ ∀ p : Addr, H p = none → Q (.ref p) (upd H p (TSetO X.w p (insAll zs)))) := by
  intro pins s σ H vs us Q I r h
  obtain ⟨a, zs, rfl, hs, h64, q⟩ := h
  obtain ⟨its, rv, hl, _⟩ := I.list hs
  rw [Vals.ref1 r]
  refine call_set_texts zs (I.ok.hd hc) hl.isList rv.strs (Nat.lt_trans (Nat.succ_lt_succ h64) (by decide)) fun h' tk T k => ?_
  exact ⟨.ref s.heap.objs.size, _, I.laid (t' := tk) k (Nat.le_refl _) (tsetO_new T), rfl, q _ (I.hok.fresh (Nat.le_refl _))⟩
end
end Ld
namespace Ld
open PySem PySem.Spec PyProof.Rows L2
/-! ### the end of a tuple's iterator while an exception is handled -/
theorem tuple_end_hot {prog : Program} {w : World} {A : Around} {E : Value → Shared → Prop} {s : Shared} {it t x1 : Addr} {i : Nat} {items : Array Value} {Q : Option Value → Shared → Prop} (hot : HotX.HotAt A x1 s.heap)
    (hit : s.heap.IsTupleIter it t i) (ht : s.heap.IsTuple t items) (hx : items[i]? = none) (hQ : ∀ h', Heap.ExtBut it s.heap h' → Q none { s with heap := h' }) : wpAny (model prog w) A (pyNext (.ref it)) Q E s := by
  obtain ⟨o, ho, hc, hd⟩ := id hit
  obtain ⟨ol, hol, _, nl, hdl⟩ := ht
  obtain ⟨hh, o1, vs1, h1, d1, c1⟩ := hot
  have ne : it ≠ x1 := fun z => by
    rw [← z, ho] at h1
    cases h1
    rw [hd] at d1
    cases d1
    simp at c1
  have h1' : (s.heap.update it (Obj.mapFields (·.setIfInBounds 0 Value.none))).get? x1 = some o1 := (Heap.get?_update_other _ _ ne).trans h1
  unfold pyNext
  refine wpAny_bind (wpAny_attempt (wpAny_callSpecial?_slot (name := Str.ofString "__next__") hit.typeIs F.slot_tuple_iterator_next
    (wpAny_call_entry F.slot_tuple_iterator_next hit.typeIs F.entry_tuple_iterator_next ?_ (F.args_tuple_iterator_next_1 _))))
  show wpAny _ _ (field (.ref it) 0 >>= _) _ _ s
  refine wpAny_bind (wpAny_field ho hd (x := .ref t) rfl ?_)
  show wpAny _ _ (if (Value.ref t == Value.none) = true then _ else _) _ _ s
  rw [if_neg (show ¬ ((Value.ref t == Value.none) = true) from Bool.false_ne_true)]
  show wpAny _ _ (field (.ref it) 1 >>= _) _ _ s
  refine wpAny_bind (wpAny_field ho hd (x := .int i 0) rfl ?_)
  show wpAny _ _ (seqItems? (.ref t) >>= _) _ _ s
  refine wpAny_bind (wpAny_seqItems hol hdl ?_)
  simp only [Int.toNat_natCast, hx]
  refine wpAny_bind (wpAny_rule (wpAny_bind (wpAny_setField ho hd (by simp) ?_)))
  show wpAny _ _ (newExc (.type "StopIteration") [] >>= _) _ _ _
  refine wpAny_bind ?_
  simp only [newExc, newTuple]
  refine wpAny_bind (wpAny_newObj_type ?_ (by size_fits))
  refine wpAny_bind (m := firstArgMember _ _) (wpAny_of_eq (a := Value.none) (by first | rfl | (simp only [firstArgMember]; rfl)) ?_)
  refine wpAny_newObj_type ?_ (by size_fits)
  refine HotX.raiseNew_hot ⟨hh, o1, vs1, Heap.get?_push_of_some _ (Heap.get?_push_of_some _ h1'), d1, c1⟩ (Nat.ne_of_lt (Heap.lt_size (Heap.get?_push_of_some _ h1'))) (Heap.get?_push_size _ rfl) rfl (by first | (simp; done) | (simp; omega) | (simp only [Array.size_append]; simp; omega)) ?_
  refine wpAny_bind (wpAny_isInstance (T := "StopIteration") (b := true) ⟨_, Heap.get?_update_self _ (Heap.get?_push_size _ rfl) rfl, rfl⟩ isSubtype_stop ?_)
  refine wpAny_pure (hQ _ ?_)
  have same := Heap.SameBut.update s.heap it (Obj.mapFields (·.setIfInBounds 0 Value.none))
  have e2 := ((same.extBut.push { cls := .type "tuple", data := .seq ([] : List Value).toArray }).push { cls := .type "StopIteration", data := .fields (#[.ref (s.heap.update it (Obj.mapFields (·.setIfInBounds 0 Value.none))).objs.size, .none, .none, .none, .bool false, .none] ++ ownMembersOf (.type "StopIteration") []) })
  refine fun b o hb e => ?_
  have q := e2 b o hb e
  rw [Heap.get?_update_other _ _ (Nat.ne_of_gt (Heap.lt_size (Heap.get?_push_of_some _ ((same.2 b hb).trans e))))]
  exact q

/-- calm, or what is handled is pinned -/
def CoH (X : Cx) : Prop := X.calm = true ∨ L2H.HotC X
theorem tuple_end {X : Cx} {pins : List (Addr × Obj)} {σ : L2.St} {H : Hp} {s : Shared} {it t : Addr} {i : Nat} {items : Array Value} {Q : Option Value → Shared → Prop} {E : Value → Shared → Prop} (c : CoH X) (I : Inv X pins σ H s)
    (hit : s.heap.IsTupleIter it t i) (ht : s.heap.IsTuple t items) (hx : items[i]? = none) (hQ : ∀ h', Heap.ExtBut it s.heap h' → Q none { s with heap := h' }) : wpAny (model X.prog X.w) X.A (pyNext (.ref it)) Q E s := by
  rcases c with c | c
  · exact wpAny_pyNext_tuple_end (I.ok.hd c) hit ht hx hQ
  · obtain ⟨x1, hot⟩ := c.at I
    exact tuple_end_hot hot hit ht hx hQ
theorem inv_pn {X : Cx} {σ : L2.St} {H : Hp} {s : Shared} (I : Inv X [] σ H s) (P : List (Addr × Obj)) (h : ∀ p ∈ P, s.heap.get? p.1 = some p.2 ∧ H p.1 = none ∧ p.1 ≠ X.env.locals ∧ p.1 ∉ X.fs ∧ ∀ v, p.2.data ≠ .cell v) : Inv { X with pn := P } [] σ H s :=
  ⟨⟨I.ok.mod, I.ok.kind, I.ok.glob, I.ok.blt, I.ok.above, I.ok.inj, I.ok.has, I.ok.cab, I.ok.hd, I.ok.frames, I.ok.stk, I.ok.exf, I.ok.bs, I.ok.bsz, I.ok.noex, I.ok.exfs, I.ok.funs, I.ok.frf⟩, I.os, I.bare, I.base, I.loc, I.cell, I.free, I.freeC,
    fun p hp => h p (by simpa using hp), I.hok, I.len⟩
/-- a block that keeps the pins of its def -/
abbrev blkP (X : Cx) (s : Shared) (H : Hp) (scope : Scope) (cenv : Env) (fp : List Addr) : Cx := { X.blk s H scope cenv fp with pn := X.pn }
end Ld
namespace Ld
open PySem PySem.Spec PyProof.Rows L2
/-- what a comprehension gathers in: a list, a set -/
structure Acc (α : Type) where
  obj : World → Addr → α → HO
  new : α
  add : α → V → α
  room : α → V → Prop
/-- one clause over a tuple -/
def tCp {α : Type} (w : World) (K : Acc α) (ti : TE) (g : TG) (tt : TT) (te : TE) (vs : List Nat) : TE := fun σ H Q => ti σ H fun x H1 => ∃ a xs, x = .ref a ∧ H1 a = some (.tup xs) ∧ ∀ D, H1 D = none → ∃ Pv : Nat → Hp → Prop, Pv 0 (upd H1 D (K.obj w D K.new)) ∧
  (∀ i H, Pv i H → H a = some (.tup xs)) ∧ (∀ i x H, xs[i]? = some x → Pv i H → g x (wipe σ vs) H fun σ2 H2 => wipe σ2 vs = wipe σ vs ∧ tt σ2 H2 fun b H3 =>
    if b = true then te σ2 H3 fun y H4 => ∃ acc, H4 D = some (K.obj w D acc) ∧ K.room acc y ∧ Pv (i + 1) (upd H4 D (K.obj w D (K.add acc y))) else Pv (i + 1) H3) ∧ ∀ H, Pv xs.length H → Q (.ref D) H
/-- how such a thing is made and added to, by the comprehension's own code -/
structure AccOk {α : Type} (P : Program) (w : World) (K : Acc α) (mk : Sem Value) (node elt tg iter : Expr) (ifs : List Expr) (scope : Scope) (pos : Pos) (addId : String) : Prop where
  made : ∀ (A : Around) (E : Value → Shared → Prop) (s : Shared) (Q : Value → Shared → Prop), (∀ o : Obj, (∀ H h (a : Addr), h.get? a = some o → ObjOk P w H h a (K.obj w a K.new)) → o.isFreed = false → Q (.ref s.heap.objs.size) { s with heap := s.heap.push o }) → wpAny (model P w) A mk Q E s
  add : ∀ (X : Cx), X.prog = P → X.w = w → ∀ (pins : List (Addr × Obj)) (σ : L2.St) (H : Hp) (s : Shared) (E : Value → Shared → Prop) (D : Addr) (acc : α) (y : V) (v : Value) (Q : Value → Shared → Prop), Inv X pins σ H s → H D = some (K.obj w D acc) → K.room acc y → RelV y v →
    (∀ u s', Inv X pins σ (upd H D (K.obj w D (K.add acc y))) s' → Q u s') → wpAny (model P w) X.A (call (.builtin addId) [.ref D, v]) Q E s
  muta : ∀ D acc, Mut (some (K.obj w D acc))
  first : clausesOf node = [⟨tg, iter, ifs, 0⟩]
  start : ∀ (A : Around) (R : Result → Shared → Prop) (s : Shared) (it acc : Value) (env : Env), codeAny (model P w) A (.compLoop node 0 it acc env) R s →
    wpAny (model P w) A (pyIter it) (fun it' s' => codeAny (model P w) A (.compLoop node 0 it' acc env) R s') (notedBy (model P w) A env fun x s' => R (.error x) s') s → codeAny (model P w) A (.compStart node 0 it acc env) R s
  loop : ∀ (A : Around) (R : Result → Shared → Prop) (s : Shared) (it acc : Value) (env : Env) (I : Nat → Shared → Prop), (∀ n s, I n s → wpAny (model P w) A (pyNext it) (fun r s₁ => match r with
      | none => R (.ok .next) s₁
      | some v => wpAny (model P w) A (letOwnedTupleGo tg it v) (fun _ s₁' => wpAny (model P w) A (assign tg env v) (fun _ s₂ =>
          wpAny (model P w) A (forIn ifs true fun c r => if r = true then do let ok ← isTrue c env (eval c env); pure (ForInStep.yield ok) else pure (ForInStep.yield r)) (fun ok s₃ =>
            if ok = true then wpAny (model P w) A (eval elt env) (fun x s₄ =>
              wpAny (model P w) A (call (.builtin addId) [acc, x]) (fun _ s₅ => ∃ m, m < n ∧ I m s₅) (notedBy (model P w) A env fun e s' => R (.error e) s') s₄) (notedBy (model P w) A env fun e s' => R (.error e) s') s₃
            else ∃ m, m < n ∧ I m s₃) (notedBy (model P w) A env fun e s' => R (.error e) s') s₂) (notedBy (model P w) A env fun e s' => R (.error e) s') s₁') (notedBy (model P w) A env fun e s' => R (.error e) s') s₁) (notedBy (model P w) A env fun e s' => R (.error e) s') s) →
    ∀ n, I n s → codeAny (model P w) A (.compLoop node 0 it acc env) R s
section
variable {X : Cx} {α : Type} {K : Acc α} {mk : Sem Value} {node elt tg iter : Expr} {ifs : List Expr} {scope : Scope} {own : List (Str × Nat)} {pos : Pos} {addId : String} {ti te : TE} {g : TG} {tt : TT}
theorem cp_core (ca : CoH X) (hN : X.N.Nodup) (M : AccOk X.prog X.w K mk node elt tg iter ifs scope pos addId) (hi : PE X iter ti) (ok : BlkOk X.N X.env.scope scope own)
    (hg : ∀ (s : Shared) (H : Hp) (C : Addr) (cl : List (Str × Addr)) (fp : List Addr), PG (blkP X s H scope (compEnvC scope cl C X.env) fp) tg g) (ht : ∀ (s : Shared) (H : Hp) (C : Addr) (cl : List (Str × Addr)) (fp : List Addr), PTs (blkP X s H scope (compEnvC scope cl C X.env) fp) ifs tt)
    (he : ∀ (s : Shared) (H : Hp) (C : Addr) (cl : List (Str × Addr)) (fp : List Addr), PE (blkP X s H scope (compEnvC scope cl C X.env) fp) elt te) (hs : ∀ x, foldedSetIterable iter X.env x = pure x) (pos' : Pos)
    (ev : eval node X.env = comprehension node scope X.env pos' mk false (eval iter X.env)) : PE X node (tCp X.w K ti g tt te (own.map (·.2))) := by
  refine ⟨fun pins s σ H Q I h => ?_⟩
  have hfree : ∀ y ∈ scope.names, y.2 = .free → ∃ c, X.env.cells.lookup y.1 = some c := fun y hy e => (ok.free y hy e).elim (fun k => I.ok.has _ (.inl k)) fun k => I.ok.has _ (.inr k)
  rw [ev]
  refine wpAny_comprehension_free (use := none) M.first hs (closure_ok hfree) ok.kind (fun y hy e => by rw [ok.uniq y hy, e]) (thn (hi.run pins s σ H _ I h) fun xv s1 ⟨x, H1, I1, rx, a, xs, ex, ha, q⟩ => ?_)
  subst ex
  obtain rfl : xv = Value.ref a := rx
  obtain ⟨its, rv, tp, hz⟩ := I1.tuple (SqT.of ha)
  refine wpAny_pyIter_tuple (show s1.heap.IsTuple a its.toArray from tp) ?_
  generalize hit : s1.heap.objs.size = it
  generalize hs2 : ({ s1 with heap := s1.heap.push { cls := .type "tuple_iterator", data := .fields #[.ref a, .int 0 0] } } : Shared) = s2
  have k2 : ∀ b o, s1.heap.get? b = some o → s2.heap.get? b = some o := fun b o e => by rw [← hs2]; exact Heap.get?_push_of_some _ e
  have I2 : Inv X pins σ H1 s2 := by rw [← hs2]; exact I1.kept (t' := s1.toks) fun b o e => Heap.get?_push_of_some _ e
  have st2 : s2.heap.IsTupleIter it a 0 := by rw [← hs2, ← hit]; exact ⟨_, Heap.get?_push_size _ rfl, rfl, rfl⟩
  have f2 : FpOk X pins H1 it := by rw [← hit]; exact I1.fpOk (Nat.le_refl _) (I1.hok.fresh (Nat.le_refl _))
  have lt2 : it < s2.heap.objs.size := by obtain ⟨o, e, _⟩ := st2; exact Heap.lt_size e
  have tp2 : s2.heap.IsTuple a its.toArray := by obtain ⟨o, e, r⟩ := tp; exact ⟨o, k2 _ _ e, r⟩
  refine M.made _ _ _ _ fun o0 ho0 hfr => newEnv_comp ?_
  generalize hD : s2.heap.objs.size = D
  have nD : H1 D = none := I2.hok.fresh (Nat.le_of_eq hD)
  obtain ⟨Pv, p0, pT, step, fin⟩ := q D nD
  generalize hs3 : ({ s2 with heap := s2.heap.push o0 } : Shared) = s3
  have h3 : s3.heap = s2.heap.push o0 := by rw [← hs3]
  have k3 : ∀ b o, s2.heap.get? b = some o → s3.heap.get? b = some o := fun b o e => by rw [h3]; exact Heap.get?_push_of_some _ e
  have I3 : Inv X pins σ (upd H1 D (K.obj X.w D K.new)) s3 := by
    rw [← hs3]
    exact I2.laid (t' := s2.toks) (fun b o e => Heap.get?_push_of_some _ e) (Nat.le_of_eq hD) (ho0 _ _ _ (by rw [← hD]; exact Heap.get?_push_size _ hfr))
  have f3 : FpOk X pins (upd H1 D (K.obj X.w D K.new)) it := ⟨by rw [upd_ne (by rw [← hD]; exact Nat.ne_of_lt lt2)]; exact f2.1, f2.2⟩
  have lt3 : it < s3.heap.objs.size := by rw [h3, Heap.size_push]; exact Nat.lt_succ_of_lt lt2
  have f3' : ∀ b ∈ [it], FpOk X pins (upd H1 D (K.obj X.w D K.new)) b ∧ b < s3.heap.objs.size := fun b hb => by
    rw [List.mem_singleton.mp hb]
    exact ⟨f3, lt3⟩
  have I4 := block_start I3 ok hN f3'
  have pg := hg s3 (upd H1 D (K.obj X.w D K.new)) s3.heap.objs.size (cellsFrom (s3.heap.objs.size + 1) scope.names (cloFrom X.env.cells scope.names [])) [it]
  have pt := ht s3 (upd H1 D (K.obj X.w D K.new)) s3.heap.objs.size (cellsFrom (s3.heap.objs.size + 1) scope.names (cloFrom X.env.cells scope.names [])) [it]
  have pe := he s3 (upd H1 D (K.obj X.w D K.new)) s3.heap.objs.size (cellsFrom (s3.heap.objs.size + 1) scope.names (cloFrom X.env.cells scope.names [])) [it]
  show codeAny _ _ (.compStart node 0 (.ref it) (.ref D) (compEnvC scope (cellsFrom (s3.heap.objs.size + 1) scope.names (cloFrom X.env.cells scope.names [])) s3.heap.objs.size X.env)) (compPost (model X.prog X.w) X.A X.xe none (EP X pins σ Q) (.ref D) s3.heap.objs.size) { s3 with heap := pushCells (s3.heap.push { cls := .type "dict", data := .dict #[] }) scope.names }
  have k4 : ∀ b o, s3.heap.get? b = some o → (pushCells (s3.heap.push { cls := .type "dict", data := .dict #[] }) scope.names).get? b = some o := fun b o e => pushCells_keeps _ _ _ _ (Heap.get?_push_of_some _ e)
  generalize hce : compEnvC scope (cellsFrom (s3.heap.objs.size + 1) scope.names (cloFrom X.env.cells scope.names [])) s3.heap.objs.size X.env = ce at I4 pg pt pe ⊢
  have cL : ce.locals = s3.heap.objs.size := by subst hce; rfl
  generalize hH3 : upd H1 D (K.obj X.w D K.new) = H3 at I3 I4 pg pt pe p0 f3
  generalize hs4 : ({ s3 with heap := pushCells (s3.heap.push { cls := .type "dict", data := .dict #[] }) scope.names } : Shared) = s4 at I4 ⊢
  have k4' : ∀ b o, s3.heap.get? b = some o → s4.heap.get? b = some o := fun b o e => by rw [← hs4]; exact k4 b o e
  -- the pins stay in the block
  have I5 : Inv (blkP X s3 H3 scope ce [it]) [] (wipe σ (own.map (·.2))) H3 s4 := inv_pn I4 X.pn fun p hp => by
    have z := I3.pin p (List.mem_append_left _ hp)
    refine ⟨k4' _ _ z.1, z.2.1, ?_, fun m => ?_, z.2.2.2.2⟩
    · show p.1 ≠ ce.locals
      rw [cL]
      exact Nat.ne_of_lt (Heap.lt_size z.1)
    · exact (List.mem_cons.mp (I3.stkSub p.1 m)).elim z.2.2.1 z.2.2.2.1
  have caB : CoH (blkP X s3 H3 scope ce [it]) := ca.imp id fun ⟨p, h1, h2⟩ => ⟨p, h1, h2⟩
  have stat : ∀ {σ' : L2.St} {H' : Hp} {s' : Shared}, Inv (blkP X s3 H3 scope ce [it]) [] σ' H' s' → H' it = none → FpOk (blkP X s3 H3 scope ce [it]) [] H' it := fun {σ' H' s'} I' n =>
    ⟨n, (I'.ok.exf it (List.mem_singleton.mpr rfl)).1, I'.ok.exfs it (List.mem_singleton.mpr rfl), .inl (List.mem_singleton.mpr rfl), fun x c e => (I'.ok.exf it (List.mem_singleton.mpr rfl)).2 x c e, fun p hp => f3.2.2.2.2.2 p (List.mem_append_left _ (by simpa using hp))⟩
  have loop : codeAny (model X.prog X.w) X.A (.compLoop node 0 (.ref it) (.ref D) ce) (compPost (model X.prog X.w) X.A X.xe none (EP X pins σ Q) (.ref D) s3.heap.objs.size) s4 := by
    refine M.loop _ _ _ _ _ _ (fun n s' => ∃ i H', n = xs.length - i ∧ i ≤ xs.length ∧ Inv (blkP X s3 H3 scope ce [it]) [] (wipe σ (own.map (·.2))) H' s' ∧ s'.heap.IsTupleIter it a i ∧ H' it = none ∧ Pv i H') ?_ xs.length
      ⟨0, H3, rfl, Nat.zero_le _, I5, by obtain ⟨o, e, r⟩ := st2; exact ⟨o, k4' _ _ (k3 _ _ e), r⟩, f3.1, p0⟩
    rintro n s5 ⟨i, H5, en, hi5, J5, st5, n5, p5⟩
    obtain ⟨its5, rv5, tp5, _⟩ := J5.tuple (SqT.of (pT i H5 p5))
    obtain ⟨f0, f1, f4, f6, f7, f8⟩ := stat J5 n5
    have l5 := rv5.length
    cases hx : xs[i]? with
    | none =>
      have e : i = xs.length := Nat.le_antisymm hi5 (List.getElem?_eq_none_iff.mp hx)
      refine tuple_end (X := blkP X s3 H3 scope ce [it]) caB J5 st5 (show s5.heap.IsTuple a its5.toArray from tp5) (by simp; omega) fun h6 eb => ?_
      have J6 := J5.turned (t' := s5.toks) (fun b o hb e => eb b o hb e) f0 f1 f6 f7 f8
      have I7 : Inv X pins σ H5 { s5 with heap := h6 } := I3.call' (ch := [it]) J6.os J6.base J6.hok J6.bare fun b hb => by
        rw [List.mem_singleton.mp hb]
        exact ⟨f3.2.2.2.1, f3.2.1, f3.2.2.2.2.1, f3.2.2.2.2.2⟩
      have nC : H5 s3.heap.objs.size = none := by rw [← cL]; exact J6.free
      obtain ⟨m, hn, _⟩ := J6.loc
      have hn : h6.Ns ce.locals m := hn
      rw [cL] at hn
      refine ⟨m, hn, fun h7 sb => ?_⟩
      obtain ⟨g0, g1, g2, g3, g4, g5⟩ := I3.fpOk (Nat.le_refl _) nC
      rw [e] at p5
      exact ⟨.ref D, H5, I7.turned (t' := s5.toks) (fun b o hb e => (sb.2 b hb).trans e) g0 g1 g3 g4 g5, rfl, fin H5 p5⟩
    | some x =>
      have lt : i < xs.length := (List.getElem?_eq_some_iff.mp hx).1
      obtain ⟨u, hu, ru⟩ := rv5.get hx
      refine wpAny_pyNext_tuple_item st5 (show s5.heap.IsTuple a its5.toArray from tp5) (x := u) (by simpa using hu) fun h6 st6 sb => ?_
      have J6 := J5.turned (t' := s5.toks) (fun b o hb e => (sb.2 b hb).trans e) f0 f1 f6 f7 f8
      obtain ⟨oi, e6, c6, d6⟩ := id st6
      refine go_of (s := { s5 with heap := h6 }) e6 c6 d6 (by decide) ?_
      have J7 := J6.pinned (fp := [it]) (fun b hb => by rw [List.mem_singleton.mp hb]; exact stat J6 n5) (fun b hb => by rw [List.mem_singleton.mp hb]; exact ⟨oi, e6, fun v z => by rw [d6] at z; cases z⟩)
      refine thnF (pg.run _ _ _ H5 x u _ J7 ru (step i x H5 hx p5)) fun _ s8 ⟨σ8, H8, J8, hw8, q8⟩ => ?_
      refine thnF (pt.run _ s8 σ8 H8 _ J8 q8) fun b s9 ⟨H9, J9, q9⟩ => ?_
      have again : ∀ {s' : Shared} {H' : Hp}, Inv (blkP X s3 H3 scope ce [it]) ([] ++ pinsAt [it] h6) σ8 H' s' → Pv (i + 1) H' → ∃ m, m < n ∧ ∃ i H', m = xs.length - i ∧ i ≤ xs.length ∧ Inv (blkP X s3 H3 scope ce [it]) [] (wipe σ (own.map (·.2))) H' s' ∧ s'.heap.IsTupleIter it a i ∧ H' it = none ∧ Pv i H' := fun {s' H'} J' p' => by
        have z := J'.pin (it, oi) (List.mem_append_right _ (List.mem_append_right _ (mem_pinsAt (List.mem_singleton.mpr rfl) e6)))
        refine ⟨xs.length - (i + 1), by omega, i + 1, H', rfl, lt, (J'.unpinned (pins := [])).weak (by rw [← hw8, wipe_length]) (fun j v e => ?_), ⟨oi, z.1, c6, d6⟩, z.2.1, p'⟩
        rw [← hw8] at e
        exact (wipe_some e).1
      cases b with
      | false =>
        rw [if_neg Bool.false_ne_true] at q9 ⊢
        exact again J9 q9
      | true =>
        rw [if_pos rfl] at q9 ⊢
        refine thnF (pe.run _ s9 σ8 H9 _ J9 q9) fun z s10 ⟨yv, H10, J10, r10, acc, hD10, hr10, nx⟩ => ?_
        exact M.add (blkP X s3 H3 scope ce [it]) rfl rfl _ _ _ _ _ _ _ _ _ _ J10 hD10 hr10 r10 fun _ s11 J11 => again J11 nx
  exact M.start _ _ _ _ _ _ loop (wpAny_pyIter_tupleiter (by obtain ⟨o, e, r⟩ := st2; exact ⟨o, k4' _ _ (k3 _ _ e), r⟩) loop)
end
end Ld
namespace Ld
open PySem PySem.Spec PyProof.Rows L2
def accL : Acc (List V) := ⟨fun _ _ xs => .lst xs, [], fun xs y => xs ++ [y], fun xs _ => xs.length < sizeLine⟩
def insV (L : List Str) : V → List Str
  | .str x => ins x L
  | _ => L
def accT : Acc (List Str) := ⟨fun w a L => TSetO w a L, [], insV, fun L y => (∃ x, y = .str x) ∧ L.length + 1 < scanBound⟩
theorem accL_ok {P : Program} {w : World} {elt tg iter : Expr} {ifs : List Expr} {scope : Scope} {pos : Pos} : AccOk P w accL (newList []) (.ListComp elt [⟨tg, iter, ifs, 0⟩] scope pos) elt tg iter ifs scope pos "list.append" where
  made := fun A E s Q h => wpAny_newObj_type (h { cls := .type "list", data := .seq ([] : List Value).toArray } (fun H hp a e => ⟨Nat.zero_le _, [], 0, .nil, e⟩) rfl) (by show 0 ≤ sizeLine; decide)
  add := by
    intro X hP hw pins σ H s E D acc y v Q I hD hr r h
    subst hP hw
    exact app_ok I hD hr r fun s' J => h .none s' J
  muta := fun _ _ => trivial
  first := rfl
  start := fun A R s it acc env h0 h => codeAny_compStart_list h0 h
  loop := fun A R s it acc env I turn n h => compLoop_any I turn n h
theorem accT_ok {P : Program} {w : World} {elt tg iter : Expr} {ifs : List Expr} {scope : Scope} {pos : Pos} : AccOk P w accT (newSet (.type "set")) (.SetComp elt [⟨tg, iter, ifs, 0⟩] scope pos) elt tg iter ifs scope pos "set.add" where
  made := fun A E s Q h => PpSet.newSet_ok (h _ (fun H hp a e => tsetO_new (tset_new w e)) rfl)
  add := by
    intro X hP hw pins σ H s E D acc y v Q I hD hr r h
    subst hP hw
    obtain ⟨⟨x, rfl⟩, room⟩ := hr
    obtain ⟨t, rfl⟩ := r
    exact addT_ok I hD room fun s' J => h .none s' J
  muta := fun _ _ => trivial
  first := rfl
  start := fun A R s it acc env h0 h => PpSet.codeAny_compStart_set h0 h
  loop := fun A R s it acc env I turn n h => PpSet.compLoopS_any I turn n h
section
variable {X : Cx} {elt tg iter : Expr} {ifs : List Expr} {scope : Scope} {own : List (Str × Nat)} {pos : Pos} {ti te : TE} {g : TG} {tt : TT}
/-- [elt for tg in a tuple if ..], calm or not -/
theorem pe_lcT (own : List (Str × Nat)) (ca : CoH X) (hN : X.N.Nodup) (hi : PE X iter ti) (ok : BlkOk X.N X.env.scope scope own)
    (hg : ∀ (s : Shared) (H : Hp) (C : Addr) (cl : List (Str × Addr)) (fp : List Addr), PG (blkP X s H scope (compEnvC scope cl C X.env) fp) tg g) (ht : ∀ (s : Shared) (H : Hp) (C : Addr) (cl : List (Str × Addr)) (fp : List Addr), PTs (blkP X s H scope (compEnvC scope cl C X.env) fp) ifs tt)
    (he : ∀ (s : Shared) (H : Hp) (C : Addr) (cl : List (Str × Addr)) (fp : List Addr), PE (blkP X s H scope (compEnvC scope cl C X.env) fp) elt te) (hs : ∀ x, foldedSetIterable iter X.env x = pure x := by intro _; rfl) :
    PE X (.ListComp elt [⟨tg, iter, ifs, 0⟩] scope pos) (tCp X.w accL ti g tt te (own.map (·.2))) := cp_core ca hN accL_ok hi ok hg ht he hs _ (eval_ListComp ..)
/-- {elt for tg in a tuple if ..}, texts -/
theorem pe_scT (own : List (Str × Nat)) (ca : CoH X) (hN : X.N.Nodup) (hi : PE X iter ti) (ok : BlkOk X.N X.env.scope scope own)
    (hg : ∀ (s : Shared) (H : Hp) (C : Addr) (cl : List (Str × Addr)) (fp : List Addr), PG (blkP X s H scope (compEnvC scope cl C X.env) fp) tg g) (ht : ∀ (s : Shared) (H : Hp) (C : Addr) (cl : List (Str × Addr)) (fp : List Addr), PTs (blkP X s H scope (compEnvC scope cl C X.env) fp) ifs tt)
    (he : ∀ (s : Shared) (H : Hp) (C : Addr) (cl : List (Str × Addr)) (fp : List Addr), PE (blkP X s H scope (compEnvC scope cl C X.env) fp) elt te) (hs : ∀ x, foldedSetIterable iter X.env x = pure x := by intro _; rfl) :
    PE X (.SetComp elt [⟨tg, iter, ifs, 0⟩] scope pos) (tCp X.w accT ti g tt te (own.map (·.2))) := cp_core ca hN accT_ok hi ok hg ht he hs _ (PpSet.eval_SetComp ..)
end
end Ld
namespace Ld
open PySem PySem.Spec PyProof.Rows L2
/-! ### raise X(v), X's __init__ keeping v as self.value, where nothing is handled -/
def spErr (C : Addr) : Sp := fun vs H Q _ => ∃ a v, vs = [.ref a, v] ∧ H a = some (exo a C none) ∧ ∀ d, H d = none → d ≠ a → Q .non (upd (upd H d (exd d [("value", v)])) a (exo a C (some d)))
/-- an own error class and its __init__ -/
structure ErrC (P : Program) (w : World) (K : PySem.W.Frag) (mg : Str → Option Value) (base : Heap) (x : Str) (C : Addr) : Prop where
  cls : OexC K C
  at_ : mg x = some (.ref C)
  ini : ∃ (f : Addr) (fd : FuncData) (ps : List Str), PySem.W.findIn K (.ref C) "__init__" = some (some (.ref f)) ∧ PySem.W.typeIn K (.ref f) = some (.type "function") ∧ FnOk P w K mg base CX0 1 f fd ps (spErr C) ∧ Binds K fd ps []
theorem pmk_err {X : Cx} {x : Str} {C : Addr} {e : Expr} {te : TE} {p pos : Pos} (T : ErrC X.prog X.w X.K X.mg X.base x C) (hr : Room 2 X.A) (hg : Gl X x) (ha : PE X e te) (hdb : (x == ("__debug__" : Str)) = false := by decide)
    (he : starEach [e] X.env = (false, eval e X.env) :: starEach [] X.env := by rfl) (hpl : (backTo pos (starEach [] X.env)).any (·.1) = false := by rfl) :
    L2N.PMk X (.Call (.Name x p) [e] [] pos) (fun σ H Q => te σ H fun v H1 => ∀ d, H1 d = none → Q (.ref C) (some d) (upd H1 d (.xd [("value", v)]))) := by
  intro pins s σ H Q I h
  obtain ⟨fI, fd, ps, iC, tI, F1, hb⟩ := T.ini
  obtain ⟨nm, q, N, bs, bm, sn, sub, ab, col, dd, k0, k1, k2, k3, k5, hC, hbm⟩ := T.cls.cls
  refine wpAny_Call_Name_kw (ld_glob I hg T.at_ ?_ hdb)
  refine PySem.W.callWith_K (h₀ := X.base) I.ok.mod.kin T.cls.kC ?_ he hpl
  rw [he]
  show wpAny _ _ (spliced ((false, eval e X.env) :: backTo pos (starEach [] X.env))) _ _ s
  refine Calls.spliced_cons (thn (ha.run pins s σ H _ I h) fun u s1 ⟨v, H1, I1, rv, q1⟩ => Calls.spliced_nil ⟨I1.kIn, ?_⟩)
  show wpAny _ _ (call (.ref C) [u]) _ _ _
  obtain ⟨hp, g, dr, tk, os⟩ := s1
  have up : hp.objs.size ≤ hp.objs.size + 1 := Nat.le_succ _
  have nA : H1 (hp.objs.size + 1) = none := I1.hok.fresh up
  have kk : ∀ b o, hp.get? b = some o → ((hp.push (PySem.W.kdv_tup [u])).push (PySem.HandSPX.excO C hp.objs.size)).get? b = some o := fun b o z => Heap.get?_push_of_some _ (Heap.get?_push_of_some _ z)
  have hget : ((hp.push (PySem.W.kdv_tup [u])).push (PySem.HandSPX.excO C hp.objs.size)).get? (hp.objs.size + 1) = some (PySem.HandSPX.excO C hp.objs.size) := by heap_get
  have I2 : Inv X pins σ (upd H1 (hp.objs.size + 1) (exo (hp.objs.size + 1) C none)) ⟨(hp.push (PySem.W.kdv_tup [u])).push (PySem.HandSPX.excO C hp.objs.size), g, dr, tk, os⟩ :=
    I1.laid (t' := tk) (a := hp.objs.size + 1) (o := exo (hp.objs.size + 1) C none) (h' := (hp.push (PySem.W.kdv_tup [u])).push (PySem.HandSPX.excO C hp.objs.size)) kk up (exo_ok hget)
  have spq : spErr C [V.ref (hp.objs.size + 1), v] (upd H1 (hp.objs.size + 1) (exo (hp.objs.size + 1) C none)) (fun z H2 => z = .non ∧ ∃ d, H1 d = none ∧ d ≠ hp.objs.size + 1 ∧ H2 = upd (upd (upd H1 (hp.objs.size + 1) (exo (hp.objs.size + 1) C none)) d (exd d [("value", v)])) (hp.objs.size + 1) (exo (hp.objs.size + 1) C (some d))) (fun _ _ _ => False) :=
    ⟨_, v, rfl, upd_same, fun d nd ne => ⟨rfl, d, by rw [upd_ne ne] at nd; exact nd, ne, rfl⟩⟩
  have r2 : Vals [V.ref (hp.objs.size + 1), v] [Value.ref (hp.objs.size + 1), u] := .cons rfl (.cons rv .nil)
  have hl : ([Value.ref (hp.objs.size + 1), u] ++ []).length = ps.length := by rw [← F1.len _ _ _ _ spq]; rfl
  have b2 := hb ⟨(hp.push (PySem.W.kdv_tup [u])).push (PySem.HandSPX.excO C hp.objs.size), g, dr, tk, os⟩ [Value.ref (hp.objs.size + 1), u] I2.kIn hl
  rw [List.append_nil] at b2
  refine wpAny_call (PySem.HandSPX.call_own F.excBase_ValueError (fun Y => PySem.HandSPX.refsVE_contains Y bm hbm) (I1.kIn _ _ hC) (PySem.W.looks_findIn I1.kIn iC) (fun self => PySem.W.bind_fn I1.kIn self tI) (by rw [sizeLine_eq]; exact Nat.succ_le_of_lt (by decide))
    (codeAny_mono (F1.run _ X.stack _ _ ⟨[Value.ref (hp.objs.size + 1), u], []⟩ _ _ _ (fun _ _ _ => False) (hr.make C [u] []) (I2.env0.make C [u] []) b2 r2 spq) fun r s' hq' => ?_))
  match r, hq' with
  | .ok (.ret z), hq' =>
    obtain ⟨z', H2, os2, bare2, un2, hok2, rz, ez, d, nd, ne, eH⟩ := hq'
    subst ez
    subst eH
    obtain ⟨h2, g2, d2, t2, os'⟩ := s'
    obtain ⟨t0, G, J, kG, ge, hoe, na⟩ := mk_end0 (d2 := d2) (t2 := t2) I1 up kk un2 hok2 os2 bare2 (upd_same) (by rw [upd_ne ne, upd_same]) nd
    have e3 : upd (del (upd (upd (upd H1 (hp.objs.size + 1) (exo (hp.objs.size + 1) C none)) d (exd d [("value", v)])) (hp.objs.size + 1) (exo (hp.objs.size + 1) C (some d))) (hp.objs.size + 1)) d (.xd [("value", v)]) = upd H1 d (.xd [("value", v)]) := by
      funext b
      by_cases hbd : b = d
      · rw [hbd, upd_same, upd_same]
      · rw [upd_ne hbd, upd_ne hbd]
        by_cases hba : b = hp.objs.size + 1
        · rw [hba, del_same, nA]
        · rw [del_ne hba, upd_ne hba, upd_ne hbd, upd_ne hba]
    rw [e3] at J na
    refine ⟨rz, hp.objs.size + 1, _, _, ⟨G, g2, d2, t2, os'⟩, _, .ref C, some d, rfl, J, kG, ge, hoe, ⟨rfl, rfl, fun vs hv => ?_⟩, rfl, rfl, na, rfl, bare2, raises_own T.cls.exC T.cls.tyC, q1 d nd⟩
    cases hv
    rfl
  | .error er, hq' => exact False.elim hq'
  | .ok .next, hq' => exact False.elim hq'
  | .ok .brk, hq' => exact False.elim hq'
  | .ok .cont, hq' => exact False.elim hq'

/-! ### try: .. except X as e: return .., several clauses -/
/-- the suites end by return -/
def rtOnly (D : Ends) : Ends := { nx := fun _ _ => False, rt := D.rt }
inductive HdsAs (X : Cx) (i : Nat) (n : Str) : List ExceptHandler → List (Value × (Addr → Value → Option Addr → TS)) → Prop
  | nil : HdsAs X i n [] []
  | cons {x : Str} {c : Value} {ts : Addr → Value → Option Addr → TS} {b₀ : Stmt} {suite : List Stmt} {np pos' : Pos} {hds : List ExceptHandler} {l : List (Value × (Addr → Value → Option Addr → TS))} (hc : Names X x c)
      (hsu : ∀ (a : Addr) (oe : Obj) (cls : Value) (d : Option Addr) (pn : List (Addr × Obj)), L2N.Zn cls d oe → (∃ vs, oe.data = .fields vs) → PSs (X.suite a ((a, oe) :: pn)) (b₀ :: suite) (ts a cls d)) (r : HdsAs X i n hds l) :
      HdsAs X i n (.ExceptHandler (some (.Name x np)) (some n) (b₀ :: suite) pos' :: hds) ((c, ts) :: l)
def wManyAs (K : PySem.W.Frag) (i : Nat) (D : Ends) : List (Value × (Addr → Value → Option Addr → TS)) → WX
  | [] => fun _ _ _ _ => False
  | (c, ts) :: r => fun cls d σ H => ∃ b, PySem.W.exmOne K cls c = some b ∧ (b = true → ∀ a, H a = none → ts a cls d (rtOnly D) (σ.set i (some (.ref a))) H) ∧ (b = false → wManyAs K i D r cls d σ H)
theorem hotC_suite {X : Cx} {a : Addr} {oe : Obj} {cls : Value} {d : Option Addr} {pn : List (Addr × Obj)} (hz : L2N.Zn cls d oe) (hf : ∃ vs, oe.data = .fields vs) : L2H.HotC (X.suite a ((a, oe) :: pn)) := by
  obtain ⟨vs, e⟩ := hf
  exact ⟨(a, oe), ⟨rfl, vs, e, hz.2.2 vs e⟩, List.mem_cons_self⟩
theorem ps_try_manyAs {X : Cx} {i : Nat} {n : Str} {body : List Stmt} {h₀ : ExceptHandler} {hds : List ExceptHandler} {l : List (Value × (Addr → Value → Option Addr → TS))} {pos : Pos} {tb : WX → TS} (hs : X.stack = X.env :: X.outer) (hf : X.env.frame = some X.env.locals) (hN : X.N.Nodup)
    (hi : X.N[i]? = some n) (hln : X.env.kindOf n = some .local)
    (hb : ∀ (W : WX) (pn : List (Addr × Obj)) (xe : Value → Shared → Prop), L2N.Takes (X.tr pn xe) W → PassesOwn (model X.prog X.w) X.A X.env xe → PSs (X.tr pn xe) body (tb W))
    (hh : HdsAs X i n (h₀ :: hds) l) : PS X (.Try body (h₀ :: hds) [] [] pos) (fun D σ H => tb (wManyAs X.K i D l) D σ H) := by
  refine ⟨fun pins s σ H D I h => ?_⟩
  have ok := I.ok
  have hfr : X.A.frames = some (X.env :: X.outer) := by rw [ok.frames, hs]
  refine wpAny_Try_except ?_
  refine wpAny_mono ((hb (wManyAs X.K i D l) (X.pn ++ pins) (fun e s₁ => wpAny (model X.prog X.w) X.A (noteFrame e X.env) (fun _ s₂ => wpAny (model X.prog X.w) X.A (setFlight e none) (fun _ s₃ =>
    wpAny (model X.prog X.w) X.A (handleBy e X.env (h₀ :: hds)) (SP X pins D) X.xe s₃) X.xe s₂) X.xe s₁) (fun u s' xx => ?_) PassesOwn.looking).run [] s σ H D (I.toTry _) h) (fun f s1 hsp => ?_) (fun e s1 he => he)
  · obtain ⟨a, B, sI, pins', σ', H', cls, d, rfl, J', nb, up, sky, na, os, ag, w⟩ := xx
    have J : Inv X pins σ' H' sI := J'.ofTry ok
    show wpAny (model X.prog X.w) X.A (noteFrame (.ref a) X.env) _ _ _
    refine L2N.Sky.land L2N.Zn.steady hfr hf (show Sky B (X.env :: X.outer) a (L2N.Zn cls d) X.env.locals s'.heap from hs ▸ sky) fun h3 fl3 up3 => ?_
    have J3 : Inv X pins σ' H' { s' with heap := h3 } := J.landed nb fl3.1 (up.trans up3) os ag
    obtain ⟨oe3, vs3, he3, hz3, hd3⟩ := fl3.there
    have nfr : a ∉ frs (X.env :: X.outer) := fun hm => by
      obtain ⟨_, o', e', hnf⟩ := fl3.2.2.1.mem hm
      rw [he3] at e'
      cases e'
      exact hnf _ hd3
    have nL : a ≠ X.env.locals := fun z => nfr (List.mem_filterMap.mpr ⟨X.env, List.mem_cons_self, by rw [hf, z]⟩)
    have nF : a ∉ X.fs := fun hm => by
      obtain ⟨e, he, q⟩ := List.mem_filterMap.mp hm
      exact nfr (List.mem_filterMap.mpr ⟨e, List.mem_cons_of_mem _ he, q⟩)
    have S3 := J3.suite he3 hd3 na nL nF
    have go : ∀ {hds' : List ExceptHandler} {l' : List (Value × (Addr → Value → Option Addr → TS))}, HdsAs X i n hds' l' → wManyAs X.K i D l' cls d σ' H' →
        wpAny (model X.prog X.w) X.A (handleBy (.ref a) X.env hds') (SP X pins D) X.xe { s' with heap := h3 } := by
      intro hds' l' hk
      induction hk with
      | nil => exact fun w => False.elim w
      | @cons x c ts b₀ suite np pos' hds2 l2 hc hsu r ih =>
        rintro ⟨b, hb1, hyes, hno⟩
        refine wpAny_handleBy_cons (codeAny_handlers_test ?_) (by intro q; cases q)
        have LT : PySem.W.Looks (model X.prog X.w) h3 (typeOf (.ref a)) cls := fun A Q E s k q => wpAny_typeOf_ref (k _ _ he3) (by rw [hz3.1]; exact q)
        have test : ∀ {Q : Value → Shared → Prop} {E : Value → Shared → Prop}, Q c { s' with heap := h3 } → wpAny (model X.prog X.w) (X.A.mark (some (.ref a))) (eval (.Name x np) X.env) Q E { s' with heap := h3 } := fun {Q E} q => by
          obtain ⟨hg, hdbg, hm | ⟨hm, hv, hnn⟩⟩ := hc
          · exact ld_glob (X := X.suite a ((a, oe3) :: (X.pn ++ pins))) S3 hg hm q hdbg
          · exact ld_blt (X := X.suite a ((a, oe3) :: (X.pn ++ pins))) S3 hg hm hv q hnn hdbg
        refine test ((PySem.W.exm_one (M := model X.prog X.w) J3.kIn LT hb1).here ?_)
        cases b with
        | false => exact ih (hno rfl)
        | true =>
          refine codeAny_handlers_suite_as (HandSPX.lands_againZ fl3 fun h4 fl4 up4 => ?_)
          have J4 : Inv X pins σ' H' { s' with heap := h4 } := J.landed nb fl4.1 ((up.trans up3).trans up4) os ag
          obtain ⟨oe4, vs4, he4, hz4, hd4⟩ := fl4.there
          refine store_ok (X := X.suite a ((a, oe4) :: (X.pn ++ pins))) (v := .ref a) (J4.suite he4 hd4 na nL nF) hN hi (.inl hln) rfl (fun s5 S5 => ?_) (.inr hln)
          refine wpAny_mono ((hsu a oe4 cls d (X.pn ++ pins) hz4 ⟨_, hd4⟩).run [] s5 _ H' _ S5 (hyes rfl a na)) (fun f s6 hsp => ?_) (fun _ _ z => False.elim z)
          match f, hsp with
          | .ret u, hsp =>
            obtain ⟨v6, σ6, H6, S6, r6, q6⟩ := hsp
            exact gone_ok (S6.unsuite ok) hN hi hln fun s7 J7 => ⟨v6, _, H6, J7, r6, q6⟩
          | .next, hsp => obtain ⟨_, _, _, z⟩ := hsp; exact False.elim z
          | .brk, hsp => obtain ⟨_, _, _, z⟩ := hsp; exact False.elim z
          | .cont, hsp => obtain ⟨_, _, _, z⟩ := hsp; exact False.elim z
    exact go hh w
  · match f, hsp with
    | .next, hsp => obtain ⟨σ', H', J', q⟩ := hsp; exact wpAny_execs_nil ⟨σ', H', J'.ofTry ok, q⟩
    | .brk, hsp => obtain ⟨σ', H', J', q⟩ := hsp; exact ⟨σ', H', J'.ofTry ok, q⟩
    | .cont, hsp => obtain ⟨σ', H', J', q⟩ := hsp; exact ⟨σ', H', J'.ofTry ok, q⟩
    | .ret u, hsp => obtain ⟨v, σ', H', J', r, q⟩ := hsp; exact ⟨v, σ', H', J'.ofTry ok, r, q⟩
end Ld
namespace Ld
open PySem PySem.Spec PyProof.Rows L2
open L2H (Hot1 PinOk RoomH HotC)
/-! ### a def's promise wherever it is called: calm or hot, the guards among those told by G -/
/-- nothing is handled and nothing pinned, or what is handled is pinned -/
def Pinned (A : Around) (outer : List Env) (H : Hp) (s : Shared) (c : Bool) (pn : List (Addr × Obj)) : Prop :=
  (c = true ∧ A.handled = none ∧ pn = []) ∨ (c = false ∧ ∃ p, pn = [p] ∧ Hot1 A p ∧ PinOk outer H s p)
abbrev GT := List Code → Hp → Prop
structure FnA (P : Program) (w : World) (K : PySem.W.Frag) (mg : Str → Option Value) (base : Heap) (cx : CXT) (G : GT) (k : Nat) (f : Addr) (fd : FuncData) (ps : List Str) (sp : Sp) : Prop where
  size : ∀ vs H Q E, sp vs H Q E → vs.length = ps.length
  go : ∀ (A : Around) (outer : List Env) (s : Shared) (H : Hp) (args : Args) (us : List Value) (vs : List V) (Q : VK) (E : XK) (c : Bool) (pn : List (Addr × Obj)) (gs : List Code), A.guards = some gs → G gs H → Pinned A outer H s c pn → RoomH k A → Env0 P w K mg base A outer s H → Vals vs us →
    BindsTo s fd args (ps.zip us) → sp vs H Q E → codeAny (model P w) A (.call (.ref f) args) (CR cx outer P w H s Q E) s
abbrev cxA (cx : CXT) (P : Program) (w : World) (K : PySem.W.Frag) (mg : Str → Option Value) (base : Heap) (N : List Str) (qual : Str) (scope : Scope) (f : Addr) (cd : Value) (A : Around) (outer : List Env) (s : Shared) (H : Hp) (E : XK) (c : Bool) (pn : List (Addr × Obj)) : Cx :=
  { cxOf cx P w K mg base N qual scope f cd A outer s H E with calm := c, pn := pn }
section
variable {P : Program} {w : World} {K : PySem.W.Frag} {mg : Str → Option Value} {base : Heap} {cx : CXT} {G : GT} {k j : Nat} {f : Addr} {fd : FuncData} {ps : List Str} {sp : Sp}
theorem FnA.mono (F : FnA P w K mg base cx G j f fd ps sp) (h : j ≤ k) : FnA P w K mg base cx G k f fd ps sp :=
  ⟨F.size, fun A outer s H args us vs Q E c pn gs hg hG hp hr => F.go A outer s H args us vs Q E c pn gs hg hG hp (hr.mono h)⟩
theorem Fun.okA {x qual : Str} {st : Stmt} {N : List Str} (F : Fun K x qual st f fd) (S : FnScope N ps (defScope st)) (len : ∀ vs H Q E, sp vs H Q E → vs.length = ps.length)
    (hbody : ∀ (cdv : Value) (A : Around) (outer : List Env) (s : Shared) (H : Hp) (vs : List V) (Q : VK) (E : XK) (c : Bool) (pn : List (Addr × Obj)) (gs : List Code), A.guards = some gs → G gs H →
      CoH (cxA cx P w K mg base N qual (defScope st) f cdv A outer s H E c pn) → RoomH k (A.deeper (envOfC qual (defScope st) s.heap.objs.size f cdv)) → sp vs H Q E →
      ∃ t, PSs (cxA cx P w K mg base N qual (defScope st) f cdv A outer s H E c pn) (defBody st) t ∧ t { nx := fun _ H' => Q .non H', rt := Q } (start N vs) H) : FnA P w K mg base cx G (k + 1) f fd ps sp := by
  obtain ⟨oc, od, kV, doc, pm, an, cdv, ct, osl, rfl, lk, hcd⟩ := F.ex
  refine ⟨len, fun A outer s H args us vs Q E c pn gs hg hG hp hr e0 r hb hsp => ?_⟩
  have hl := len _ _ _ _ hsp
  have KX : K.In s.heap := e0.mod.kin.keeps fun b o e => (e0.bs b o e).1
  have lim : s.heap.NoLimit := e0.mod.nolimit.keeps fun b o e => (e0.bs b o e).1
  have hkind : ∀ y ∈ ps.zip us, (defScope st).names.lookup y.1 = some .local ∨ ((defScope st).names.lookup y.1 = some .cell ∧ ((cellsFrom (s.heap.objs.size + 1) (defScope st).names []).lookup y.1).isSome = true) := fun ⟨n, v⟩ hy =>
    (S.par n (List.of_mem_zip hy).1).imp id fun q => ⟨q, PySem.W.cellsFrom_some _ _ _ (.inl q)⟩
  have ca : CoH (cxA cx P w K mg base N qual (defScope st) f cdv A outer s H E c pn) := by
    rcases hp with ⟨e1, _, _⟩ | ⟨_, p, e1, e2, _⟩
    · exact .inl e1
    · exact .inr ⟨p, e2, by rw [show (cxA cx P w K mg base N qual (defScope st) f cdv A outer s H E c pn).pn = [p] from e1]; exact List.mem_cons_self⟩
  refine codeAny_call_function hr.depth (KX _ _ lk) rfl S.co S.gen rfl (PySem.W.codeRec_of KX hcd) (hb _ _ _ _ ?_)
  refine wpAny_newFunctionEnv_cells S.kind hkind fun env he s1 x => ?_
  subst he
  refine ⟨lim.keeps x.toInCall.keep, codeAny_func ?_⟩
  obtain ⟨t, ht, hq⟩ := hbody cdv A outer s H vs Q E c pn gs hg hG ca (hr.deeper _) hsp
  have I : Inv (cxA cx P w K mg base N qual (defScope st) f cdv A outer s H E c pn) [] (L2.start N vs) H s1 := by
    rcases hp with ⟨rfl, hh, rfl⟩ | ⟨rfl, p, rfl, hot, pin⟩
    · exact inv_start S hh e0 hl r x
    · exact L2H.inv_startH S pin e0 hl r x
  refine wpAny_mono (ht.run [] s1 (L2.start N vs) H _ I hq) (fun fl s' hs => ?_) fun e s' hs => hs
  match fl, hs with
  | .ret u, hs => obtain ⟨v, σ', H', J, rv, q⟩ := hs; exact ⟨v, H', J.os, J.bare, J.base, J.hok, rv, q⟩
  | .next, hs => obtain ⟨σ', H', J, q⟩ := hs; exact ⟨.non, H', J.os, J.bare, J.base, J.hok, rfl, q⟩
  | .brk, hs => obtain ⟨_, _, _, q⟩ := hs; exact False.elim q
  | .cont, hs => obtain ⟨_, _, _, q⟩ := hs; exact False.elim q
end
section
variable {X : Cx} {cx : CXT} {G : GT} {k : Nat} {f : Addr} {fd : FuncData} {ps : List Str} {sp : Sp} {E : XK} {pins : List (Addr × Obj)} {σ : L2.St} {H : Hp} {s : Shared}
theorem pinned_of (ca : CoH X) (I : Inv X pins σ H s) : ∃ c pn, Pinned X.A X.stack H s c pn := by
  rcases ca with c | ⟨p, hot, hp⟩
  · exact ⟨true, [], .inl ⟨rfl, I.ok.hd c, rfl⟩⟩
  · have P1 := I.pin p (List.mem_append_left _ hp)
    exact ⟨false, [p], .inr ⟨rfl, p, rfl, hot, P1.1, P1.2.1, fun hm => (List.mem_cons.mp (I.stkSub p.1 hm)).elim P1.2.2.1 P1.2.2.2.1, P1.2.2.2.2⟩⟩
/-- as seen from the caller, at any A whose frames, guards, handled exception and room are fit -/
theorem run_a {Q : VK} {us : List Value} {vs : List V} {A : Around} {gs : List Code} {c : Bool} {pn : List (Addr × Obj)} (F : FnA X.prog X.w X.K X.mg X.base cx G k f fd ps sp) (hr : RoomH k A) (h0 : A.guards = some gs) (hG : G gs H) (hp : Pinned A X.stack H s c pn)
    (e0 : Env0 X.prog X.w X.K X.mg X.base A X.stack s H) (hb : Binds X.K fd ps []) (hx : Passes cx X E) (I : Inv X pins σ H s) (r : Vals vs us) (h : sp vs H Q E) :
    wpAny (model X.prog X.w) A (call (.ref f) us) (fun u s' => CE X.stack X.prog X.w H s Q u s') X.xe s := by
  have b := hb s us I.kIn (by rw [List.append_nil, ← r.length]; exact F.size _ _ _ _ h)
  rw [List.append_nil] at b
  refine wpAny_call (codeAny_mono (F.go A X.stack s H ⟨us, []⟩ us vs Q E c pn gs h0 hG hp hr e0 r b h) fun z s' hq => ?_)
  match z, hq with
  | .error e, hq => exact hx pins σ H s e s' I hq
  | .ok (.ret u), hq => exact hq
  | .ok .next, hq => exact False.elim hq
  | .ok .brk, hq => exact False.elim hq
  | .ok .cont, hq => exact False.elim hq
end
/-- o.m(), anywhere -/
theorem pe_meth0A {X : Cx} {cx : CXT} {G : GT} {k : Nat} {f C : Addr} {fd : FuncData} {ps : List Str} {sp : Sp} {E : XK} {m : Str} {pos apos : Pos} {o : Expr} {ta : TE} {pl : Sem Bool} {gs : List Code} (ca : CoH X) (he : PE X o ta) (c : Cls X.K C) (hm : Meth X.K C m f)
    (F : FnA X.prog X.w X.K X.mg X.base cx G k f fd ps sp) (hr : RoomH k X.A) (h0 : X.A.guards = some gs) (hb : Binds X.K fd ps []) (hx : Passes cx X E)
    (ht : eval (.Call (.Attribute o m apos) [] [] pos) X.env = (do
      let ov ← eval o X.env
      standAt apos.atName
      let (f, first) ← holding [ov] (getMethod ov m pl)
      callWith pos f first (backTo pos (starEach [] X.env)) (backToKw pos (keywordEach [] X.env))) := by rfl) :
    PE X (.Call (.Attribute o m apos) [] [] pos) (fun σ H Q => ta σ H fun x H1 => ∃ a dx fs, x = .ref a ∧ H1 a = some (.ins C dx fs) ∧ fs.lookup m = none ∧ G gs H1 ∧ sp [x] H1 Q E) := by
  refine ⟨fun pins s σ H Q I h => PySem.W.methodCall_KW (pl := pl) (thn (he.run pins s σ H _ I h) fun u s1 ⟨x, H1, I1, rx, a, dx, fs, ex, ea, l, hG, q⟩ => ?_) ht⟩
  subst ex
  obtain rfl : u = Value.ref a := rx
  obtain ⟨cc, pn, hp⟩ := pinned_of ca I1
  exact getmeth_ok I1 ea c hm l (PySem.W.callWith_K0 (first := [.ref a]) I1.kIn hm.kp (thn (run_a (us := [.ref a]) (vs := [.ref a]) F hr h0 hG hp I1.env0 hb hx I1 (.cons rfl .nil) q) fun u s' z => I1.after z))

/-! ### repr of a leaf, of a list or tuple of leaves, whatever runs -/
def leafV : V → Bool
  | .ref _ => false
  | _ => true
section
variable {P : Program} {w : World} {H : Hp} {h : Heap}
theorem Sh.leaf {v : V} {d : PyData} (q : Sh H v d) (lf : leafV v = true) (hs : d.showable = true) (hz : d.shown.length ≤ sizeLine) {u : Value} (r : RelV v u) : ReprIs P w u d.shown := by
  cases q with
  | non => cases r; exact ReprIs.none
  | bl b => cases r; simp only [PyData.shown]; exact ReprIs.bool b
  | int i => obtain ⟨t, rfl⟩ := r; simp only [PyData.shown]; exact ReprIs.int t (by simpa [PyData.showable] using hs)
  | str x => obtain ⟨t, rfl⟩ := r; simp only [PyData.shown]; exact ReprIs.str x t (by simpa only [PyData.shown] using hz)
  | lst e q => cases lf
  | tup e q => cases lf
  | dct e q => cases lf
theorem ShAll.leaves : ∀ {vs : List V} {ds : List PyData}, ShAll H vs ds → vs.all leafV = true → PyData.showableAll ds = true → (∀ t ∈ PyData.shownAll ds, t.length ≤ sizeLine) → ∀ {us : List Value}, Vals vs us → ∀ n, ReprAllK P w [] h n us (PyData.shownAll ds)
  | _, _, .nil, _, _, _, _, r, _ => by cases r; exact .nil
  | _, _, .cons a b, lf, hs, hz, _, r, n => by
    simp only [List.all_cons, Bool.and_eq_true] at lf
    simp only [PyData.showableAll, Bool.and_eq_true] at hs
    simp only [PyData.shownAll] at hz ⊢
    cases r with
    | cons r1 r2 => exact .cons (.of_is (a.leaf lf.1 hs.1 (hz _ List.mem_cons_self) r1) _ _ _) (ShAll.leaves b lf.2 hs.2 (fun t ht => hz t (List.mem_cons_of_mem _ ht)) r2 n)
end
def rReprF (gs : List Code) : List V → Hp → VK → Prop := fun xs H Q => ∃ (v : V) (d : PyData), xs = [v] ∧ Sh H v d ∧ d.showable = true ∧ d.shown.length ≤ sizeLine ∧
  (leafV v = true ∨ ∃ b ys, v = .ref b ∧ Clear gs b ∧ (H b = some (.lst ys) ∨ H b = some (.tup ys)) ∧ ys.all leafV = true) ∧ Q (.str d.shown) H
theorem cr_reprF {X : Cx} {gs : List Code} (hg : X.A.guards = some gs) (hu : X.A.units + 40 < cLine) : CallR X (.builtin "repr") (rReprF gs) := by
  intro pins s σ H xs us Q I r h
  obtain ⟨v, d, rfl, sh, hs, hz, how, hQ⟩ := h
  obtain ⟨u, rfl, rv⟩ := vals1 r
  have fin : ∀ (h' : Heap) (t : Tok) (tk : Nat), (∀ b o, s.heap.get? b = some o → h'.get? b = some o) → EP X pins σ Q (.str d.shown t) { s with heap := h', toks := tk } := fun h' t tk k =>
    ⟨.str d.shown, H, I.kept k, ⟨t, rfl⟩, hQ⟩
  cases sh with
  | non =>
    cases rv
    have z := fin s.heap s.toks (s.toks + 1) fun _ _ e => e
    simp only [PyData.shown] at z
    exact PySem.P.repr_of_none z
  | bl b =>
    cases rv
    have z := fin s.heap s.toks (s.toks + 1) fun _ _ e => e
    simp only [PyData.shown] at z
    exact PySem.P.repr_of_bool z
  | int i =>
    obtain ⟨t, rfl⟩ := rv
    have z := fin s.heap s.toks (s.toks + 1) fun _ _ e => e
    simp only [PyData.shown] at z
    exact PySem.P.repr_of_int (by simpa [PyData.showable] using hs) z
  | str x =>
    obtain ⟨t, rfl⟩ := rv
    simp only [PyData.shown] at hz
    have z := fin s.heap s.toks (s.toks + 1) fun _ _ e => e
    simp only [PyData.shown] at z
    exact PySem.P.repr_of_str z hz
  | @lst a xs ds e q =>
    cases rv
    rcases how with lf | ⟨b, ys, eb, cl, hy, lf⟩
    · cases lf
    cases eb
    have ey : ys = xs := by
      rcases hy with hy | hy <;> rw [e] at hy <;> cases hy
      rfl
    subst ey
    obtain ⟨o, its, n, rv, h1, h2, h3⟩ := at_lst I.hok e
    simp only [PyData.shown] at hz fin
    have k := ShAll.leaves (P := X.prog) (w := X.w) (h := s.heap) q lf (by simpa [PyData.showable] using hs) (fun t ht => Nat.le_trans (listText_mem_le ht) hz) rv 0
    refine call_repr_slot (by omega) (show s.TypeIs (.ref a) "list" from ⟨o, h1, h2⟩) F.slot_list_repr.toG ?_
    cases rv with
    | nil =>
      cases q
      simp only [PyData.shownAll, listText_nil] at fin
      exact call_list_repr_empty ⟨o, h1, h2⟩ h1 h3 ⟨_, _, rfl, fin s.heap _ _ fun _ _ z => z⟩
    | cons r1 r2 =>
      exact call_list_reprK (as := []) (d := 0) h1 h2 h3 (by simp) (by simpa using k.length_eq) (fun i y z => k.item i y (by simpa using z)) hg (fun b hb => by rw [List.mem_singleton.mp hb]; exact cl) (by show X.A.units + 1 + _ < _; omega) (fun _ _ z => z)
        (fun h' u tk hk => ⟨_, _, rfl, fin h' u tk hk⟩) hz
  | @tup a xs ds e q =>
    cases rv
    rcases how with lf | ⟨b, ys, eb, cl, hy, lf⟩
    · cases lf
    cases eb
    have ey : ys = xs := by
      rcases hy with hy | hy <;> rw [e] at hy <;> cases hy
      rfl
    subst ey
    obtain ⟨o, its, n, rv, h1, h2, h3⟩ := at_tup I.hok e
    simp only [PyData.shown] at hz fin
    have k := ShAll.leaves (P := X.prog) (w := X.w) (h := s.heap) q lf (by simpa [PyData.showable] using hs) (fun t ht => Nat.le_trans (tupleText_mem_le ht) hz) rv 0
    refine call_repr_slot (by omega) (show s.TypeIs (.ref a) "tuple" from ⟨o, h1, h2⟩) F.slot_tuple_repr ?_
    exact call_tuple_reprK (as := []) (d := 0) h1 h2 h3 (by simp) (by simpa using k) hg (fun b hb => by rw [List.mem_singleton.mp hb]; exact cl) (by show X.A.units + 1 + _ < _; omega) (fun _ _ z => z) (fun h' u tk hk => ⟨_, _, rfl, fin h' u tk hk⟩) hz
  | @dct a kvs ds e q =>
    rcases how with lf | ⟨b, ys, eb, cl, hy, lf⟩
    · cases lf
    · cases eb
      rcases hy with hy | hy <;> rw [e] at hy <;> cases hy
/-- {x}, x a truth value -/
theorem pe_fmtB {X : Cx} {e : Expr} {te : TE} {pos : Pos} (he : PE X e te) : PE X (.FormattedValue e (-1) none pos) (fun σ H Q => te σ H fun x H1 => ∃ b : Bool, x = .bl b ∧ Q (.str (if b then "True" else "False")) H1) :=
  ⟨fun pins s σ H Q I h => wpAny_FormattedValue_plain (thn (he.run pins s σ H _ I h) fun v s1 ⟨x, H1, I1, r1, b, ex, q⟩ => by
    subst ex
    obtain rfl : v = Value.bool b := r1
    exact wpAny_formatField_bool ⟨.str (if b then "True" else "False"), H1, I1.tok _, ⟨_, rfl⟩, q⟩)⟩
end Ld
namespace Ld
open PySem PySem.Spec PyProof.Rows L2
/-! ### what may be called -/
/-- a def of the module, under its name -/
structure GOk (P : Program) (w : World) (K : PySem.W.Frag) (mg : Str → Option Value) (base : Heap) (cx : CXT) (k : Nat) (x : Str) (sp : Sp) : Prop where
  ex : ∃ (f : Addr) (fd : FuncData) (ps : List Str), mg x = some (.ref f) ∧ PySem.W.keepIn K (.ref f) = true ∧ FnOk P w K mg base cx k f fd ps sp ∧ Binds K fd ps []
structure GOkG (P : Program) (w : World) (K : PySem.W.Frag) (mg : Str → Option Value) (base : Heap) (cx : CXT) (k : Nat) (x : Str) (sp : Sp) : Prop where
  ex : ∃ (f : Addr) (fd : FuncData) (ps : List Str), mg x = some (.ref f) ∧ PySem.W.keepIn K (.ref f) = true ∧ FnG P w K mg base cx k f fd ps sp ∧ Binds K fd ps []
/-- a method -/
structure MOk (P : Program) (w : World) (K : PySem.W.Frag) (mg : Str → Option Value) (base : Heap) (cx : CXT) (k : Nat) (C : Addr) (m : Str) (sp : Sp) : Prop where
  ex : ∃ (f : Addr) (fd : FuncData) (ps : List Str), Meth K C m f ∧ FnOk P w K mg base cx k f fd ps sp ∧ Binds K fd ps []
section
variable {X : Cx} {cx : CXT} {k j : Nat} {C : Addr} {sp : Sp} {E : XK} {x m : Str} {p pos apos : Pos} {e o : Expr} {es : List Expr} {t : TA} {ta : TE}
theorem pe_g (c : GOk X.prog X.w X.K X.mg X.base cx k x sp) (hr : Room j X.A) (hk : k ≤ j) (hg : Gl X x) (hx : Passes cx X E) (ha : PA X (e :: es) t) (hdb : (x == ("__debug__" : Str)) = false := by decide)
    (he : starEach (e :: es) X.env = (false, eval e X.env) :: starEach es X.env := by rfl) (hpl : (backTo pos (starEach es X.env)).any (·.1) = false := by rfl) : PE X (.Call (.Name x p) (e :: es) [] pos) (fun σ H Q => t σ H fun vs H1 => sp vs H1 Q E) := by
  obtain ⟨f, fd, ps, h1, h2, h3, h4⟩ := c.ex
  have q := pe_call (pos := pos) (p := p) h3 (hr.mono hk) hg h1 h2 h4 .nil hx ha hdb he hpl
  exact PE.imp q fun σ H Q z => by simpa [tCall] using z
theorem pe_gG (c : GOkG X.prog X.w X.K X.mg X.base cx k x sp) (hr : Room j X.A) (hk : k ≤ j) (h0 : X.A.guards = some []) (hg : Gl X x) (hx : Passes cx X E) (ha : PA X (e :: es) t) (hdb : (x == ("__debug__" : Str)) = false := by decide)
    (he : starEach (e :: es) X.env = (false, eval e X.env) :: starEach es X.env := by rfl) (hpl : (backTo pos (starEach es X.env)).any (·.1) = false := by rfl) : PE X (.Call (.Name x p) (e :: es) [] pos) (fun σ H Q => t σ H fun vs H1 => sp vs H1 Q E) := by
  obtain ⟨f, fd, ps, h1, h2, h3, h4⟩ := c.ex
  exact pe_callG h3 (hr.mono hk) h0 hg h1 h2 h4 hx ha hdb he hpl
theorem pe_m (c : MOk X.prog X.w X.K X.mg X.base cx k C m sp) (hc : Cls X.K C) (hr : Room j X.A) (hk : k ≤ j) (hx : Passes cx X E) (he : PE X o ta) (ha : PA X (e :: es) t) {pl : Sem Bool}
    (hst : starEach (e :: es) X.env = (false, eval e X.env) :: starEach es X.env := by rfl) (hpl : (backTo pos (starEach es X.env)).any (·.1) = false := by rfl)
    (ht : eval (.Call (.Attribute o m apos) (e :: es) [] pos) X.env = (do
      let ov ← eval o X.env
      standAt apos.atName
      let (f, first) ← holding [ov] (getMethod ov m pl)
      callWith pos f first (backTo pos (starEach (e :: es) X.env)) (backToKw pos (keywordEach [] X.env))) := by rfl) :
    PE X (.Call (.Attribute o m apos) (e :: es) [] pos) (fun σ H Q => ta σ H fun x H1 => ∃ a dx fs, x = .ref a ∧ H1 a = some (.ins C dx fs) ∧ fs.lookup m = none ∧ t σ H1 fun vs H2 => sp (x :: vs) H2 Q E) := by
  obtain ⟨f, fd, ps, h1, h3, h4⟩ := c.ex
  have q := pe_meth (pos := pos) (apos := apos) he hc h1 h3 (hr.mono hk) h4 .nil hx ha hst hpl ht
  exact PE.imp q fun σ H Q z => by simpa [tMeth] using z
theorem pe_m0 (c : MOk X.prog X.w X.K X.mg X.base cx k C m sp) (hc : Cls X.K C) (hr : Room j X.A) (hk : k ≤ j) (hx : Passes cx X E) (he : PE X o ta) {pl : Sem Bool}
    (ht : eval (.Call (.Attribute o m apos) [] [] pos) X.env = (do
      let ov ← eval o X.env
      standAt apos.atName
      let (f, first) ← holding [ov] (getMethod ov m pl)
      callWith pos f first (backTo pos (starEach [] X.env)) (backToKw pos (keywordEach [] X.env))) := by rfl) :
    PE X (.Call (.Attribute o m apos) [] [] pos) (fun σ H Q => ta σ H fun x H1 => ∃ a dx fs, x = .ref a ∧ H1 a = some (.ins C dx fs) ∧ fs.lookup m = none ∧ sp [x] H1 Q E) := by
  obtain ⟨f, fd, ps, h1, h3, h4⟩ := c.ex
  have q := pe_meth0 (pos := pos) (apos := apos) he hc h1 h3 (hr.mono hk) h4 .nil hx ht
  exact PE.imp q fun σ H Q z => by simpa [tMeth, tNil] using z
end
section
variable {P : Program} {w : World} {K : PySem.W.Frag} {mg : Str → Option Value} {base : Heap} {cx : CXT} {k : Nat} {x : Str} {st : Stmt} {f : Addr} {fd : FuncData} {ps : List Str} {sp : Sp}
theorem gok_mk (F : Fun K x x st f fd) (hm : mg x = some (.ref f)) (O : FnOk P w K mg base cx k f fd ps sp) (b : Binds K fd ps []) : GOk P w K mg base cx k x sp := ⟨f, fd, ps, hm, F.kp, O, b⟩
end

/-! ### comprehensions whose items are told by what they walk -/
theorem same_off {H H' : Hp} {D : Addr} {o : HO} (n : H D = none) (s : Same H H') : Same H (upd H' D o) := fun b u e => by
  rw [upd_ne (ne_of_none e n)]
  exact s b u e
theorem take_fm {α β : Type} {xs : List α} {i : Nat} {a : α} (h : α → Option β) (e : xs[i]? = some a) : (xs.take (i + 1)).filterMap h = (xs.take i).filterMap h ++ (h a).toList := by
  rw [List.take_add_one, e, List.filterMap_append]
  cases q : h a <;> simp [q]
theorem fm_len {α β : Type} (xs : List α) (h : α → Option β) : (xs.filterMap h).length ≤ xs.length := List.length_filterMap_le _ _
theorem lc_fm {J : It} {α : Type} (xs : List α) (h : α → Option V) {G : Hp → Prop} {Y : Nat → Hp → V → Hp → Prop} (w : Walk J xs.length G Y) {g : TG} {tt : TT} {te : TE} {vs : List Nat} {σ : L2.St} {H1 : Hp} {D : Addr} {Qd : Hp → Prop} (nD : H1 D = none) (len : xs.length < sizeLine)
    (hG : ∀ H, Same H1 H → G H) (step : ∀ (i : Nat) (a : α) (x : V) (H H' : Hp) (Qn : V → Hp → Prop) (Qe : Hp → Prop), xs[i]? = some a → Same H1 H → Y i H x H' → (∀ v H4, h a = some v → Same H H4 → Qn v H4) → (∀ H3, h a = none → Same H H3 → Qe H3) →
      g x (wipe σ vs) H' fun σ2 H2 => wipe σ2 vs = wipe σ vs ∧ tt σ2 H2 fun b H3 => if b = true then te σ2 H3 Qn else Qe H3) (hd : ∀ H, Same H1 H → H D = some (.lst (xs.filterMap h)) → Qd H) :
    ∃ W : Nat → Nat → Hp → Prop, (∃ m, W 0 m (upd H1 D (.lst []))) ∧ ∀ i m H, W i m H →
      (J.stop i H ∧ Qd H) ∨ (J.go i H ∧ ∃ Nx : Hp → Prop, (∀ H', Nx H' → ∃ m', m' < m ∧ W (i + 1) m' H') ∧ ∀ x H', J.yld i H x H' → g x (wipe σ vs) H' fun σ2 H2 => wipe σ2 vs = wipe σ vs ∧ tt σ2 H2 fun b H3 =>
        if b = true then te σ2 H3 fun y H4 => ∃ acc, H4 D = some (.lst acc) ∧ acc.length < sizeLine ∧ Nx (upd H4 D (.lst (acc ++ [y]))) else Nx H3) := by
  refine lc_it w (fun i H => Same H1 H ∧ H D = some (.lst ((xs.take i).filterMap h))) ⟨same_off nD (Same.refl _), upd_same⟩ (fun i H _ p => hG H p.1) (fun i x H H' hi p y => ?_) (fun H p => hd H p.1 (by rw [p.2, List.take_length]))
  obtain ⟨a, ha⟩ : ∃ a, xs[i]? = some a := ⟨xs[i], by simp [hi]⟩
  have lt : ((xs.take i).filterMap h).length < sizeLine := Nat.lt_of_le_of_lt (Nat.le_trans (fm_len _ _) (List.length_take_le _ _)) (Nat.lt_trans hi len)
  refine step i a x H H' _ _ ha p.1 y (fun v H4 hv s4 => ⟨_, s4 _ _ p.2, lt, same_off nD (p.1.trans s4), ?_⟩) (fun H3 hn s3 => ⟨p.1.trans s3, ?_⟩)
  · rw [upd_same, take_fm h ha, hv]
    rfl
  · rw [take_fm h ha, hn, s3 _ _ p.2]
    simp
/-- .. over a tuple, calm or not -/
theorem cp_fm {w : World} {g : TG} {tt : TT} {te : TE} {vs : List Nat} {σ : L2.St} {H1 : Hp} {a : Addr} {xs : List V} (h : V → Option V) {Q : VK} (ha : H1 a = some (.tup xs)) (len : xs.length < sizeLine)
    (step : ∀ (i : Nat) (x : V) (H : Hp) (Qn : V → Hp → Prop) (Qe : Hp → Prop), xs[i]? = some x → Same H1 H → (∀ v H4, h x = some v → Same H H4 → Qn v H4) → (∀ H3, h x = none → Same H H3 → Qe H3) →
      g x (wipe σ vs) H fun σ2 H2 => wipe σ2 vs = wipe σ vs ∧ tt σ2 H2 fun b H3 => if b = true then te σ2 H3 Qn else Qe H3) (hd : ∀ H D, Same H1 H → H1 D = none → H D = some (.lst (xs.filterMap h)) → Q (.ref D) H) :
    ∃ a' xs', V.ref a = .ref a' ∧ H1 a' = some (.tup xs') ∧ ∀ D, H1 D = none → ∃ Pv : Nat → Hp → Prop, Pv 0 (upd H1 D (accL.obj w D accL.new)) ∧
      (∀ i H, Pv i H → H a' = some (.tup xs')) ∧ (∀ i x H, xs'[i]? = some x → Pv i H → g x (wipe σ vs) H fun σ2 H2 => wipe σ2 vs = wipe σ vs ∧ tt σ2 H2 fun b H3 =>
        if b = true then te σ2 H3 fun y H4 => ∃ acc, H4 D = some (accL.obj w D acc) ∧ accL.room acc y ∧ Pv (i + 1) (upd H4 D (accL.obj w D (accL.add acc y))) else Pv (i + 1) H3) ∧ ∀ H, Pv xs'.length H → Q (.ref D) H := by
  refine ⟨a, xs, rfl, ha, fun D nD => ⟨fun i H => Same H1 H ∧ H D = some (.lst ((xs.take i).filterMap h)), ⟨same_off nD (Same.refl _), upd_same⟩, fun i H p => p.1 _ _ ha, fun i x H hx p => ?_, fun H p => hd H D p.1 nD (by rw [p.2, List.take_length])⟩⟩
  have hi : i < xs.length := (List.getElem?_eq_some_iff.mp hx).1
  have lt : ((xs.take i).filterMap h).length < sizeLine := Nat.lt_of_le_of_lt (Nat.le_trans (fm_len _ _) (List.length_take_le _ _)) (Nat.lt_trans hi len)
  refine step i x H _ _ hx p.1 (fun v H4 hv s4 => ⟨_, s4 _ _ p.2, lt, same_off nD (p.1.trans s4), ?_⟩) (fun H3 hn s3 => ⟨p.1.trans s3, ?_⟩)
  · show upd H4 D (.lst ((xs.take i).filterMap h ++ [v])) D = _
    rw [upd_same, take_fm h hx, hv]
    rfl
  · rw [take_fm h hx, hn, s3 _ _ p.2]
    simp

/-! ### the types of data -/
def tyD : PyData → String
  | .none => "NoneType"
  | .bool _ => "bool"
  | .int _ => "int"
  | .str _ => "str"
  | .list _ => "list"
  | .tuple _ => "tuple"
  | .dict _ => "dict"
theorem Sh.ty {K : PySem.W.Frag} {H : Hp} {v : V} {d : PyData} (h : Sh H v d) : TyX K H v (.type (tyD d)) := by
  cases h with
  | non => exact .base .non
  | bl b => exact .base (.bl b)
  | int i => exact .base (.int i)
  | str x => exact .base (.str x)
  | lst e q => exact .base (.lst e)
  | tup e q => exact .base (.tup e)
  | dct e q => exact .base (.dK e)
def isInt : PyData → Bool
  | .int _ => true
  | _ => false
def isBool : PyData → Bool
  | .bool _ => true
  | _ => false
def isDict : PyData → Bool
  | .dict _ => true
  | _ => false
theorem kit_int {K : PySem.W.Frag} (d : PyData) : PySem.W.kitOne K (.type (tyD d)) (.type "int") = some (isInt d || isBool d) := by
  cases d with
  | none => exact kit_ty (by decide +kernel)
  | bool b => exact kit_ty (a := "bool") (r := true) (by decide +kernel)
  | int i => exact kit_ty (a := "int") (r := true) (by decide +kernel)
  | str x => exact kit_ty (a := "str") (r := false) (by decide +kernel)
  | list xs => exact kit_ty (a := "list") (r := false) (by decide +kernel)
  | tuple xs => exact kit_ty (a := "tuple") (r := false) (by decide +kernel)
  | dict xs => exact kit_ty (a := "dict") (r := false) (by decide +kernel)
theorem kit_bool {K : PySem.W.Frag} (d : PyData) : PySem.W.kitOne K (.type (tyD d)) (.type "bool") = some (isBool d) := by
  cases d with
  | none => exact kit_ty (by decide +kernel)
  | bool b => exact kit_ty (a := "bool") (r := true) (by decide +kernel)
  | int i => exact kit_ty (a := "int") (r := false) (by decide +kernel)
  | str x => exact kit_ty (a := "str") (r := false) (by decide +kernel)
  | list xs => exact kit_ty (a := "list") (r := false) (by decide +kernel)
  | tuple xs => exact kit_ty (a := "tuple") (r := false) (by decide +kernel)
  | dict xs => exact kit_ty (a := "dict") (r := false) (by decide +kernel)
theorem kit_dict {K : PySem.W.Frag} (d : PyData) : PySem.W.kitOne K (.type (tyD d)) (.type "dict") = some (isDict d) := by
  cases d with
  | none => exact kit_ty (by decide +kernel)
  | bool b => exact kit_ty (a := "bool") (r := false) (by decide +kernel)
  | int i => exact kit_ty (a := "int") (r := false) (by decide +kernel)
  | str x => exact kit_ty (a := "str") (r := false) (by decide +kernel)
  | list xs => exact kit_ty (a := "list") (r := false) (by decide +kernel)
  | tuple xs => exact kit_ty (a := "tuple") (r := false) (by decide +kernel)
  | dict xs => exact kit_ty (a := "dict") (r := true) (by decide +kernel)

/-! ### is_integer, is_count, is_list -/
def spIsInt : Sp := fun vs H Q _ => ∃ v d, vs = [v] ∧ Sh H v d ∧ Q (.bl (isInt d)) H
section
variable {P : Program} {w : World} {K : PySem.W.Frag} {mg : Str → Option Value} {base : Heap}
theorem sc_isInt : FnScope ["value"] ["value"] (defScope sIsInteger) := ⟨rfl, rfl, rfl, by decide +kernel, rfl, by decide +kernel, by decide +kernel⟩
theorem ok_isInt {f : Addr} {fd : FuncData} (F : Fun K "is_integer" "is_integer" sIsInteger f fd) (m1 : mg "isinstance" = none) (m2 : mg "int" = none) (m3 : mg "bool" = none) : FnOk P w K mg base CX0 1 f fd ["value"] spIsInt := by
  refine F.ok sc_isInt (fun vs H Q E h => ?_) fun cdv A outer s H vs Q E hr h => ?_
  · obtain ⟨v, d, rfl, _⟩ := h
    rfl
  · obtain ⟨v, d, rfl, sh, q⟩ := h
    apply Exists.intro
    apply And.intro
    · exact pss_one (ps_ret (pe_and (pe_callB call_isi rfl m1 rfl (pa_cons (pv 0) (pa_cons (pe_bltn (u := .type "int") (v := .ty "int") rfl m2 rfl rfl) pa_nil)))
        (pe_one (pe_not (pe_callB call_isi rfl m1 rfl (pa_cons (pv 0) (pa_cons (pe_bltn (u := .type "bool") (v := .ty "bool") rfl m3 rfl rfl) pa_nil)))))))
    refine ⟨v, rfl, v, _, _, _, _, rfl, .ty _, sh.ty, kit_int d, _, rfl, ?_⟩
    cases hd : (isInt d || isBool d) with
    | false =>
      have e : isInt d = false := (Bool.or_eq_false_iff.mp hd).1
      rw [e] at q
      exact iteF q
    | true =>
      refine iteT ⟨v, rfl, v, _, _, _, _, rfl, .ty _, sh.ty, kit_bool d, _, rfl, ?_⟩
      have e : (!isBool d) = isInt d := by cases d <;> first | rfl | (simp [isInt, isBool] at hd)
      rw [e]
      exact q
end
end Ld
namespace Ld
open PySem PySem.Spec PyProof.Rows L2
/-- no built-in name that the text uses is a name of the module -/
def NB (mg : Str → Option Value) : Prop := ∀ x : Str, x ∈ (["isinstance", "int", "bool", "list", "tuple", "str", "len", "all", "enumerate", "sorted", "dict", "set", "repr", "range", "abs", "max", "min", "divmod", "ValueError"] : List Str) → mg x = none
/-- a constant of the module -/
def GV (mg : Str → Option Value) (x : Str) (v : V) : Prop := ∃ u, mg x = some u ∧ RelV v u
theorem pe_gv {X : Cx} {x : Str} {v : V} {pos : Pos} (hg : Gl X x) (h : GV X.mg x v) (hd : (x == ("__debug__" : Str)) = false := by decide) : PE X (.Name x pos) (tC v) := by
  obtain ⟨u, h1, h2⟩ := h
  exact pe_glob hg h1 h2 hd
def letters : Str := "abcdefghijklmnopqrstuvwxyz"
/-- the constants of the program -/
structure Cs (mg : Str → Option Value) : Prop where
  nb : NB mg
  le : GV mg "LETTERS" (.str letters)
  ml : GV mg "MOST_LETTERS" (.int 6)
  ze : GV mg "ZERO" (.str "day")
  mf : GV mg "MOST_FILMS" (.int 4)
  mn : GV mg "MOST_LANDS" (.int 4)
  mw : GV mg "MOST_WAYS" (.int 3)
theorem fm_some {α β : Type} (g : α → β) (l : List α) : l.filterMap (fun c => some (g c)) = l.map g := by induction l <;> simp_all
def nameB (x : Str) : Bool := (decide (1 ≤ (x.length : Int)) && decide ((x.length : Int) ≤ 6)) && !decide (x = ("day" : Str)) && x.cps.toList.all fun c => decide (c ∈ letters.cps.toList)
def momentB (x : Str) : Bool := nameB x || decide (x = ("day" : Str))
def spIsCount : Sp := fun vs H Q _ => ∃ i : Int, vs = [.int i] ∧ 0 ≤ i ∧ Q (.bl true) H
def spIsList : Sp := fun vs H Q _ => ∃ a xs, vs = [.ref a] ∧ H a = some (.lst xs) ∧ ∀ H', Same H H' → Q (.bl true) H'
def spIsName : Sp := fun vs H Q _ => ∃ x, vs = [.str x] ∧ x.length ≤ 100 ∧ ∀ H', Same H H' → Q (.bl (nameB x)) H'
def spIsMoment : Sp := fun vs H Q _ => ∃ x, vs = [.str x] ∧ x.length ≤ 100 ∧ ∀ H', Same H H' → Q (.bl (momentB x)) H'
def spIsPoint : Sp := fun vs H Q _ => ∃ a x i, vs = [.ref a] ∧ H a = some (.tup [.str x, .int i]) ∧ x.length ≤ 100 ∧ momentB x = true ∧ ∀ H', Same H H' → Q (.bl true) H'
section
variable {P : Program} {w : World} {K : PySem.W.Frag} {mg : Str → Option Value} {base : Heap} {f : Addr} {fd : FuncData}
theorem sc_isCount : FnScope ["value"] ["value"] (defScope sIsCount) := ⟨rfl, rfl, rfl, by decide +kernel, rfl, by decide +kernel, by decide +kernel⟩
theorem ok_isCount (F : Fun K "is_count" "is_count" sIsCount f fd) (G1 : GOk P w K mg base CX0 1 "is_integer" spIsInt) : FnOk P w K mg base CX0 2 f fd ["value"] spIsCount := by
  refine F.ok sc_isCount (fun vs H Q E h => ?_) fun cdv A outer s H vs Q E hr h => ?_
  · obtain ⟨i, rfl, _⟩ := h
    rfl
  · obtain ⟨i, rfl, hi, q⟩ := h
    apply Exists.intro
    apply And.intro
    · exact pss_one (ps_ret (pe_and (pe_g G1 hr (Nat.le_refl _) rfl pass0 (pa_cons (pv 0) pa_nil)) (pe_one (pe_cmpR op_ge (pv 0) pe_int (nomark _)))))
    · refine ⟨_, rfl, _, _, rfl, .int i, true, rfl, iteT ⟨_, rfl, i, 0, rfl, rfl, ?_⟩⟩
      show Q (.bl (decide (0 ≤ i))) H
      rw [decide_eq_true hi]
      exact q
theorem sc_isList : FnScope ["value"] ["value"] (defScope sIsList) := ⟨rfl, rfl, rfl, by decide +kernel, rfl, by decide +kernel, by decide +kernel⟩
theorem ok_isList (F : Fun K "is_list" "is_list" sIsList f fd) (B : Cs mg) : FnOk P w K mg base CX0 1 f fd ["value"] spIsList := by
  refine F.ok sc_isList (fun vs H Q E h => ?_) fun cdv A outer s H vs Q E hr h => ?_
  · obtain ⟨a, xs, rfl, _⟩ := h
    rfl
  · obtain ⟨a, xs, rfl, ha, q⟩ := h
    apply Exists.intro
    apply And.intro
    · exact pss_one (ps_ret (pe_callB call_isiT rfl (B.nb _ (by decide)) rfl (pa_cons (pv 0) (pa_cons (pe_tup (pa_cons (pe_bltn (u := .type "list") (v := .ty "list") rfl (B.nb _ (by decide)) rfl rfl) (pa_cons (pe_bltn (u := .type "tuple") (v := .ty "tuple") rfl (B.nb _ (by decide)) rfl rfl) pa_nil))) pa_nil))))
    · refine ⟨_, rfl, by decide, fun p np => ⟨.ref a, p, _, .type "list", _, true, rfl, upd_same, .cons (.ty _) (.cons (.ty _) .nil), .base (.lst (by rw [upd_ne (ne_of_none ha np)]; exact ha)), ?_, q _ (same_upd np)⟩⟩
      exact kitAny_cons (b := true) (kit_ty (by decide +kernel)) (fun z => nomatch z) fun _ => rfl
theorem sc_isName : FnScope ["value", "letter"] ["value"] (defScope sIsName) := ⟨rfl, rfl, rfl, by decide +kernel, rfl, by decide +kernel, by decide +kernel⟩
theorem ok_isName (F : Fun K "is_name" "is_name" sIsName f fd) (B : Cs mg) : FnOk P w K mg base CX0 1 f fd ["value"] spIsName := by
  refine F.ok sc_isName (fun vs H Q E h => ?_) fun cdv A outer s H vs Q E hr h => ?_
  · obtain ⟨x, rfl, _⟩ := h
    rfl
  · obtain ⟨x, rfl, hx, q⟩ := h
    apply Exists.intro
    apply And.intro
    · exact pss_cons (ps_if (PW.pt (pw_or (pt_not (pt_val (pe_callB call_isi rfl (B.nb _ (by decide)) rfl (pa_cons (pv 0) (pa_cons (pe_bltn (u := .type "str") (v := .ty "str") rfl (B.nb _ (by decide)) rfl rfl) pa_nil)))))
          (pw_or (pt_not (pt_chain op_le op_le pe_int (pe_callB call_len_str rfl (B.nb _ (by decide)) rfl (pa_cons (pv 0) pa_nil)) (pe_gv rfl B.ml)))
          (pw_or1 (pt_cmpR op_eq (pv 0) (pe_gv rfl B.ze) (nomark _)))))) (pss_one (ps_ret pe_bl)) pss_nil)
        (pss_one (ps_ret (pe_callB (cr_all rfl) rfl (B.nb _ (by decide)) rfl (pa_cons (pe_lc (own := [("letter", 1)]) rfl sc_isName.nd (pi_str (pv 0)) (blkOk_by (N := ["value", "letter"]) (sc := defScope sIsName) (by decide +kernel)) (fun s H C cl fp => pg_name (i := 1) sc_isName.nd rfl (Or.inl rfl)) (fun _ _ _ _ _ => pts_nil)
          (fun s H C cl fp => pe_cmpR op_in_sign (pv 1) (pe_gv rfl B.le) rfl)) pa_nil))))
    · have hl : x.length ≤ sizeLine := Nat.le_trans hx (by decide)
      refine ⟨_, rfl, _, _, _, _, true, rfl, .ty _, .base (.str x), kit_ty (by decide +kernel), true, rfl, iteF ?_⟩
      refine ⟨_, rfl, x, rfl, hl, 1, (x.length : Int), rfl, rfl, _, rfl, ?_⟩
      have no : nameB x = false → Q (.bl false) H := fun z => by
        rw [z] at q
        exact q H (Same.refl H)
      cases h1 : decide (1 ≤ (x.length : Int)) with
      | false => exact iteF ⟨false, rfl, iteT (no (by unfold nameB; rw [h1]; rfl))⟩
      | true =>
        refine iteT ⟨(x.length : Int), 6, rfl, rfl, _, rfl, ?_⟩
        cases h2 : decide ((x.length : Int) ≤ 6) with
        | false => exact iteT (no (by unfold nameB; rw [h1, h2]; rfl))
        | true =>
          refine iteF ⟨.str x, rfl, rfl, _, rfl, ?_⟩
          by_cases h3 : x = ("day" : Str)
          · have e : decide (V.str x = V.str "day") = true := decide_eq_true (by rw [h3])
            rw [e]
            exact iteT (no (by unfold nameB; rw [h1, h2, decide_eq_true h3]; rfl))
          · have e : decide (V.str x = V.str "day") = false := decide_eq_false fun z => h3 (V.str.inj z)
            rw [e]
            refine iteF ⟨.str x, rfl, x, rfl, fun D nD => ?_⟩
            refine lc_fm x.cps.toList (fun c => some (.bl (decide (c ∈ letters.cps.toList)))) (by have := walk_str (z := x); rw [← Array.length_toList] at this; exact this) nD (Nat.lt_of_le_of_lt hx (by decide)) (fun _ _ => trivial) (fun i a v H3 H4 Qn Qe ha s3 y hn _ => ?_) (fun H3 s3 h3' => ?_)
            · obtain ⟨rfl, c, hc, rfl⟩ := y
              have ec : c = a := by
                rw [← Array.getElem?_toList, ha] at hc
                exact (Option.some.inj hc).symm
              subst ec
              exact ⟨rfl, ⟨.str ⟨#[c]⟩, rfl, c, letters, rfl, rfl, hn _ _ rfl (Same.refl _)⟩⟩
            · refine ⟨D, x.cps.toList.map fun c => decide (c ∈ letters.cps.toList), rfl, .inl (.inl ?_), ?_⟩
              · rw [h3', List.map_map]
                exact congrArg (fun l => some (HO.lst l)) (fm_some _ _)
              · have e2 : nameB x = (x.cps.toList.map fun c => decide (c ∈ letters.cps.toList)).all id := by
                  unfold nameB
                  rw [h1, h2, decide_eq_false h3, List.all_map]
                  rfl
                rw [← e2]
                exact q _ s3
end
end Ld
namespace Ld
open PySem PySem.Spec PyProof.Rows L2
/-- names that are good, all different -/
structure Names (xs : List Str) : Prop where
  ok : ∀ x ∈ xs, nameB x = true
  sz : ∀ x ∈ xs, x.length ≤ 100
  nd : xs.Nodup
  few : xs.length ≤ 4
theorem inV_strs (x : Str) (l : List Str) : inV (.str x) (l.map V.str) = decide (x ∈ l) := by
  induction l with
  | nil => rfl
  | cons y r ih =>
    show (eqV (.str y) (.str x) || inV (.str x) (r.map V.str)) = _
    have e : eqV (.str y) (.str x) = (y == x) := rfl
    rw [ih, e]
    by_cases h : y = x
    · subst h
      simp
    · have h' : ¬ x = y := fun z => h z.symm
      simp [h, h']
theorem flat_strs (l : List Str) : (l.map V.str).all flatV = true := by induction l <;> simp_all [flatV]
theorem cut_take (l : List V) (i : Nat) (h : i ≤ l.length) : cutV l none (some (i : Int)) = l.take i := by
  unfold cutV
  rw [HT.sIx_none, HT.sIx_nat]
  simp [Nat.min_eq_left h]
def spWrong (g : Addr) : Sp := fun vs H Q _ => ∃ a xs, vs = [.ref a, .ref g] ∧ H a = some (.lst (xs.map V.str)) ∧ Names xs ∧ ∀ H', Same H H' → Q .non H'
def spWantName : Sp := fun vs H Q _ => ∃ x, vs = [.str x] ∧ x.length ≤ 100 ∧ nameB x = true ∧ ∀ H', Same H H' → Q .non H'
def spWantNames : Sp := fun vs H Q _ => ∃ a xs, vs = [.ref a] ∧ H a = some (.lst (xs.map V.str)) ∧ Names xs ∧ xs ≠ [] ∧ ∀ H', Same H H' → Q .non H'
def spWantFew : Sp := fun vs H Q _ => ∃ a xs m y, vs = [.ref a, .int m, y] ∧ H a = some (.lst xs) ∧ (xs.length : Int) ≤ m ∧ Q .non H
/-- two points, the one not behind the other -/
def spWantPoints : Sp := fun vs H Q _ => ∃ a b x i y j, vs = [.ref a, .ref b] ∧ H a = some (.tup [.str x, .int i]) ∧ H b = some (.tup [.str y, .int j]) ∧ x.length ≤ 100 ∧ y.length ≤ 100 ∧ momentB x = true ∧ momentB y = true ∧ (x = y → i ≤ j) ∧ ∀ H', Same H H' → Q .non H'
section
variable {P : Program} {w : World} {K : PySem.W.Frag} {mg : Str → Option Value} {base : Heap} {f : Addr} {fd : FuncData}
theorem sc_isMoment : FnScope ["value"] ["value"] (defScope sIsMoment) := ⟨rfl, rfl, rfl, by decide +kernel, rfl, by decide +kernel, by decide +kernel⟩
theorem ok_isMoment (F : Fun K "is_moment" "is_moment" sIsMoment f fd) (B : Cs mg) (G1 : GOk P w K mg base CX0 1 "is_name" spIsName) : FnOk P w K mg base CX0 2 f fd ["value"] spIsMoment := by
  refine F.ok sc_isMoment (fun vs H Q E h => ?_) fun cdv A outer s H vs Q E hr h => ?_
  · obtain ⟨x, rfl, _⟩ := h
    rfl
  · obtain ⟨x, rfl, hx, q⟩ := h
    apply Exists.intro
    apply And.intro
    · exact pss_one (ps_ret (pe_or (pe_g G1 hr (Nat.le_refl _) rfl pass0 (pa_cons (pv 0) pa_nil)) (pe_one (pe_and (pe_callB call_isi rfl (B.nb _ (by decide)) rfl (pa_cons (pv 0) (pa_cons (pe_bltn (u := .type "str") (v := .ty "str") rfl (B.nb _ (by decide)) rfl rfl) pa_nil)))
        (pe_one (pe_cmpR op_eq (pv 0) (pe_gv rfl B.ze) (nomark _)))))))
    · refine ⟨_, rfl, x, rfl, hx, fun H' s' => ⟨_, rfl, ?_⟩⟩
      unfold momentB at q
      cases h1 : nameB x with
      | true =>
        rw [h1] at q
        exact iteT (q H' s')
      | false =>
        rw [h1] at q
        refine iteF ⟨_, rfl, _, _, _, _, true, rfl, .ty _, .base (.str x), kit_ty (by decide +kernel), true, rfl, iteT ⟨.str x, rfl, rfl, ?_⟩⟩
        have e : decide (V.str x = V.str "day") = decide (x = ("day" : Str)) := by
          by_cases h3 : x = ("day" : Str)
          · rw [decide_eq_true h3, h3]
            rfl
          · rw [decide_eq_false h3]
            exact decide_eq_false fun z => h3 (V.str.inj z)
        rw [e]
        exact q H' s'
theorem sc_isPoint : FnScope ["value"] ["value"] (defScope sIsPoint) := ⟨rfl, rfl, rfl, by decide +kernel, rfl, by decide +kernel, by decide +kernel⟩
theorem ok_isPoint (F : Fun K "is_point" "is_point" sIsPoint f fd) (B : Cs mg) (G1 : GOk P w K mg base CX0 2 "is_moment" spIsMoment) (G2 : GOk P w K mg base CX0 1 "is_integer" spIsInt) : FnOk P w K mg base CX0 3 f fd ["value"] spIsPoint := by
  refine F.ok sc_isPoint (fun vs H Q E h => ?_) fun cdv A outer s H vs Q E hr h => ?_
  · obtain ⟨a, x, i, rfl, _⟩ := h
    rfl
  · obtain ⟨a, x, i, rfl, ha, hx, hm, q⟩ := h
    apply Exists.intro
    apply And.intro
    · exact pss_one (ps_ret (pe_and (pe_callB call_isi rfl (B.nb _ (by decide)) rfl (pa_cons (pv 0) (pa_cons (pe_bltn (u := .type "tuple") (v := .ty "tuple") rfl (B.nb _ (by decide)) rfl rfl) pa_nil)))
        (pe_and (pe_cmpR op_eq (pe_callB call_len_seq rfl (B.nb _ (by decide)) rfl (pa_cons (pv 0) pa_nil)) pe_int (nomark _))
        (pe_and (pe_g G1 hr (Nat.le_refl _) rfl pass0 (pa_cons (pe_ix ix_tup (pv 0) pe_int (fun _ _ => rfl)) pa_nil))
        (pe_one (pe_g G2 hr (by decide) rfl pass0 (pa_cons (pe_ix ix_tup (pv 0) pe_int (fun _ _ => rfl)) pa_nil)))))))
    · refine ⟨_, rfl, _, _, _, _, true, rfl, .ty _, .base (.tup ha), kit_ty (by decide +kernel), true, rfl, iteT ⟨_, rfl, a, _, rfl, .inr (SqT.of ha), rfl, true, rfl, ?_⟩⟩
      refine ⟨_, rfl, a, _, 0, .str x, rfl, rfl, SqT.of ha, rfl, x, rfl, hx, fun H' s' => ⟨_, by rw [hm], ?_⟩⟩
      exact ⟨_, rfl, a, _, 1, .int i, rfl, rfl, SqT.of (s' _ _ ha), rfl, .int i, .int i, rfl, .int i, q H' s'⟩
theorem sc_wrong : FnScope ["names", "is_right", "position", "name"] ["names", "is_right"] (defScope sWrongName) := ⟨rfl, rfl, rfl, by decide +kernel, rfl, by decide +kernel, by decide +kernel⟩
theorem ok_wrong (F : Fun K "wrong_name" "wrong_name" sWrongName f fd) (B : Cs mg) {g : Addr} {gd : FuncData} {ps : List Str} (F1 : FnOk P w K mg base CX0 1 g gd ps spIsName) (k1 : PySem.W.keepIn K (.ref g) = true) (b1 : Binds K gd ps []) : FnOk P w K mg base CX0 2 f fd ["names", "is_right"] (spWrong g) := by
  refine F.ok sc_wrong (fun vs H Q E h => ?_) fun cdv A outer s H vs Q E hr h => ?_
  · obtain ⟨a, xs, rfl, _⟩ := h
    rfl
  · obtain ⟨a, xs, rfl, ha, hN, q⟩ := h
    apply Exists.intro
    apply And.intro
    · exact pss_cons (ps_for PassesOwn.never rfl (pi_enum rfl (B.nb _ (by decide)) (pa_cons (pv 0) pa_nil)) (pg_tup rfl (pgs_cons (pg_name (i := 2) sc_wrong.nd rfl (Or.inl rfl)) (pgs_cons (pg_name (i := 3) sc_wrong.nd rfl (Or.inl rfl)) pgs_nil)))
        (pss_one (ps_if (PW.pt (pw_or (pt_not (pt_val (pe_callL (i := 1) F1 hr rfl (Or.inl rfl) k1 b1 .nil pass0 (pa_cons (pv 3) pa_nil)))) (pw_or1 (pt_cmpR op_in_seq (pv 3) (pe_slice sl_list (pv 0) po_none (po_some (pv 2))) rfl)))) (pss_one (ps_ret (pv 2))) pss_nil))) (pss_one (ps_ret pe_non))
    · refine ⟨_, rfl, a, _, rfl, SqL.of ha, for_it (walk_enum (xs := xs.map V.str)) (fun i σ H' => Same H H' ∧ ∃ p r, σ = [some (.ref a), some (.ref g), p, r]) ⟨Same.refl _, none, none, rfl⟩ (fun i σ H' _ p => SqL.of (p.1 _ _ ha)) ?_ ?_⟩
      · rintro i v σ H1 H2 hi ⟨s1, p, r, rfl⟩ ⟨T, x, y, rfl, nT, rfl, h1, h2⟩
        obtain rfl : V.int (i : Nat) = x := Option.some.inj h1
        obtain ⟨z, hz, rfl⟩ : ∃ z, xs[i]? = some z ∧ V.str z = y := by
          have h2 : (xs.map V.str)[i]? = some y := h2
          rw [List.getElem?_map] at h2
          cases e : xs[i]? with
          | none => rw [e] at h2; cases h2
          | some z => rw [e] at h2; exact ⟨z, rfl, Option.some.inj h2⟩
        have mz : z ∈ xs := List.mem_of_getElem? hz
        refine ⟨T, _, rfl, SqT.of upd_same, rfl, _, _, rfl, _, _, rfl, rfl, ?_⟩
        refine ⟨rfl, _, rfl, z, rfl, hN.sz z mz, fun H3 s3 => ?_⟩
        rw [hN.ok z mz]
        refine ⟨true, rfl, ?_⟩
        have s4 : Same H1 H3 := (same_upd nT).trans s3
        have ha3 : H3 a = some (.lst (xs.map V.str)) := s4 _ _ (s1 _ _ ha)
        have ilt : i < xs.length := (List.getElem?_eq_some_iff.mp hz).1
        refine ⟨_, rfl, _, rfl, _, rfl, _, rfl, a, xs.map V.str, rfl, SqL.of ha3, fun p np => ⟨p, _, rfl, .inl (SqL.of upd_same), rfl, ?_, _, rfl, ?_⟩⟩
        · rw [cut_take _ _ (by rw [List.length_map]; omega), ← List.map_take]
          exact flat_strs _
        · have e : inV (.str z) (cutV (xs.map V.str) none (some ((i : Nat) : Int))) = false := by
            rw [cut_take _ _ (by rw [List.length_map]; omega), ← List.map_take, inV_strs]
            refine decide_eq_false fun m => ?_
            obtain ⟨j, hj⟩ := List.mem_iff_getElem?.mp m
            rw [List.getElem?_take] at hj
            split at hj
            · rename_i lt
              exact absurd (nd_ix hN.nd hj hz) (Nat.ne_of_lt lt)
            · cases hj
          show if (inV (.str z) (cutV (xs.map V.str) none (some ((i : Nat) : Int)))) = true then _ else _
          rw [e]
          exact iteF ⟨s1.trans (s4.trans (same_upd np)), _, _, rfl⟩
      · rintro σ H' ⟨s1, _⟩
        exact q H' s1
end
end Ld
namespace Ld
open PySem PySem.Spec PyProof.Rows L2
/-! ### texts in order -/
def leS (a b : Str) : Bool := !decide (b.cps.toList < a.cps.toList)
theorem leS_iff {a b : Str} : leS a b = true ↔ a.cps.toList ≤ b.cps.toList := by
  unfold leS
  rw [Bool.not_eq_true', decide_eq_false_iff_not]
  exact Iff.rfl
theorem leS_trans (a b c : Str) (h : leS a b = true) (k : leS b c = true) : leS a c = true := leS_iff.mpr (List.le_trans (leS_iff.mp h) (leS_iff.mp k))
theorem leS_total (a b : Str) : (leS a b || leS b a) = true := by
  rw [Bool.or_eq_true, leS_iff, leS_iff]
  exact List.le_total _ _
theorem leS_anti {a b : Str} (h : leS a b = true) (k : leS b a = true) : a = b := by
  have e := List.le_antisymm (leS_iff.mp h) (leS_iff.mp k)
  cases a with
  | mk x =>
    cases b with
    | mk y =>
      have e : x.toList = y.toList := e
      rw [Array.toList_inj.mp e]
def srt (l : List Str) : List Str := l.mergeSort leS
theorem srt_perm (l : List Str) : (srt l).Perm l := List.mergeSort_perm l leS
theorem srt_pw (l : List Str) : (srt l).Pairwise fun a b => leS a b = true := List.pairwise_mergeSort leS_trans leS_total l
theorem rising_pw : ∀ {l : List Str} {p : Str}, risingS p l = true → (p :: l).Pairwise fun a b => leS a b = true
  | [], p, _ => List.pairwise_singleton _ _
  | x :: r, p, h => by
    unfold risingS at h
    obtain ⟨h1, h2⟩ := Bool.and_eq_true_iff.mp h
    rw [ltCps_eq] at h1
    have h1 : leS p x = true := h1
    have ih := rising_pw h2
    refine List.pairwise_cons.mpr ⟨fun y hy => ?_, ih⟩
    rcases List.mem_cons.mp hy with e | e
    · rw [e]
      exact h1
    · exact leS_trans _ _ _ h1 (List.rel_of_pairwise_cons ih e)
theorem sorted_pw : ∀ {l : List Str}, sortedS l = true → l.Pairwise fun a b => leS a b = true
  | [], _ => List.Pairwise.nil
  | _ :: _, h => rising_pw h
theorem srt_uniq {xs ys : List Str} (p : ys.Perm xs) (h : sortedS ys = true) : ys = srt xs :=
  List.Perm.eq_of_pairwise (fun _ _ _ _ a b => leS_anti a b) (sorted_pw h) (srt_pw xs) (p.trans (srt_perm xs).symm)

/-! ### a deal as plain data -/
structure Pact where
  tag : Str
  firm : Str
  films : List Str
  lands : List Str
  ways : List Str
  hd : Str
  fi : Int
  tl : Str
  la : Int
  sole : Bool
  fee : Int
/-- its lists sorted -/
def Pact.deal (p : Pact) : Pact := { p with films := srt p.films, lands := srt p.lands, ways := srt p.ways }
/-- ints that are short -/
def Small (i : Int) : Prop := i.natAbs < 10 ^ 60
structure PactOk (p : Pact) : Prop where
  tag : nameB p.tag = true ∧ p.tag.length ≤ 100
  firm : nameB p.firm = true ∧ p.firm.length ≤ 100
  films : Names p.films ∧ p.films ≠ []
  lands : Names p.lands ∧ p.lands ≠ []
  ways : Names p.ways ∧ p.ways ≠ [] ∧ p.ways.length ≤ 3
  hd : momentB p.hd = true ∧ p.hd.length ≤ 100
  tl : momentB p.tl = true ∧ p.tl.length ≤ 100
  ord : p.hd = p.tl → p.fi ≤ p.la
  fee : 0 ≤ p.fee
  sm : Small p.fi ∧ Small p.la ∧ Small p.fee
def dealFs (d : Pact) (fa la wa b e : Addr) : List (Str × V) :=
  [("own_name", .str d.tag), ("own_house", .str d.firm), ("own_films", .ref fa), ("own_lands", .ref la), ("own_ways", .ref wa), ("own_begin", .ref b), ("own_end", .ref e), ("is_alone", .bl d.sole), ("own_price", .int d.fee)]
/-- the deal d stands at a -/
def DealAt (C : Addr) (H : Hp) (a : Addr) (d : Pact) : Prop := ∃ dx fa la wa b e, H a = some (.ins C dx (dealFs d fa la wa b e)) ∧ H fa = some (.tup (d.films.map V.str)) ∧ H la = some (.tup (d.lands.map V.str)) ∧ H wa = some (.tup (d.ways.map V.str)) ∧
  H b = some (.tup [.str d.hd, .int d.fi]) ∧ H e = some (.tup [.str d.tl, .int d.la])
theorem DealAt.same {C : Addr} {H H' : Hp} {a : Addr} {d : Pact} (h : DealAt C H a d) (s : Same H H') : DealAt C H' a d := by
  obtain ⟨dx, fa, la, wa, b, e, h1, h2, h3, h4, h5, h6⟩ := h
  exact ⟨dx, fa, la, wa, b, e, s _ _ h1, s _ _ h2, s _ _ h3, s _ _ h4, s _ _ h5, s _ _ h6⟩
/-- what the text says of the class of deals -/
structure DealC (K : PySem.W.Frag) (C : Addr) : Prop where
  cls : Cls K C
  no : ∀ f : Str, f ∈ (["own_name", "own_house", "own_films", "own_lands", "own_ways", "own_begin", "own_end", "is_alone", "own_price"] : List Str) → NoAttr K C f
def spInit (C : Addr) : Sp := fun vs H Q _ => ∃ (x dx a b c h t : Addr) (p : Pact), vs = [.ref x, .str p.tag, .str p.firm, .ref a, .ref b, .ref c, .ref h, .ref t, .bl p.sole, .int p.fee] ∧ H x = some (.ins C dx []) ∧ H a = some (.lst (p.films.map V.str)) ∧ H b = some (.lst (p.lands.map V.str)) ∧
  H c = some (.lst (p.ways.map V.str)) ∧ H h = some (.tup [.str p.hd, .int p.fi]) ∧ H t = some (.tup [.str p.tl, .int p.la]) ∧ PactOk p ∧ ∀ H', (∀ b o, H b = some o → b ≠ x → H' b = some o) → DealAt C H' x p.deal → Q .non H'
section
variable {P : Program} {w : World} {K : PySem.W.Frag} {mg : Str → Option Value} {base : Heap} {f : Addr} {fd : FuncData}
/-! ### the checks that a deal's making asks -/
theorem sc_wantName : FnScope ["value"] ["value"] (defScope sWantName) := ⟨rfl, rfl, rfl, by decide +kernel, rfl, by decide +kernel, by decide +kernel⟩
theorem ok_wantName (F : Fun K "want_name" "want_name" sWantName f fd) (G1 : GOk P w K mg base CX0 1 "is_name" spIsName) : FnOk P w K mg base CX0 2 f fd ["value"] spWantName := by
  refine F.ok sc_wantName (fun vs H Q E h => ?_) fun cdv A outer s H vs Q E hr h => ?_
  · obtain ⟨x, rfl, _⟩ := h
    rfl
  · obtain ⟨x, rfl, hx, hn, q⟩ := h
    apply Exists.intro
    apply And.intro
    · exact pss_one (ps_if (pt_not (pt_val (pe_g G1 hr (Nat.le_refl _) rfl pass0 (pa_cons (pv 0) pa_nil)))) pss_never pss_nil)
    · refine ⟨_, rfl, x, rfl, hx, fun H' s' => ?_⟩
      rw [hn]
      exact ⟨true, rfl, q H' s'⟩
theorem sc_wantNames : FnScope ["value", "position"] ["value"] (defScope sWantNames) := ⟨rfl, rfl, rfl, by decide +kernel, rfl, by decide +kernel, by decide +kernel⟩
theorem ok_wantNames {g : Addr} (F : Fun K "want_names" "want_names" sWantNames f fd) (B : Cs mg) (mN : mg "is_name" = some (.ref g)) (G1 : GOk P w K mg base CX0 1 "is_list" spIsList) (G2 : GOk P w K mg base CX0 2 "wrong_name" (spWrong g)) : FnOk P w K mg base CX0 3 f fd ["value"] spWantNames := by
  refine F.ok sc_wantNames (fun vs H Q E h => ?_) fun cdv A outer s H vs Q E hr h => ?_
  · obtain ⟨a, xs, rfl, _⟩ := h
    rfl
  · obtain ⟨a, xs, rfl, ha, hN, hne, q⟩ := h
    apply Exists.intro
    apply And.intro
    · exact pss_cons (ps_if (PW.pt (pw_or (pt_not (pt_val (pe_g G1 hr (by decide) rfl pass0 (pa_cons (pv 0) pa_nil)))) (pw_or1 (pt_cmpR op_eq (pe_callB call_len_seq rfl (B.nb _ (by decide)) rfl (pa_cons (pv 0) pa_nil)) pe_int (nomark _))))) pss_never pss_nil)
        (pss_cons (ps_set (i := 1) sc_wantNames.nd rfl (Or.inl rfl) (pe_g G2 hr (Nat.le_refl _) rfl pass0 (pa_cons (pv 0) (pa_cons (pe_glob (v := .ref g) rfl mN rfl) pa_nil))))
        (pss_one (ps_if (pt_cmpR op_notN (pv 1) pe_non (nomark _)) pss_never pss_nil)))
    · refine ⟨_, rfl, a, _, rfl, ha, fun H1 s1 => ⟨true, rfl, ?_⟩⟩
      refine ⟨_, rfl, a, _, rfl, .inl (SqL.of (s1 _ _ ha)), rfl, ?_⟩
      have e : decide (V.int (((xs.map V.str).length : Nat) : Int) = V.int 0) = false := by
        refine decide_eq_false fun z => hne ?_
        have z' := V.int.inj z
        rw [List.length_map] at z'
        exact List.length_eq_zero_iff.mp (by omega)
      rw [e]
      refine ⟨false, rfl, _, rfl, a, xs, rfl, s1 _ _ ha, hN, fun H2 s2 => ?_⟩
      exact ⟨_, rfl, rfl, _, rfl, q _ (s1.trans s2)⟩
theorem sc_wantFew : FnScope ["value", "most", "what"] ["value", "most", "what"] (defScope sWantFew) := ⟨rfl, rfl, rfl, by decide +kernel, rfl, by decide +kernel, by decide +kernel⟩
theorem ok_wantFew (F : Fun K "want_few" "want_few" sWantFew f fd) (B : Cs mg) : FnOk P w K mg base CX0 1 f fd ["value", "most", "what"] spWantFew := by
  refine F.ok sc_wantFew (fun vs H Q E h => ?_) fun cdv A outer s H vs Q E hr h => ?_
  · obtain ⟨a, xs, m, y, rfl, _⟩ := h
    rfl
  · obtain ⟨a, xs, m, y, rfl, ha, hl, q⟩ := h
    apply Exists.intro
    apply And.intro
    · exact pss_one (ps_if (pt_cmpR op_gt (pe_callB call_len_seq rfl (B.nb _ (by decide)) rfl (pa_cons (pv 0) pa_nil)) (pv 1) (nomark _)) pss_never pss_nil)
    · refine ⟨_, rfl, a, xs, rfl, .inl (SqL.of ha), _, rfl, _, m, rfl, rfl, _, rfl, ?_⟩
      rw [decide_eq_false (by omega)]
      exact q
theorem sc_wantPoints : FnScope ["begin", "end"] ["begin", "end"] (defScope sWantPoints) := ⟨rfl, rfl, rfl, by decide +kernel, rfl, by decide +kernel, by decide +kernel⟩
theorem dec_strV (x y : Str) : decide (V.str x = V.str y) = decide (x = y) := by
  by_cases h : x = y
  · rw [decide_eq_true h, h]
    exact decide_eq_true rfl
  · rw [decide_eq_false h]
    exact decide_eq_false fun z => h (V.str.inj z)
theorem ok_wantPoints (F : Fun K "want_points" "want_points" sWantPoints f fd) (G1 : GOk P w K mg base CX0 3 "is_point" spIsPoint) : FnOk P w K mg base CX0 4 f fd ["begin", "end"] spWantPoints := by
  refine F.ok sc_wantPoints (fun vs H Q E h => ?_) fun cdv A outer s H vs Q E hr h => ?_
  · obtain ⟨a, b, x, i, y, j, rfl, _⟩ := h
    rfl
  · obtain ⟨a, b, x, i, y, j, rfl, ha, hb, hx, hy, mx, my, ho, q⟩ := h
    apply Exists.intro
    apply And.intro
    · exact pss_cons (ps_if (pt_not (pt_val (pe_g G1 hr (Nat.le_refl _) rfl pass0 (pa_cons (pv 0) pa_nil)))) pss_never pss_nil)
        (pss_one (ps_if (PW.pt (pw_or (pt_not (pt_val (pe_g G1 hr (Nat.le_refl _) rfl pass0 (pa_cons (pv 1) pa_nil)))) (pw_or1 (PW.pt (pw_and (pt_cmpR op_eq (pe_ix ix_tup (pv 0) pe_int (fun _ _ => rfl)) (pe_ix ix_tup (pv 1) pe_int (fun _ _ => rfl)) (nomark _))
          (pw_and1 (pt_cmpR op_gt (pe_ix ix_tup (pv 0) pe_int (fun _ _ => rfl)) (pe_ix ix_tup (pv 1) pe_int (fun _ _ => rfl)) (nomark _)))))))) pss_never pss_nil))
    · refine ⟨_, rfl, a, x, i, rfl, ha, hx, mx, fun H1 s1 => ⟨true, rfl, ?_⟩⟩
      refine ⟨_, rfl, b, y, j, rfl, s1 _ _ hb, hy, my, fun H2 s2 => ⟨true, rfl, ?_⟩⟩
      have s12 := s1.trans s2
      refine ⟨_, rfl, a, _, 0, .str x, rfl, rfl, SqT.of (s12 _ _ ha), rfl, _, rfl, b, _, 0, .str y, rfl, rfl, SqT.of (s12 _ _ hb), rfl, rfl, ?_⟩
      rw [dec_strV]
      by_cases e : x = y
      · rw [decide_eq_true e]
        refine ⟨true, rfl, _, rfl, a, _, 1, .int i, rfl, rfl, SqT.of (s12 _ _ ha), rfl, _, rfl, b, _, 1, .int j, rfl, rfl, SqT.of (s12 _ _ hb), rfl, i, j, rfl, rfl, _, rfl, ?_⟩
        rw [decide_eq_false (by have := ho e; omega)]
        exact q H2 s12
      · rw [decide_eq_false e]
        exact ⟨false, rfl, q H2 s12⟩
end
end Ld
namespace Ld
open PySem PySem.Spec PyProof.Rows L2
/-- all but what stands at x stays -/
def Off (x : Addr) (H H' : Hp) : Prop := ∀ b o, H b = some o → b ≠ x → H' b = some o
theorem Off.refl {x : Addr} {H : Hp} : Off x H H := fun _ _ e _ => e
theorem Off.trans {x : Addr} {H H1 H2 : Hp} (a : Off x H H1) (b : Off x H1 H2) : Off x H H2 := fun c o e n => b c o (a c o e n) n
theorem Off.of {x : Addr} {H H' : Hp} (s : Same H H') : Off x H H' := fun b o e _ => s b o e
theorem Off.put {x : Addr} {H : Hp} {o : HO} : Off x H (upd H x o) := fun b u e n => by rw [upd_ne n]; exact e
section
variable {P : Program} {w : World} {K : PySem.W.Frag} {mg : Str → Option Value} {base : Heap} {f : Addr} {fd : FuncData} {C : Addr}
theorem sc_err : FnScope ["self", "value"] ["self", "value"] (defScope sNumI) := ⟨rfl, rfl, rfl, by decide +kernel, rfl, by decide +kernel, by decide +kernel⟩
theorem ok_err {q : Str} {st : Stmt} (hs : FnScope ["self", "value"] ["self", "value"] (defScope st)) (hb : ∃ p1 p2 p3 p4, defBody st = [.Assign [.Attribute (.Name "self" p1) "value" p2] (.Name "value" p3) p4]) (F : Fun K "__init__" q st f fd) (T : OexC K C) (no : PySem.W.findIn K (.ref C) "value" = some none) (l0 : (defScope st).names.lookup ("self" : Str) = some .local) (l1 : (defScope st).names.lookup ("value" : Str) = some .local) :
    FnOk P w K mg base CX0 1 f fd ["self", "value"] (spErr C) := by
  refine F.ok hs (fun vs H Q E h => ?_) fun cdv A outer s H vs Q E hr h => ?_
  · obtain ⟨a, v, rfl, _⟩ := h
    rfl
  · obtain ⟨a, v, rfl, ha, q⟩ := h
    obtain ⟨p1, p2, p3, p4, eb⟩ := hb
    rw [eb]
    apply Exists.intro
    apply And.intro
    · exact pss_one (ps_ost (pv 0 rfl (Or.inl l0)) (pv 1 rfl (Or.inl l1)) (by rfl))
    · exact ⟨v, rfl, .ref a, rfl, a, C, rfl, T, no, .inl ⟨ha, fun d nd ne => q d nd ne⟩⟩
theorem putF_lt {n : Nat} {f : Str} {v : V} {fs : List (Str × V)} (h : fs.length < n) : (putF f v fs).length < n + 1 := Nat.lt_succ_of_le (Nat.le_trans (length_putF f v fs) h)
theorem putF_lt9 {fs : List (Str × V)} {n : Nat} (h : fs.length < n) (k : n ≤ 1000) : fs.length < 1000 := Nat.lt_of_lt_of_le h k
theorem tupSort {l : List Str} {z : Addr} {H1 : Hp} {R : V → Hp → Prop} (n : Ld.Names l) (e : H1 z = some (.lst (l.map V.str))) (hR : ∀ t H2, Same H1 H2 → H1 t = none → H2 t = some (.tup ((srt l).map V.str)) → R (.ref t) H2) :
    rSortedS K [V.ref z] H1 (fun x H2 => kTup K x H2 R) := by
  refine ⟨z, l, rfl, SqL.of e, Nat.lt_of_le_of_lt n.few (by decide), fun ys p pm so np => .inl ⟨p, ys.map V.str, rfl, SqL.of upd_same, fun t nt => ?_⟩⟩
  rw [srt_uniq pm so] at nt ⊢
  have s1 : Same H1 (upd H1 p (.lst ((srt l).map V.str))) := same_upd np
  refine hR t _ (s1.trans (same_upd nt)) ?_ upd_same
  by_cases h : t = p
  · rw [h]; exact np
  · rw [upd_ne h] at nt; exact nt
theorem sc_init : FnScope ["self", "name", "house", "films", "lands", "ways", "begin", "end", "alone", "price", "names"] ["self", "name", "house", "films", "lands", "ways", "begin", "end", "alone", "price"] (defScope sInit) := ⟨rfl, rfl, rfl, by decide +kernel, rfl, by decide +kernel, by decide +kernel⟩
theorem ok_init (F : Fun K "__init__" "Deal.__init__" sInit f fd) (B : Cs mg) (D : DealC K C) (G1 : GOk P w K mg base CX0 2 "want_name" spWantName) (G2 : GOk P w K mg base CX0 3 "want_names" spWantNames) (G3 : GOk P w K mg base CX0 1 "want_few" spWantFew)
    (G4 : GOk P w K mg base CX0 4 "want_points" spWantPoints) (G5 : GOk P w K mg base CX0 2 "is_count" spIsCount) : FnOk P w K mg base CX0 5 f fd ["self", "name", "house", "films", "lands", "ways", "begin", "end", "alone", "price"] (spInit C) := by
  refine F.ok sc_init (fun vs H Q E h => ?_) fun cdv A outer s H vs Q E hr h => ?_
  · obtain ⟨x, dx, a, b, c, h, t, p, rfl, _⟩ := h
    rfl
  · obtain ⟨x, dx, a, b, c, h, t, p, rfl, hx, ha, hb, hc, hh, ht, ok, q⟩ := h
    apply Exists.intro
    apply And.intro
    · exact pss_cons (ps_expr (pe_g G1 hr (by decide) rfl pass0 (pa_cons (pv 1) pa_nil)))
        (pss_cons (ps_expr (pe_g G1 hr (by decide) rfl pass0 (pa_cons (pv 2) pa_nil)))
        (pss_cons (ps_for PassesOwn.never rfl (pi_tup (pe_tup (pa_cons (pv 3) (pa_cons (pv 4) (pa_cons (pv 5) pa_nil))))) (pg_name (i := 10) sc_init.nd rfl (Or.inl rfl)) (pss_one (ps_expr (pe_g G2 hr (by decide) rfl pass0 (pa_cons (pv 10) pa_nil)))))
        (pss_cons (ps_expr (pe_g G4 hr (by decide) rfl pass0 (pa_cons (pv 6) (pa_cons (pv 7) pa_nil))))
        (pss_cons (ps_if (pt_not (pt_val (pe_g G5 hr (by decide) rfl pass0 (pa_cons (pv 9) pa_nil)))) pss_never pss_nil)
        (pss_cons (ps_expr (pe_g G3 hr (by decide) rfl pass0 (pa_cons (pv 3) (pa_cons (pe_gv rfl B.mf) (pa_cons pe_str pa_nil)))))
        (pss_cons (ps_expr (pe_g G3 hr (by decide) rfl pass0 (pa_cons (pv 4) (pa_cons (pe_gv rfl B.mn) (pa_cons pe_str pa_nil)))))
        (pss_cons (ps_expr (pe_g G3 hr (by decide) rfl pass0 (pa_cons (pv 5) (pa_cons (pe_gv rfl B.mw) (pa_cons pe_str pa_nil)))))
        (pss_cons (ps_fld (pv 0) (pv 1) (by rfl))
        (pss_cons (ps_fld (pv 0) (pv 2) (by rfl))
        (pss_cons (ps_fld (pv 0) (pe_tupleOf rfl (B.nb _ (by decide)) (pe_callB cr_sortedS rfl (B.nb _ (by decide)) rfl (pa_cons (pv 3) pa_nil))) (by rfl))
        (pss_cons (ps_fld (pv 0) (pe_tupleOf rfl (B.nb _ (by decide)) (pe_callB cr_sortedS rfl (B.nb _ (by decide)) rfl (pa_cons (pv 4) pa_nil))) (by rfl))
        (pss_cons (ps_fld (pv 0) (pe_tupleOf rfl (B.nb _ (by decide)) (pe_callB cr_sortedS rfl (B.nb _ (by decide)) rfl (pa_cons (pv 5) pa_nil))) (by rfl))
        (pss_cons (ps_fld (pv 0) (pv 6) (by rfl))
        (pss_cons (ps_fld (pv 0) (pv 7) (by rfl))
        (pss_cons (ps_fld (pv 0) (pv 8) (by rfl))
        (pss_one (ps_fld (pv 0) (pv 9) (by rfl))))))))))))))))))
    · refine ⟨_, rfl, p.tag, rfl, ok.tag.2, ok.tag.1, fun H1 s1 => ?_⟩
      refine ⟨_, rfl, p.firm, rfl, ok.firm.2, ok.firm.1, fun H2 s2 => ?_⟩
      have s12 := s1.trans s2
      refine ⟨_, rfl, _, rfl, _, rfl, (show (3 : Nat) ≤ sizeLine by decide), fun T nT => ⟨T, rfl, ⟨_, SqT.of upd_same⟩, ?_⟩⟩
      have s3 : Same H (upd H2 T (.tup [.ref a, .ref b, .ref c])) := s12.trans (same_upd nT)
      refine for_it (walk_tup (xs := [.ref a, .ref b, .ref c])) (fun i σ H' => Same (upd H2 T (.tup [.ref a, .ref b, .ref c])) H' ∧ ∃ r, σ = [some (.ref x), some (.str p.tag), some (.str p.firm), some (.ref a), some (.ref b), some (.ref c), some (.ref h), some (.ref t), some (.bl p.sole), some (.int p.fee), r]) ⟨Same.refl _, none, rfl⟩ (fun i σ H' _ z => SqT.of (z.1 _ _ upd_same)) ?_ ?_
      · rintro i v σ H3 H4 hi ⟨s4, r, rfl⟩ ⟨rfl, hv⟩
        have s5 := s3.trans s4
        have any : ∃ (z : Addr) (l : List Str), v = .ref z ∧ H4 z = some (.lst (l.map V.str)) ∧ Names l ∧ l ≠ [] := by
          match i, hv with
          | 0, hv => cases hv; exact ⟨a, _, rfl, s5 _ _ ha, ok.films⟩
          | 1, hv => cases hv; exact ⟨b, _, rfl, s5 _ _ hb, ok.lands⟩
          | 2, hv => cases hv; exact ⟨c, _, rfl, s5 _ _ hc, ok.ways.1, ok.ways.2.1⟩
        obtain ⟨z, l, rfl, hz, hN, hne⟩ := any
        exact ⟨_, rfl, z, l, rfl, hz, hN, hne, fun H5 s6 => ⟨s4.trans s6, _, rfl⟩⟩
      · rintro σ H3 ⟨s4, r, rfl⟩
        have s5 := s3.trans s4
        refine ⟨_, rfl, _, rfl, h, t, p.hd, p.fi, p.tl, p.la, rfl, s5 _ _ hh, s5 _ _ ht, ok.hd.2, ok.tl.2, ok.hd.1, ok.tl.1, ok.ord, fun H4 s6 => ?_⟩
        have s7 := s5.trans s6
        refine ⟨_, rfl, p.fee, rfl, ok.fee, true, rfl, ?_⟩
        refine ⟨_, rfl, a, _, 4, _, rfl, s7 _ _ ha, (by rw [List.length_map]; exact Int.ofNat_le.mpr ok.films.1.few), ?_⟩
        refine ⟨_, rfl, b, _, 4, _, rfl, s7 _ _ hb, (by rw [List.length_map]; exact Int.ofNat_le.mpr ok.lands.1.few), ?_⟩
        refine ⟨_, rfl, c, _, 3, _, rfl, s7 _ _ hc, (by rw [List.length_map]; exact Int.ofNat_le.mpr ok.ways.2.2), ?_⟩
        have o4 : Off x H H4 := Off.of s7
        have hx4 := s7 _ _ hx
        -- name, house
        refine ⟨_, rfl, _, rfl, x, C, dx, _, rfl, hx4, D.cls, D.no _ (by decide), putF_lt9 (show ([] : List (Str × V)).length < 1 from Nat.one_pos) (by decide), ?_⟩
        refine ⟨_, rfl, _, rfl, x, C, dx, _, rfl, upd_same, D.cls, D.no _ (by decide), putF_lt9 (putF_lt (show ([] : List (Str × V)).length < 1 from Nat.one_pos)) (by decide), ?_⟩
        rw [upd_upd]
        have ox : ∀ {b : Addr} {o : HO}, H b = some o → (∀ c d f, o ≠ .ins c d f) → b ≠ x := fun {b o} e n z => by
          rw [z, hx] at e
          exact n _ _ _ (Option.some.inj e).symm
        have ax : a ≠ x := ox ha (fun _ _ _ z => nomatch z)
        have bx : b ≠ x := ox hb (fun _ _ _ z => nomatch z)
        have cx : c ≠ x := ox hc (fun _ _ _ z => nomatch z)
        have hhx : h ≠ x := ox hh (fun _ _ _ z => nomatch z)
        have htx : t ≠ x := ox ht (fun _ _ _ z => nomatch z)
        have o5 : Off x H (upd H4 x (.ins C dx (putF "own_house" (.str p.firm) (putF "own_name" (.str p.tag) [])))) := o4.trans Off.put
        refine ⟨_, rfl, tupSort ok.films.1 (o5 _ _ ha ax) fun fa H5 t5 n5 hfa => ?_⟩
        have x5 := t5 _ _ (upd_same (a := x))
        have fax : fa ≠ x := fun z => by rw [z, upd_same] at n5; cases n5
        refine ⟨_, rfl, x, C, dx, _, rfl, x5, D.cls, D.no _ (by decide), putF_lt9 (putF_lt (putF_lt (show ([] : List (Str × V)).length < 1 from Nat.one_pos))) (by decide), ?_⟩
        have o6 := (o5.trans (Off.of t5)).trans (Off.put (x := x) (o := .ins C dx (putF "own_films" (.ref fa) (putF "own_house" (.str p.firm) (putF "own_name" (.str p.tag) [])))))
        refine ⟨_, rfl, tupSort ok.lands.1 (o6 _ _ hb bx) fun la H6 t6 n6 hla => ?_⟩
        have x6 := t6 _ _ (upd_same (a := x))
        have lax : la ≠ x := fun z => by rw [z, upd_same] at n6; cases n6
        refine ⟨_, rfl, x, C, dx, _, rfl, x6, D.cls, D.no _ (by decide), putF_lt9 (putF_lt (putF_lt (putF_lt (show ([] : List (Str × V)).length < 1 from Nat.one_pos)))) (by decide), ?_⟩
        have o7 := (o6.trans (Off.of t6)).trans (Off.put (x := x) (o := .ins C dx (putF "own_lands" (.ref la) (putF "own_films" (.ref fa) (putF "own_house" (.str p.firm) (putF "own_name" (.str p.tag) []))))))
        refine ⟨_, rfl, tupSort ok.ways.1 (o7 _ _ hc cx) fun wa H7 t7 n7 hwa => ?_⟩
        have x7 := t7 _ _ (upd_same (a := x))
        have wax : wa ≠ x := fun z => by rw [z, upd_same] at n7; cases n7
        refine ⟨_, rfl, x, C, dx, _, rfl, x7, D.cls, D.no _ (by decide), putF_lt9 (putF_lt (putF_lt (putF_lt (putF_lt (show ([] : List (Str × V)).length < 1 from Nat.one_pos))))) (by decide), ?_⟩
        refine ⟨_, rfl, _, rfl, x, C, dx, _, rfl, upd_same, D.cls, D.no _ (by decide), putF_lt9 (putF_lt (putF_lt (putF_lt (putF_lt (putF_lt (show ([] : List (Str × V)).length < 1 from Nat.one_pos)))))) (by decide), ?_⟩
        refine ⟨_, rfl, _, rfl, x, C, dx, _, rfl, upd_same, D.cls, D.no _ (by decide), putF_lt9 (putF_lt (putF_lt (putF_lt (putF_lt (putF_lt (putF_lt (show ([] : List (Str × V)).length < 1 from Nat.one_pos))))))) (by decide), ?_⟩
        refine ⟨_, rfl, _, rfl, x, C, dx, _, rfl, upd_same, D.cls, D.no _ (by decide), putF_lt9 (putF_lt (putF_lt (putF_lt (putF_lt (putF_lt (putF_lt (putF_lt (show ([] : List (Str × V)).length < 1 from Nat.one_pos)))))))) (by decide), ?_⟩
        refine ⟨_, rfl, _, rfl, x, C, dx, _, rfl, upd_same, D.cls, D.no _ (by decide), putF_lt9 (putF_lt (putF_lt (putF_lt (putF_lt (putF_lt (putF_lt (putF_lt (putF_lt (show ([] : List (Str × V)).length < 1 from Nat.one_pos))))))))) (by decide), ?_⟩
        rw [upd_upd, upd_upd, upd_upd, upd_upd]
        have o8 := o7.trans (Off.of t7)
        have f7 : H7 fa = some (.tup ((srt p.films).map V.str)) := t7 _ _ ((Off.put (x := x)) _ _ (t6 _ _ (Off.put _ _ hfa fax)) fax)
        have l7 : H7 la = some (.tup ((srt p.lands).map V.str)) := t7 _ _ (Off.put _ _ hla lax)
        refine q _ (o8.trans Off.put) ⟨dx, fa, la, wa, h, t, upd_same, ?_, ?_, ?_, ?_, ?_⟩
        · rw [upd_ne fax]; exact f7
        · rw [upd_ne lax]; exact l7
        · rw [upd_ne wax]; exact hwa
        · rw [upd_ne hhx]; exact o8 _ _ hh hhx
        · rw [upd_ne htx]; exact o8 _ _ ht htx
end
end Ld
namespace Ld
open PySem PySem.Spec PyProof.Rows L2
/-! ### tuples that a list holds -/
/-- tuples stay -/
def TupK (H H' : Hp) : Prop := ∀ b ys, H b = some (.tup ys) → H' b = some (.tup ys)
theorem TupK.of {H H' : Hp} (s : Same H H') : TupK H H' := fun b ys e => s b _ e
theorem TupK.trans {H H1 H2 : Hp} (a : TupK H H1) (b : TupK H1 H2) : TupK H H2 := fun c ys e => b c ys (a c ys e)
theorem TupK.put {H : Hp} {D : Addr} {o o' : HO} (e : H D = some o') (n : ∀ ys, o' ≠ .tup ys) : TupK H (upd H D o) := fun b ys eb => by
  rw [upd_ne]
  · exact eb
  · rintro rfl
    rw [e] at eb
    exact n _ (Option.some.inj eb)
def TupAt (H : Hp) (v : V) (ys : List V) : Prop := ∃ b, v = .ref b ∧ H b = some (.tup ys)
inductive AllT (H : Hp) : List V → List (List V) → Prop
  | nil : AllT H [] []
  | cons {v : V} {vs : List V} {ys : List V} {yss : List (List V)} : TupAt H v ys → AllT H vs yss → AllT H (v :: vs) (ys :: yss)
theorem AllT.keep {H H' : Hp} (k : TupK H H') : ∀ {vs : List V} {yss : List (List V)}, AllT H vs yss → AllT H' vs yss
  | _, _, .nil => .nil
  | _, _, .cons ⟨b, e, h⟩ r => .cons ⟨b, e, k _ _ h⟩ (AllT.keep k r)
theorem AllT.append {H : Hp} : ∀ {vs ws : List V} {yss zss : List (List V)}, AllT H vs yss → AllT H ws zss → AllT H (vs ++ ws) (yss ++ zss)
  | _, _, _, _, .nil, h => h
  | _, _, _, _, .cons a b, h => .cons a (AllT.append b h)
theorem AllT.length {H : Hp} : ∀ {vs : List V} {yss : List (List V)}, AllT H vs yss → vs.length = yss.length
  | _, _, .nil => rfl
  | _, _, .cons _ b => by simp [AllT.length b]
theorem AllT.one {H : Hp} {v : V} {ys : List V} (h : TupAt H v ys) : AllT H [v] [ys] := .cons h .nil
/-- tuples as data -/
theorem AllT.sh {H : Hp} : ∀ {vs : List V} {yss : List (List V)} {dss : List (List PyData)}, AllT H vs yss → yss.length = dss.length → (∀ (i : Nat) (ys : List V) (ds : List PyData), yss[i]? = some ys → dss[i]? = some ds → ShAll H ys ds) → ShAll H vs (dss.map PyData.tuple)
  | _, _, [], .nil, _, _ => .nil
  | _, _, ds :: dss, .cons ⟨b, e, h⟩ r, hl, q => by
    rw [e]
    refine .cons (.tup h (q 0 _ _ rfl rfl)) (AllT.sh r (by simpa using hl) fun i ys ds h1 h2 => q (i + 1) ys ds (by simpa using h1) (by simpa using h2))
  | _, _, [], .cons _ _, hl, _ => by simp at hl
  | _, _, _ :: _, .nil, hl, _ => by simp at hl
/-- a comprehension whose items are new tuples -/
theorem lc_tup {J : It} {α : Type} (xs : List α) (h : α → Option (List V)) {G : Hp → Prop} {Y : Nat → Hp → V → Hp → Prop} (w : Walk J xs.length G Y) {g : TG} {tt : TT} {te : TE} {vs : List Nat} {σ : L2.St} {H1 : Hp} {D : Addr} {Qd : Hp → Prop} (nD : H1 D = none) (len : xs.length < sizeLine)
    (hG : ∀ H, Same H1 H → G H) (step : ∀ (i : Nat) (a : α) (x : V) (H H' : Hp) (Qn : V → Hp → Prop) (Qe : Hp → Prop), xs[i]? = some a → Same H1 H → Y i H x H' → (∀ v ys H4, h a = some ys → Same H H4 → TupAt H4 v ys → Qn v H4) → (∀ H3, h a = none → Same H H3 → Qe H3) →
      g x (wipe σ vs) H' fun σ2 H2 => wipe σ2 vs = wipe σ vs ∧ tt σ2 H2 fun b H3 => if b = true then te σ2 H3 Qn else Qe H3) (hd : ∀ H ls, Same H1 H → H D = some (.lst ls) → AllT H ls (xs.filterMap h) → Qd H) :
    ∃ W : Nat → Nat → Hp → Prop, (∃ m, W 0 m (upd H1 D (.lst []))) ∧ ∀ i m H, W i m H →
      (J.stop i H ∧ Qd H) ∨ (J.go i H ∧ ∃ Nx : Hp → Prop, (∀ H', Nx H' → ∃ m', m' < m ∧ W (i + 1) m' H') ∧ ∀ x H', J.yld i H x H' → g x (wipe σ vs) H' fun σ2 H2 => wipe σ2 vs = wipe σ vs ∧ tt σ2 H2 fun b H3 =>
        if b = true then te σ2 H3 fun y H4 => ∃ acc, H4 D = some (.lst acc) ∧ acc.length < sizeLine ∧ Nx (upd H4 D (.lst (acc ++ [y]))) else Nx H3) := by
  refine lc_it w (fun i H => Same H1 H ∧ ∃ ls, H D = some (.lst ls) ∧ AllT H ls ((xs.take i).filterMap h)) ⟨same_off nD (Same.refl _), [], upd_same, .nil⟩ (fun i H _ p => hG H p.1) (fun i x H H' hi p y => ?_)
    (fun H p => by obtain ⟨s, ls, e, t⟩ := p; rw [List.take_length] at t; exact hd H ls s e t)
  obtain ⟨s1, ls, eD, t1⟩ := p
  obtain ⟨a, ha⟩ : ∃ a, xs[i]? = some a := ⟨xs[i], by simp [hi]⟩
  have lt : ls.length < sizeLine := by
    rw [t1.length]
    exact Nat.lt_of_le_of_lt (Nat.le_trans (fm_len _ _) (List.length_take_le _ _)) (Nat.lt_trans hi len)
  refine step i a x H H' _ _ ha s1 y (fun v ys H4 hv s4 tv => ⟨ls, s4 _ _ eD, lt, same_off nD (s1.trans s4), _, upd_same, ?_⟩) (fun H3 hn s3 => ⟨s1.trans s3, ls, s3 _ _ eD, ?_⟩)
  · have k : TupK H4 (upd H4 D (.lst (ls ++ [v]))) := TupK.put (s4 _ _ eD) (fun _ z => nomatch z)
    rw [take_fm h ha, hv]
    exact ((t1.keep (TupK.of s4)).append (.one tv)).keep k
  · rw [take_fm h ha, hn]
    simpa using t1.keep (TupK.of s3)

/-! ### what a deal tells -/
abbrev Cell := Str × Str × Str
def cellV (c : Cell) : List V := [.str c.1, .str c.2.1, .str c.2.2]
def cellL (c : Cell) : List PyData := [.str c.1, .str c.2.1, .str c.2.2]
def cellD (c : Cell) : PyData := .tuple (cellL c)
def cellsIn (fs ls ws : List Str) : List Cell := fs.flatMap fun f => ls.flatMap fun l => ws.map fun w => (f, l, w)
def Pact.cells (p : Pact) : List Cell := cellsIn p.films p.lands p.ways
theorem cells_sh {H : Hp} {vs : List V} {cs : List Cell} (h : AllT H vs (cs.map cellV)) : ShAll H vs (cs.map cellD) := by
  have q := h.sh (dss := cs.map cellL) (by simp) (fun i ys ds h1 h2 => by
    rw [List.getElem?_map] at h1 h2
    cases e : cs[i]? with
    | none => rw [e] at h1; cases h1
    | some c =>
      rw [e] at h1 h2
      cases h1
      cases h2
      exact .cons (.str _) (.cons (.str _) (.cons (.str _) .nil)))
  rw [List.map_map] at q
  exact q
/-- few of each -/
structure Few (p : Pact) : Prop where
  films : p.films.length ≤ 4
  lands : p.lands.length ≤ 4
  ways : p.ways.length ≤ 3
theorem fm_len2 {α β : Type} (f : α → List β) (k : Nat) : ∀ (l : List α), (∀ a ∈ l, (f a).length ≤ k) → (l.flatMap f).length ≤ l.length * k
  | [], _ => Nat.zero_le _
  | a :: r, h => by
    have h1 := h a List.mem_cons_self
    have h2 := fm_len2 f k r fun b hb => h b (List.mem_cons_of_mem _ hb)
    rw [List.flatMap_cons, List.length_append, List.length_cons, Nat.succ_mul]
    omega
theorem cellsIn_len {fs ls ws : List Str} (h1 : fs.length ≤ 4) (h2 : ls.length ≤ 4) (h3 : ws.length ≤ 3) : (cellsIn fs ls ws).length ≤ 48 := by
  have a : ∀ f : Str, (ls.flatMap fun l => ws.map fun w => ((f, l, w) : Cell)).length ≤ 12 := fun f => by
    have := fm_len2 (fun l => ws.map fun w => ((f, l, w) : Cell)) 3 ls (fun _ _ => by rw [List.length_map]; exact h3)
    omega
  have b := fm_len2 (fun f => ls.flatMap fun l => ws.map fun w => ((f, l, w) : Cell)) 12 fs (fun f _ => a f)
  unfold cellsIn
  omega
theorem cellsIn_one (z : Str) (ls ws : List Str) : cellsIn [z] ls ws = ls.flatMap fun l => ws.map fun w => (z, l, w) := by simp [cellsIn]
theorem take_fmap {α β : Type} {l : List α} {i : Nat} {a : α} (f : α → List β) (e : l[i]? = some a) : (l.take (i + 1)).flatMap f = (l.take i).flatMap f ++ f a := by
  rw [List.take_add_one, e, List.flatMap_append]
  simp
/-- a deal's fields -/
theorem cellsIn_inner {z y : Str} {ls ws : List Str} {j : Nat} (e : ls[j]? = some y) : cellsIn [z] (ls.take (j + 1)) ws = cellsIn [z] (ls.take j) ws ++ ws.map fun w => (z, y, w) := by
  rw [cellsIn_one, cellsIn_one, take_fmap _ e]
theorem cellsIn_outer {z : Str} {fs ls ws : List Str} {i : Nat} (e : fs[i]? = some z) : cellsIn (fs.take (i + 1)) ls ws = cellsIn (fs.take i) ls ws ++ cellsIn [z] ls ws := by
  rw [cellsIn_one]
  exact take_fmap _ e
theorem cells_fm (z y : Str) (ws : List Str) : ws.filterMap (fun x => some [V.str z, V.str y, V.str x]) = (ws.map fun w => ((z, y, w) : Cell)).map cellV := by
  rw [fm_some, List.map_map]
  rfl
theorem take_le {α : Type} (l : List α) (i k : Nat) (h : l.length ≤ k) : (l.take i).length ≤ k := by rw [List.length_take]; omega
theorem DealAt.fld {C : Addr} {H : Hp} {a : Addr} {d : Pact} (h : DealAt C H a d) : ∃ dx fs, H a = some (.ins C dx fs) ∧ (∃ fa, fs.lookup ("own_films" : Str) = some (.ref fa) ∧ H fa = some (.tup (d.films.map V.str))) ∧ (∃ la, fs.lookup ("own_lands" : Str) = some (.ref la) ∧ H la = some (.tup (d.lands.map V.str))) ∧
    (∃ wa, fs.lookup ("own_ways" : Str) = some (.ref wa) ∧ H wa = some (.tup (d.ways.map V.str))) ∧ (∃ b, fs.lookup ("own_begin" : Str) = some (.ref b) ∧ H b = some (.tup [.str d.hd, .int d.fi])) ∧ (∃ e, fs.lookup ("own_end" : Str) = some (.ref e) ∧ H e = some (.tup [.str d.tl, .int d.la])) ∧
    fs.lookup ("own_name" : Str) = some (.str d.tag) ∧ fs.lookup ("own_house" : Str) = some (.str d.firm) ∧ fs.lookup ("is_alone" : Str) = some (.bl d.sole) ∧ fs.lookup ("own_price" : Str) = some (.int d.fee) := by
  obtain ⟨dx, fa, la, wa, b, e, h1, h2, h3, h4, h5, h6⟩ := h
  exact ⟨dx, _, h1, ⟨fa, rfl, h2⟩, ⟨la, rfl, h3⟩, ⟨wa, rfl, h4⟩, ⟨b, rfl, h5⟩, ⟨e, rfl, h6⟩, rfl, rfl, rfl, rfl⟩
def spCells (C : Addr) : Sp := fun vs H Q _ => ∃ a d, vs = [.ref a] ∧ DealAt C H a d ∧ Few d ∧ ∀ H' p xs, Same H H' → H' p = some (.lst xs) → AllT H' xs (d.cells.map cellV) → Q (.ref p) H'
section
variable {P : Program} {w : World} {K : PySem.W.Frag} {mg : Str → Option Value} {base : Heap} {f : Addr} {fd : FuncData} {C : Addr}
theorem sc_cells : FnScope ["self", "found", "film", "land", "way"] ["self"] (defScope sCells) := ⟨rfl, rfl, rfl, by decide +kernel, rfl, by decide +kernel, by decide +kernel⟩
theorem ok_cells (F : Fun K "cells" "Deal.cells" sCells f fd) (D : DealC K C) : FnOk P w K mg base CX0 1 f fd ["self"] (spCells C) := by
  refine F.ok sc_cells (fun vs H Q E h => ?_) fun cdv A outer s H vs Q E hr h => ?_
  · obtain ⟨a, d, rfl, _⟩ := h
    rfl
  · obtain ⟨a, d, rfl, hd, few, q⟩ := h
    apply Exists.intro
    apply And.intro
    · exact pss_cons (ps_set (i := 1) sc_cells.nd rfl (Or.inl rfl) (pe_lst pa_nil))
        (pss_cons (ps_for PassesOwn.never rfl (pi_tup (pe_fld (pv 0) rfl)) (pg_name (i := 2) sc_cells.nd rfl (Or.inr rfl)) (pss_one (ps_for PassesOwn.never rfl (pi_tup (pe_fld (pv 0) rfl)) (pg_name (i := 3) sc_cells.nd rfl (Or.inr rfl))
          (pss_one (ps_expr (pe_bm PySem.F.plainAttrs_list PySem.F.slot_list_extend PySem.F.type_list_extend mt_extend (pv 1) (pa_cons (pe_lc (own := [("way", 4)]) rfl sc_cells.nd (pi_tup (pe_fld (pv 0) rfl)) (blkOk_by (N := ["self", "found", "film", "land", "way"]) (sc := defScope sCells) (by decide +kernel)) (fun s H C cl fp => pg_name (i := 4) sc_cells.nd rfl (Or.inl rfl)) (fun _ _ _ _ _ => pts_nil)
            (fun s H C cl fp => pe_tup (pa_cons (pv 2) (pa_cons (pv 3) (pa_cons (pv 4) pa_nil))))) pa_nil)))))))
        (pss_one (ps_ret (pv 1))))
    · refine ⟨by decide, fun L nL => ?_⟩
      obtain ⟨dx, fs, ha, ⟨fa, lf, hf⟩, ⟨la, ll, hl⟩, ⟨wa, lw, hw⟩, _⟩ := hd.fld
      have s0 : Same H (upd H L (.lst [])) := same_upd nL
      refine ⟨_, rfl, a, C, dx, fs, _, rfl, s0 _ _ ha, D.cls, D.no _ (by decide), lf, fa, rfl, ⟨_, SqT.of (s0 _ _ hf)⟩, ?_⟩
      refine for_it (walk_tup (xs := d.films.map V.str)) (fun i σ H' => ∃ xs r2 r3 r4, σ = [some (.ref a), some (.ref L), r2, r3, r4] ∧ Same H H' ∧ H' L = some (.lst xs) ∧ AllT H' xs ((cellsIn (d.films.take i) d.lands d.ways).map cellV)) ⟨[], none, none, none, rfl, s0, upd_same, .nil⟩
        (fun i σ H' _ p => by obtain ⟨_, _, _, _, _, s1, _⟩ := p; exact SqT.of (s1 _ _ hf)) ?_ ?_
      · rintro i v σ H1 H2 hi ⟨xs, r2, r3, r4, rfl, s1, eL, t1⟩ ⟨rfl, hv⟩
        obtain ⟨z, hz, rfl⟩ : ∃ z, d.films[i]? = some z ∧ V.str z = v := by
          rw [List.getElem?_map] at hv
          cases e : d.films[i]? with
          | none => rw [e] at hv; cases hv
          | some z => rw [e] at hv; exact ⟨z, rfl, Option.some.inj hv⟩
        refine ⟨_, rfl, a, C, dx, fs, _, rfl, s1 _ _ ha, D.cls, D.no _ (by decide), ll, la, rfl, ⟨_, SqT.of (s1 _ _ hl)⟩, ?_⟩
        refine for_it (walk_tup (xs := d.lands.map V.str)) (fun j σ H' => ∃ xs r3 r4, σ = [some (.ref a), some (.ref L), some (.str z), r3, r4] ∧ Same H H' ∧ H' L = some (.lst xs) ∧
            AllT H' xs ((cellsIn (d.films.take i) d.lands d.ways ++ cellsIn [z] (d.lands.take j) d.ways).map cellV)) ⟨xs, r3, r4, rfl, s1, eL, by simpa [cellsIn] using t1⟩
          (fun i σ H' _ p => by obtain ⟨_, _, _, _, s1, _⟩ := p; exact SqT.of (s1 _ _ hl)) ?_ ?_
        · rintro j v σ H3 H4 hj ⟨xs, r3, r4, rfl, s3, eL, t3⟩ ⟨rfl, hv⟩
          obtain ⟨y, hy, rfl⟩ : ∃ z, d.lands[j]? = some z ∧ V.str z = v := by
            rw [List.getElem?_map] at hv
            cases e : d.lands[j]? with
            | none => rw [e] at hv; cases hv
            | some z => rw [e] at hv; exact ⟨z, rfl, Option.some.inj hv⟩
          refine ⟨_, rfl, .inl ⟨rfl, xs, SqL.of eL⟩, ?_⟩
          refine ⟨_, rfl, a, C, dx, fs, _, rfl, s3 _ _ ha, D.cls, D.no _ (by decide), lw, wa, rfl, ⟨_, SqT.of (s3 _ _ hw)⟩, fun M nM => ?_⟩
          refine lc_tup d.ways (fun x => some [.str z, .str y, .str x]) (by have := walk_tup (K := K) (a := wa) (xs := d.ways.map V.str); rw [List.length_map] at this; exact this) nM (Nat.lt_of_le_of_lt few.ways (by decide)) (fun H' s' => SqT.of (s' _ _ (s3 _ _ hw))) (fun k x v H5 H6 Qn Qe hx s5 hv hn _ => ?_) (fun H5 ls s5 eM tM => ?_)
          · obtain ⟨rfl, hv⟩ := hv
            rw [List.getElem?_map, hx] at hv
            cases hv
            refine ⟨rfl, ⟨_, rfl, _, rfl, _, rfl, (show (3 : Nat) ≤ sizeLine by decide), fun T nT => ?_⟩⟩
            exact hn _ _ _ rfl (same_upd nT) ⟨T, rfl, upd_same⟩
          · have e5 := s5 _ _ eL
            have l1 : xs.length + ls.length ≤ sizeLine := by
              have c1 : (cellsIn (d.films.take i) d.lands d.ways).length ≤ 48 := cellsIn_len (take_le _ _ _ few.films) few.lands few.ways
              have c2 : (cellsIn [z] (d.lands.take j) d.ways).length ≤ 48 := cellsIn_len (show (1 : Nat) ≤ 4 by decide) (take_le _ _ _ few.lands) few.ways
              have c3 : ls.length ≤ 3 := by
                rw [tM.length]
                exact Nat.le_trans (List.length_filterMap_le _ _) few.ways
              rw [t3.length, List.length_map, List.length_append, sizeLine_eq]
              omega
            refine ⟨L, M, xs, ls, rfl, rfl, e5, eM, l1, xs ++ ls, _, _, rfl, same_off nL (s3.trans s5), upd_same, ?_⟩
            have k5 : TupK H5 (upd H5 L (.lst (xs ++ ls))) := TupK.put e5 (fun _ z => nomatch z)
            rw [cellsIn_inner hy, ← List.append_assoc, List.map_append, ← cells_fm]
            exact ((t3.keep (TupK.of s5)).append tM).keep k5
        · rintro σ H3 ⟨xs, r3, r4, rfl, s3, eL, t3⟩
          rw [List.length_map, List.take_length, ← cellsIn_outer hz] at t3
          exact ⟨xs, _, r3, r4, rfl, s3, eL, t3⟩
      · rintro σ H3 ⟨xs, r2, r3, r4, rfl, s3, eL, t3⟩
        rw [List.length_map, List.take_length] at t3
        exact ⟨_, rfl, q _ _ _ s3 eL t3⟩
end
end Ld
namespace Ld
open PySem PySem.Spec PyProof.Rows L2
/-! ### exceptions: a def that may raise, its caller that knows that it does not -/
section
variable {P : Program} {w : World} {K : PySem.W.Frag} {mg : Str → Option Value} {base : Heap}
theorem Fun.okN {x qual : Str} {st : Stmt} {f : Addr} {fd : FuncData} {N ps : List Str} {k : Nat} {sp : Sp} (F : Fun K x qual st f fd) (S : FnScope N ps (defScope st)) (len : ∀ vs H Q E, sp vs H Q E → vs.length = ps.length)
    (hbody : ∀ (cdv : Value) (A : Around) (outer : List Env) (s : Shared) (H : Hp) (vs : List V) (Q : VK) (E : XK), Room k (A.deeper (envOfC qual (defScope st) s.heap.objs.size f cdv)) → sp vs H Q E →
      ∃ t, PSs (cxOf (L2N.CX P w) P w K mg base N qual (defScope st) f cdv A outer s H E) (defBody st) t ∧ t { nx := fun _ H' => Q .non H', rt := Q } (start N vs) H) : FnOk P w K mg base (L2N.CX P w) (k + 1) f fd ps sp := by
  obtain ⟨oc, od, kV, doc, pm, an, cdv, ct, osl, rfl, lk, hcd⟩ := F.ex
  exact fn_of lk hcd S len fun A outer s H vs Q E hr hsp => hbody cdv A outer s H vs Q E hr hsp
theorem passF {X : Cx} : Passes (L2N.CX X.prog X.w) X (fun _ _ _ => False) := fun _ _ _ _ _ _ _ h => by
  obtain ⟨_, _, _, _, _, _, _, _, _, _, _, _, z⟩ := h
  exact z.elim
theorem takesN {N : List Str} {q : Str} {sc : Scope} {f : Addr} {cdv : Value} {A : Around} {outer : List Env} {s : Shared} {H : Hp} {E : XK} : L2N.Takes (cxOf (L2N.CX P w) P w K mg base N q sc f cdv A outer s H E) (fun cls d _ H' => E cls d H') := L2N.takes_of rfl rfl rfl rfl
theorem passN {N : List Str} {q : Str} {sc : Scope} {f : Addr} {cdv : Value} {A : Around} {outer : List Env} {s : Shared} {H : Hp} {E : XK} : Passes (L2N.CX P w) (cxOf (L2N.CX P w) P w K mg base N q sc f cdv A outer s H E) E := L2N.passes_call takesN fun _ _ _ _ h => h
end
/-! ### a deal's days -/
theorem mem_ins {x y : Str} {L : List Str} : y ∈ ins x L ↔ y = x ∨ y ∈ L := by
  unfold ins
  split
  · rename_i h
    constructor
    · exact .inr
    · rintro (rfl | h')
      · exact h
      · exact h'
  · exact List.mem_cons
theorem mem_foldl {y : Str} : ∀ {zs L : List Str}, y ∈ zs.foldl (fun L x => ins x L) L ↔ y ∈ L ∨ y ∈ zs
  | [], L => by simp
  | z :: zs, L => by
    rw [List.foldl_cons, mem_foldl, mem_ins, List.mem_cons]
    constructor
    · rintro ((h | h) | h)
      · exact .inr (.inl h)
      · exact .inl h
      · exact .inr (.inr h)
    · rintro (h | h | h)
      · exact .inl (.inr h)
      · exact .inl (.inl h)
      · exact .inr h
theorem mem_insAll {y : Str} {zs : List Str} : y ∈ insAll zs ↔ y ∈ zs := by
  unfold insAll
  rw [mem_foldl]
  simp
def nonDay (p : Pact) : List Str := [p.hd, p.tl].filter fun m => !decide (m = ("day" : Str))
def moms (p : Pact) : List Str := srt (insAll (nonDay p))
theorem mem_moms {p : Pact} {m : Str} : m ∈ moms p ↔ (m = p.hd ∨ m = p.tl) ∧ m ≠ ("day" : Str) := by
  unfold moms nonDay
  rw [(srt_perm _).mem_iff, mem_insAll, List.mem_filter]
  simp
theorem moms_len (p : Pact) : (moms p).length ≤ 2 := by
  unfold moms
  rw [(srt_perm _).length_eq]
  refine Nat.le_trans (insAll_len _) (Nat.le_trans (List.length_filter_le _ _) (Nat.le_refl _))
def spMoments (C : Addr) : Sp := fun vs H Q _ => ∃ a d, vs = [.ref a] ∧ DealAt C H a d ∧ ∀ H' p, Same H H' → H' p = some (.lst ((moms d).map V.str)) → Q (.ref p) H'
def spDayOf : Sp := fun vs H Q _ => ∃ b m n v, vs = [.ref b, v] ∧ H b = some (.tup [.str m, .int n]) ∧ ((m = ("day" : Str) ∧ Q (.int n) H) ∨ (m ≠ ("day" : Str) ∧ ∃ a kvs i, v = .ref a ∧ H a = some (.dK kvs) ∧ valV kvs (.inr m) = some (.int i) ∧ Q (.int (i + n)) H))
section
variable {P : Program} {w : World} {K : PySem.W.Frag} {mg : Str → Option Value} {base : Heap} {f : Addr} {fd : FuncData} {C : Addr}
theorem sc_moments : FnScope ["self", "point"] ["self"] (defScope sMoments) := ⟨rfl, rfl, rfl, by decide +kernel, rfl, by decide +kernel, by decide +kernel⟩
theorem ok_moments (F : Fun K "moments" "Deal.moments" sMoments f fd) (B : Cs mg) (D : DealC K C) : FnOk P w K mg base CX0 1 f fd ["self"] (spMoments C) := by
  refine F.ok sc_moments (fun vs H Q E h => ?_) fun cdv A outer s H vs Q E hr h => ?_
  · obtain ⟨a, d, rfl, _⟩ := h
    rfl
  · obtain ⟨a, d, rfl, hd, q⟩ := h
    apply Exists.intro
    apply And.intro
    · exact pss_one (ps_ret (pe_callB (cr_sortedTS rfl) rfl (B.nb _ (by decide)) rfl (pa_cons (pe_scT [("point", 1)] (.inl rfl) sc_moments.nd (pe_tup (pa_cons (pe_fld (pv 0) rfl) (pa_cons (pe_fld (pv 0) rfl) pa_nil))) (blkOk_by (N := ["self", "point"]) (sc := defScope sMoments) (by decide +kernel))
        (fun _ _ _ _ _ => pg_name (i := 1) sc_moments.nd rfl (Or.inl rfl)) (fun _ _ _ _ _ => pts_one (pt_cmpR op_ne (pe_ix (r := rIxT K) ix_tup (pv 1) pe_int (fun _ _ => rfl)) (pe_gv rfl B.ze) (nomark _))) (fun _ _ _ _ _ => pe_ix (r := rIxT K) ix_tup (pv 1) pe_int (fun _ _ => rfl))) pa_nil)))
    · obtain ⟨dx, fs, ha, _, _, _, ⟨b, lb, hb⟩, ⟨e, le, he⟩, _⟩ := hd.fld
      refine ⟨_, rfl, a, C, dx, fs, _, rfl, ha, D.cls, D.no _ (by decide), lb, _, rfl, a, C, dx, fs, _, rfl, ha, D.cls, D.no _ (by decide), le, (show (2 : Nat) ≤ sizeLine by decide), fun T nT => ⟨T, _, rfl, upd_same, fun L nL => ?_⟩⟩
      have s0 : Same H (upd H T (.tup [.ref b, .ref e])) := same_upd nT
      refine ⟨fun i H' => Same (upd H T (.tup [.ref b, .ref e])) H' ∧ H' L = some (TSetO w L (insAll (([d.hd, d.tl].take i).filter fun m => !decide (m = ("day" : Str))))), ⟨same_off nL (Same.refl _), upd_same⟩, fun i H' p => p.1 _ _ upd_same, fun i x H' hx p => ?_, fun H' p => ?_⟩
      · obtain ⟨s1, eL⟩ := p
        obtain ⟨pb, m, n, rfl, hpb, hm⟩ : ∃ pb m n, x = .ref pb ∧ H' pb = some (.tup [.str m, .int n]) ∧ [d.hd, d.tl][i]? = some m := by
          match i, hx with
          | 0, hx => cases hx; exact ⟨b, _, _, rfl, s1 _ _ (s0 _ _ hb), rfl⟩
          | 1, hx => cases hx; exact ⟨e, _, _, rfl, s1 _ _ (s0 _ _ he), rfl⟩
        refine ⟨rfl, ⟨_, rfl, pb, _, 0, .str m, rfl, rfl, SqT.of hpb, rfl, rfl, _, rfl, ?_⟩⟩
        rw [dec_strV]
        have tk : [d.hd, d.tl].take (i + 1) = [d.hd, d.tl].take i ++ [m] := by rw [List.take_add_one, hm]; rfl
        by_cases hz : m = ("day" : Str)
        · rw [decide_eq_true hz]
          refine iteF ⟨s1, ?_⟩
          rw [tk, List.filter_append, show List.filter (fun m => !decide (m = ("day" : Str))) [m] = [] by simp [hz], List.append_nil]
          exact eL
        · rw [decide_eq_false hz]
          refine iteT ⟨_, rfl, pb, _, 0, .str m, rfl, rfl, SqT.of hpb, rfl, _, eL, ⟨⟨m, rfl⟩, ?_⟩, same_off nL s1, ?_⟩
          · have h1 := insAll_len (([d.hd, d.tl].take i).filter fun m => !decide (m = ("day" : Str)))
            have h2 := List.length_filter_le (fun m => !decide (m = ("day" : Str))) ([d.hd, d.tl].take i)
            have h3 : ([d.hd, d.tl].take i).length ≤ 2 := take_le _ _ _ (Nat.le_refl _)
            exact Nat.lt_of_le_of_lt (show _ ≤ 3 by omega) (by decide)
          · show upd H' L _ L = _
            rw [upd_same, tk, List.filter_append, show List.filter (fun m => !decide (m = ("day" : Str))) [m] = [m] by simp [hz]]
            unfold insAll
            rw [List.foldl_append]
            rfl
      · obtain ⟨s1, eL⟩ := p
        refine ⟨L, _, rfl, eL, Nat.lt_of_le_of_lt (insAll_len _) (Nat.lt_of_le_of_lt (List.length_filter_le _ _) (show (2 : Nat) < 64 by decide)), fun ys p pm so np => ?_⟩
        refine q _ p ((s0.trans s1).trans (same_upd np)) ?_
        rw [upd_same, srt_uniq pm so]
        rfl
theorem sc_dayOf : FnScope ["point", "dates", "moment", "number"] ["point", "dates"] (defScope sDayOf) := ⟨rfl, rfl, rfl, by decide +kernel, rfl, by decide +kernel, by decide +kernel⟩
theorem ru {k : Nat} {A : Around} (r : Room k A) : A.units + 100 < cLine := by have := r.un; omega
theorem ru1 {k : Nat} {A : Around} (r : Room k A) : A.units + 1 < cLine := by have := r.un; omega
theorem ru64 {k : Nat} {A : Around} (r : Room k A) : A.units + 64 < cLine := by have := r.un; omega
theorem ru65 {k : Nat} {A : Around} (r : Room k A) : A.units + 65 < cLine := by have := r.un; omega
theorem ru40 {k : Nat} {A : Around} (r : Room k A) : A.units + 40 < cLine := by have := r.un; omega
theorem ok_dayOf (F : Fun K "day_of" "day_of" sDayOf f fd) (B : Cs mg) : FnOk P w K mg base CX0 1 f fd ["point", "dates"] spDayOf := by
  refine F.ok sc_dayOf (fun vs H Q E h => ?_) fun cdv A outer s H vs Q E hr h => ?_
  · obtain ⟨b, m, n, v, rfl, _⟩ := h
    rfl
  · obtain ⟨b, m, n, v, rfl, hb, q⟩ := h
    apply Exists.intro
    apply And.intro
    · exact pss_cons (ps_asg (pv 0) (pg_tup rfl (pgs_cons (pg_name (i := 2) sc_dayOf.nd rfl (Or.inl rfl)) (pgs_cons (pg_name (i := 3) sc_dayOf.nd rfl (Or.inl rfl)) pgs_nil))))
        (pss_one (ps_ret (pe_ifExp (pt_cmpR op_eq (pv 2) (pe_gv rfl B.ze) (nomark _)) (pv 3) (pe_op op_add (pe_dget (ru1 hr) (pv 1) (pv 2) (fun _ _ => rfl)) (pv 3)))))
    · refine ⟨_, rfl, b, _, rfl, SqT.of hb, rfl, _, _, rfl, _, _, rfl, rfl, ?_⟩
      refine ⟨_, rfl, rfl, _, rfl, ?_⟩
      rw [dec_strV]
      rcases q with ⟨e, q⟩ | ⟨e, a, kvs, i, rfl, ha, hv, q⟩
      · rw [decide_eq_true e]
        exact iteT ⟨_, rfl, q⟩
      · rw [decide_eq_false e]
        exact iteF ⟨_, rfl, _, rfl, a, _, rfl, hv ▸ DGet.k (k := .inr m) ha, _, rfl, _, _, rfl, rfl, q⟩
end
end Ld
namespace Ld
open PySem PySem.Spec PyProof.Rows L2
/-! ### a deal's days on dates -/
def lkD : List (PyData × PyData) → Str → Option PyData
  | [], _ => none
  | (.str k, d) :: r, m => if k = m then some d else lkD r m
  | _ :: r, m => lkD r m
theorem lkD_str {k m : Str} {d : PyData} {r : List (PyData × PyData)} : lkD ((.str k, d) :: r) m = if k = m then some d else lkD r m := rfl
theorem lkD_int {k : Int} {m : Str} {d : PyData} {r : List (PyData × PyData)} : lkD ((.int k, d) :: r) m = lkD r m := rfl
def intOf : Option PyData → Option Int
  | some (.int i) => some i
  | _ => none
def momD (ds : List (PyData × PyData)) (m : Str) (n : Int) : Option Int := if m = ("day" : Str) then some n else (intOf (lkD ds m)).map (· + n)
def pairD : Option Int → Option Int → Option (Int × Int)
  | some f, some l => if l < f then none else some (f, l)
  | _, _ => none
def daysD (p : Pact) : PyData → Option (Int × Int)
  | .dict ds => pairD (momD ds p.hd p.fi) (momD ds p.tl p.la)
  | _ => none
theorem lk_kv {H : Hp} (m : Str) : ∀ {kvs : List (Key × V)} {ds : List (PyData × PyData)}, ShKv H kvs ds → (valV kvs (.inr m) = none ∧ lkD ds m = none) ∨ ∃ v d, valV kvs (.inr m) = some v ∧ lkD ds m = some d ∧ Sh H v d
  | _, _, .nil => .inl ⟨rfl, rfl⟩
  | _, _, .cons (k := k) (v := v) (r := r) (d := d) (ds := ds) s t => by
    have ih := lk_kv m t
    cases k with
    | inl i =>
      rw [valV_neg (by exact fun z => nomatch z), show kD (.inl i) = .int i from rfl, lkD_int]
      exact ih
    | inr x =>
      rw [show kD (.inr x) = .str x from rfl, lkD_str]
      by_cases e : x = m
      · rw [valV_pos (by rw [e]), if_pos e]
        exact .inr ⟨v, d, rfl, rfl, s⟩
      · rw [valV_neg (by exact fun z => e (Sum.inr.inj z)), if_neg e]
        exact ih
def goodD (ds : List (PyData × PyData)) (m : Str) : Bool := (intOf (lkD ds m)).isSome
theorem isInt_get {H : Hp} {kvs : List (Key × V)} {ds : List (PyData × PyData)} (s : ShKv H kvs ds) (m : Str) : ∃ d, Sh H ((valV kvs (.inr m)).getD .non) d ∧ isInt d = goodD ds m := by
  rcases lk_kv m s with ⟨h1, h2⟩ | ⟨v, d, h1, h2, h3⟩
  · exact ⟨.none, by rw [h1]; exact .non, by rw [goodD, h2]; rfl⟩
  · exact ⟨d, by rw [h1]; exact h3, by rw [goodD, h2]; cases d <;> rfl⟩
theorem int_get {H : Hp} {kvs : List (Key × V)} {ds : List (PyData × PyData)} (s : ShKv H kvs ds) {m : Str} (g : goodD ds m = true) : ∃ i, valV kvs (.inr m) = some (.int i) ∧ lkD ds m = some (.int i) := by
  rcases lk_kv m s with ⟨h1, h2⟩ | ⟨v, d, h1, h2, h3⟩
  · rw [goodD, h2] at g
    cases g
  · rw [goodD, h2] at g
    cases h3 with
    | int i => exact ⟨i, h1, h2⟩
    | _ => cases g
/-- all the moments that the deal asks for are told -/
theorem good_all {p : Pact} {ds : List (PyData × PyData)} : ((moms p).all (goodD ds) = true) ↔ ((momD ds p.hd p.fi).isSome = true ∧ (momD ds p.tl p.la).isSome = true) := by
  have one : ∀ (m : Str) (n : Int), (momD ds m n).isSome = true ↔ (m ≠ ("day" : Str) → goodD ds m = true) := fun m n => by
    unfold momD goodD
    by_cases e : m = ("day" : Str)
    · simp [e]
    · simp [e]
  rw [List.all_eq_true, one, one]
  constructor
  · intro h
    exact ⟨fun z => h _ (mem_moms.mpr ⟨.inl rfl, z⟩), fun z => h _ (mem_moms.mpr ⟨.inr rfl, z⟩)⟩
  · rintro ⟨h1, h2⟩ m hm
    obtain ⟨rfl | rfl, z⟩ := mem_moms.mp hm
    · exact h1 z
    · exact h2 z
theorem DealAt.obj {C : Addr} {H : Hp} {a : Addr} {d : Pact} (h : DealAt C H a d) : ∃ dx fs, H a = some (.ins C dx fs) ∧ ∀ m : Str, m ∈ (["moments", "cells", "points", "days", "is_on", "touches", "__and__", "__repr__"] : List Str) → fs.lookup m = none := by
  obtain ⟨dx, fa, la, wa, b, e, h1, _⟩ := h
  refine ⟨dx, _, h1, fun m hm => ?_⟩
  simp only [List.mem_cons, List.not_mem_nil, or_false] at hm
  rcases hm with rfl | rfl | rfl | rfl | rfl | rfl | rfl | rfl <;> rfl
theorem pairD_some {f l : Int} (h : ¬ l < f) : pairD (some f) (some l) = some (f, l) := by
  show (if l < f then none else some (f, l)) = _
  rw [if_neg h]
theorem pairD_none {f l : Int} (h : l < f) : pairD (some f) (some l) = none := by
  show (if l < f then none else some (f, l)) = _
  rw [if_pos h]
theorem pairD_no {a b : Option Int} (h : ¬ (a.isSome = true ∧ b.isSome = true)) : pairD a b = none := by
  cases a with
  | none => rfl
  | some f =>
    cases b with
    | none => rfl
    | some l => exact absurd ⟨rfl, rfl⟩ h
def spDays (C CD : Addr) : Sp := fun vs H Q E => ∃ a d v dd, vs = [.ref a, v] ∧ DealAt C H a d ∧ Sh H v dd ∧ (∀ f l, daysD d dd = some (f, l) → ∀ H' p, Same H H' → H' p = some (.tup [.int f, .int l]) → Q (.ref p) H') ∧
  (daysD d dd = none → ∀ H' x, Same H H' → H' x = some (.xd [("value", v)]) → E (.ref CD) (some x) H')
section
variable {P : Program} {w : World} {K : PySem.W.Frag} {mg : Str → Option Value} {base : Heap} {f : Addr} {fd : FuncData} {C CD : Addr}
theorem sc_days : FnScope ["self", "dates", "moment", "first", "last"] ["self", "dates"] (defScope sDays) := ⟨rfl, rfl, rfl, by decide +kernel, rfl, by decide +kernel, by decide +kernel⟩
theorem ok_days (F : Fun K "days" "Deal.days" sDays f fd) (B : Cs mg) (D : DealC K C) (T : ErrC P w K mg base "InvalidDates" CD) (G1 : GOk P w K mg base CX0 1 "is_integer" spIsInt) (G2 : GOk P w K mg base CX0 1 "day_of" spDayOf) (M1 : MOk P w K mg base CX0 1 C "moments" (spMoments C)) :
    FnOk P w K mg base (L2N.CX P w) 3 f fd ["self", "dates"] (spDays C CD) := by
  refine Fun.okN F sc_days (fun vs H Q E h => ?_) fun cdv A outer s H vs Q E hr h => ?_
  · obtain ⟨a, d, v, dd, rfl, _⟩ := h
    rfl
  · obtain ⟨a, d, v, dd, rfl, hd, sh, q, qe⟩ := h
    apply Exists.intro
    apply And.intro
    · exact pss_cons (ps_if (PW.pt (pw_or (pt_not (pt_val (pe_callB call_isi rfl (B.nb _ (by decide)) rfl (pa_cons (pv 1) (pa_cons (pe_bltn (u := .type "dict") (v := .ty "dict") rfl (B.nb _ (by decide)) rfl rfl) pa_nil)))))
          (pw_or1 (pt_not (pt_val (pe_callB (cr_all rfl) rfl (B.nb _ (by decide)) rfl (pa_cons (pe_lc (own := [("moment", 2)]) rfl sc_days.nd (pi_list (pe_m0 M1 D.cls hr (by decide) pass0 (pv 0))) (blkOk_by (N := ["self", "dates", "moment", "first", "last"]) (sc := defScope sDays) (by decide +kernel)) (fun _ _ _ _ _ => pg_name (i := 2) sc_days.nd rfl (Or.inl rfl)) (fun _ _ _ _ _ => pts_nil)
            (fun _ _ _ _ _ => pe_g G1 hr (by decide) rfl pass0 (pa_cons (pe_dget1 (ru1 hr) (pv 1) (pv 2) ⟨rfl, rfl, rfl, rfl⟩) pa_nil))) pa_nil))))))) (pss_one (L2N.ps_raise rfl takesN (pmk_err T hr rfl (pv 1)))) pss_nil)
        (pss_cons (ps_par (i := 3) (j := 4) rfl sc_days.nd rfl rfl (by decide) rfl rfl (pa_cons (pe_g G2 hr (by decide) rfl pass0 (pa_cons (pe_fld (pv 0) rfl) (pa_cons (pv 1) pa_nil))) (pa_cons (pe_g G2 hr (by decide) rfl pass0 (pa_cons (pe_fld (pv 0) rfl) (pa_cons (pv 1) pa_nil))) pa_nil)) rfl)
        (pss_cons (ps_if (pt_cmpR op_gt (pv 3) (pv 4) (nomark _)) (pss_one (L2N.ps_raise rfl takesN (pmk_err T hr rfl (pv 1)))) pss_nil)
        (pss_one (ps_ret (pe_tup (pa_cons (pv 3) (pa_cons (pv 4) pa_nil)))))))
    · have bad : ∀ {H' : Hp}, Same H H' → daysD d dd = none → ∀ x, H' x = none → E (.ref CD) (some x) (upd H' x (.xd [("value", v)])) := fun {H'} s' e x nx => qe e _ x (s'.trans (same_upd nx)) upd_same
      obtain ⟨dx, fs, ha, _, _, _, ⟨b, lb, hb⟩, ⟨e, le, he⟩, _⟩ := hd.fld
      refine ⟨_, rfl, v, .ty "dict", _, _, _, rfl, .ty _, sh.ty, kit_dict dd, _, rfl, ?_⟩
      cases hdd : isDict dd with
      | false => exact iteT ⟨_, rfl, bad (Same.refl _) (by cases dd <;> first | rfl | cases hdd)⟩
      | true =>
        refine iteF ?_
        obtain ⟨ds, rfl⟩ : ∃ ds, dd = .dict ds := by cases dd <;> first | exact ⟨_, rfl⟩ | cases hdd
        obtain ⟨t, kvs, rfl, ht, hkv⟩ : ∃ t kvs, v = .ref t ∧ H t = some (.dK kvs) ∧ ShKv H kvs ds := by
          cases sh with
          | dct e h => exact ⟨_, _, rfl, e, h⟩
        obtain ⟨dx', fs', ha', hm'⟩ := hd.obj
        refine ⟨_, rfl, a, dx', fs', rfl, ha', hm' _ (by decide), a, d, rfl, hd, fun H1 p s1 e1 => ?_⟩
        refine ⟨p, rfl, ⟨_, SqL.of e1⟩, fun L nL => ?_⟩
        refine lc_fm (te := fun σ H Q => tCons (tDGet1 (tVar 1) (tVar 2)) tNil σ H fun vs H1 => spIsInt vs H1 Q C8.E0) (moms d) (fun m => some (.bl (goodD ds m))) (by have := walk_list (K := K) (a := p) (xs := (moms d).map V.str); rw [List.length_map] at this; exact this) nL (Nat.lt_of_le_of_lt (moms_len d) (by decide)) (fun H' s' => SqL.of (s' _ _ e1)) (fun i m x H3 H4 Qn Qe hm s3 y hn _ => ?_) (fun H3 s3 e3 => ?_)
        · obtain ⟨rfl, hx⟩ := y
          rw [List.getElem?_map, hm] at hx
          cases hx
          have s13 := s1.trans s3
          obtain ⟨de, g1, g2⟩ := isInt_get hkv m
          refine ⟨rfl, _, rfl, t, rfl, .inl ⟨kvs, .inl (s13 _ _ ht)⟩, _, rfl, _, DGet.k (k := .inr m) (s13 _ _ ht), _, de, rfl, g1.same s13, ?_⟩
          exact hn _ _ (by rw [g2]) (Same.refl _)
        · have s13 := s1.trans s3
          refine ⟨L, (moms d).map (goodD ds), rfl, .inl (.inl (by rw [e3, List.map_map, fm_some]; rfl)), _, rfl, ?_⟩
          rw [List.all_map]
          show if (!(moms d).all (goodD ds)) = true then _ else _
          cases hg : (moms d).all (goodD ds) with
          | false =>
            refine iteT ⟨_, rfl, bad s13 (pairD_no fun z => ?_)⟩
            rw [good_all.mpr z] at hg
            cases hg
          | true =>
            refine iteF ?_
            have hall := List.all_eq_true.mp hg
            have day : ∀ {m : Str} {n : Int}, (m = d.hd ∨ m = d.tl) → ∃ i, momD ds m n = some i ∧ ((m = ("day" : Str) ∧ i = n) ∨ (m ≠ ("day" : Str) ∧ ∃ j, i = j + n ∧ valV kvs (.inr m) = some (.int j))) := fun {m n} hm => by
              by_cases z : m = ("day" : Str)
              · exact ⟨n, by rw [momD, if_pos z], .inl ⟨z, rfl⟩⟩
              · obtain ⟨j, h1, h2⟩ := int_get hkv (hall m (mem_moms.mpr ⟨hm, z⟩))
                exact ⟨j + n, by rw [momD, if_neg z, h2]; rfl, .inr ⟨z, j, rfl, h1⟩⟩
            obtain ⟨f1, m1, c1⟩ := day (m := d.hd) (n := d.fi) (.inl rfl)
            obtain ⟨l1, m2, c2⟩ := day (m := d.tl) (n := d.la) (.inr rfl)
            have tell : ∀ {m : Str} {n i : Int} {pb : Addr} {H' : Hp} {R : VK} {E' : XK}, ((m = ("day" : Str) ∧ i = n) ∨ (m ≠ ("day" : Str) ∧ ∃ j, i = j + n ∧ valV kvs (.inr m) = some (.int j))) → Same H H' → H pb = some (.tup [.str m, .int n]) → R (.int i) H' →
                spDayOf [.ref pb, .ref t] H' R E' := fun {m n i pb H' R E'} c s' hp r => ⟨pb, m, n, _, rfl, s' _ _ hp, by
              rcases c with ⟨z, rfl⟩ | ⟨z, j, rfl, hv⟩
              · exact .inl ⟨z, r⟩
              · exact .inr ⟨z, t, kvs, j, rfl, s' _ _ ht, hv, r⟩⟩
            refine ⟨_, rfl, a, C, dx, fs, _, rfl, s13 _ _ ha, D.cls, D.no _ (by decide), lb, _, rfl, ?_⟩
            dsimp only [tNil]
            refine tell c1 s13 hb ?_
            refine ⟨_, rfl, a, C, dx, fs, _, rfl, s13 _ _ ha, D.cls, D.no _ (by decide), le, _, rfl, ?_⟩
            dsimp only [tNil]
            refine tell c2 s13 he ?_
            refine ⟨_, _, rfl, ?_⟩
            refine ⟨_, rfl, _, rfl, f1, l1, rfl, rfl, _, rfl, ?_⟩
            by_cases lt : l1 < f1
            · rw [decide_eq_true lt]
              refine iteT ⟨_, rfl, bad s13 ?_⟩
              show pairD (momD ds d.hd d.fi) (momD ds d.tl d.la) = none
              rw [m1, m2, pairD_none lt]
            · rw [decide_eq_false lt]
              refine iteF ⟨_, rfl, _, rfl, (show (2 : Nat) ≤ sizeLine by decide), fun z nz => q f1 l1 ?_ _ _ (s13.trans (same_upd nz)) upd_same⟩
              show pairD (momD ds d.hd d.fi) (momD ds d.tl d.la) = some (f1, l1)
              rw [m1, m2, pairD_some lt]
end
end Ld
namespace Ld
open PySem PySem.Spec PyProof.Rows L2
/-! ### what two deals share -/
theorem Names.srt {l : List Str} (n : Ld.Names l) : Ld.Names (srt l) :=
  ⟨fun x hx => n.ok x ((srt_perm l).mem_iff.mp hx), fun x hx => n.sz x ((srt_perm l).mem_iff.mp hx), (srt_perm l).nodup_iff.mpr n.nd, by rw [(srt_perm l).length_eq]; exact n.few⟩
theorem srt_ne {l : List Str} (h : l ≠ []) : srt l ≠ [] := fun z => h (List.length_eq_zero_iff.mp (by rw [← (srt_perm l).length_eq, z]; rfl))
theorem PactOk.deal {p : Pact} (h : PactOk p) : PactOk p.deal :=
  ⟨h.tag, h.firm, ⟨h.films.1.srt, srt_ne h.films.2⟩, ⟨h.lands.1.srt, srt_ne h.lands.2⟩, ⟨h.ways.1.srt, srt_ne h.ways.2.1, by show (srt p.ways).length ≤ 3; rw [(srt_perm _).length_eq]; exact h.ways.2.2⟩, h.hd, h.tl, h.ord, h.fee, h.sm⟩
theorem PactOk.few {p : Pact} (h : PactOk p) : Few p := ⟨h.films.1.few, h.lands.1.few, h.ways.2.2⟩
theorem strOk_of {x : Str} (h : nameB x = true) : PyData.strOk x = true := by
  unfold nameB at h
  have h2 := (Bool.and_eq_true_iff.mp h).2
  unfold PyData.strOk
  rw [← Array.all_toList]
  refine List.all_eq_true.mpr fun c hc => decide_eq_true ?_
  have h3 := of_decide_eq_true (List.all_eq_true.mp h2 c hc)
  have h4 : ∀ z ∈ letters.cps.toList, z < 0x110000 := by decide +kernel
  exact h4 c h3
def ShortC (c : Cell) : Prop := nameB c.1 = true ∧ nameB c.2.1 = true ∧ nameB c.2.2 = true
theorem PactOk.short {p : Pact} (h : PactOk p) : ∀ c ∈ p.cells, ShortC c := fun c hc => by
  simp only [Pact.cells, cellsIn, List.mem_flatMap, List.mem_map] at hc
  obtain ⟨f, hf, l, hl, w, hw, rfl⟩ := hc
  exact ⟨h.films.1.ok f hf, h.lands.1.ok l hl, h.ways.1.ok w hw⟩
def common (p q : Pact) : List Cell := p.cells.filter fun c => decide (c ∈ q.cells)
theorem str_eqv (x y : Str) : PyData.eqv (.str x) (.str y) = (x == y) := by simp only [PyData.eqv]
theorem cell_eqv (a b : Cell) : PyData.eqv (cellD a) (cellD b) = decide (a = b) := by
  obtain ⟨a1, a2, a3⟩ := a
  obtain ⟨b1, b2, b3⟩ := b
  simp only [cellD, cellL, PyData.eqv, PyData.eqvAll, Bool.and_true]
  rw [Bool.eq_iff_iff]
  simp
theorem any_cell (c : Cell) (l : List Cell) : ((l.map cellD).any fun z => PyData.eqv z (cellD c)) = decide (c ∈ l) := by
  rw [List.any_map, Bool.eq_iff_iff, List.any_eq_true, decide_eq_true_iff]
  constructor
  · rintro ⟨x, hx, e⟩
    have e : PyData.eqv (cellD x) (cellD c) = true := e
    rw [cell_eqv, decide_eq_true_iff] at e
    rw [← e]
    exact hx
  · intro h
    exact ⟨c, h, by show PyData.eqv (cellD c) (cellD c) = true; rw [cell_eqv]; simp⟩
theorem lay_cell {c : Cell} (h : ShortC c) : (cellD c).canLay0 = true := by
  simp only [cellD, cellL, PyData.canLay0, PyData.canLayAll0, Bool.and_true, strOk_of h.1, strOk_of h.2.1, strOk_of h.2.2]
theorem lay_cells : ∀ {l : List Cell}, (∀ c ∈ l, ShortC c) → PyData.canLayAll0 (l.map cellD) = true
  | [], _ => rfl
  | c :: l, h => by
    rw [List.map_cons, PyData.canLayAll0, lay_cell (h c List.mem_cons_self), lay_cells fun x hx => h x (List.mem_cons_of_mem _ hx)]
    rfl
theorem depth_cell (c : Cell) : (cellD c).depth = 1 := by
  simp [cellD, cellL, PyData.depth, PyData.depthAll]
theorem depth_cells : ∀ (l : List Cell), PyData.depthAll (l.map cellD) ≤ 2
  | [] => by simp [PyData.depthAll]
  | c :: l => by
    have := depth_cells l
    rw [List.map_cons, PyData.depthAll, depth_cell]
    omega
theorem shaped_cell {c : Cell} (h : ShortC c) : SeqAt.shaped (cellD c) = true := by
  unfold SeqAt.shaped
  rw [lay_cell h, depth_cell]
  rfl
theorem shaped_cells {l : List Cell} (h : ∀ c ∈ l, ShortC c) : SeqAt.shaped (.list (l.map cellD)) = true := by
  unfold SeqAt.shaped
  have d := depth_cells l
  rw [PyData.canLay0, lay_cells h]
  refine decide_eq_true ?_
  rw [PyData.depth]
  omega
theorem flat_cell (c : Cell) : (cellD c).hasDict = false := by simp [cellD, cellL, PyData.hasDict, PyData.hasDictAll]
theorem flat_cells : ∀ (l : List Cell), PyData.hasDictAll (l.map cellD) = false
  | [] => rfl
  | c :: l => by rw [List.map_cons, PyData.hasDictAll, flat_cell, flat_cells l]; rfl
/-- a list of cells as data -/
theorem cells_dp {K : PySem.W.Frag} {H : Hp} {p : Addr} {vs : List V} {l : List Cell} (e : H p = some (.lst vs)) (t : AllT H vs (l.map cellV)) : Dp K H (.ref p) (.list (l.map cellD)) :=
  (Sh.lst e (cells_sh t)).dp (by rw [PyData.hasDict]; exact flat_cells l)
theorem cell_dp {K : PySem.W.Frag} {H : Hp} {v : V} {c : Cell} (t : TupAt H v (cellV c)) : Dp K H v (cellD c) := by
  obtain ⟨b, rfl, e⟩ := t
  exact (Sh.tup e (.cons (.str _) (.cons (.str _) (.cons (.str _) .nil)))).dp (flat_cell c)
theorem AllT.get {H : Hp} : ∀ {vs : List V} {yss : List (List V)}, AllT H vs yss → ∀ {i : Nat} {v : V}, vs[i]? = some v → ∃ ys, yss[i]? = some ys ∧ TupAt H v ys
  | _, _, .nil, i, v, h => by simp at h
  | _, _, .cons a b, 0, v, h => by
    cases h
    exact ⟨_, rfl, a⟩
  | _, _, .cons a b, i + 1, v, h => by
    obtain ⟨ys, h1, h2⟩ := AllT.get b (i := i) (v := v) (by simpa using h)
    exact ⟨ys, by simpa using h1, h2⟩
theorem fm_cells (l m : List Cell) : l.filterMap (fun c => if c ∈ m then some (cellV c) else none) = (l.filter fun c => decide (c ∈ m)).map cellV := by
  induction l with
  | nil => rfl
  | cons c l ih =>
    by_cases h : c ∈ m
    · simp [h, ih]
    · simp [h, ih]
/-- more of what the text says of the class of deals -/
structure DealK (K : PySem.W.Frag) (mg : Str → Option Value) (C : Addr) : Prop extends DealC K C where
  at_ : mg "Deal" = some (.ref C)
  kp : PySem.W.keepIn K (.ref C) = true
  kit : PySem.W.kitOne K (.ref C) (.ref C) = some true
  kitT : ∀ T : String, T ∈ ["NoneType", "bool", "int", "str", "list", "tuple", "dict"] → PySem.W.kitOne K (.type T) (.ref C) = some false
  ha : PySem.W.findIn K (.ref C) "__class__" = some (some (.builtin "object.__class__"))
  hn : PySem.W.specialIn K (.builtin "object.__class__") "__get__" = some (some (.builtin "getset_descriptor.__get__"))
  htk : PySem.W.takesIn K (.builtin "object.__class__") = some true
  hm : PySem.W.mroIn K C (.type "object") = some true
  andT : ∀ T : String, T ∈ ["NoneType", "bool", "int", "str", "list", "tuple", "dict"] → AndT K C T
def tys : List String := ["NoneType", "bool", "int", "str", "list", "tuple", "dict"]
theorem DealAt.ty {K : PySem.W.Frag} {mg : Str → Option Value} {C : Addr} {H : Hp} {a : Addr} {d : Pact} (D : DealK K mg C) (h : DealAt C H a d) : TyX K H (.ref a) (.ref C) := by
  obtain ⟨dx, fs, ha, _⟩ := h.fld
  exact .base (.ins ha D.cls D.ha D.hn D.htk D.hm)
/-- no deal, and of a type that is known -/
def NoDeal (K : PySem.W.Frag) (H : Hp) (y : V) : Prop := ∃ T, T ∈ tys ∧ TyX K H y (.type T)
def spAnd (K : PySem.W.Frag) (C CX : Addr) : Sp := fun vs H Q E => ∃ a d y, vs = [.ref a, y] ∧ DealAt C H a d ∧ PactOk d ∧ ((∃ b e, y = .ref b ∧ DealAt C H b e ∧ PactOk e ∧ ∀ H' p xs, Same H H' → H p = none → H' p = some (.lst xs) → AllT H' xs ((common d e).map cellV) → Q (.ref p) H') ∨
  (NoDeal K H y ∧ ∀ H' x, Same H H' → H' x = some (.xd [("value", y)]) → E (.ref CX) (some x) H'))
section
variable {P : Program} {w : World} {K : PySem.W.Frag} {mg : Str → Option Value} {base : Heap} {f : Addr} {fd : FuncData} {C CX CN CD : Addr}
theorem sc_and : FnScope ["self", "other", "sought", "cell"] ["self", "other"] (defScope sAnd) := ⟨rfl, rfl, rfl, by decide +kernel, rfl, by decide +kernel, by decide +kernel⟩
theorem ok_and (F : Fun K "__and__" "Deal.__and__" sAnd f fd) (B : Cs mg) (D : DealK K mg C) (T : ErrC P w K mg base "InvalidDeal" CX) (M1 : MOk P w K mg base CX0 1 C "cells" (spCells C)) : FnOk P w K mg base (L2N.CX P w) 3 f fd ["self", "other"] (spAnd K C CX) := by
  refine Fun.okN F sc_and (fun vs H Q E h => ?_) fun cdv A outer s H vs Q E hr h => ?_
  · obtain ⟨a, d, v, rfl, _⟩ := h
    rfl
  · obtain ⟨a, d, y, rfl, hd, od, q⟩ := h
    apply Exists.intro
    apply And.intro
    · exact pss_cons (ps_if (pt_not (pt_val (pe_callB call_isi rfl (B.nb _ (by decide)) rfl (pa_cons (pv 1) (pa_cons (pe_glob (v := .ref C) rfl D.at_ rfl) pa_nil))))) (pss_one (L2N.ps_raise rfl takesN (pmk_err T hr rfl (pv 1)))) pss_nil)
        (pss_cons (ps_set (i := 2) sc_and.nd rfl (Or.inr rfl) (pe_m0 M1 D.cls hr (by decide) pass0 (pv 1)))
        (pss_one (ps_ret (pe_lc (own := [("cell", 3)]) rfl sc_and.nd (pi_list (pe_m0 M1 D.cls hr (by decide) pass0 (pv 0))) (blkOk_by (N := ["self", "other", "sought", "cell"]) (sc := defScope sAnd) (by decide +kernel)) (fun _ _ _ _ _ => pg_name (i := 3) sc_and.nd rfl (Or.inl rfl))
          (fun _ _ _ _ _ => pts_one (pt_cmpR (r := rInD K) (op_inD (ru65 hr)) (pv 3) (pv 2) rfl)) (fun _ _ _ _ _ => pv 3)))))
    · rcases q with ⟨b, e, rfl, he, oe, q⟩ | ⟨⟨T0, hT, ty⟩, qe⟩
      · refine ⟨_, rfl, .ref b, .ref C, _, _, true, rfl, .own C, he.ty D, D.kit, true, rfl, iteF ?_⟩
        obtain ⟨dx, fs, hb, hm⟩ := he.obj
        refine ⟨_, rfl, b, dx, fs, rfl, hb, hm _ (by decide), b, e, rfl, he, oe.few, fun H1 p ls s1 e1 t1 => ?_⟩
        have hd1 := hd.same s1
        obtain ⟨dy, gs, ha, hm2⟩ := hd1.obj
        refine ⟨_, rfl, a, dy, gs, rfl, ha, hm2 _ (by decide), a, d, rfl, hd1, od.few, fun H2 r ms s2 e2 t2 => ?_⟩
        refine ⟨r, rfl, ⟨_, SqL.of e2⟩, fun L nL => ?_⟩
        have hl : ms.length = d.cells.length := by rw [t2.length, List.length_map]
        refine lc_tup d.cells (fun c => if c ∈ e.cells then some (cellV c) else none) (by have := walk_list (K := K) (a := r) (xs := ms); rw [hl] at this; exact this) nL (Nat.lt_of_le_of_lt (cellsIn_len od.few.films od.few.lands od.few.ways) (by decide)) (fun H' s' => SqL.of (s' _ _ e2))
          (fun i c x H3 H4 Qn Qe hc s3 y hn hno => ?_) (fun H3 ls' s3 e3 t3 => ?_)
        · obtain ⟨rfl, hx⟩ := y
          obtain ⟨ys, g1, g2⟩ := t2.get hx
          rw [List.getElem?_map, hc] at g1
          cases g1
          have g3 : TupAt H4 x (cellV c) := by obtain ⟨z, ez, hz⟩ := g2; exact ⟨z, ez, s3 _ _ hz⟩
          have mc : c ∈ d.cells := List.mem_of_getElem? hc
          refine ⟨rfl, _, rfl, _, rfl, cellD c, e.cells.map cellD, cell_dp g3, cells_dp (s3 _ _ (s2 _ _ e1)) (t1.keep (TupK.of (s2.trans s3))), shaped_cell (od.short c mc), shaped_cells oe.short, _, rfl, ?_⟩
          rw [any_cell]
          by_cases hin : c ∈ e.cells
          · rw [decide_eq_true hin]
            exact iteT ⟨_, rfl, hn x (cellV c) _ (if_pos hin) (Same.refl _) g3⟩
          · rw [decide_eq_false hin]
            exact iteF (hno _ (if_neg hin) (Same.refl _))
        · rw [fm_cells] at t3
          exact q H3 L ls' ((s1.trans s2).trans s3) (by
            cases z : H L with
            | none => rfl
            | some o => rw [(s1.trans s2) _ _ z] at nL; cases nL) e3 t3
      · refine ⟨_, rfl, y, .ref C, _, _, false, rfl, .own C, ty, D.kitT _ hT, false, rfl, iteT ⟨_, rfl, fun x nx => qe _ x (same_upd nx) upd_same⟩⟩
end
end Ld
namespace Ld
open PySem PySem.Spec PyProof.Rows L2
/-- an own __and__ -/
structure AOk (P : Program) (w : World) (K : PySem.W.Frag) (mg : Str → Option Value) (base : Heap) (cx : CXT) (k : Nat) (C : Addr) (sp : Sp) : Prop where
  ex : ∃ (f : Addr) (fd : FuncData) (ps : List Str), AndC K C f ∧ FnOk P w K mg base cx k f fd ps sp ∧ Binds K fd ps []
theorem op_and {X : Cx} {cx : CXT} {k j : Nat} {C : Addr} {sp : Sp} {E : XK} (c : AOk X.prog X.w X.K X.mg X.base cx k C sp) (hr : Room j X.A) (hk : k ≤ j) (hx : Passes cx X E) :
    OpR X (binaryOp .BitAnd) (fun x y H Q => ∃ a dx fs t, x = .ref a ∧ H a = some (.ins C dx fs) ∧ TyX X.K H y t ∧ (t = .ref C ∨ ∃ T, t = .type T ∧ AndT X.K C T) ∧ sp [x, y] H Q E) := by
  obtain ⟨f, fd, ps, h1, h3, h4⟩ := c.ex
  exact op_andOwn h1 h3 (hr.mono hk) h4 hx
/-- what stands behind & by a deal: a deal, or data -/
theorem and_ty {K : PySem.W.Frag} {mg : Str → Option Value} {C : Addr} (D : DealK K mg C) {H : Hp} {y : V} (h : (∃ b e, y = .ref b ∧ DealAt C H b e) ∨ NoDeal K H y) : ∃ t, TyX K H y t ∧ (t = .ref C ∨ ∃ T, t = .type T ∧ AndT K C T) := by
  rcases h with ⟨b, e, rfl, he⟩ | ⟨T, hT, ty⟩
  · exact ⟨_, he.ty D, .inl rfl⟩
  · exact ⟨_, ty, .inr ⟨T, rfl, D.andT T hT⟩⟩
def touchB (d e : Pact) : Bool := !(common d e).isEmpty && (d.sole || e.sole)
def spTouches (K : PySem.W.Frag) (C CX : Addr) : Sp := fun vs H Q E => ∃ a d y, vs = [.ref a, y] ∧ DealAt C H a d ∧ PactOk d ∧ ((∃ b e, y = .ref b ∧ DealAt C H b e ∧ PactOk e ∧ ∀ H', Same H H' → Q (.bl (touchB d e)) H') ∨
  (NoDeal K H y ∧ ∀ H' x, Same H H' → H' x = some (.xd [("value", y)]) → E (.ref CX) (some x) H'))
def onB (f l i : Int) : Bool := decide (f ≤ i) && decide (i ≤ l)
def spIsOn (C CD CN : Addr) : Sp := fun vs H Q E => ∃ a d v dd u du, vs = [.ref a, v, u] ∧ DealAt C H a d ∧ Sh H v dd ∧ Sh H u du ∧ (daysD d dd = none → ∀ H' x, Same H H' → H' x = some (.xd [("value", v)]) → E (.ref CD) (some x) H') ∧
  (∀ f l, daysD d dd = some (f, l) → (isInt du = false → ∀ H' x, Same H H' → H' x = some (.xd [("value", u)]) → E (.ref CN) (some x) H') ∧ (∀ i, du = .int i → ∀ H', Same H H' → Q (.bl (onB f l i)) H'))
section
variable {P : Program} {w : World} {K : PySem.W.Frag} {mg : Str → Option Value} {base : Heap} {f : Addr} {fd : FuncData} {C CX CN CD : Addr}
theorem sc_touches : FnScope ["self", "other"] ["self", "other"] (defScope sTouches) := ⟨rfl, rfl, rfl, by decide +kernel, rfl, by decide +kernel, by decide +kernel⟩
theorem ok_touches (F : Fun K "touches" "Deal.touches" sTouches f fd) (D : DealK K mg C) (A1 : AOk P w K mg base (L2N.CX P w) 3 C (spAnd K C CX)) : FnOk P w K mg base (L2N.CX P w) 4 f fd ["self", "other"] (spTouches K C CX) := by
  refine Fun.okN F sc_touches (fun vs H Q E h => ?_) fun cdv A outer s H vs Q E hr h => ?_
  · obtain ⟨a, d, v, rfl, _⟩ := h
    rfl
  · obtain ⟨a, d, y, rfl, hd, od, q⟩ := h
    apply Exists.intro
    apply And.intro
    · exact pss_one (ps_ret (pe_and (pe_cmpR (r := rNeD K) (op_neD (ru64 hr)) (pe_op (op_and A1 hr (Nat.le_refl _) passN) (pv 0) (pv 1)) (pe_lst pa_nil) (nomark _)) (pe_one (pe_or (pe_fld (pv 0) rfl) (pe_one (pe_fld (pv 1) rfl))))))
    · obtain ⟨dx, fs, ha, _, _, _, _, _, _, _, la, _⟩ := hd.fld
      obtain ⟨t, ty, ht⟩ := and_ty D (H := H) (y := y) (q.imp (fun ⟨b, e, h1, h2, _⟩ => ⟨b, e, h1, h2⟩) fun z => z.1)
      refine ⟨_, rfl, _, rfl, a, dx, fs, t, rfl, ha, ty, ht, a, d, y, rfl, hd, od, ?_⟩
      rcases q with ⟨b, e, rfl, he, oe, q⟩ | ⟨ny, qe⟩
      · refine .inl ⟨b, e, rfl, he, oe, fun H1 p ls s1 np e1 t1 => ?_⟩
        have short : ∀ c ∈ common d e, ShortC c := fun c hc => od.short c (List.mem_filter.mp hc).1
        refine ⟨by decide, fun z nz => ?_⟩
        have s2 : Same H1 (upd H1 z (.lst [])) := same_upd nz
        refine ⟨.list ((common d e).map cellD), .list [], cells_dp (s2 _ _ e1) (t1.keep (TupK.of s2)), cells_dp (l := []) upd_same .nil, shaped_cells short, by decide, ?_⟩
        have ev : PyData.eqv (.list ((common d e).map cellD)) (.list []) = (common d e).isEmpty := by
          simp only [PyData.eqv]
          cases common d e <;> simp [PyData.eqvAll]
        rw [ev]
        unfold touchB at q
        have s12 := s1.trans s2
        refine ⟨_, rfl, ?_⟩
        cases hc : (common d e).isEmpty with
        | true =>
          rw [hc] at q
          exact iteF (q _ s12)
        | false =>
          rw [hc] at q
          refine iteT ⟨_, rfl, a, C, dx, fs, _, rfl, s12 _ _ ha, D.cls, D.no _ (by decide), la, _, rfl, ?_⟩
          cases hs : d.sole with
          | true =>
            rw [hs] at q
            exact iteT (q _ s12)
          | false =>
            rw [hs] at q
            obtain ⟨dy, gs, hb, _, _, _, _, _, _, _, lb, _⟩ := he.fld
            exact iteF ⟨_, rfl, b, C, dy, gs, _, rfl, s12 _ _ hb, D.cls, D.no _ (by decide), lb, q _ s12⟩
      · exact .inr ⟨ny, qe⟩
theorem sc_isOn : FnScope ["self", "dates", "day", "first", "last"] ["self", "dates", "day"] (defScope sIsOn) := ⟨rfl, rfl, rfl, by decide +kernel, rfl, by decide +kernel, by decide +kernel⟩
theorem ok_isOn (F : Fun K "is_on" "Deal.is_on" sIsOn f fd) (D : DealK K mg C) (T : ErrC P w K mg base "InvalidNumber" CN) (G1 : GOk P w K mg base CX0 1 "is_integer" spIsInt) (M1 : MOk P w K mg base (L2N.CX P w) 3 C "days" (spDays C CD)) :
    FnOk P w K mg base (L2N.CX P w) 4 f fd ["self", "dates", "day"] (spIsOn C CD CN) := by
  refine Fun.okN F sc_isOn (fun vs H Q E h => ?_) fun cdv A outer s H vs Q E hr h => ?_
  · obtain ⟨a, d, v, dd, u, du, rfl, _⟩ := h
    rfl
  · obtain ⟨a, d, v, dd, u, du, rfl, hd, sh, su, qn, q⟩ := h
    apply Exists.intro
    apply And.intro
    · exact pss_cons (ps_asg (pe_m M1 D.cls hr (Nat.le_refl _) passN (pv 0) (pa_cons (pv 1) pa_nil)) (pg_tup rfl (pgs_cons (pg_name (i := 3) sc_isOn.nd rfl (Or.inl rfl)) (pgs_cons (pg_name (i := 4) sc_isOn.nd rfl (Or.inl rfl)) pgs_nil))))
        (pss_cons (ps_if (pt_not (pt_val (pe_g G1 hr (by decide) rfl pass0 (pa_cons (pv 2) pa_nil)))) (pss_one (L2N.ps_raise rfl takesN (pmk_err T (hr.mono (by decide)) rfl (pv 2)))) pss_nil)
        (pss_one (ps_ret (pe_chain op_le op_le (pv 3) (pv 2) (pv 4)))))
    · obtain ⟨dx, fs, ha, hm⟩ := hd.obj
      refine ⟨_, rfl, a, dx, fs, rfl, ha, hm _ (by decide), _, rfl, a, d, v, dd, rfl, hd, sh, fun f1 l1 e1 H1 p s1 hp => ?_, qn⟩
      refine ⟨p, _, rfl, SqT.of hp, rfl, _, _, rfl, _, _, rfl, rfl, ?_⟩
      obtain ⟨q1, q2⟩ := q f1 l1 e1
      refine ⟨_, rfl, u, du, rfl, su.same s1, _, rfl, ?_⟩
      cases hi : isInt du with
      | false => exact iteT ⟨_, rfl, fun x nx => q1 hi _ x (s1.trans (same_upd nx)) upd_same⟩
      | true =>
        obtain ⟨i, rfl⟩ : ∃ i, du = .int i := by cases du <;> first | exact ⟨_, rfl⟩ | cases hi
        cases su
        have q2 := q2 i rfl H1 s1
        unfold onB at q2
        refine iteF ⟨_, rfl, _, rfl, f1, i, rfl, rfl, _, rfl, ?_⟩
        cases h1 : decide (f1 ≤ i) with
        | false =>
          rw [h1] at q2
          exact iteF q2
        | true =>
          rw [h1] at q2
          exact iteT ⟨_, rfl, i, l1, rfl, rfl, q2⟩
end
end Ld
namespace Ld
open PySem PySem.Spec PyProof.Rows L2
/-! ### data that can be shown -/
structure Nice (dp n : Nat) (d : PyData) : Prop where
  show_ : d.showable = true
  deep : d.depth ≤ dp
  leaf : d.leavesShort 100 = true
  wt : d.weight ≤ n
theorem Nice.mono {dp dp' n n' : Nat} {d : PyData} (h : Nice dp n d) (h1 : dp ≤ dp') (h2 : n ≤ n') : Nice dp' n' d := ⟨h.show_, Nat.le_trans h.deep h1, h.leaf, Nat.le_trans h.wt h2⟩
theorem Nice.len {dp n : Nat} {d : PyData} (h : Nice dp n d) : d.shown.length ≤ 102 * n + 100 := by
  have h1 := PyData.shown_le 100 (by decide) d h.leaf
  have h2 := h.wt
  omega
theorem Nice.fits {dp n : Nat} {d : PyData} (h : Nice dp n d) (hn : n ≤ 100000) : d.shown.length ≤ sizeLine := by
  have h1 := h.len
  rw [sizeLine_eq]
  omega
theorem nice_none : Nice 0 0 .none := ⟨rfl, by simp [PyData.depth], rfl, by simp [PyData.weight]⟩
theorem nice_bool (b : Bool) : Nice 0 0 (.bool b) := ⟨rfl, by simp [PyData.depth], rfl, by simp [PyData.weight]⟩
theorem log2_small {i : Int} (h : Small i) : i.natAbs.log2 < 200 := by
  by_cases z : i.natAbs = 0
  · rw [z]
    decide
  · refine (Nat.log2_lt z).mpr (Nat.lt_trans h (by decide))
theorem nice_int {i : Int} (h : Small i) : Nice 0 200 (.int i) := by
  have h1 := log2_small h
  refine ⟨?_, by simp [PyData.depth], ?_, ?_⟩
  · simp only [PyData.showable, decide_eq_true_eq]
    omega
  · simp only [PyData.leavesShort, PyData.shown]
    refine decide_eq_true ?_
    rw [PySem.ofString_length]
    exact Nat.le_trans (int_text_length_le10 (k := 60) (by decide) h) (by decide)
  · simp only [PyData.weight]
    split <;> omega
/-- texts of ASCII letters -/
def Asc (x : Str) : Prop := x.length ≤ 100 ∧ ∀ c ∈ x.cps.toList, c < 16 ^ 8
theorem nice_str {x : Str} (h : Asc x) : Nice 0 100 (.str x) := by
  refine ⟨rfl, by simp [PyData.depth], ?_, ?_⟩
  · simp only [PyData.leavesShort]
    exact List.all_eq_true.mpr fun c hc => decide_eq_true (h.2 c hc)
  · simp only [PyData.weight]
    exact h.1
theorem asc_name {x : Str} (h : nameB x = true) (hl : x.length ≤ 100) : Asc x := by
  refine ⟨hl, fun c hc => ?_⟩
  have h1 := strOk_of h
  unfold PyData.strOk at h1
  rw [← Array.all_toList] at h1
  have h2 : c < 0x110000 := of_decide_eq_true (List.all_eq_true.mp h1 c hc)
  exact Nat.lt_trans h2 (by decide)
theorem asc_moment {x : Str} (h : momentB x = true) (hl : x.length ≤ 100) : Asc x := by
  unfold momentB at h
  rcases Bool.or_eq_true_iff.mp h with h | h
  · exact asc_name h hl
  · have e := of_decide_eq_true h
    subst e
    exact ⟨by decide, by decide +kernel⟩
def NiceAll (dp n : Nat) (ds : List PyData) : Prop := ∀ d ∈ ds, Nice dp n d
section
variable {dp n : Nat}
theorem NiceAll.show_ : ∀ {ds : List PyData}, NiceAll dp n ds → PyData.showableAll ds = true
  | [], _ => rfl
  | d :: r, h => by
    rw [PyData.showableAll, (h d List.mem_cons_self).show_, NiceAll.show_ fun x hx => h x (List.mem_cons_of_mem _ hx)]
    rfl
theorem NiceAll.deep : ∀ {ds : List PyData}, NiceAll dp n ds → PyData.depthAll ds ≤ dp
  | [], _ => by simp [PyData.depthAll]
  | d :: r, h => by
    have h1 := (h d List.mem_cons_self).deep
    have h2 := NiceAll.deep (ds := r) fun x hx => h x (List.mem_cons_of_mem _ hx)
    rw [PyData.depthAll]
    omega
theorem NiceAll.leaf : ∀ {ds : List PyData}, NiceAll dp n ds → PyData.leavesShortAll 100 ds = true
  | [], _ => rfl
  | d :: r, h => by
    rw [PyData.leavesShortAll, (h d List.mem_cons_self).leaf, NiceAll.leaf fun x hx => h x (List.mem_cons_of_mem _ hx)]
    rfl
theorem NiceAll.wt : ∀ {ds : List PyData}, NiceAll dp n ds → PyData.weightAll ds ≤ ds.length * (n + 1)
  | [], _ => by simp [PyData.weightAll]
  | d :: r, h => by
    have h1 := (h d List.mem_cons_self).wt
    have h2 := NiceAll.wt (ds := r) fun x hx => h x (List.mem_cons_of_mem _ hx)
    rw [PyData.weightAll, List.length_cons, Nat.succ_mul]
    omega
theorem Nice.list {ds : List PyData} {k m : Nat} (h : NiceAll dp n ds) (hk : ds.length ≤ k) (hm : k * (n + 1) ≤ m) : Nice (dp + 1) m (.list ds) := by
  have h1 := h.deep
  have h2 := h.wt
  have h3 := Nat.mul_le_mul_right (n + 1) hk
  exact ⟨by rw [PyData.showable]; exact h.show_, by rw [PyData.depth]; omega, by rw [PyData.leavesShort]; exact h.leaf, by rw [PyData.weight]; omega⟩
theorem Nice.tuple {ds : List PyData} {k m : Nat} (h : NiceAll dp n ds) (hk : ds.length ≤ k) (hm : k * (n + 1) ≤ m) : Nice (dp + 1) m (.tuple ds) := by
  have h1 := h.deep
  have h2 := h.wt
  have h3 := Nat.mul_le_mul_right (n + 1) hk
  exact ⟨by rw [PyData.showable]; exact h.show_, by rw [PyData.depth]; omega, by rw [PyData.leavesShort]; exact h.leaf, by rw [PyData.weight]; omega⟩
def NiceKv (dp n : Nat) (ds : List (PyData × PyData)) : Prop := ∀ e ∈ ds, Nice dp n e.1 ∧ Nice dp n e.2
theorem NiceKv.all : ∀ {ds : List (PyData × PyData)}, NiceKv dp n ds → PyData.showableKv ds = true ∧ PyData.depthKv ds ≤ dp ∧ PyData.leavesShortKv 100 ds = true ∧ PyData.weightKv ds ≤ ds.length * (2 * n + 2)
  | [], _ => ⟨rfl, by simp [PyData.depthKv], rfl, by simp [PyData.weightKv]⟩
  | (k, v) :: r, h => by
    obtain ⟨a, b⟩ := h _ List.mem_cons_self
    obtain ⟨h1, h2, h3, h4⟩ := NiceKv.all (ds := r) fun x hx => h x (List.mem_cons_of_mem _ hx)
    have a1 := a.deep
    have a2 := b.deep
    have a3 := a.wt
    have a4 := b.wt
    dsimp only at a1 a2 a3 a4
    refine ⟨by rw [PyData.showableKv, a.show_, b.show_, h1]; rfl, by rw [PyData.depthKv]; omega, by rw [PyData.leavesShortKv, a.leaf, b.leaf, h3]; rfl, ?_⟩
    rw [PyData.weightKv, List.length_cons, Nat.succ_mul]
    omega
theorem Nice.dict {ds : List (PyData × PyData)} {k m : Nat} (h : NiceKv dp n ds) (hk : ds.length ≤ k) (hm : k * (2 * n + 2) ≤ m) : Nice (dp + 1) m (.dict ds) := by
  obtain ⟨h1, h2, h3, h4⟩ := h.all
  have h5 := Nat.mul_le_mul_right (2 * n + 2) hk
  exact ⟨by rw [PyData.showable]; exact h1, by rw [PyData.depth]; omega, by rw [PyData.leavesShort]; exact h3, by rw [PyData.weight]; omega⟩
end
theorem nice_names {l : List Str} (h : Ld.Names l) : NiceAll 0 100 (l.map PyData.str) := fun d hd => by
  obtain ⟨x, hx, rfl⟩ := List.mem_map.mp hd
  exact nice_str (asc_name (h.ok x hx) (h.sz x hx))
theorem nice_point {m : Str} {n : Int} (h : Asc m) (k : Small n) : Nice 1 402 (.tuple [.str m, .int n]) := by
  refine Nice.tuple (dp := 0) (n := 200) (k := 2) (fun d hd => ?_) (Nat.le_refl _) (Nat.le_refl _)
  simp only [List.mem_cons, List.not_mem_nil, or_false] at hd
  rcases hd with rfl | rfl
  · exact (nice_str h).mono (Nat.le_refl _) (by decide)
  · exact nice_int k
theorem nice_cell {c : Cell} (h : ShortC c) (h1 : c.1.length ≤ 100) (h2 : c.2.1.length ≤ 100) (h3 : c.2.2.length ≤ 100) : Nice 1 303 (cellD c) := by
  refine Nice.tuple (dp := 0) (n := 100) (k := 3) (fun d hd => ?_) (Nat.le_refl _) (Nat.le_refl _)
  simp only [cellL, List.mem_cons, List.not_mem_nil, or_false] at hd
  rcases hd with rfl | rfl | rfl
  · exact nice_str (asc_name h.1 h1)
  · exact nice_str (asc_name h.2.1 h2)
  · exact nice_str (asc_name h.2.2 h3)
theorem name_len {x : Str} (h : nameB x = true) : x.length ≤ 100 := by
  unfold nameB at h
  have h1 := of_decide_eq_true (Bool.and_eq_true_iff.mp (Bool.and_eq_true_iff.mp (Bool.and_eq_true_iff.mp h).1).1).2
  omega
theorem nice_cells {l : List Cell} (h : ∀ c ∈ l, ShortC c) (hl : l.length ≤ 48) : Nice 2 14592 (.list (l.map cellD)) := by
  refine Nice.list (dp := 1) (n := 303) (k := 48) (fun d hd => ?_) (by rw [List.length_map]; exact hl) (Nat.le_refl _)
  obtain ⟨c, hc, rfl⟩ := List.mem_map.mp hd
  have s := h c hc
  exact nice_cell s (name_len s.1) (name_len s.2.1) (name_len s.2.2)
end Ld
namespace Ld
open PySem PySem.Spec PyProof.Rows L2
open L2H (RoomH)
/-! ### a comprehension over a tuple whose items are told by place -/
theorem cp_ix {w : World} {g : TG} {tt : TT} {te : TE} {vs : List Nat} {σ : L2.St} {H1 : Hp} {a D : Addr} {xs : List V} (rs : List V) {Qd : Hp → Prop} (nD : H1 D = none) (ha : H1 a = some (.tup xs)) (hl : rs.length = xs.length) (len : xs.length < sizeLine)
    (step : ∀ (i : Nat) (x r : V) (H : Hp) (Qn : V → Hp → Prop) (Qe : Hp → Prop), xs[i]? = some x → rs[i]? = some r → Same H1 H → (∀ H4, Same H H4 → Qn r H4) →
      g x (wipe σ vs) H fun σ2 H2 => wipe σ2 vs = wipe σ vs ∧ tt σ2 H2 fun b H3 => if b = true then te σ2 H3 Qn else Qe H3) (hd : ∀ H, Same H1 H → H D = some (.lst rs) → Qd H) :
    ∃ Pv : Nat → Hp → Prop, Pv 0 (upd H1 D (accL.obj w D accL.new)) ∧
      (∀ i H, Pv i H → H a = some (.tup xs)) ∧ (∀ i x H, xs[i]? = some x → Pv i H → g x (wipe σ vs) H fun σ2 H2 => wipe σ2 vs = wipe σ vs ∧ tt σ2 H2 fun b H3 =>
        if b = true then te σ2 H3 fun y H4 => ∃ acc, H4 D = some (accL.obj w D acc) ∧ accL.room acc y ∧ Pv (i + 1) (upd H4 D (accL.obj w D (accL.add acc y))) else Pv (i + 1) H3) ∧ ∀ H, Pv xs.length H → Qd H := by
  refine ⟨fun i H => Same H1 H ∧ H D = some (.lst (rs.take i)), ⟨same_off nD (Same.refl _), upd_same⟩, fun i H p => p.1 _ _ ha, fun i x H hx p => ?_, fun H p => hd H p.1 (by rw [p.2, ← hl, List.take_length])⟩
  have hi : i < xs.length := (List.getElem?_eq_some_iff.mp hx).1
  obtain ⟨r, hr⟩ : ∃ r, rs[i]? = some r := ⟨rs[i]'(by omega), by rw [List.getElem?_eq_getElem]⟩
  have lt : (rs.take i).length < sizeLine := Nat.lt_of_le_of_lt (List.length_take_le _ _) (Nat.lt_trans hi len)
  refine step i x r H _ _ hx hr p.1 fun H4 s4 => ⟨_, s4 _ _ p.2, lt, same_off nD (p.1.trans s4), ?_⟩
  show upd H4 D (.lst (rs.take i ++ [r])) D = _
  rw [upd_same, List.take_add_one, hr]
  rfl
/-! ### a deal's text -/
def parts (d : Pact) : List PyData := [.str d.tag, .str d.firm, .list (d.films.map PyData.str), .list (d.lands.map PyData.str), .list (d.ways.map PyData.str), .tuple [.str d.hd, .int d.fi], .tuple [.str d.tl, .int d.la]]
def dealText (d : Pact) : Str := ((((((Str.empty ++ ("Deal(" : Str)) ++ Txt.join (", " : Str) (PyData.shownAll (parts d))) ++ (", alone=" : Str)) ++ (if d.sole then ("True" : Str) else "False")) ++ (", price=" : Str)) ++ (toString d.fee : String)) ++ (")" : Str)
theorem nice_parts {d : Pact} (o : PactOk d) : NiceAll 1 404 (parts d) := fun x hx => by
  simp only [parts, List.mem_cons, List.not_mem_nil, or_false] at hx
  rcases hx with rfl | rfl | rfl | rfl | rfl | rfl | rfl
  · exact (nice_str (asc_name o.tag.1 o.tag.2)).mono (by decide) (by decide)
  · exact (nice_str (asc_name o.firm.1 o.firm.2)).mono (by decide) (by decide)
  · exact Nice.list (nice_names o.films.1) (k := 4) (by rw [List.length_map]; exact o.films.1.few) (by decide)
  · exact Nice.list (nice_names o.lands.1) (k := 4) (by rw [List.length_map]; exact o.lands.1.few) (by decide)
  · exact Nice.list (nice_names o.ways.1) (k := 4) (by rw [List.length_map]; exact o.ways.1.few) (by decide)
  · exact (nice_point (asc_moment o.hd.1 o.hd.2) o.sm.1).mono (by decide) (by decide)
  · exact (nice_point (asc_moment o.tl.1 o.tl.2) o.sm.2.1).mono (by decide) (by decide)
theorem shownAll_map : ∀ (l : List PyData), PyData.shownAll l = l.map PyData.shown
  | [] => rfl
  | x :: r => by rw [PyData.shownAll, shownAll_map r]; rfl
theorem parts_sum {d : Pact} (o : PactOk d) : ((PyData.shownAll (parts d)).map (·.length)).sum ≤ 300000 := by
  have n := nice_parts o
  have g : ∀ (l : List PyData), (∀ x ∈ l, x.shown.length ≤ 41308) → ((PyData.shownAll l).map (·.length)).sum ≤ l.length * 41308 := by
    intro l
    induction l with
    | nil => intro _; exact Nat.le_refl _
    | cons x r ih =>
      intro h
      have h1 := h x List.mem_cons_self
      have h2 := ih fun y hy => h y (List.mem_cons_of_mem _ hy)
      rw [PyData.shownAll, List.map_cons, List.sum_cons, List.length_cons, Nat.succ_mul]
      omega
  have h := g (parts d) fun x hx => (n x hx).len
  exact Nat.le_trans h (show (7 : Nat) * 41308 ≤ 300000 by decide)
theorem join_len (a : Str) : ∀ (l : List Str), (Str.join a l).length ≤ (l.map (·.length)).sum + l.length * a.length
  | [] => Nat.zero_le _
  | [x] => by
    show x.length ≤ _
    simp
  | x :: y :: r => by
    have ih := join_len a (y :: r)
    show (x ++ a ++ Str.join a (y :: r)).length ≤ _
    rw [strLen_append, strLen_append]
    simp only [List.map_cons, List.sum_cons, List.length_cons] at ih ⊢
    rw [Nat.succ_mul]
    omega
theorem joined_len {d : Pact} (o : PactOk d) : (Txt.join (", " : Str) (PyData.shownAll (parts d))).length ≤ 300014 := by
  rw [TL.join_eq]
  have h1 := join_len (", " : Str) (PyData.shownAll (parts d))
  have h2 := parts_sum o
  have h3 : (PyData.shownAll (parts d)).length * ((", " : Str)).length = 14 := by rw [shownAll_map, List.length_map]; rfl
  omega
theorem fee_len {d : Pact} (o : PactOk d) : (Str.ofString (toString d.fee)).length ≤ 100 := by
  rw [PySem.ofString_length]
  exact Nat.le_trans (int_text_length_le10 (k := 60) (by decide) o.sm.2.2) (by decide)
/-- where a list of the heap may be under way -/
def GD : GT := fun gs H => ∀ b, (∀ xs, H b ≠ some (.lst xs)) → Clear gs b
theorem GD.nil (H : Hp) : GD [] H := fun b _ => Clear.nil b
def spPoints (C : Addr) : Sp := fun vs H Q _ => ∃ a d, vs = [.ref a] ∧ DealAt C H a d ∧ ∀ H' p b e, Same H H' → H' p = some (.tup [.ref b, .ref e]) → H' b = some (.tup [.str d.hd, .int d.fi]) → H' e = some (.tup [.str d.tl, .int d.la]) → Q (.ref p) H'
def spRepr (C : Addr) : Sp := fun vs H Q _ => ∃ a d, vs = [.ref a] ∧ DealAt C H a d ∧ PactOk d ∧ ∀ H', Same H H' → Q (.str (dealText d)) H'
section
variable {P : Program} {w : World} {K : PySem.W.Frag} {mg : Str → Option Value} {base : Heap} {f : Addr} {fd : FuncData} {C : Addr}
theorem sc_points : FnScope ["self"] ["self"] (defScope sPoints) := ⟨rfl, rfl, rfl, by decide +kernel, rfl, by decide +kernel, by decide +kernel⟩
theorem ok_points (F : Fun K "points" "Deal.points" sPoints f fd) (D : DealC K C) : FnA P w K mg base CX0 GD 1 f fd ["self"] (spPoints C) := by
  refine Fun.okA F sc_points (fun vs H Q E h => ?_) fun cdv A outer s H vs Q E c pn gs hg hG ca hr h => ?_
  · obtain ⟨a, d, rfl, _⟩ := h
    rfl
  · obtain ⟨a, d, rfl, hd, q⟩ := h
    apply Exists.intro
    apply And.intro
    · exact pss_one (ps_ret (pe_tup (pa_cons (pe_fld (pv 0) rfl) (pa_cons (pe_fld (pv 0) rfl) pa_nil))))
    · obtain ⟨dx, fs, ha, _, _, _, ⟨b, lb, hb⟩, ⟨e, le, he⟩, _⟩ := hd.fld
      refine ⟨_, rfl, a, C, dx, fs, _, rfl, ha, D.cls, D.no _ (by decide), lb, _, rfl, a, C, dx, fs, _, rfl, ha, D.cls, D.no _ (by decide), le, (show (2 : Nat) ≤ sizeLine by decide), fun T nT => ?_⟩
      exact q _ T b e (same_upd nT) upd_same (same_upd nT _ _ hb) (same_upd nT _ _ he)
theorem sc_repr : FnScope ["self", "names", "part", "point"] ["self"] (defScope sRepr) := ⟨rfl, rfl, rfl, by decide +kernel, rfl, by decide +kernel, by decide +kernel⟩
theorem ruH {k : Nat} {A : Around} (r : RoomH k A) : A.units + 40 < cLine := by have := r.un; omega
/-- list(x) -/
def rListOf (K : PySem.W.Frag) : List V → Hp → VK → Prop := fun xs H Q => ∃ p ys, xs = [.ref p] ∧ (SqL K H p ys ∨ SqT K H p ys) ∧ ∀ l, H l = none → Q (.ref l) (upd H l (.lst ys))
theorem ok_repr (F : Fun K "__repr__" "Deal.__repr__" sRepr f fd) (B : Cs mg) (D : DealC K C) {fp : Addr} {pd : FuncData} (mp : Meth K C "points" fp) (Fp : FnA P w K mg base CX0 GD 1 fp pd ["self"] (spPoints C)) (bp : Binds K pd ["self"] []) :
    FnA P w K mg base CX0 GD 2 f fd ["self"] (spRepr C) := by
  refine Fun.okA F sc_repr (fun vs H Q E h => ?_) fun cdv A outer s H vs Q E c pn gs hg hG ca hr h => ?_
  · obtain ⟨a, d, rfl, _⟩ := h
    rfl
  · obtain ⟨a, d, rfl, hd, od, q⟩ := h
    apply Exists.intro
    apply And.intro
    · exact pss_cons (ps_set (i := 1) sc_repr.nd rfl (Or.inl rfl) (pe_lst (pa_cons (pe_callB (cr_reprF hg (ruH hr)) rfl (B.nb _ (by decide)) rfl (pa_cons (pe_fld (pv 0) rfl) pa_nil)) (pa_cons (pe_callB (cr_reprF hg (ruH hr)) rfl (B.nb _ (by decide)) rfl (pa_cons (pe_fld (pv 0) rfl) pa_nil)) pa_nil))))
        (pss_cons (ps_expr (pe_bm PySem.F.plainAttrs_list PySem.F.slot_list_extend PySem.F.type_list_extend mt_extend (pv 1) (pa_cons (pe_lcT [("part", 2)] ca sc_repr.nd (pe_tup (pa_cons (pe_fld (pv 0) rfl) (pa_cons (pe_fld (pv 0) rfl) (pa_cons (pe_fld (pv 0) rfl) pa_nil)))) (blkOk_by (N := ["self", "names", "part", "point"]) (sc := defScope sRepr) (by decide +kernel))
            (fun _ _ _ _ _ => pg_name (i := 2) sc_repr.nd rfl (Or.inl rfl)) (fun _ _ _ _ _ => pts_nil) (fun _ _ _ _ _ => pe_callB (cr_reprF hg (ruH hr)) rfl (B.nb _ (by decide)) rfl (pa_cons (pe_callTy (r := rListOf K) call_list_of rfl (B.nb _ (by decide)) rfl (pa_cons (pv 2) pa_nil)) pa_nil))) pa_nil)))
        (pss_cons (ps_expr (pe_bm PySem.F.plainAttrs_list PySem.F.slot_list_extend PySem.F.type_list_extend mt_extend (pv 1) (pa_cons (pe_lcT [("point", 3)] ca sc_repr.nd (pe_meth0A ca (pv 0) D.cls mp Fp (hr.mono (by decide)) hg bp pass0) (blkOk_by (N := ["self", "names", "part", "point"]) (sc := defScope sRepr) (by decide +kernel))
            (fun _ _ _ _ _ => pg_name (i := 3) sc_repr.nd rfl (Or.inl rfl)) (fun _ _ _ _ _ => pts_nil) (fun _ _ _ _ _ => pe_callB (cr_reprF hg (ruH hr)) rfl (B.nb _ (by decide)) rfl (pa_cons (pv 3) pa_nil))) pa_nil)))
        (pss_one (ps_ret (pe_joined (.cons pe_str (.cons (pe_fmt (pe_join pe_str (pv 1))) (.cons pe_str (.cons (pe_fmtB (pe_fld (pv 0) rfl)) (.cons pe_str (.cons (pe_fmt (pe_fld (pv 0) rfl)) (.cons pe_str .nil)))))))))))) 
    · obtain ⟨dx, fs, ha, ⟨fa, lf, hf⟩, ⟨la, ll, hl⟩, ⟨wa, lw, hw⟩, ⟨b, lb, hb⟩, ⟨e, le, he⟩, ltag, lfirm, lsole, lfee⟩ := hd.fld
      have n := nice_parts od
      have nt : Nice 1 404 (.str d.tag) := n _ (by simp [parts])
      have nf : Nice 1 404 (.str d.firm) := n _ (by simp [parts])
      refine ⟨_, rfl, a, C, dx, fs, _, rfl, ha, D.cls, D.no _ (by decide), ltag, _, .str d.tag, rfl, .str _, nt.show_, nt.fits (by decide), .inl rfl, ?_⟩
      refine ⟨_, rfl, a, C, dx, fs, _, rfl, ha, D.cls, D.no _ (by decide), lfirm, _, .str d.firm, rfl, .str _, nf.show_, nf.fits (by decide), .inl rfl, ?_⟩
      refine ⟨(show (2 : Nat) ≤ sizeLine by decide), fun L nL => ?_⟩
      have s0 : Same H (upd H L (.lst [.str (PyData.shown (.str d.tag)), .str (PyData.shown (.str d.firm))])) := same_upd nL
      refine ⟨_, rfl, .inl ⟨rfl, _, SqL.of upd_same⟩, ?_⟩
      refine ⟨_, rfl, a, C, dx, fs, _, rfl, s0 _ _ ha, D.cls, D.no _ (by decide), lf, ?_⟩
      refine ⟨_, rfl, a, C, dx, fs, _, rfl, s0 _ _ ha, D.cls, D.no _ (by decide), ll, ?_⟩
      refine ⟨_, rfl, a, C, dx, fs, _, rfl, s0 _ _ ha, D.cls, D.no _ (by decide), lw, (show (3 : Nat) ≤ sizeLine by decide), fun T nT => ?_⟩
      have s1 := s0.trans (same_upd (o := .tup [.ref fa, .ref la, .ref wa]) nT)
      refine ⟨T, [.ref fa, .ref la, .ref wa], rfl, upd_same, fun M nM => ?_⟩
      refine cp_ix [.str (PyData.shown (.list (d.films.map PyData.str))), .str (PyData.shown (.list (d.lands.map PyData.str))), .str (PyData.shown (.list (d.ways.map PyData.str)))] nM upd_same rfl (show (3 : Nat) < sizeLine by decide) (fun i x r H3 Qn Qe hx hr s3 hn => ?_) (fun H3 s3 hM => ?_)
      · have s13 := s1.trans s3
        obtain ⟨z, l, rfl, hz, rfl, nl⟩ : ∃ (z : Addr) (l : List Str), x = .ref z ∧ H z = some (.tup (l.map V.str)) ∧ r = .str (PyData.shown (.list (l.map PyData.str))) ∧ Nice 1 404 (.list (l.map PyData.str)) := by
          match i, hx, hr with
          | 0, hx, hr => cases hx; cases hr; exact ⟨fa, _, rfl, hf, rfl, n _ (by simp [parts])⟩
          | 1, hx, hr => cases hx; cases hr; exact ⟨la, _, rfl, hl, rfl, n _ (by simp [parts])⟩
          | 2, hx, hr => cases hx; cases hr; exact ⟨wa, _, rfl, hw, rfl, n _ (by simp [parts])⟩
        refine ⟨rfl, _, rfl, z, _, rfl, .inr (SqT.of (s13 _ _ hz)), fun q1 nq => ?_⟩
        refine ⟨.ref q1, _, rfl, .lst upd_same (ShAll.strs l), nl.show_, nl.fits (by decide), .inr ⟨q1, _, rfl, hG q1 (fun xs z => ?_), .inl upd_same, ?_⟩, hn _ (same_upd nq)⟩
        · rw [s13 _ _ z] at nq
          cases nq
        · rw [List.all_map]
          exact List.all_eq_true.mpr fun _ _ => rfl
      · have s13 := s1.trans s3
        have hL : H3 L = some (.lst [.str (PyData.shown (.str d.tag)), .str (PyData.shown (.str d.firm))]) := s3 _ _ (same_upd nT _ _ upd_same)
        refine ⟨L, M, _, _, rfl, rfl, hL, hM, (show (5 : Nat) ≤ sizeLine by decide), ?_⟩
        have s4 := same_off (o := .lst ([V.str (PyData.shown (.str d.tag)), .str (PyData.shown (.str d.firm))] ++ [.str (PyData.shown (.list (d.films.map PyData.str))), .str (PyData.shown (.list (d.lands.map PyData.str))), .str (PyData.shown (.list (d.ways.map PyData.str)))])) nL s13
        have hd4 := hd.same s4
        obtain ⟨dx', fs', ha', hm'⟩ := hd4.obj
        refine ⟨_, rfl, .inl ⟨rfl, _, SqL.of upd_same⟩, ?_⟩
        refine ⟨_, rfl, a, dx', fs', rfl, ha', hm' _ (by decide), fun b' hb' => hG b' (fun xs z => hb' xs (s4 _ _ z)), a, d, rfl, hd4, fun H5 T5 b5 e5 s5 hT5 hb5 he5 => ?_⟩
        have s45 := s4.trans s5
        refine ⟨T5, [.ref b5, .ref e5], rfl, hT5, fun N nN => ?_⟩
        refine cp_ix [.str (PyData.shown (.tuple [.str d.hd, .int d.fi])), .str (PyData.shown (.tuple [.str d.tl, .int d.la]))] nN hT5 rfl (show (2 : Nat) < sizeLine by decide) (fun i x r H6 Qn Qe hx hr s6 hn => ?_) (fun H6 s6 hN => ?_)
        · obtain ⟨z, m, k, rfl, hz, rfl, nl⟩ : ∃ (z : Addr) (m : Str) (k : Int), x = .ref z ∧ H6 z = some (.tup [.str m, .int k]) ∧ r = .str (PyData.shown (.tuple [.str m, .int k])) ∧ Nice 1 404 (.tuple [.str m, .int k]) := by
            match i, hx, hr with
            | 0, hx, hr => cases hx; cases hr; exact ⟨b5, _, _, rfl, s6 _ _ hb5, rfl, n _ (by simp [parts])⟩
            | 1, hx, hr => cases hx; cases hr; exact ⟨e5, _, _, rfl, s6 _ _ he5, rfl, n _ (by simp [parts])⟩
          refine ⟨rfl, ⟨_, rfl, .ref z, _, rfl, .tup hz (.cons (.str _) (.cons (.int _) .nil)), nl.show_, nl.fits (by decide), .inr ⟨z, _, rfl, hG z (fun xs e' => ?_), .inr hz, rfl⟩, hn _ (Same.refl _)⟩⟩
          rw [(s45.trans s6) _ _ e'] at hz
          cases hz
        · have hL6 := s6 _ _ (s5 _ _ (upd_same (a := L)))
          refine ⟨L, N, _, _, rfl, rfl, hL6, hN, (show (7 : Nat) ≤ sizeLine by decide), ?_⟩
          have s7 := same_off (o := .lst (([V.str (PyData.shown (.str d.tag)), .str (PyData.shown (.str d.firm))] ++ [.str (PyData.shown (.list (d.films.map PyData.str))), .str (PyData.shown (.list (d.lands.map PyData.str))), .str (PyData.shown (.list (d.ways.map PyData.str)))]) ++
            [.str (PyData.shown (.tuple [.str d.hd, .int d.fi])), .str (PyData.shown (.tuple [.str d.tl, .int d.la]))])) nL (s45.trans s6)
          have z1 := joined_len od
          have z2 := parts_sum od
          have z3 := fee_len od
          have z4 : (if d.sole = true then ("True" : Str) else "False").length ≤ 5 := by split <;> decide
          have z5 := log2_small od.sm.2.2
          refine ⟨("Deal(" : Str), rfl, by decide, ?_⟩
          refine ⟨⟨_, rfl⟩, _, rfl, (", " : Str), L, PyData.shownAll (parts d), rfl, rfl, .inl (SqL.of upd_same), ?_, ?_⟩
          · have z6 : (PyData.shownAll (parts d)).length * ((", " : Str)).length = 14 := by rw [shownAll_map, List.length_map]; rfl
            omega
          · refine .inl ⟨_, rfl, by rw [sizeLine_eq]; omega, _, rfl, ?_, ?_⟩
            · rw [strLen_append, strLen_append, sizeLine_eq]
              have : (Str.empty).length = 0 := rfl
              have : (("Deal(" : Str)).length = 5 := rfl
              omega
            refine ⟨_, rfl, ?_, ?_⟩
            · rw [strLen_append, strLen_append, strLen_append, sizeLine_eq]
              have : (Str.empty).length = 0 := rfl
              have : (("Deal(" : Str)).length = 5 := rfl
              have : ((", alone=" : Str)).length = 8 := rfl
              omega
            refine ⟨_, rfl, a, C, dx, fs, _, rfl, s7 _ _ ha, D.cls, D.no _ (by decide), lsole, d.sole, rfl, _, rfl, ?_, ?_⟩
            · rw [strLen_append, strLen_append, strLen_append, strLen_append, sizeLine_eq]
              have : (Str.empty).length = 0 := rfl
              have : (("Deal(" : Str)).length = 5 := rfl
              have : ((", alone=" : Str)).length = 8 := rfl
              omega
            refine ⟨_, rfl, ?_, ?_⟩
            · rw [strLen_append, strLen_append, strLen_append, strLen_append, strLen_append, sizeLine_eq]
              have : (Str.empty).length = 0 := rfl
              have : (("Deal(" : Str)).length = 5 := rfl
              have : ((", alone=" : Str)).length = 8 := rfl
              have : ((", price=" : Str)).length = 8 := rfl
              omega
            refine ⟨_, rfl, a, C, dx, fs, _, rfl, s7 _ _ ha, D.cls, D.no _ (by decide), lfee, .inr ⟨d.fee, rfl, by omega, _, rfl, ?_, ?_⟩⟩
            · rw [strLen_append, strLen_append, strLen_append, strLen_append, strLen_append, strLen_append, sizeLine_eq]
              have : (Str.empty).length = 0 := rfl
              have : (("Deal(" : Str)).length = 5 := rfl
              have : ((", alone=" : Str)).length = 8 := rfl
              have : ((", price=" : Str)).length = 8 := rfl
              omega
            refine ⟨_, rfl, ?_, ?_⟩
            · rw [strLen_append, strLen_append, strLen_append, strLen_append, strLen_append, strLen_append, strLen_append, sizeLine_eq]
              have : (Str.empty).length = 0 := rfl
              have : (("Deal(" : Str)).length = 5 := rfl
              have : ((", alone=" : Str)).length = 8 := rfl
              have : ((", price=" : Str)).length = 8 := rfl
              have : ((")" : Str)).length = 1 := rfl
              omega
            exact q _ s7
end
end Ld
namespace Ld
open PySem PySem.Spec PyProof.Rows L2
open L2H (RoomH)
/-! ### repr of a deal, and of a list that holds a deal -/
theorem ifBoundBy_K {M : Model} {A : Around} {E : Value → Shared → Prop} {s : Shared} {K : PySem.W.Frag} {x C f : Addr} {ox : Obj} {od : Option Obj} {name : Str} {last : Value → List Value → Sem Value} {Q : Option Value → Shared → Prop} (X : K.In s.heap) (I : PySem.W.InstAt s.heap x ox C od) (hs : PySem.W.findIn K (.ref C) name = some (some (.ref f))) (hf : PySem.W.isFn K (.ref f) = true)
    (h : wpAny M A (last (.ref f) [.ref x]) (fun v => Q (some v)) E s) : wpAny M A (callSpecialIfBoundBy? last (.ref x) name) Q E s := by
  simp only [callSpecialIfBoundBy?, bindSpecialIfBound?]
  refine wpAny_holding (wpAny_bind (wpAny_bind (wpAny_bind (I.type.here ((PySem.W.looks_findIn X hs).here ?_)))))
  refine wpAny_bind (wpAny_askSetting (wpAny_ite ?_))
  have fin : wpAny M A (last (.ref f) [.ref x] >>= fun v => pure (some v)) Q E s := wpAny_bind (wpAny_mono h (fun v s' h' => wpAny_pure h') fun _ _ h' => h')
  split
  · exact wpAny_bind ((PySem.W.bind_fn X _ (beq_iff_eq.mp hf)).here (wpAny_pure (by exact fin)))
  · exact wpAny_tryCatch (wpAny_bind ((PySem.W.bind_fn X _ (beq_iff_eq.mp hf)).here (wpAny_pure (by exact fin))))
theorem reprUnder_own {prog : Program} {w : World} {A : Around} {E : Value → Shared → Prop} {s : Shared} {K : PySem.W.Frag} {x C f : Addr} {ox : Obj} {od : Option Obj} {b : Nat} {Q : Str → Shared → Prop} (hb : b ≤ sizeLine) (hu : A.units < cLine) (X : K.In s.heap) (I : PySem.W.InstAt s.heap x ox C od)
    (hs : PySem.W.findIn K (.ref C) "__repr__" = some (some (.ref f))) (hf : PySem.W.isFn K (.ref f) = true) (h : wpAny (model prog w) A (call (.ref f) [.ref x]) (fun v s' => ∃ t u, v = .str t u ∧ Q t s') E s) : wpAny (model prog w) A (pyReprUnder b (.ref x)) Q E s := by
  refine wpAny_pyReprUnder_ref hb ?_
  unfold pyReprObjUnder pyReprObjBy
  refine wpAny_bind (wpAny_cRoomFor hu ?_)
  refine wpAny_bind (wpAny_bind (I.type.here ((PySem.W.looks_findIn X hs).here ?_)))
  show wpAny _ _ (if (some (Value.ref f)).isNone = true then _ else _) _ _ _
  rw [if_neg (by simp)]
  refine wpAny_bind (ifBoundBy_K X I hs hf ?_)
  refine wpAny_mono h (fun v s' hv => ?_) fun _ _ e => e
  obtain ⟨t, u, rfl, q⟩ := hv
  exact wpAny_bind (wpAny_isInstance (T := "str") (b := true) rfl isSubtype_str_str (wpAny_pure ⟨t, u, rfl, q⟩))
theorem loop_depth (A : Around) (args : Args) : (A.under (.builtin "list.__repr__.loop" args)).depth ≤ A.depth + 1 := by
  first
    | exact Nat.le_refl _
    | exact Nat.le_succ _
    | (simp [Around.under, Code.weight, Code.isCreation, Code.isGuard, Code.isCaller, Code.frames, Code.isFrame, guardIds])
/-- what stands for a text: data, a deal, a list of a deal -/
def Rp (C : Addr) (H : Hp) (v : V) (t : Str) : Prop := (∃ d, Sh H v d ∧ Nice 20 100000 d ∧ t = d.shown) ∨ (∃ a d, v = .ref a ∧ DealAt C H a d ∧ PactOk d ∧ t = dealText d) ∨ (∃ l a d, v = .ref l ∧ H l = some (.lst [.ref a]) ∧ DealAt C H a d ∧ PactOk d ∧ t = listText [dealText d])
theorem Rp.same {C : Addr} {H H' : Hp} {v : V} {t : Str} (h : Rp C H v t) (s : Same H H') : Rp C H' v t := by
  rcases h with ⟨d, a, b, c⟩ | ⟨a, d, e, h1, h2, h3⟩ | ⟨l, a, d, e, h0, h1, h2, h3⟩
  · exact .inl ⟨d, a.same s, b, c⟩
  · exact .inr (.inl ⟨a, d, e, h1.same s, h2, h3⟩)
  · exact .inr (.inr ⟨l, a, d, e, s _ _ h0, h1.same s, h2, h3⟩)
/-- the class's own __repr__ -/
structure ROk (P : Program) (w : World) (K : PySem.W.Frag) (mg : Str → Option Value) (base : Heap) (C : Addr) : Prop where
  ex : ∃ (f : Addr) (fd : FuncData), PySem.W.findIn K (.ref C) "__repr__" = some (some (.ref f)) ∧ PySem.W.isFn K (.ref f) = true ∧ FnA P w K mg base CX0 GD 2 f fd ["self"] (spRepr C) ∧ Binds K fd ["self"] []
theorem dealText_len {d : Pact} (o : PactOk d) : (dealText d).length ≤ 300200 := by
  have z1 := joined_len o
  have z3 := fee_len o
  have z4 : (if d.sole = true then ("True" : Str) else "False").length ≤ 5 := by split <;> decide
  unfold dealText
  rw [strLen_append, strLen_append, strLen_append, strLen_append, strLen_append, strLen_append, strLen_append]
  have : (Str.empty).length = 0 := rfl
  have : (("Deal(" : Str)).length = 5 := rfl
  have : ((", alone=" : Str)).length = 8 := rfl
  have : ((", price=" : Str)).length = 8 := rfl
  have : ((")" : Str)).length = 1 := rfl
  omega
def rReprA (C : Addr) : List V → Hp → VK → Prop := fun vs H Q => ∃ v t, vs = [v] ∧ Rp C H v t ∧ ∀ H', Same H H' → Q (.str t) H'
section
variable {X : Cx} {C : Addr} {k : Nat}
/-- the own __repr__ at any A below -/
theorem run_repr {pins : List (Addr × Obj)} {σ : L2.St} {H : Hp} {s : Shared} {A : Around} {gs : List Code} {c : Bool} {pn : List (Addr × Obj)} {f : Addr} {fd : FuncData} {a : Addr} {d : Pact} (F : FnA X.prog X.w X.K X.mg X.base CX0 GD 2 f fd ["self"] (spRepr C)) (hb : Binds X.K fd ["self"] []) (hr : RoomH 2 A) (h0 : A.guards = some gs) (hG : GD gs H)
    (hp : Pinned A X.stack H s c pn) (e0 : Env0 X.prog X.w X.K X.mg X.base A X.stack s H) (I : Inv X pins σ H s) (hd : DealAt C H a d) (o : PactOk d) {Q : Value → Shared → Prop}
    (h : ∀ u s' H', Inv X pins σ H' s' → Same H H' → Q (.str (dealText d) u) s') : wpAny (model X.prog X.w) A (call (.ref f) [.ref a]) Q X.xe s := by
  refine wpAny_mono (run_a (vs := [.ref a]) (Q := fun v H' => v = .str (dealText d) ∧ Same H H') (E := fun _ _ _ => False) F hr h0 hG hp e0 hb pass0 I (.cons rfl .nil) ⟨a, d, rfl, hd, o, fun H' s' => ⟨rfl, s'⟩⟩) (fun u s' z => ?_) fun _ _ e => e
  obtain ⟨v, H', I', r, rfl, sm⟩ := I.after z
  obtain ⟨t, rfl⟩ := r
  exact h t s' H' I' sm
theorem cr_reprA (R : ROk X.prog X.w X.K X.mg X.base C) (hg : X.A.guards = some []) (ca : CoH X) (hr : RoomH 3 X.A) : CallR X (.builtin "repr") (rReprA C) := by
  intro pins s σ H vs us Q I r h
  have hun := hr.un
  have hdp := hr.dp
  obtain ⟨f, fd, hs, hf, F1, hb⟩ := R.ex
  obtain ⟨v, t, rfl, how, q⟩ := h
  rcases how with ⟨d, sh, ni, rfl⟩ | ⟨a, d, rfl, hd, o, rfl⟩ | ⟨l, a, d, rfl, hl, hd, o, rfl⟩
  · exact cr_repr hg (by omega) pins s σ H _ us Q I r ⟨v, d, rfl, sh, ni.show_, ni.deep, ni.fits (Nat.le_refl _), q H (Same.refl H)⟩
  · obtain ⟨u, rfl, rv⟩ := vals1 r
    obtain rfl : u = Value.ref a := rv
    obtain ⟨dx, fs, ha, _⟩ := hd.fld
    obtain ⟨mA, O, _⟩ := ins_get I.hok ha
    obtain ⟨od, J, _⟩ := O.look
    obtain ⟨m, fr⟩ := I.fr
    obtain ⟨cc, pn, hp⟩ := pinned_of ca I
    refine PySem.W.repr_K (by show X.A.units + 1 < _; omega) fr I.mod.kin J hs hf ?_
    exact run_repr (A := X.A.in1) F1 hb ⟨by show X.A.depth + _ < _; omega, by show X.A.units + 1 + _ < _; omega⟩ hg (GD.nil _) hp I.env0.in1 I hd o fun u s' H' I' sm => ⟨.str (dealText d), H', I', ⟨u, rfl⟩, q H' sm⟩
  · obtain ⟨u, rfl, rv⟩ := vals1 r
    obtain rfl : u = Value.ref l := rv
    obtain ⟨oa, its, n, rl, h1, h2, h3⟩ := at_lst I.hok hl
    obtain ⟨x, rfl, rx⟩ := vals1 rl
    obtain rfl : x = Value.ref a := rx
    have tl := dealText_len o
    have ll : (listText [dealText d]).length ≤ 300202 := by
      show ((("[" : Str) ++ (if 0 > 0 then ", " else "" : String) ++ dealText d) ++ ("]" : Str)).length ≤ _
      rw [strLen_append, strLen_append, strLen_append]
      have : (("[" : Str)).length = 1 := rfl
      have : (("]" : Str)).length = 1 := rfl
      have : (Str.ofString (if 0 > 0 then ", " else "" : String)).length = 0 := rfl
      omega
    refine call_repr_slot (by omega) (show s.TypeIs (.ref l) "list" from ⟨oa, h1, h2⟩) F.slot_list_repr.toG ?_
    refine wpAny_call (codeAny_call_builtin F.slot_list_repr.plain F.entry_list_repr (F.slot_list_repr.check _ _ _ _ _ _ _ _ ⟨oa, h1, h2⟩ (F.args_list_repr_1 _) ?_))
    refine wpAny_list_repr_head (A := X.A.in1.in1) (b := 0) (g := []) hg (fun _ _ _ z => nomatch z) h1 h3 ?_
    refine wpAny_bind (m := newList []) (wpAny_newObj_type ?_)
    refine wpAny_pure ⟨F.quiet_list_repr_loop _, ?_⟩
    have I1 : Inv X pins σ (upd H s.heap.objs.size (.lst [])) { s with heap := s.heap.push { cls := .type "list", data := .seq ([] : List Value).toArray } } := I.lnew (t' := s.toks) (its := []) .nil (Nat.zero_le _)
    have nP : H s.heap.objs.size = none := I.hok.fresh (Nat.le_refl _)
    have s1 : Same H (upd H s.heap.objs.size (.lst [])) := same_upd nP
    generalize hP : s.heap.objs.size = P at *
    generalize hS : ({ s with heap := s.heap.push { cls := .type "list", data := .seq ([] : List Value).toArray } } : Shared) = t1 at *
    have g1 : t1.heap.get? l = some oa := by rw [← hS]; exact Heap.get?_push_of_some _ h1
    refine codeAny_builtin F.entry_list_repr_loop ?_
    show wpAny _ _ (Builtin.«list.__repr__.loop» ⟨[.ref l, .int 0 0, .ref P, .int 0 0], []⟩) _ _ _
    rw [repr_loop_tree]
    refine wpAny_bind (wpAny_listItems g1 h3 ?_)
    have hsome : ([Value.ref a] : List Value).toArray[(0 : Int).toNat]? = some (.ref a) := by simp
    simp only [hsome]
    have hd1 := hd.same s1
    obtain ⟨dx, fs, ha, _⟩ := hd1.fld
    obtain ⟨mA, O, _⟩ := ins_get I1.hok ha
    obtain ⟨od, J, _⟩ := O.look
    obtain ⟨cc, pn, hp⟩ := pinned_of ca I1
    have e0 := I1.env0
    refine wpAny_bind (wpAny_holding (reprUnder_own (by decide) (by rw [units_under_list_loop]; show X.A.units + 1 + 1 < _; omega) I1.kIn J hs hf ?_))
    refine run_repr (A := X.A.in1.under (.builtin "list.__repr__.loop" ⟨[.ref l, rawInt 0, .ref P, rawInt 0], []⟩)) F1 hb ⟨Nat.lt_of_le_of_lt (Nat.add_le_add_right (Nat.add_le_add_right (loop_depth _ _) _) _) (by show X.A.depth + 1 + 3 * 2 + 5 < _; omega), by rw [units_under_list_loop]; show X.A.units + 1 + 1 + 16 * 2 + 200 < _; omega⟩ (guards_under_guard (isGuard_list_loop _) hg) (fun b hb' => (Clear.nil b).cons (a := l) fun e => ?_) hp
      ⟨by first | exact e0.frames | (simpa [Around.under, Code.envs, Code.isFrame, pushEnvs] using e0.frames), e0.mod, e0.bs, e0.bsz, e0.funs, e0.frf, e0.hok, e0.bare⟩ I1 hd1 o fun u s2 H2 I2 sm => ⟨_, u, rfl, ?_⟩
    · subst e
      exact hb' _ (s1 _ _ hl)
    refine wpAny_bind (wpAny_mkStr ?_ (by rw [sizeLine_eq]; omega))
    refine wpAny_bind ?_
    show wpAny _ _ (updateSeq P _) _ _ _
    have eP : H2 P = some (.lst []) := sm _ _ upd_same
    obtain ⟨_, itsP, nP', rP, hlP, gP⟩ := I2.lstM eP
    cases rP
    refine wpAny_updateSeq gP rfl (wpAny_pure ⟨F.quiet_list_repr_loop _, ?_⟩) (Nat.zero_le _)
    have I3 := I2.lset (its' := [.str (dealText d) s2.toks]) (ys := [.str (dealText d)]) (t' := s2.toks + 1) (f := fun x => x.push (.str (dealText d) s2.toks)) eP gP (by rfl) (.cons ⟨_, rfl⟩ .nil) (show (1 : Nat) ≤ sizeLine by decide)
    have lP : l ≠ P := ne_of_none hl nP
    have hl3 : upd H2 P (.lst [.str (dealText d)]) l = some (.lst [.ref a]) := by rw [upd_ne lP]; exact sm _ _ (s1 _ _ hl)
    have s3 : Same H (upd H2 P (.lst [.str (dealText d)])) := fun b u e => by
      rw [upd_ne (ne_of_none e nP)]
      exact sm _ _ (s1 _ _ e)
    generalize hS3 : ({ s2 with heap := s2.heap.update P (Obj.mapSeq fun x => x.push (.str (dealText d) s2.toks)), toks := s2.toks + 1 } : Shared) = t3 at *
    obtain ⟨oa3, its3, n3, rl3, k1, k2, k3⟩ := at_lst I3.hok hl3
    obtain ⟨x3, rfl, _⟩ := vals1 rl3
    obtain ⟨_, itsQ, nQ, rQ, _, gQ⟩ := I3.lstM upd_same
    obtain ⟨xQ, rfl, rq⟩ := vals1 rQ
    obtain ⟨tk, rfl⟩ := rq
    refine codeAny_builtin F.entry_list_repr_loop ?_
    show wpAny _ _ (Builtin.«list.__repr__.loop» ⟨[.ref l, .int 1 0, .ref P, .int _ 0], []⟩) _ _ _
    rw [repr_loop_tree]
    refine wpAny_bind (wpAny_listItems k1 k3 ?_)
    have hnone : ([x3] : List Value).toArray[(1 : Int).toNat]? = none := by simp
    simp only [hnone]
    unfold reprEnd
    refine wpAny_bind (wpAny_listItems gQ rfl ?_)
    rw [show ([Value.str (dealText d) tk] : List Value).toArray.toList = strValues [(dealText d, tk)] from rfl, repr_fold]
    refine wpAny_bind (wpAny_pure ?_)
    refine wpAny_bind (wpAny_mkStr (wpAny_pure ?_) (by
      have := ll
      rw [sizeLine_eq]
      show (listText [dealText d]).length ≤ _
      omega))
    exact ⟨listText [dealText d], _, rfl, .str (listText [dealText d]), _, I3.tok _, ⟨_, rfl⟩, q _ s3⟩
end
end Ld
namespace Ld
open PySem PySem.Spec PyProof.Rows L2 LamX
open L2H (RoomH)
/-! ### a lambda whose body may raise -/
/-- the lambda's body's context: what leaves it -/
def lamN (X : Cx) (A : Around) (outer : List Env) (s : Shared) (H : Hp) (E : XK) (scope : Scope) (f c' : Addr) : Cx :=
  (lamCx X A outer s H E scope f c').wish fun e s' => wpAny (model X.prog X.w) (A.deeper (lamEnv X scope s.heap.objs.size f c')) (leaving (lamEnv X scope s.heap.objs.size f c') e) (fun _ s'' => L2N.CX X.prog X.w outer H s E e s'') (fun e' s'' => L2N.CX X.prog X.w outer H s E e' s'') s'
theorem passL {X : Cx} {A : Around} {outer : List Env} {s : Shared} {H : Hp} {E : XK} {scope : Scope} {f c' : Addr} : Passes (L2N.CX X.prog X.w) (lamN X A outer s H E scope f c') E :=
  L2N.passes_call (X := lamN X A outer s H E scope f c') (W := fun cls d _ H' => E cls d H') (L2N.takes_of rfl rfl rfl rfl) fun _ _ _ _ h => h
section
variable {X : Cx} {pins : List (Addr × Obj)} {σ : L2.St} {H : Hp} {s : Shared}
/-- the call of the def's parameter, where it holds the lambda -/
theorem pe_actN {Eg : XK} {Ng : List Str} {qg : Str} {sg : Scope} {g f c' : Addr} {cdg pm ctv : Value} {params : Arguments} {body : Expr} {scope : Scope} {k i : Nat} {a : Str} {pn : List (Addr × Obj)} {xe : Value → Shared → Prop} {W : WX} {E : XK} {tb : TE} {p1 p2 : Pos}
    (I : Inv X pins σ H s) (L : LamS X.env.scope scope) (hf : s.heap.get? f = some (PySem.W.kla_obj "<lambda>" (X.env.qual ++ "<lambda>") params body scope (cloFrom X.env.cells scope.names []) pm c' ctv)) (hfn : H f = none) (hfr : f ∉ frs X.stack)
    (hbind : bindArgs (PySem.W.kla_fn "<lambda>" (X.env.qual ++ "<lambda>") params body scope (cloFrom X.env.cells scope.names []) pm (.ref c') ctv) ⟨[], []⟩ = pure [])
    (tk : L2N.Takes ((cxOf CX0 X.prog X.w X.K X.mg X.base Ng qg sg g cdg X.A X.stack s H Eg).tr pn xe) W) (hW : ∀ cls d (σ' : L2.St) H', σ'.length = Ng.length → E cls d H' → W cls d σ' H') (hr : Room (k + 1) (X.A.deeper (envOfC qg sg s.heap.objs.size g cdg)))
    (hbody : ∀ (A : Around) (outer : List Env) (s : Shared) (H : Hp), Room k (A.deeper (lamEnv X scope s.heap.objs.size f c')) → PE (lamN X A outer s H E scope f c') body tb)
    (hN : Ng[i]? = some a) (hv : Vis sg a) (hd : (a == ("__debug__" : Str)) = false := by decide) (hcd : (a == ("__classdict__" : Str)) = false := by decide) :
    PE ((cxOf CX0 X.prog X.w X.K X.mg X.base Ng qg sg g cdg X.A X.stack s H Eg).tr pn xe) (.Call (.Name a p1) [] [] p2)
      (fun σZ HZ Q => σZ[i]? = some (some (.ref f)) ∧ HZ c' = some (CodeO c' (X.env.qual ++ "<lambda>")) ∧ tb σ HZ Q) := by
  refine ⟨fun pinsZ sZ σZ HZ Q IZ h => ?_⟩
  obtain ⟨hs, hc, ht⟩ := h
  refine wpAny_Call_Name_kw (thn ((pe_var (pos := p1) (i := i) hN hv hd hcd).run pinsZ sZ σZ HZ (fun v H1 => v = .ref f ∧ H1 = HZ) IZ ⟨.ref f, hs, rfl, rfl⟩) fun u s1 ⟨v, H1, I1, r1, ev, eH⟩ => ?_)
  subst ev
  rw [eH] at I1
  obtain rfl : u = Value.ref f := r1
  have of1 : s1.heap.get? f = some (PySem.W.kla_obj "<lambda>" (X.env.qual ++ "<lambda>") params body scope (cloFrom X.env.cells scope.names []) pm c' ctv) := I1.base.keep f _ hf hfn hfr (fun z => nomatch (show f ∈ ([] : List Addr) from z))
  refine PySem.W.callWith_F0 ⟨_, _, _, _, of1⟩ ?_
  obtain ⟨⟨oc, vs, t, hoc, hdc, hvc⟩, _, _⟩ := I1.hok c' _ hc
  have rc : codeAny (model X.prog X.w) (X.A.deeper (envOfC qg sg s.heap.objs.size g cdg)) (.call (.ref f) ⟨[], []⟩) (CR (L2N.CX X.prog X.w) (envOfC qg sg s.heap.objs.size g cdg :: X.stack) X.prog X.w HZ s1 Q E) s1 := by
    refine PySem.W.kla_callFunE hr.depth of1 rfl L.co L.gen rfl ⟨c', oc, vs, t, rfl, hoc, hdc, hvc⟩ ?_
    rw [hbind]
    refine wpAny_pure (wpAny_newFunctionEnv (fun y hy => (L.own y hy).2) (fun y hy => absurd hy (by simp)) (fun h₁ hns hsb => ⟨I1.nolimit.fresh _ hsb, ?_⟩) L.kind)
    show codeAny _ _ (.expr body (lamEnv X scope s1.heap.objs.size f c')) _ _
    have kp : ∀ b o, s1.heap.get? b = some o → h₁.get? b = some o := fun b o e => hsb.extBut b o (Nat.ne_of_lt (Heap.lt_size e)) (Heap.get?_push_of_some _ e)
    have J := lam_start2 (E := E) (f := f) (c' := c') (tk := s1.toks + ([] : List (Str × Value)).length) I L I1.env0 hr.hd I1.base hns kp
    refine PySem.W.kla_codeExpr (wpAny_mono ((hbody _ _ s1 HZ (hr.deeper _)).run [] _ _ HZ Q (J.wish _) ht) (fun v s' hq => ?_) fun e s' hq => hq)
    obtain ⟨w', H', J', rv, q⟩ := hq
    exact ⟨w', H', J'.os, J'.bare, J'.base, J'.hok, rv, q⟩
  refine wpAny_call (codeAny_mono rc fun r s' hq => ?_)
  match r, hq with
  | .error e, hq => exact tk e s' (L2N.XE.of_call I1 (fun cls d H' h => hW cls d σZ H' I1.len h) hq)
  | .ok (.ret u), hq => exact I1.after hq
  | .ok .next, hq => exact False.elim hq
  | .ok .brk, hq => exact False.elim hq
  | .ok .cont, hq => exact False.elim hq
end
/-! ### isinstance(e, ..) of a caught error that bears fields -/
def rIsF (K : PySem.W.Frag) (a : Addr) (cls : Value) (d : Option Addr) : List V → Hp → VK → Prop := fun xs H Q => ∃ (D : Addr) (c : V) (cv : Value) (b : Bool) (dd : Addr) (fs : List (Str × V)), cls = .ref D ∧ ExcC K D ∧ d = some dd ∧ H dd = some (.xd fs) ∧ xs = [.ref a, c] ∧ (∀ u, RelV c u → u = cv) ∧ PySem.W.kitOne K (.ref D) cv = some b ∧ Q (.bl b) H
theorem call_isF {X : Cx} {a : Addr} {oe : Obj} {cls : Value} {d : Option Addr} {pn : List (Addr × Obj)} (hz : L2N.Zn cls d oe) (hf : ∃ vs, oe.data = .fields vs) : CallR (X.suite a ((a, oe) :: pn)) (.builtin "isinstance") (rIsF X.K a cls d) := by
  intro pins s σ H xs us Q I r h
  obtain ⟨D, c, cv, b, dd, fs, rfl, C, rfl, hdd, rfl, hcv, e, q⟩ := h
  obtain ⟨vs, hv⟩ := hf
  obtain ⟨hget, _⟩ := I.pin (a, oe) (List.mem_append.mpr (.inl List.mem_cons_self))
  have hx : ObjOk X.prog X.w H s.heap dd (.xd fs) := I.hok dd _ hdd
  obtain ⟨mA, hns, _⟩ := hx
  obtain ⟨od, ho, _⟩ := lookIn_ns hns
  have J : PySem.W.InstAt s.heap a oe D (some od) := ⟨hget, hz.1, by unfold PySem.W.notCls; rw [hv] <;> rfl, by rw [hz.2.1]; exact ho⟩
  have hcl : (PySem.W.clsIn X.K D).isSome = true := by
    obtain ⟨cd, hc, _⟩ := PySem.W.any_some C.hd
    rw [hc]
    rfl
  cases r with
  | cons rx rr =>
    cases rr with
    | cons rt rr =>
      cases rr
      cases rx
      have ec := hcv _ rt
      subst ec
      exact PySem.W.kia_one (PySem.W.kitx_exc hcl C.hg C.hk C.hs C.ha C.hn C.ht C.hm) I.kIn J e (fun z => nomatch z) fun tk => ⟨.bl b, H, I.kept (t' := tk) fun _ _ z => z, rfl, q⟩
/-! ### _law_heard -/
structure HErr (K : PySem.W.Frag) (mg : Str → Option Value) (x : Str) (CDE D : Addr) : Prop where
  at_ : mg x = some (.ref D)
  xf : XfC K D
  ec : ExcC K D
  no : PySem.W.findIn K (.ref D) "value" = some none
  k1 : PySem.W.kitOne K (.ref D) (.ref CDE) = some true
  k2 : PySem.W.kitOne K (.ref D) (.type "ValueError") = some true
structure Heard (K : PySem.W.Frag) (mg : Str → Option Value) (CDE CD CN CX : Addr) : Prop where
  b : mg "DaysError" = some (.ref CDE)
  d : HErr K mg "InvalidDates" CDE CD
  n : HErr K mg "InvalidNumber" CDE CN
  x : HErr K mg "InvalidDeal" CDE CX
  dd : PySem.W.exmOne K (.ref CD) (.ref CD) = some true
  nd : PySem.W.exmOne K (.ref CN) (.ref CD) = some false
  nn : PySem.W.exmOne K (.ref CN) (.ref CN) = some true
  xd : PySem.W.exmOne K (.ref CX) (.ref CD) = some false
  xn : PySem.W.exmOne K (.ref CX) (.ref CN) = some false
  xx : PySem.W.exmOne K (.ref CX) (.ref CX) = some true
/-- what an error tells -/
def eHeard (C : Addr) (kinds : List (Addr × Str)) (Q : VK) : XK := fun cls d H' => ∃ x v t D k, cls = .ref D ∧ (D, k) ∈ kinds ∧ d = some x ∧ H' x = some (.xd [("value", v)]) ∧ Rp C H' v t ∧ ∀ H2 p, Same H' H2 → H2 p = some (.lst [.str k, .str t, .bl true]) → Q (.ref p) H2
def rHeard (C : Addr) (kinds : List (Addr × Str)) (tl : XK → Hp → VK → Prop) (H : Hp) (Q : VK) : Prop := tl (eHeard C kinds Q) H fun _ H' => ∀ H2 p, Same H' H2 → H2 p = some (.lst [.str "told"]) → Q (.ref p) H2
theorem sc_heard : FnScope ["_law_call", "e"] ["_law_call"] (defScope sHeard) := ⟨rfl, rfl, rfl, by decide +kernel, rfl, by decide +kernel, by decide +kernel⟩
end Ld
namespace Ld
open PySem PySem.Spec PyProof.Rows L2 LamX
open L2H (RoomH)
/-! ### _law_heard(lambda: ..) -/
def kindsOf (CD CN CX : Addr) : List (Addr × Str) := [(CD, "dates"), (CN, "number"), (CX, "deal")]
def rHear (C : Addr) (kinds : List (Addr × Str)) (tl : XK → Hp → VK → Prop) (H : Hp) (Q : VK) : Prop :=
  tl (eHeard C kinds Q) H fun _ H' => [V.str "told"].length ≤ sizeLine ∧ ∀ p, H' p = none → Q (.ref p) (upd H' p (.lst [.str "told"]))
def tHear (T : List (Addr × Str)) (C : Addr) (kinds : List (Addr × Str)) (t : XK → TE) : TE := fun σ H Q => Tabs T H ∧ ∀ H1, ExtN H H1 → Tabs T H1 → rHear C kinds (fun E H' Q' => t E σ H' Q') H1 Q
theorem set_at {σ : L2.St} (h : σ.length = 2) (v : Option V) : (σ.set 1 v)[1]? = some v := by
  rw [List.getElem?_set_self (by omega)]
theorem pe_heard {X : Cx} {T : List (Addr × Str)} {C CDE CD CN CXX g c P : Addr} {gd : FuncData} {params : Arguments} {body : Expr} {scope : Scope} {t : XK → TE} {p lpos pos : Pos} (F : Fun X.K "_law_heard" "_law_heard" sHeard g gd) (hm : X.mg "_law_heard" = some (.ref g)) (hb : Binds X.K gd ["_law_call"] [])
    (B : Cs X.mg) (HK : Heard X.K X.mg CDE CD CN CXX) (R : ROk X.prog X.w X.K X.mg X.base C) (hg : Gl X "_law_heard") (h0 : X.A.guards = some []) (TB : TabB X.base X.mg c P) (hcode : X.env.code = .ref c) (hmT : (P, X.env.qual ++ "<lambda>") ∈ T) (hu : ∀ p ∈ T, p.1 = P → p.2 = X.env.qual ++ "<lambda>") (hr : Room 6 X.A)
    (L : LamS X.env.scope scope) (hdef : defaultsOf params X.env = ([], [])) (hbind : ∀ (q : Str) (cl : List (Str × Addr)) (pm cv ctv : Value), bindArgs (PySem.W.kla_fn "<lambda>" q params body scope cl pm cv ctv) ⟨[], []⟩ = pure [])
    (hbody : ∀ (A : Around) (outer : List Env) (s : Shared) (H : Hp) (E : XK) (f c' : Addr), Room 4 (A.deeper (lamEnv X scope s.heap.objs.size f c')) → PE (lamN X A outer s H E scope f c') body (t E)) :
    PE X (.Call (.Name "_law_heard" p) [.Lambda params body scope lpos] [] pos) (tHear T C (kindsOf CD CN CXX) t) := by
  refine ⟨fun pins s σ H Q I h => ?_⟩
  obtain ⟨hT, h⟩ := h
  obtain ⟨oc, od, kV, doc, pm, an, cdv, ct, osl, rfl, lk, hcd⟩ := F.ex
  refine wpAny_Call_Name_kw (ld_glob I hg hm ?_ (by decide))
  refine PySem.W.callWith_K (h₀ := X.base) I.ok.mod.kin F.kp ?_ (by rfl) (by rfl)
  show wpAny _ _ (spliced ((false, eval (.Lambda params body scope lpos) X.env) :: backTo pos (starEach [] X.env))) _ _ s
  refine Calls.spliced_cons (lam_make2 I TB hcode hmT hu hT hdef (L.has I.ok) fun f c' pm' ctv H1 s' I1 eN T1 hf hfn hfr hco => ?_)
  refine Calls.spliced_nil ⟨I1.kIn, ?_⟩
  have rc : codeAny (model X.prog X.w) X.A (.call (.ref g) ⟨[.ref f], []⟩) (CR CX0 X.stack X.prog X.w H1 s' Q E0) s' := by
    refine run_ofS (N := ["_law_call", "e"]) (ps := ["_law_call"]) (us := [.ref f]) (vs := [.ref f]) lk hcd sc_heard hr I1.env0 (hb s' [.ref f] I1.kIn rfl) (.cons rfl .nil) rfl fun hr' => ?_
    have hrS : ∀ (x : Option Value), RoomH 3 ((X.A.deeper (envOfC "_law_heard" (defScope sHeard) s'.heap.objs.size g cdv)).mark x) := fun x => by
      have r3 : Room 3 (X.A.deeper (envOfC "_law_heard" (defScope sHeard) s'.heap.objs.size g cdv)) := hr'.mono (by decide)
      exact ⟨r3.dp, r3.un⟩
    suffices hz : ∃ t, PSs (cxOf CX0 X.prog X.w X.K X.mg X.base ["_law_call", "e"] "_law_heard" (defScope sHeard) g cdv X.A X.stack s' H1 E0).nox (defBody sHeard) t ∧ t { nx := fun _ H' => Q .non H', rt := Q } (L2.start ["_law_call", "e"] [.ref f]) H1 by
      obtain ⟨t', a1, a2⟩ := hz
      exact ⟨t', a1.nox, a2⟩
    apply Exists.intro
    apply And.intro
    · exact pss_cons (ps_try_manyAs (X := (cxOf CX0 X.prog X.w X.K X.mg X.base ["_law_call", "e"] "_law_heard" (defScope sHeard) g cdv X.A X.stack s' H1 E0).nox) (i := 1) (n := "e")
          (tb := fun W D σz Hz => ∃ Ech : XK, (∀ cls d (σ' : L2.St) H', σ'.length = 2 → Ech cls d H' → W cls d σ' H') ∧ σz[0]? = some (some (.ref f)) ∧ Hz c' = some (CodeO c' (X.env.qual ++ "<lambda>")) ∧ t Ech σ Hz fun _ H' => D.nx σz H')
          rfl rfl sc_heard.nd rfl rfl
          (fun W pn xe tk _ => ⟨fun pz sz σz Hz D Iz hz => by
            obtain ⟨Ech, hW, h1, h2, h3⟩ := hz
            have hp := pe_actN (qg := "_law_heard") (sg := defScope sHeard) (g := g) (cdg := cdv) (Eg := E0) (Ng := ["_law_call", "e"]) (i := 0) (a := "_law_call") (pn := pn) (xe := xe) (W := W) (E := Ech) (p1 := ⟨278, 8, 278, 17⟩) (p2 := ⟨278, 8, 278, 19⟩) I1 L hf hfn hfr (hbind _ _ _ _ _) tk hW hr' (fun A outer s H hr2 => hbody A outer s H Ech f c' hr2) rfl (Or.inl rfl)
            exact (pss_one (ps_expr hp)).run pz sz σz Hz D Iz ⟨h1, h2, h3⟩⟩)
          (.cons ⟨rfl, by decide, .inl HK.d.at_⟩ (fun a oe cls d pn hz hf => pss_one (ps_ret (pe_lst (pa_cons pe_str (pa_cons (pe_callB (r := rReprA C) (cr_reprA R h0 (.inr (hotC_suite hz hf)) (hrS _)) rfl (B.nb _ (by decide)) rfl (pa_cons (pe_xf HK.d.xf HK.d.no hz.zc hf (pv 1)) pa_nil))
              (pa_cons (pe_and (pe_callB (r := rIsF X.K a cls d) (call_isF hz hf) rfl (B.nb _ (by decide)) rfl (pa_cons (pv 1) (pa_cons (pe_glob (v := .ref CDE) rfl HK.b rfl) pa_nil))) (pe_one (pe_callB (r := rIsF X.K a cls d) (call_isF hz hf) rfl (B.nb _ (by decide)) rfl (pa_cons (pv 1) (pa_cons (pe_bltn (u := .type "ValueError") (v := .ty "ValueError") rfl (B.nb _ (by decide)) rfl rfl) pa_nil))))) pa_nil))))))
          (.cons ⟨rfl, by decide, .inl HK.n.at_⟩ (fun a oe cls d pn hz hf => pss_one (ps_ret (pe_lst (pa_cons pe_str (pa_cons (pe_callB (r := rReprA C) (cr_reprA R h0 (.inr (hotC_suite hz hf)) (hrS _)) rfl (B.nb _ (by decide)) rfl (pa_cons (pe_xf HK.n.xf HK.n.no hz.zc hf (pv 1)) pa_nil))
              (pa_cons (pe_callB (r := rIsF X.K a cls d) (call_isF hz hf) rfl (B.nb _ (by decide)) rfl (pa_cons (pv 1) (pa_cons (pe_glob (v := .ref CDE) rfl HK.b rfl) pa_nil))) pa_nil))))))
          (.cons ⟨rfl, by decide, .inl HK.x.at_⟩ (fun a oe cls d pn hz hf => pss_one (ps_ret (pe_lst (pa_cons pe_str (pa_cons (pe_callB (r := rReprA C) (cr_reprA R h0 (.inr (hotC_suite hz hf)) (hrS _)) rfl (B.nb _ (by decide)) rfl (pa_cons (pe_xf HK.x.xf HK.x.no hz.zc hf (pv 1)) pa_nil))
              (pa_cons (pe_callB (r := rIsF X.K a cls d) (call_isF hz hf) rfl (B.nb _ (by decide)) rfl (pa_cons (pv 1) (pa_cons (pe_glob (v := .ref CDE) rfl HK.b rfl) pa_nil))) pa_nil)))))) .nil))))
        (pss_one (ps_ret (pe_lst (pa_cons pe_str pa_nil))))
    · have hk := h H1 eN T1
      refine ⟨eHeard C (kindsOf CD CN CXX) Q, fun cls d σ' H' hl he => ?_, rfl, hco, hk⟩
      obtain ⟨x, v, t0, D, k, rfl, hmem, rfl, hx, rp, q⟩ := he
      have slot : ∀ a : Addr, (σ'.set 1 (some (V.ref a)))[1]? = some (some (.ref a)) := fun a => set_at hl _
      have is1 : ∀ {DD : Addr} {a : Addr} {H2 : Hp} {R : VK} (ec : ExcC X.K DD) (k1 : PySem.W.kitOne X.K (.ref DD) (.ref CDE) = some true), H2 x = some (.xd [("value", v)]) → R (.bl true) H2 → rIsF X.K a (.ref DD) (some x) [.ref a, .ref CDE] H2 R := fun {DD a H2 R} ec k1 h2 r =>
        ⟨DD, .ref CDE, .ref CDE, true, x, _, rfl, ec, rfl, h2, rfl, fun u ru => ru, k1, r⟩
      simp only [kindsOf, List.mem_cons, Prod.mk.injEq, List.not_mem_nil, or_false] at hmem
      rcases hmem with ⟨rfl, rfl⟩ | ⟨rfl, rfl⟩ | ⟨rfl, rfl⟩
      · refine ⟨true, HK.dd, fun _ a na => ?_, fun z => nomatch z⟩
        refine ⟨.ref a, slot a, rfl, rfl, x, _, v, rfl, hx, rfl, v, t0, rfl, rp, fun H2 s2 => ?_⟩
        refine ⟨.ref a, slot a, D, .ref CDE, .ref CDE, true, x, _, rfl, HK.d.ec, rfl, s2 _ _ hx, rfl, fun u ru => ru, HK.d.k1, true, rfl, iteT ?_⟩
        refine ⟨.ref a, slot a, D, .ty "ValueError", .type "ValueError", true, x, _, rfl, HK.d.ec, rfl, s2 _ _ hx, rfl, fun u ru => ru, HK.d.k2, (show (3 : Nat) ≤ sizeLine by decide), fun p np => q _ p (s2.trans (same_upd np)) upd_same⟩
      · refine ⟨false, HK.nd, (fun z => nomatch z), fun _ => ⟨true, HK.nn, fun _ a na => ?_, fun z => nomatch z⟩⟩
        refine ⟨.ref a, slot a, rfl, rfl, x, _, v, rfl, hx, rfl, v, t0, rfl, rp, fun H2 s2 => ?_⟩
        refine ⟨.ref a, slot a, D, .ref CDE, .ref CDE, true, x, _, rfl, HK.n.ec, rfl, s2 _ _ hx, rfl, fun u ru => ru, HK.n.k1, (show (3 : Nat) ≤ sizeLine by decide), fun p np => q _ p (s2.trans (same_upd np)) upd_same⟩
      · refine ⟨false, HK.xd, (fun z => nomatch z), fun _ => ⟨false, HK.xn, (fun z => nomatch z), fun _ => ⟨true, HK.xx, fun _ a na => ?_, fun z => nomatch z⟩⟩⟩
        refine ⟨.ref a, slot a, rfl, rfl, x, _, v, rfl, hx, rfl, v, t0, rfl, rp, fun H2 s2 => ?_⟩
        refine ⟨.ref a, slot a, D, .ref CDE, .ref CDE, true, x, _, rfl, HK.x.ec, rfl, s2 _ _ hx, rfl, fun u ru => ru, HK.x.k1, (show (3 : Nat) ≤ sizeLine by decide), fun p np => q _ p (s2.trans (same_upd np)) upd_same⟩
  refine wpAny_call (codeAny_mono rc fun r s2 hq => ?_)
  match r, hq with
  | .error e, hq => exact (show False from hq).elim
  | .ok (.ret u), hq => exact I1.after hq
  | .ok .next, hq => exact False.elim hq
  | .ok .brk, hq => exact False.elim hq
  | .ok .cont, hq => exact False.elim hq
end Ld
namespace Ld
open PySem PySem.Spec PyProof.Rows L2
/-! ### the pot -/
def PotAt (H : Hp) (a : Addr) : Prop := ∃ x y : Int, H a = some (.lst [.int x, .int y]) ∧ 0 ≤ x ∧ 0 ≤ y ∧ y < 2147483648
theorem SqL.off {K : PySem.W.Frag} {H H' : Hp} {a x : Addr} {xs : List V} (h : SqL K H a xs) (o : Off x H H') (ne : a ≠ x) : SqL K H' a xs := by
  rcases h with h | h
  · rcases h with h | ⟨ob, h⟩
    · exact .inl (.inl (o _ _ h ne))
    · exact .inl (.inr ⟨ob, o _ _ h ne⟩)
  · exact .inr h
def spPot (K : PySem.W.Frag) : Sp := fun vs H Q _ => ∃ (a : Addr) (ns : List Int) (k : Int), vs = [.ref a, .int k] ∧ SqL K H a (ns.map V.int) ∧ ns.length < 2 ^ 40 ∧ 0 ≤ k ∧ k < 1000 ∧ ∀ p H', H p = none → Same H H' → PotAt H' p → Q (.ref p) H'
def spDraw : Sp := fun vs H Q _ => ∃ a m, vs = [.ref a, .int m] ∧ PotAt H a ∧ 0 < m ∧ m < 1000 ∧ ∀ H' r, Off a H H' → PotAt H' a → 0 ≤ r → r < m → Q (.int r) H'
def spPick : Sp := fun vs H Q _ => ∃ (a l : Addr) (xs : List V), vs = [.ref a, .ref l] ∧ PotAt H a ∧ l ≠ a ∧ H l = some (.lst xs) ∧ xs ≠ [] ∧ xs.length < 1000 ∧ ∀ (H' : Hp) (i : Nat) (v : V), Off a H H' → PotAt H' a → xs[i]? = some v → Q v H'
/-- some of l, all different -/
def Some_ (l ys : List Str) (n : Nat) : Prop := ys.length = n ∧ (∀ y ∈ ys, y ∈ l) ∧ (l.Nodup → ys.Nodup)
def spSome : Sp := fun vs H Q _ => ∃ (a pl : Addr) (l : List Str) (n : Nat), vs = [.ref a, .ref pl, .int (n : Nat)] ∧ PotAt H a ∧ pl ≠ a ∧ H pl = some (.lst (l.map V.str)) ∧ n ≤ l.length ∧ l.length < 100 ∧ ∀ (H' : Hp) (p : Addr) (ys : List Str), Off a H H' → PotAt H' a → H p = none → H' p = some (.lst (ys.map V.str)) → Some_ l ys n → Q (.ref p) H'
section
variable {P : Program} {w : World} {K : PySem.W.Frag} {mg : Str → Option Value} {base : Heap} {f : Addr} {fd : FuncData}
theorem sc_pot : FnScope ["_law_script", "_law_k", "_law_taken"] ["_law_script", "_law_k"] (defScope sPot) := ⟨rfl, rfl, rfl, by decide +kernel, rfl, by decide +kernel, by decide +kernel⟩
theorem ok_pot (F : Fun K "_law_pot" "_law_pot" sPot f fd) (B : Cs mg) : FnOk P w K mg base CX0 1 f fd ["_law_script", "_law_k"] (spPot K) := by
  refine F.ok sc_pot (fun vs H Q E h => ?_) fun cdv A outer s H vs Q E hr h => ?_
  · obtain ⟨a, ns, k, rfl, _⟩ := h
    rfl
  · obtain ⟨a, ns, k, rfl, ha, hl, k0, k1, q⟩ := h
    apply Exists.intro
    apply And.intro
    · exact pss_cons (ps_set (i := 2) sc_pot.nd rfl (Or.inl rfl) (pe_op op_add (pe_op op_mul pe_int (pv 1)) pe_int))
        (pss_cons (ps_if (pt_cmpR op_lt (pv 1) (pe_callB call_len_seq rfl (B.nb _ (by decide)) rfl (pa_cons (pv 0) pa_nil)) (nomark _)) (pss_one (ps_set (i := 2) sc_pot.nd rfl (Or.inl rfl) (pe_callB call_abs rfl (B.nb _ (by decide)) rfl (pa_cons (pe_ix ix_list (pv 0) (pv 1) (fun _ _ => rfl)) pa_nil)))) pss_nil)
        (pss_one (ps_ret (pe_lst (pa_cons (pe_callB (call_max2 rfl) rfl (B.nb _ (by decide)) rfl (pa_cons pe_int (pa_cons (pe_op op_sub (pv 2) (pe_op op_pow pe_int pe_int)) pa_nil)))
          (pa_cons (pe_op op_add (pe_op op_mod (pe_op op_mul (pe_callTy call_int1 rfl (B.nb _ (by decide)) rfl (pa_cons (pe_op op_add (pe_op op_mod (pe_callTy call_int1 rfl (B.nb _ (by decide)) rfl (pa_cons (pv 2) pa_nil)) pe_int) pe_int) pa_nil)) (pe_op op_pow (pe_op op_add (pe_op op_mul pe_int (pv 1)) pe_int) pe_int)) pe_int) pe_int) pa_nil))))))
    · have abs0 : ∀ i : Int, 0 ≤ (if i < 0 then -i else i) := fun i => by split <;> omega
      refine ⟨_, rfl, 31, k, rfl, rfl, .inl ⟨by decide, by decide⟩, _, 11, rfl, rfl, ?_⟩
      refine ⟨_, rfl, _, rfl, a, _, rfl, .inl ha, k, _, rfl, rfl, _, rfl, ?_⟩
      have fin : ∀ (t : Int), 0 ≤ t → ∀ (z : Int), 0 ≤ z → ∀ p, H p = none → Q (.ref p) (upd H p (.lst [.int (if t - 10 ^ 18 > 0 then t - 10 ^ 18 else 0), .int (z % 2147483489 + 1)])) := fun t ht z hz p np =>
        q p _ np (same_upd np) ⟨_, _, upd_same, by split <;> omega, by omega, by omega⟩
      by_cases lt : k < ((ns.map V.int).length : Int)
      · rw [decide_eq_true lt]
        rw [List.length_map] at lt
        obtain ⟨j, rfl⟩ := Int.eq_ofNat_of_zero_le k0
        have hj : j < ns.length := by omega
        refine iteT ⟨_, rfl, _, rfl, a, ns.map V.int, (j : Int), .int ns[j], rfl, rfl, ha, atI_nat (by rw [List.getElem?_map, List.getElem?_eq_getElem hj]; rfl), _, rfl, ?_⟩
        have ht := abs0 ns[j]
        refine ⟨_, rfl, 10, 18, rfl, rfl, ⟨by decide, by decide, by decide⟩, _, _, rfl, rfl, 0, _, rfl, ?_⟩
        refine ⟨_, rfl, .inl ⟨_, rfl, _, 2147483563, rfl, rfl, (show (0 : Int) < 2147483563 by decide), _, 29, rfl, rfl, .inl ⟨_, rfl, ?_⟩⟩⟩
        refine ⟨_, rfl, 2, (j : Int), rfl, rfl, .inl ⟨by decide, by decide⟩, _, 7, rfl, rfl, _, 3, rfl, rfl, ⟨by decide, by decide, by omega⟩, _, _, rfl, rfl, .inl ⟨by omega, by omega⟩, _, 2147483489, rfl, rfl, (show (0 : Int) < 2147483489 by decide), _, 1, rfl, rfl, (show (2 : Nat) ≤ sizeLine by decide), fun p np => ?_⟩
        exact fin _ ht _ (Int.mul_nonneg (by omega) (Int.pow_nonneg (by omega))) p np
      · rw [decide_eq_false lt]
        refine iteF ?_
        have ht : 0 ≤ 31 * k + 11 := by omega
        refine ⟨_, rfl, 10, 18, rfl, rfl, ⟨by decide, by decide, by decide⟩, _, _, rfl, rfl, 0, _, rfl, ?_⟩
        refine ⟨_, rfl, .inl ⟨_, rfl, _, 2147483563, rfl, rfl, (show (0 : Int) < 2147483563 by decide), _, 29, rfl, rfl, .inl ⟨_, rfl, ?_⟩⟩⟩
        refine ⟨_, rfl, 2, k, rfl, rfl, .inl ⟨by decide, by decide⟩, _, 7, rfl, rfl, _, 3, rfl, rfl, ⟨by decide, by decide, by omega⟩, _, _, rfl, rfl, .inl ⟨by omega, by omega⟩, _, 2147483489, rfl, rfl, (show (0 : Int) < 2147483489 by decide), _, 1, rfl, rfl, (show (2 : Nat) ≤ sizeLine by decide), fun p np => ?_⟩
        exact fin _ ht _ (Int.mul_nonneg (by omega) (Int.pow_nonneg (by omega))) p np
end
end Ld
namespace Ld
open PySem PySem.Spec PyProof.Rows L2
theorem off_new {a R : Addr} {H H' : Hp} {o : HO} (f : Off a H H') (n : H R = none) : Off a H (upd H' R o) := fun b u e ne => by
  rw [upd_ne (ne_of_none e n)]
  exact f b u e ne
theorem PotAt.off {H H' : Hp} {a x : Addr} (h : PotAt H a) (o : Off x H H') (ne : a ≠ x) : PotAt H' a := by
  obtain ⟨u, v, e, r⟩ := h
  exact ⟨u, v, o _ _ e ne, r⟩
theorem PotAt.same {H H' : Hp} {a : Addr} (h : PotAt H a) (s : Same H H') : PotAt H' a := by
  obtain ⟨u, v, e, r⟩ := h
  exact ⟨u, v, s _ _ e, r⟩
theorem PotAt.ne {H : Hp} {a p : Addr} (h : PotAt H a) (n : H p = none) : p ≠ a := fun z => by
  obtain ⟨u, v, e, _⟩ := h
  rw [z, e] at n
  cases n
theorem erase_map {α β : Type} (f : α → β) : ∀ (l : List α) (k : Nat), (l.map f).eraseIdx k = (l.eraseIdx k).map f
  | [], _ => rfl
  | _ :: _, 0 => rfl
  | x :: r, k + 1 => by
    show f x :: (r.map f).eraseIdx k = f x :: (r.eraseIdx k).map f
    rw [erase_map f r k]
theorem erase_perm {α : Type} : ∀ (l : List α) (k : Nat) (h : k < l.length), (l[k] :: l.eraseIdx k).Perm l
  | [], _, h => by simp at h
  | x :: r, 0, _ => List.Perm.refl _
  | x :: r, k + 1, h => by
    have hk : k < r.length := by simpa using h
    have ih := erase_perm r k hk
    show (r[k] :: x :: r.eraseIdx k).Perm (x :: r)
    exact (List.Perm.swap x r[k] _).trans (List.Perm.cons x ih)
section
variable {P : Program} {w : World} {K : PySem.W.Frag} {mg : Str → Option Value} {base : Heap} {f : Addr} {fd : FuncData}
theorem sc_draw : FnScope ["_law_pot_here", "_law_many", "_law_digit"] ["_law_pot_here", "_law_many"] (defScope sDraw) := ⟨rfl, rfl, rfl, by decide +kernel, rfl, by decide +kernel, by decide +kernel⟩
theorem ok_draw (F : Fun K "_law_draw" "_law_draw" sDraw f fd) (B : Cs mg) : FnOk P w K mg base CX0 1 f fd ["_law_pot_here", "_law_many"] spDraw := by
  refine F.ok sc_draw (fun vs H Q E h => ?_) fun cdv A outer s H vs Q E hr h => ?_
  · obtain ⟨a, m, rfl, _⟩ := h
    rfl
  · obtain ⟨a, m, rfl, ⟨x, y, ha, hx, hy, hy2⟩, m0, m1, q⟩ := h
    apply Exists.intro
    apply And.intro
    · exact pss_cons (ps_if (pt_cmpR op_gt (pe_ix ix_list (pv 0) pe_int (fun _ _ => rfl)) pe_int (nomark _)) (pss_cons (ps_asg (pe_callB call_divmod rfl (B.nb _ (by decide)) rfl (pa_cons (pe_ix ix_list (pv 0) pe_int (fun _ _ => rfl)) (pa_cons (pv 1) pa_nil)))
            (pg_tup rfl (pgs_cons (pg_sub (pv 0) pe_int set_list) (pgs_cons (pg_name (i := 2) sc_draw.nd rfl (Or.inl rfl)) pgs_nil)))) (pss_one (ps_ret (pv 2)))) pss_nil)
        (pss_cons (ps_asg (pe_op op_mod (pe_callTy call_int1 rfl (B.nb _ (by decide)) rfl (pa_cons (pe_op op_add (pe_op op_mul (pe_ix ix_list (pv 0) pe_int (fun _ _ => rfl)) pe_int) pe_int) pa_nil)) pe_int) (pg_sub (pv 0) pe_int set_list))
        (pss_one (ps_ret (pe_op op_mod (pe_callTy call_int1 rfl (B.nb _ (by decide)) rfl (pa_cons (pe_op op_fdiv (pe_op op_mod (pe_callTy call_int1 rfl (B.nb _ (by decide)) rfl (pa_cons (pe_op op_mul (pe_ix ix_list (pv 0) pe_int (fun _ _ => rfl)) (pe_ix ix_list (pv 0) pe_int (fun _ _ => rfl))) pa_nil)) pe_int) pe_int) pa_nil)) (pv 1)))))
    · refine ⟨_, rfl, a, _, 0, .int x, rfl, rfl, SqL.of ha, rfl, x, 0, rfl, rfl, _, rfl, ?_⟩
      by_cases lt : 0 < x
      · rw [decide_eq_true lt]
        refine iteT ⟨_, rfl, a, _, 0, .int x, rfl, rfl, SqL.of ha, rfl, _, rfl, x, m, rfl, ⟨m0, by omega⟩, fun p np => ?_⟩
        have pa : a ≠ p := ne_of_none ha np
        have ha2 : upd H p (.tup [.int (x / m), .int (x % m)]) a = some (.lst [.int x, .int y]) := by rw [upd_ne pa]; exact ha
        refine ⟨p, _, rfl, SqT.of upd_same, rfl, _, _, rfl, _, rfl, a, _, 0, 0, rfl, rfl, ha2, rfl, _, _, rfl, rfl, _, rfl, ?_⟩
        exact q _ _ (fun b o e ne => by rw [upd_ne ne, upd_ne (ne_of_none e np)]; exact e) ⟨x / m, y, upd_same, Int.ediv_nonneg hx (Int.le_of_lt m0), hy, hy2⟩ (Int.emod_nonneg _ (by omega)) (Int.emod_lt_of_pos _ m0)
      · rw [decide_eq_false lt]
        refine iteF ⟨_, rfl, a, _, 1, .int y, rfl, rfl, SqL.of ha, rfl, _, _, rfl, rfl, .inl ⟨by omega, by omega⟩, _, 14033, rfl, rfl, .inl ⟨_, rfl, _, 2147483629, rfl, rfl, (show (0 : Int) < 2147483629 by decide), ?_⟩⟩
        refine ⟨_, rfl, a, _, 1, 1, rfl, rfl, ha, rfl, ?_⟩
        have y0 : 0 ≤ (y * 39373 + 14033) % 2147483629 := Int.emod_nonneg _ (by decide)
        have y1 : (y * 39373 + 14033) % 2147483629 < 2147483629 := Int.emod_lt_of_pos _ (by decide)
        refine ⟨_, rfl, a, _, 1, _, rfl, rfl, SqL.of upd_same, rfl, _, rfl, a, _, 1, _, rfl, rfl, SqL.of upd_same, rfl, _, _, rfl, rfl, .inl ⟨by omega, by omega⟩, ?_⟩
        refine .inl ⟨_, rfl, _, 2147483563, rfl, rfl, (show (0 : Int) < 2147483563 by decide), _, 17, rfl, rfl, ⟨by decide, by decide⟩, .inl ⟨_, rfl, _, rfl, _, m, rfl, rfl, m0, ?_⟩⟩
        exact q _ _ Off.put ⟨x, _, upd_same, hx, y0, by omega⟩ (Int.emod_nonneg _ (by omega)) (Int.emod_lt_of_pos _ m0)
theorem sc_pick : FnScope ["_law_pot_here", "_law_some_here"] ["_law_pot_here", "_law_some_here"] (defScope sPick) := ⟨rfl, rfl, rfl, by decide +kernel, rfl, by decide +kernel, by decide +kernel⟩
theorem ok_pick (F : Fun K "_law_pick" "_law_pick" sPick f fd) (B : Cs mg) (G1 : GOk P w K mg base CX0 1 "_law_draw" spDraw) : FnOk P w K mg base CX0 2 f fd ["_law_pot_here", "_law_some_here"] spPick := by
  refine F.ok sc_pick (fun vs H Q E h => ?_) fun cdv A outer s H vs Q E hr h => ?_
  · obtain ⟨a, l, xs, rfl, _⟩ := h
    rfl
  · obtain ⟨a, l, xs, rfl, ha, ne, hl, hne, lx, q⟩ := h
    apply Exists.intro
    apply And.intro
    · exact pss_one (ps_ret (pe_ix ix_list (pv 1) (pe_g G1 hr (Nat.le_refl _) rfl pass0 (pa_cons (pv 0) (pa_cons (pe_callB call_len_seq rfl (B.nb _ (by decide)) rfl (pa_cons (pv 1) pa_nil)) pa_nil))) (fun _ _ => rfl)))
    · have l0 : 0 < xs.length := List.length_pos_iff.mpr hne
      refine ⟨_, rfl, _, rfl, _, rfl, l, xs, rfl, .inl (SqL.of hl), a, (xs.length : Int), rfl, ha, by omega, by omega, fun H' r o p r0 r1 => ?_⟩
      obtain ⟨j, rfl⟩ := Int.eq_ofNat_of_zero_le r0
      have hj : j < xs.length := by omega
      have e : xs[j]? = some xs[j] := List.getElem?_eq_getElem hj
      exact ⟨l, xs, (j : Int), _, rfl, rfl, SqL.of (o _ _ hl ne), atI_nat e, q H' j _ o p e⟩
theorem sc_some : FnScope ["_law_pot_here", "_law_pool", "_law_many", "_law_rest", "_law_found", "_law_turn"] ["_law_pot_here", "_law_pool", "_law_many"] (defScope sSome) := ⟨rfl, rfl, rfl, by decide +kernel, rfl, by decide +kernel, by decide +kernel⟩
theorem ok_some (F : Fun K "_law_some" "_law_some" sSome f fd) (B : Cs mg) (G1 : GOk P w K mg base CX0 1 "_law_draw" spDraw) : FnOk P w K mg base CX0 2 f fd ["_law_pot_here", "_law_pool", "_law_many"] spSome := by
  refine F.ok sc_some (fun vs H Q E h => ?_) fun cdv A outer s H vs Q E hr h => ?_
  · obtain ⟨a, pl, l, n, rfl, _⟩ := h
    rfl
  · obtain ⟨a, pl, l, n, rfl, ha, ne, hp, hn, hl, q⟩ := h
    apply Exists.intro
    apply And.intro
    · exact pss_cons (ps_par (i := 3) (j := 4) rfl sc_some.nd rfl rfl (by decide) rfl rfl (pa_cons (pe_callTy call_list_of rfl (B.nb _ (by decide)) rfl (pa_cons (pv 1) pa_nil)) (pa_cons (pe_lst pa_nil) pa_nil)) rfl)
        (pss_cons (ps_for PassesOwn.never rfl (pi_range1 rfl (B.nb _ (by decide)) (pa_cons (pv 2) pa_nil)) (pg_name (i := 5) sc_some.nd rfl (Or.inl rfl)) (pss_one (ps_expr (pe_bm PySem.F.plainAttrs_list PySem.F.slot_list_append PySem.F.type_list_append mt_append (pv 4)
          (pa_cons (pe_bm PySem.F.plainAttrs_list PySem.F.slot_list_pop PySem.F.type_list_pop mt_popAt (pv 3) (pa_cons (pe_g G1 hr (Nat.le_refl _) rfl pass0 (pa_cons (pv 0) (pa_cons (pe_callB call_len_seq rfl (B.nb _ (by decide)) rfl (pa_cons (pv 3) pa_nil)) pa_nil))) pa_nil)) pa_nil)))))
        (pss_one (ps_ret (pv 4))))
    · refine ⟨_, rfl, pl, _, rfl, .inl (SqL.of hp), fun R nR => ⟨by decide, fun G nG => ?_⟩⟩
      have RG : R ≠ G := fun z => by rw [z, upd_same] at nG; cases nG
      have nG : H G = none := by rw [upd_ne (Ne.symm RG)] at nG; exact nG
      have Ra := ha.ne nR
      have Ga := ha.ne nG
      have o0 : Off a H (upd (upd H R (.lst (l.map V.str))) G (.lst [])) := off_new (off_new Off.refl nR) nG
      refine ⟨_, _, rfl, _, rfl, (n : Int), rfl, by omega, by omega, ?_⟩
      rw [Int.toNat_natCast]
      refine for_it (walk_range (lo := 0) (n := n)) (fun i σ H' => ∃ rs ys r5, σ = [some (.ref a), some (.ref pl), some (.int (n : Nat)), some (.ref R), some (.ref G), r5] ∧ Off a H H' ∧ PotAt H' a ∧ H' R = some (.lst (rs.map V.str)) ∧ H' G = some (.lst (ys.map V.str)) ∧ (ys ++ rs).Perm l ∧ ys.length = i)
        ⟨l, [], none, rfl, o0, ?_, ?_, upd_same, List.Perm.refl _, rfl⟩ (fun i σ H' _ _ => trivial) ?_ ?_
      · obtain ⟨u, v, e, r⟩ := ha
        exact ⟨u, v, by rw [upd_ne (Ne.symm Ga), upd_ne (Ne.symm Ra)]; exact e, r⟩
      · rw [upd_ne RG, upd_same]
      · rintro i v σ H1 H2 hi ⟨rs, ys, r5, rfl, o1, p1, eR, eG, pm, ly⟩ ⟨rfl, rfl⟩
        have lr : rs.length + i = l.length := by rw [← pm.length_eq, List.length_append, ly]; omega
        refine ⟨_, rfl, .inl ⟨rfl, _, SqL.of eG⟩, _, rfl, .inl ⟨rfl, _, SqL.of eR⟩, _, rfl, _, rfl, R, _, rfl, .inl (SqL.of eR), a, _, rfl, p1, by rw [List.length_map]; omega, by rw [List.length_map]; omega, fun H3 r o3 p3 r0 r1 => ?_⟩
        rw [List.length_map] at r1
        obtain ⟨k, rfl⟩ := Int.eq_ofNat_of_zero_le r0
        have hk : k < rs.length := by omega
        have eR3 := o3 _ _ eR Ra
        have eG3 := o3 _ _ eG Ga
        refine ⟨R, _, (k : Int), k, .str rs[k], rfl, rfl, eR3, by omega, by omega, ?_, by rw [List.getElem?_map, List.getElem?_eq_getElem hk]; rfl, ?_⟩
        · have e1 : atI (rs.map V.str) (k : Int) = some (V.str rs[k]) := atI_nat (by rw [List.getElem?_map, List.getElem?_eq_getElem hk]; rfl)
          have h0 : ¬ ((k : Int) < 0) := by omega
          unfold seqIndex?
          rw [List.length_map]
          simp only [h0, if_false]
          have h1 : (0 : Int) ≤ (k : Int) := by omega
          have h2 : (k : Int) < (rs.length : Int) := by omega
          simp [h1, h2]
        refine ⟨G, _, _, rfl, rfl, (by rw [upd_ne (Ne.symm RG)]; exact eG3), ?_, rs.eraseIdx k, ys ++ [rs[k]], _, rfl, off_new (off_new (o1.trans o3) nR) nG, ?_, ?_, ?_, ?_, ?_⟩
        · rw [List.length_map, sizeLine_eq]
          omega
        · obtain ⟨u, v, e, r⟩ := p3
          exact ⟨u, v, by rw [upd_ne (Ne.symm Ga), upd_ne (Ne.symm Ra)]; exact e, r⟩
        · rw [upd_ne RG, upd_same, erase_map]
        · rw [upd_same, List.map_append]
          rfl
        · refine List.Perm.trans ?_ pm
          rw [List.append_assoc]
          exact List.Perm.append_left ys (erase_perm rs k hk)
        · rw [List.length_append, ly]
          rfl
      · rintro σ H1 ⟨rs, ys, r5, rfl, o1, p1, eR, eG, pm, ly⟩
        refine ⟨_, rfl, q H1 G ys o1 p1 nG eG ⟨ly, fun y hy => pm.mem_iff.mp (List.mem_append_left _ hy), fun nd => ?_⟩⟩
        exact (List.nodup_append.mp (pm.nodup_iff.mpr nd)).1
end
end Ld
namespace Ld
open PySem PySem.Spec PyProof.Rows L2
theorem none_back {a p : Addr} {H H' : Hp} (o : Off a H H') (h : PotAt H' a) (n : H' p = none) : H p = none := by
  cases e : H p with
  | none => rfl
  | some u =>
    by_cases z : p = a
    · exact absurd z (h.ne n)
    · rw [o _ _ e z] at n
      cases n
def tagPool : List Str := ["m", "a", "show", "zzzzzz", "b", "x", "days", "first"]
/-- the chart: its tags and their spots -/
def ChartAt (H : Hp) (c : Addr) (tags : List Str) (f : Str → Int) : Prop := ∃ (g sp r : Addr) (kvs : List (Key × V)), H c = some (.dK [(.inr "tags", .ref g), (.inr "spots", .ref sp), (.inr "rules", .ref r)]) ∧ H g = some (.lst (tags.map V.str)) ∧ H sp = some (.dK kvs) ∧ kvs.length ≤ 20 ∧ c ≠ sp ∧ c ≠ g ∧ g ≠ sp ∧
  ∀ m, (m = ("day" : Str) ∨ m ∈ tags) → valV kvs (.inr m) = some (.int (f m))
theorem ChartAt.off {H H' : Hp} {c a : Addr} {tags : List Str} {f : Str → Int} (h : ChartAt H c tags f) (o : Off a H H') (p : PotAt H a) : ChartAt H' c tags f := by
  obtain ⟨g, sp, r, kvs, h1, h2, h3, h4⟩ := h
  have ne : ∀ {b : Addr} {u : HO}, H b = some u → (∀ x y, u ≠ .lst [.int x, .int y]) → b ≠ a := fun {b u} e n z => by
    obtain ⟨x, y, ea, _⟩ := p
    rw [z, ea] at e
    exact n _ _ (Option.some.inj e).symm
  refine ⟨g, sp, r, kvs, o _ _ h1 (ne h1 fun _ _ z => nomatch z), o _ _ h2 (ne h2 fun x y z => ?_), o _ _ h3 (ne h3 fun _ _ z => nomatch z), h4⟩
  have z := HO.lst.inj z
  cases tags with
  | nil => cases z
  | cons t r => cases z
structure TagsOk (tags : List Str) : Prop where
  in_ : ∀ t ∈ tags, t ∈ tagPool
  nd : tags.Nodup
  n1 : 1 ≤ tags.length
  n3 : tags.length ≤ 3
theorem pool_name : ∀ t ∈ tagPool, nameB t = true := by decide +kernel
theorem TagsOk.name {tags : List Str} (h : TagsOk tags) {t : Str} (ht : t ∈ tags) : nameB t = true := pool_name t (h.in_ t ht)
theorem name_ne {t : Str} (h : nameB t = true) : t ≠ ("day" : Str) := by
  rintro rfl
  revert h
  decide +kernel
def spChart : Sp := fun vs H Q _ => ∃ (a : Addr) (n : Nat), vs = [.ref a, .int (n : Nat), .int 6, .int 0] ∧ PotAt H a ∧ 1 ≤ n ∧ n ≤ 3 ∧ ∀ (H' : Hp) (c : Addr) (tags : List Str) (f : Str → Int), Off a H H' → PotAt H' a → H c = none → ChartAt H' c tags f → TagsOk tags → f ("day" : Str) = 0 → (∀ t ∈ tags, 0 ≤ f t ∧ f t < 6) → Q (.ref c) H'
section
variable {P : Program} {w : World} {K : PySem.W.Frag} {mg : Str → Option Value} {base : Heap} {f : Addr} {fd : FuncData}
theorem sc_chart : FnScope ["_law_pot_here", "_law_many", "_law_wide", "_law_more", "_law_tags", "_law_chart_here", "_law_tag", "_law_turn", "_law_here", "_law_there", "_law_gap"] ["_law_pot_here", "_law_many", "_law_wide", "_law_more"] (defScope sChart) := ⟨rfl, rfl, rfl, by decide +kernel, rfl, by decide +kernel, by decide +kernel⟩
theorem ok_chart (F : Fun K "_law_chart" "_law_chart" sChart f fd) (B : Cs mg) (G1 : GOk P w K mg base CX0 1 "_law_draw" spDraw) (G2 : GOk P w K mg base CX0 2 "_law_some" spSome) : FnOk P w K mg base CX0 3 f fd ["_law_pot_here", "_law_many", "_law_wide", "_law_more"] spChart := by
  refine F.ok sc_chart (fun vs H Q E h => ?_) fun cdv A outer s H vs Q E hr h => ?_
  · obtain ⟨a, n, rfl, _⟩ := h
    rfl
  · obtain ⟨a, n, rfl, ha, n1, n3, q⟩ := h
    apply Exists.intro
    apply And.intro
    · exact pss_cons (ps_set (i := 4) sc_chart.nd rfl (Or.inl rfl) (pe_g G2 hr (Nat.le_refl _) rfl pass0 (pa_cons (pv 0) (pa_cons (pe_lst (pa_cons pe_str (pa_cons pe_str (pa_cons pe_str (pa_cons pe_str (pa_cons pe_str (pa_cons pe_str (pa_cons pe_str (pa_cons pe_str pa_nil))))))))) (pa_cons (pv 1) pa_nil)))))
        (pss_cons (ps_set (i := 5) sc_chart.nd rfl (Or.inl rfl) (pe_disp (pps_cons pe_str (pv 4) (pps_cons pe_str (pe_disp (pps_cons pe_str pe_int pps_nil) rfl rfl (by decide) (by decide)) (pps_cons pe_str (pe_lst pa_nil) pps_nil))) rfl rfl (by decide) (by decide)))
        (pss_cons (ps_for PassesOwn.never rfl (pi_list (pv 4)) (pg_name (i := 6) sc_chart.nd rfl (Or.inl rfl)) (pss_one (ps_dput (ru1 hr) (pe_dget (ru1 hr) (pv 5) pe_str (fun _ _ => rfl)) (pv 6) (pe_g G1 hr (by decide) rfl pass0 (pa_cons (pv 0) (pa_cons (pv 2) pa_nil))) rfl)))
        (pss_cons (ps_for PassesOwn.never rfl (pi_range1 rfl (B.nb _ (by decide)) (pa_cons (pe_ifExp (pt_cmpR op_gt (pv 1) pe_int (nomark _)) (pv 3) pe_int) pa_nil)) (pg_name (i := 7) sc_chart.nd rfl (Or.inl rfl)) pss_never)
        (pss_one (ps_ret (pv 5))))))
    · refine ⟨_, rfl, (show (8 : Nat) ≤ sizeLine by decide), fun L nL => ?_⟩
      have o0 : Off a H (upd H L (.lst (tagPool.map V.str))) := off_new Off.refl nL
      have La := ha.ne nL
      refine ⟨_, rfl, a, L, tagPool, n, rfl, ha.same (same_upd nL), La, upd_same, (by show n ≤ 8; omega), (by decide), fun H1 g tags o1 p1 ng hg sm => ?_⟩
      have g0 : H g = none := none_back o0 (ha.same (same_upd nL)) ng
      have o01 := o0.trans o1
      have tl : tags.length ≤ 3 := by rw [sm.1]; exact n3
      have tok : TagsOk tags := ⟨sm.2.1, sm.2.2 (by decide +kernel), by rw [sm.1]; exact n1, tl⟩
      refine fun c nc => ?_
      refine ⟨_, rfl, fun sp nsp => ?_⟩
      refine ⟨upd_same, [(.inr "day", .int 0)], rfl, by decide, ?_⟩
      refine ⟨by decide, fun r nr => ?_⟩
      have csp : c ≠ sp := fun z => by rw [← z, upd_same] at nsp; cases nsp
      have nsp1 : H1 sp = none := by rw [upd_ne (Ne.symm csp)] at nsp; exact nsp
      rw [upd_upd] at nr
      have rsp : r ≠ sp := fun z => by rw [z, upd_same] at nr; cases nr
      have rc : r ≠ c := fun z => by rw [z, upd_ne csp, upd_same] at nr; cases nr
      have nr1 : H1 r = none := by rw [upd_ne rsp, upd_ne rc] at nr; exact nr
      have ca := p1.ne nc
      have spa := p1.ne nsp1
      have ra := p1.ne nr1
      have gc : g ≠ c := ne_of_none hg nc
      have gsp : g ≠ sp := ne_of_none hg nsp1
      have gr : g ≠ r := ne_of_none hg nr1
      have ga : g ≠ a := (ha.same (same_upd nL)).ne ng
      have c0 : H c = none := none_back o01 p1 nc
      refine ⟨by rw [upd_ne (Ne.symm rc), upd_ne csp, upd_ne csp, upd_same], [(.inr "tags", .ref g), (.inr "spots", .ref sp), (.inr "rules", .ref r)], rfl, (show (3 : Nat) ≤ 15 by decide), ?_⟩
      refine ⟨_, rfl, g, rfl, ⟨tags.map V.str, SqL.of ?_⟩, ?_⟩
      · rw [upd_ne gc, upd_ne gr, upd_ne gsp, upd_ne gsp, upd_ne gc]
        exact hg
      have o2 : ∀ {b : Addr} {u : HO}, H1 b = some u → b ≠ c → b ≠ sp → b ≠ r → upd (upd (upd (upd (upd H1 c (.dK [])) sp (.dK [])) sp (.dK (mergeK [] [(.inr "day", .int 0)]))) r (.lst [])) c (.dK (mergeK [] [(.inr "tags", .ref g), (.inr "spots", .ref sp), (.inr "rules", .ref r)])) b = some u := fun {b u} e n1 n2 n3 => by
        rw [upd_ne n1, upd_ne n3, upd_ne n2, upd_ne n2, upd_ne n1]
        exact e
      refine for_it (walk_list (xs := tags.map V.str)) (fun i σ H' => ∃ kvs r6 r7 r8 r9 r10, σ = [some (.ref a), some (.int (n : Nat)), some (.int 6), some (.int 0), some (.ref g), some (.ref c), r6, r7, r8, r9, r10] ∧ Off a H H' ∧ PotAt H' a ∧ H' c = some (.dK [(.inr "tags", .ref g), (.inr "spots", .ref sp), (.inr "rules", .ref r)]) ∧
          H' g = some (.lst (tags.map V.str)) ∧ H' sp = some (.dK kvs) ∧ kvs.length ≤ 1 + i ∧ valV kvs (.inr "day") = some (.int 0) ∧ ∀ (j : Nat) (t : Str), j < i → tags[j]? = some t → ∃ v : Int, valV kvs (.inr t) = some (.int v) ∧ 0 ≤ v ∧ v < 6) ?_ (fun i σ H' _ p => ?_) ?_ ?_
      · refine ⟨[(.inr "day", .int 0)], none, none, none, none, none, rfl, fun b u e ne => ?_, ?_, upd_same, ?_, ?_, Nat.le_refl _, rfl, fun j t z => absurd z (Nat.not_lt_zero j)⟩
        · have e1 := o01 _ _ e ne
          exact o2 e1 (ne_of_none e1 nc) (ne_of_none e1 nsp1) (ne_of_none e1 nr1)
        · obtain ⟨x, y, e1, rest⟩ := p1
          exact ⟨x, y, o2 e1 (Ne.symm ca) (Ne.symm spa) (Ne.symm ra), rest⟩
        · exact o2 hg gc gsp gr
        · rw [upd_ne (Ne.symm csp), upd_ne (Ne.symm rsp), upd_same]
          rfl
      · obtain ⟨_, _, _, _, _, _, _, _, _, _, e, _⟩ := p
        exact SqL.of e
      · rintro i v σ H2 H3 hi ⟨kvs, r6, r7, r8, r9, r10, rfl, o3, p3, ec, eg, es, lk, d0, all⟩ ⟨rfl, hv⟩
        obtain ⟨t, ht, rfl⟩ : ∃ t, tags[i]? = some t ∧ V.str t = v := by
          rw [List.getElem?_map] at hv
          cases e : tags[i]? with
          | none => rw [e] at hv; cases hv
          | some z => rw [e] at hv; exact ⟨z, rfl, Option.some.inj hv⟩
        have mt := List.mem_of_getElem? ht
        refine ⟨_, rfl, _, rfl, a, 6, rfl, p3, by decide, by decide, fun H4 v o4 p4 v0 v1 => ?_⟩
        have ec4 := o4 _ _ ec ca
        have es4 := o4 _ _ es spa
        have eg4 := o4 _ _ eg ga
        have o34 := o3.trans o4
        have sp0 : H sp = none := none_back o01 p1 nsp1
        refine ⟨_, rfl, c, .ref sp, rfl, DGet.k (k := .inr "spots") ec4, _, rfl, sp, _, rfl, DPut.k (k := .inr t) es4 (Nat.lt_of_le_of_lt (show kvs.length ≤ 20 by rw [List.length_map] at hi; omega) (by decide)), ?_⟩
        refine ⟨_, _, r7, r8, r9, r10, rfl, off_new o34 sp0, ?_, ?_, ?_, upd_same, ?_, ?_, fun j u hj hu => ?_⟩
        · obtain ⟨x, y, e1, rest⟩ := p4
          exact ⟨x, y, by rw [upd_ne (Ne.symm spa)]; exact e1, rest⟩
        · rw [upd_ne csp]; exact ec4
        · rw [upd_ne gsp]; exact eg4
        · exact Nat.le_trans (length_putK _ _ _) (by omega)
        · rw [valV_put, if_neg (fun z => name_ne (tok.name mt) (Sum.inr.inj z).symm)]
          exact d0
        · rw [valV_put]
          by_cases z : (Sum.inr u : Key) = .inr t
          · rw [if_pos z]
            exact ⟨v, rfl, v0, v1⟩
          · rw [if_neg z]
            refine all j u ?_ hu
            have : j ≠ i := fun y => z (by rw [y] at hu; rw [ht] at hu; rw [Option.some.inj hu])
            omega
      · rintro σ H2 ⟨kvs, r6, r7, r8, r9, r10, rfl, o3, p3, ec, eg, es, lk, d0, all⟩
        rw [List.length_map] at lk all
        refine ⟨_, rfl, _, _, rfl, rfl, _, rfl, ?_⟩
        rw [decide_eq_true (by omega)]
        refine iteT ⟨_, rfl, 0, rfl, by decide, by decide, ?_⟩
        refine for_it (walk_range (lo := 0) (n := 0)) (fun i σ H' => H' = H2 ∧ ∃ r7, σ = [some (.ref a), some (.int (n : Nat)), some (.int 6), some (.int 0), some (.ref g), some (.ref c), r6, r7, r8, r9, r10]) ⟨rfl, _, rfl⟩ (fun _ _ _ _ _ => trivial) (fun i x σ H H' hi _ _ => absurd hi (Nat.not_lt_zero i)) ?_
        rintro σ H3 ⟨rfl, r7', rfl⟩
        have spot : ∀ m, (m = ("day" : Str) ∨ m ∈ tags) → valV kvs (.inr m) = some (.int (match valV kvs (.inr m) with | some (.int v) => v | _ => 0)) := fun m hm => by
          rcases hm with rfl | hm
          · rw [d0]
          · obtain ⟨j, hj⟩ := List.mem_iff_getElem?.mp hm
            obtain ⟨v, hv, _⟩ := all j m (List.getElem?_eq_some_iff.mp hj).1 hj
            rw [hv]
        refine ⟨_, rfl, q _ c tags (fun m => match valV kvs (.inr m) with | some (.int v) => v | _ => 0) o3 p3 c0 ⟨g, sp, r, kvs, ec, eg, es, by omega, csp, Ne.symm gc, gsp, spot⟩ tok ?_ fun t ht => ?_⟩
        · show (match valV kvs (.inr ("day" : Str)) with | some (.int v) => v | _ => 0) = 0
          rw [d0]
        · obtain ⟨j, hj⟩ := List.mem_iff_getElem?.mp ht
          obtain ⟨v, hv, h0, h6⟩ := all j t (List.getElem?_eq_some_iff.mp hj).1 hj
          show 0 ≤ (match valV kvs (.inr t) with | some (.int v) => v | _ => 0) ∧ (match valV kvs (.inr t) with | some (.int v) => v | _ => 0) < 6
          rw [hv]
          exact ⟨h0, h6⟩
end
end Ld
namespace Ld
open PySem PySem.Spec PyProof.Rows L2
def pactKv (p : Pact) (x y z h t : Addr) : List (Key × V) := [(.inr "tag", .str p.tag), (.inr "firm", .str p.firm), (.inr "shows", .ref x), (.inr "lands", .ref y), (.inr "roads", .ref z), (.inr "head", .ref h), (.inr "tail", .ref t), (.inr "sole", .bl p.sole), (.inr "fee", .int p.fee)]
def PactAt (H : Hp) (q : Addr) (p : Pact) : Prop := ∃ x y z h t : Addr, H q = some (.dK (pactKv p x y z h t)) ∧ H x = some (.lst (p.films.map V.str)) ∧ H y = some (.lst (p.lands.map V.str)) ∧ H z = some (.lst (p.ways.map V.str)) ∧ H h = some (.tup [.str p.hd, .int p.fi]) ∧ H t = some (.tup [.str p.tl, .int p.la])
theorem PactAt.same {H H' : Hp} {q : Addr} {p : Pact} (h : PactAt H q p) (s : Same H H') : PactAt H' q p := by
  obtain ⟨x, y, z, h, t, e0, e1, e2, e3, e4, e5⟩ := h
  exact ⟨x, y, z, h, t, s _ _ e0, s _ _ e1, s _ _ e2, s _ _ e3, s _ _ e4, s _ _ e5⟩
structure PactGood (p : Pact) (tags : List Str) (f : Str → Int) : Prop where
  ok : PactOk p
  hd : p.hd = ("day" : Str) ∨ p.hd ∈ tags
  tl : p.tl = ("day" : Str) ∨ p.tl ∈ tags
  le : f p.hd + p.fi ≤ f p.tl + p.la
  bf : -10 ≤ p.fi ∧ p.fi ≤ 10
  bl : -(3 * 10 ^ 30) ≤ p.la ∧ p.la ≤ 3 * 10 ^ 30
def spPact : Sp := fun vs H Q _ => ∃ (a c : Addr) (tags : List Str) (f : Str → Int) (tg : Str), vs = [.ref a, .ref c, .str tg, .int 4] ∧ PotAt H a ∧ ChartAt H c tags f ∧ TagsOk tags ∧ (tg = ("a" : Str) ∨ tg = ("b" : Str)) ∧ (∀ m, (m = ("day" : Str) ∨ m ∈ tags) → -(10 ^ 30) ≤ f m ∧ f m ≤ 10 ^ 30) ∧
  ∀ (H' : Hp) (q : Addr) (p : Pact), Off a H H' → PotAt H' a → H q = none → PactAt H' q p → PactGood p tags f → Q (.ref q) H'
/-- a dict in the making at q, the pot at a, and what else is kept -/
structure Stg (H0 : Hp) (a q : Addr) (kvs : List (Key × V)) (ks : List (Addr × HO)) (H : Hp) : Prop where
  o : Off a H0 H
  p : PotAt H a
  at_ : H q = some (.dK kvs)
  n : H0 q = none
  qa : q ≠ a
  k : ∀ k ∈ ks, H k.1 = some k.2 ∧ k.1 ≠ a ∧ k.1 ≠ q
section
variable {H0 H : Hp} {a q : Addr} {kvs : List (Key × V)} {ks : List (Addr × HO)}
theorem Stg.off {H' : Hp} (S : Stg H0 a q kvs ks H) (o : Off a H H') (p : PotAt H' a) : Stg H0 a q kvs ks H' := ⟨S.o.trans o, p, o _ _ S.at_ S.qa, S.n, S.qa, fun k hk => ⟨o _ _ (S.k k hk).1 (S.k k hk).2.1, (S.k k hk).2⟩⟩
theorem Stg.new {R : Addr} {u : HO} (S : Stg H0 a q kvs ks H) (n : H R = none) : Stg H0 a q kvs ((R, u) :: ks) (upd H R u) := by
  have Ra := S.p.ne n
  have Rq : R ≠ q := fun z => by rw [z, S.at_] at n; cases n
  refine ⟨fun b o e ne => ?_, S.p.off (fun b o e ne => by rw [upd_ne ne]; exact e) (Ne.symm Ra), by rw [upd_ne (Ne.symm Rq)]; exact S.at_, S.n, S.qa, fun k hk => ?_⟩
  · have h := S.o b o e ne
    rw [upd_ne (ne_of_none h n)]
    exact h
  · rcases List.mem_cons.mp hk with rfl | hk
    · exact ⟨upd_same, Ra, Rq⟩
    · obtain ⟨h1, h2⟩ := S.k k hk
      exact ⟨by rw [upd_ne (ne_of_none h1 n)]; exact h1, h2⟩
theorem Stg.more {b : Addr} {u : HO} (S : Stg H0 a q kvs ks H) (e : H b = some u) (h1 : b ≠ a) (h2 : b ≠ q) : Stg H0 a q kvs ((b, u) :: ks) H := ⟨S.o, S.p, S.at_, S.n, S.qa, fun k hk => by
  rcases List.mem_cons.mp hk with rfl | hk
  · exact ⟨e, h1, h2⟩
  · exact S.k k hk⟩
theorem Stg.put {kvs' : List (Key × V)} (S : Stg H0 a q kvs ks H) : Stg H0 a q kvs' ks (upd H q (.dK kvs')) := by
  refine ⟨fun b o e ne => ?_, S.p.off (fun b o e ne => by rw [upd_ne ne]; exact e) (Ne.symm S.qa), upd_same, S.n, S.qa, fun k hk => ?_⟩
  · rw [upd_ne (ne_of_none e S.n)]
    exact S.o b o e ne
  · obtain ⟨h1, h2, h3⟩ := S.k k hk
    exact ⟨by rw [upd_ne h3]; exact h1, h2, h3⟩
theorem Stg.get {b : Addr} {u : HO} (S : Stg H0 a q kvs ks H) (h : (b, u) ∈ ks) : H b = some u := (S.k _ h).1
end
theorem some_names {pool ys : List Str} {n : Nat} (h : Some_ pool ys n) (hp : ∀ x ∈ pool, nameB x = true) (nd : pool.Nodup) (h1 : 1 ≤ n) (h2 : n ≤ 2) : Ld.Names ys ∧ ys ≠ [] ∧ ys.length ≤ 3 := by
  refine ⟨⟨fun x hx => hp x (h.2.1 x hx), fun x hx => name_len (hp x (h.2.1 x hx)), h.2.2 nd, by rw [h.1]; omega⟩, fun z => ?_, by rw [h.1]; omega⟩
  have := h.1
  rw [z] at this
  simp at this
  omega
theorem pick_str {l : List Str} {i : Nat} {v : V} (h : (l.map V.str)[i]? = some v) : ∃ m, v = .str m ∧ m ∈ l := by
  rw [List.getElem?_map] at h
  cases e : l[i]? with
  | none => rw [e] at h; cases h
  | some m => rw [e] at h; exact ⟨m, (Option.some.inj h).symm, List.mem_of_getElem? e⟩
section
variable {P : Program} {w : World} {K : PySem.W.Frag} {mg : Str → Option Value} {base : Heap} {f : Addr} {fd : FuncData}
theorem sc_pact : FnScope ["_law_pot_here", "_law_chart_here", "_law_tag", "_law_wide", "_law_pact_here", "_law_here", "_law_there", "_law_first", "_law_last"] ["_law_pot_here", "_law_chart_here", "_law_tag", "_law_wide"] (defScope sPact) := ⟨rfl, rfl, rfl, by decide +kernel, rfl, by decide +kernel, by decide +kernel⟩
theorem ok_pact (F : Fun K "_law_pact" "_law_pact" sPact f fd) (B : Cs mg) (G1 : GOk P w K mg base CX0 1 "_law_draw" spDraw) (G2 : GOk P w K mg base CX0 2 "_law_some" spSome) (G3 : GOk P w K mg base CX0 2 "_law_pick" spPick) :
    FnOk P w K mg base CX0 3 f fd ["_law_pot_here", "_law_chart_here", "_law_tag", "_law_wide"] spPact := by
  refine F.ok sc_pact (fun vs H Q E h => ?_) fun cdv A outer s H vs Q E hr h => ?_
  · obtain ⟨a, c, tags, ff, tg, rfl, _⟩ := h
    rfl
  · obtain ⟨a, c, tags, ff, tg, rfl, ha, hc, tok, htg, fb, q⟩ := h
    apply Exists.intro
    apply And.intro
    · exact pss_cons (ps_set (i := 4) sc_pact.nd rfl (Or.inl rfl) (pe_disp (pps_cons pe_str (pv 2) (pps_cons pe_str (pe_g G3 hr (by decide) rfl pass0 (pa_cons (pv 0) (pa_cons (pe_lst (pa_cons pe_str (pa_cons pe_str (pa_cons pe_str pa_nil)))) pa_nil))) pps_nil)) rfl rfl (by decide) (by decide)))
        (pss_cons (ps_dput (ru1 hr) (pv 4) pe_str (pe_g G2 hr (by decide) rfl pass0 (pa_cons (pv 0) (pa_cons (pe_lst (pa_cons pe_str (pa_cons pe_str (pa_cons pe_str pa_nil)))) (pa_cons (pe_op op_add pe_int (pe_g G1 hr (by decide) rfl pass0 (pa_cons (pv 0) (pa_cons pe_int pa_nil)))) pa_nil)))) rfl)
        (pss_cons (ps_dput (ru1 hr) (pv 4) pe_str (pe_g G2 hr (by decide) rfl pass0 (pa_cons (pv 0) (pa_cons (pe_lst (pa_cons pe_str (pa_cons pe_str (pa_cons pe_str pa_nil)))) (pa_cons (pe_op op_add pe_int (pe_g G1 hr (by decide) rfl pass0 (pa_cons (pv 0) (pa_cons pe_int pa_nil)))) pa_nil)))) rfl)
        (pss_cons (ps_dput (ru1 hr) (pv 4) pe_str (pe_g G2 hr (by decide) rfl pass0 (pa_cons (pv 0) (pa_cons (pe_lst (pa_cons pe_str (pa_cons pe_str pa_nil))) (pa_cons (pe_op op_add pe_int (pe_g G1 hr (by decide) rfl pass0 (pa_cons (pv 0) (pa_cons pe_int pa_nil)))) pa_nil)))) rfl)
        (pss_cons (ps_par (i := 5) (j := 6) rfl sc_pact.nd rfl rfl (by decide) rfl rfl (pa_cons (pe_g G3 hr (by decide) rfl pass0 (pa_cons (pv 0) (pa_cons (pe_op op_cat (pe_dget (ru1 hr) (pv 1) pe_str (fun _ _ => rfl)) (pe_lst (pa_cons pe_str pa_nil))) pa_nil)))
            (pa_cons (pe_g G3 hr (by decide) rfl pass0 (pa_cons (pv 0) (pa_cons (pe_op op_cat (pe_dget (ru1 hr) (pv 1) pe_str (fun _ _ => rfl)) (pe_lst (pa_cons pe_str pa_nil))) pa_nil))) pa_nil)) rfl)
        (pss_cons (ps_set (i := 7) sc_pact.nd rfl (Or.inl rfl) (pe_op op_sub (pe_g G1 hr (by decide) rfl pass0 (pa_cons (pv 0) (pa_cons (pe_op op_mul pe_int (pv 3)) pa_nil))) (pv 3)))
        (pss_cons (ps_set (i := 8) sc_pact.nd rfl (Or.inl rfl) (pe_op op_sub (pe_op op_add (pe_op op_add (pv 7) (pe_dget (ru1 hr) (pe_dget (ru1 hr) (pv 1) pe_str (fun _ _ => rfl)) (pv 5) (fun _ _ => rfl))) (pe_g G3 hr (by decide) rfl pass0 (pa_cons (pv 0) (pa_cons (pe_lst (pa_cons pe_int (pa_cons pe_int (pa_cons pe_int (pa_cons pe_int (pa_cons (pv 3) pa_nil)))))) pa_nil))))
            (pe_dget (ru1 hr) (pe_dget (ru1 hr) (pv 1) pe_str (fun _ _ => rfl)) (pv 6) (fun _ _ => rfl))))
        (pss_cons (ps_asg (pe_tup (pa_cons (pe_tup (pa_cons (pv 5) (pa_cons (pv 7) pa_nil))) (pa_cons (pe_tup (pa_cons (pv 6) (pa_cons (pv 8) pa_nil))) pa_nil))) (pg_tup rfl (pgs_cons (pg_sub (pv 4) pe_str (set_dict (ru1 hr))) (pgs_cons (pg_sub (pv 4) pe_str (set_dict (ru1 hr))) pgs_nil))))
        (pss_cons (ps_asg (pe_tup (pa_cons (pe_cmpR op_gt (pe_g G1 hr (by decide) rfl pass0 (pa_cons (pv 0) (pa_cons pe_int pa_nil))) pe_int (nomark _)) (pa_cons (pe_g G1 hr (by decide) rfl pass0 (pa_cons (pv 0) (pa_cons pe_int pa_nil))) pa_nil))) (pg_tup rfl (pgs_cons (pg_sub (pv 4) pe_str (set_dict (ru1 hr))) (pgs_cons (pg_sub (pv 4) pe_str (set_dict (ru1 hr))) pgs_nil))))
        (pss_one (ps_ret (pv 4)))))))))))
    · have h0 := hc
      obtain ⟨g, sp, r0, kv0, c1, c2, c3, c4, c5, c6, c7, c8⟩ := hc
      have ca : c ≠ a := fun z => by obtain ⟨x, y, e, _⟩ := ha; rw [z, e] at c1; cases c1
      have ga : g ≠ a := fun z => by
        obtain ⟨x, y, e, _⟩ := ha
        rw [z, e] at c2
        have z2 := HO.lst.inj (Option.some.inj c2)
        cases tags with
        | nil => cases z2
        | cons t r => cases z2
      have spa : sp ≠ a := fun z => by obtain ⟨x, y, e, _⟩ := ha; rw [z, e] at c3; cases c3
      have tl := tok.n3
      -- the dict, tag and firm
      refine fun q0 nq => ?_
      have S0 : Stg H a q0 [] [] (upd H q0 (.dK [])) := ⟨off_new Off.refl nq, ha.same (same_upd nq), upd_same, nq, ha.ne nq, fun _ z => nomatch z⟩
      refine ⟨_, rfl, _, rfl, (show (3 : Nat) ≤ sizeLine by decide), fun L nL => ?_⟩
      have S1 := S0.new (u := .lst ([("odeon" : Str), "h", "wire"].map V.str)) nL
      refine ⟨a, L, _, rfl, S1.p, (S1.k _ List.mem_cons_self).2.1, upd_same, (fun z => nomatch z), (show (3 : Nat) < 1000 by decide), fun H2 i v o2 p2 hi => ?_⟩
      obtain ⟨firm, rfl, hfirm⟩ := pick_str (l := [("odeon" : Str), "h", "wire"]) hi
      have S2 := S1.off o2 p2
      refine ⟨S2.at_, [(.inr "tag", .str tg), (.inr "firm", .str firm)], rfl, (show (2 : Nat) ≤ 15 by decide), ?_⟩
      have S3 := S2.put (kvs' := [(.inr "tag", .str tg), (.inr "firm", .str firm)])
      -- shows
      refine ⟨_, rfl, (show (3 : Nat) ≤ sizeLine by decide), fun L nL => ?_⟩
      have S4 := S3.new (u := .lst ([("f" : Str), "g", "film"].map V.str)) nL
      refine ⟨_, rfl, a, 2, rfl, S4.p, by decide, by decide, fun H5 k o5 p5 k0 k1 => ?_⟩
      obtain ⟨k, rfl⟩ := Int.eq_ofNat_of_zero_le k0
      have S5 := S4.off o5 p5
      refine ⟨1, _, rfl, rfl, a, L, [("f" : Str), "g", "film"], 1 + k, by rw [Int.natCast_add]; rfl, S5.p, (S5.k _ List.mem_cons_self).2.1, S5.get List.mem_cons_self, (show 1 + k ≤ 3 by omega), (show (3 : Nat) < 100 by decide), fun H6 x fs o6 p6 nx hx sm => ?_⟩
      have S6 := (S5.off o6 p6).more hx (S5.p.ne nx) (fun z => by rw [z, S5.at_] at nx; cases nx)
      obtain ⟨nf1, nf2, nf3⟩ := some_names sm (by decide +kernel) (by decide +kernel) (by omega) (by omega)
      refine ⟨_, rfl, q0, _, rfl, DPut.k (k := .inr "shows") S6.at_ (show (2 : Nat) < sizeLine by decide), ?_⟩
      have S7 := S6.put (kvs' := [(.inr "tag", .str tg), (.inr "firm", .str firm), (.inr "shows", .ref x)])
      -- lands
      refine ⟨_, rfl, (show (3 : Nat) ≤ sizeLine by decide), fun L nL => ?_⟩
      have S8 := S7.new (u := .lst ([("be" : Str), "nl", "x"].map V.str)) nL
      refine ⟨_, rfl, a, 2, rfl, S8.p, by decide, by decide, fun H5 k o5 p5 k0 k1 => ?_⟩
      obtain ⟨k, rfl⟩ := Int.eq_ofNat_of_zero_le k0
      have S9 := S8.off o5 p5
      refine ⟨1, _, rfl, rfl, a, L, [("be" : Str), "nl", "x"], 1 + k, by rw [Int.natCast_add]; rfl, S9.p, (S9.k _ List.mem_cons_self).2.1, S9.get List.mem_cons_self, (show 1 + k ≤ 3 by omega), (show (3 : Nat) < 100 by decide), fun H6 y ls o6 p6 nx hx sm => ?_⟩
      have S10 := (S9.off o6 p6).more hx (S9.p.ne nx) (fun z => by rw [z, S9.at_] at nx; cases nx)
      obtain ⟨nl1, nl2, nl3⟩ := some_names sm (by decide +kernel) (by decide +kernel) (by omega) (by omega)
      refine ⟨_, rfl, q0, _, rfl, DPut.k (k := .inr "lands") S10.at_ (show (3 : Nat) < sizeLine by decide), ?_⟩
      have S11 := S10.put (kvs' := [(.inr "tag", .str tg), (.inr "firm", .str firm), (.inr "shows", .ref x), (.inr "lands", .ref y)])
      -- roads
      refine ⟨_, rfl, (show (2 : Nat) ≤ sizeLine by decide), fun L nL => ?_⟩
      have S12 := S11.new (u := .lst ([("hall" : Str), "disc"].map V.str)) nL
      refine ⟨_, rfl, a, 2, rfl, S12.p, by decide, by decide, fun H5 k o5 p5 k0 k1 => ?_⟩
      obtain ⟨k, rfl⟩ := Int.eq_ofNat_of_zero_le k0
      have S13 := S12.off o5 p5
      refine ⟨1, _, rfl, rfl, a, L, [("hall" : Str), "disc"], 1 + k, by rw [Int.natCast_add]; rfl, S13.p, (S13.k _ List.mem_cons_self).2.1, S13.get List.mem_cons_self, (show 1 + k ≤ 2 by omega), (show (2 : Nat) < 100 by decide), fun H6 z ws o6 p6 nx hx sm => ?_⟩
      have S14 := (S13.off o6 p6).more hx (S13.p.ne nx) (fun z => by rw [z, S13.at_] at nx; cases nx)
      obtain ⟨nw1, nw2, nw3⟩ := some_names sm (by decide +kernel) (by decide +kernel) (by omega) (by omega)
      refine ⟨_, rfl, q0, _, rfl, DPut.k (k := .inr "roads") S14.at_ (show (4 : Nat) < sizeLine by decide), ?_⟩
      have S15 := S14.put (kvs' := [(.inr "tag", .str tg), (.inr "firm", .str firm), (.inr "shows", .ref x), (.inr "lands", .ref y), (.inr "roads", .ref z)])
      -- here and there
      refine ⟨_, rfl, _, rfl, c, .ref g, rfl, DGet.k (k := .inr "tags") (S15.o _ _ c1 ca), (show (1 : Nat) ≤ sizeLine by decide), fun D nD => ?_⟩
      have S16 := S15.new (u := .lst [.str "day"]) nD
      refine ⟨g, D, tags.map V.str, [.str "day"], rfl, rfl, S16.o _ _ c2 ga, upd_same, (by rw [List.length_map, sizeLine_eq]; simp; omega), fun L nL => ?_⟩
      have S17 := S16.new (u := .lst (tags.map V.str ++ [.str "day"])) nL
      have inT : ∀ {i : Nat} {v : V}, (tags.map V.str ++ [V.str "day"])[i]? = some v → ∃ m, v = .str m ∧ (m = ("day" : Str) ∨ m ∈ tags) := fun {i v} h => by
        have h2 : ((tags ++ (["day"] : List Str)).map V.str)[i]? = some v := by rw [List.map_append]; exact h
        obtain ⟨m, e, hm⟩ := pick_str h2
        refine ⟨m, e, ?_⟩
        rcases List.mem_append.mp hm with hm | hm
        · exact .inr hm
        · exact .inl (List.mem_singleton.mp hm)
      refine ⟨a, L, _, rfl, S17.p, (S17.k _ List.mem_cons_self).2.1, upd_same, (by simp), (by simp; omega), fun H18 i v o18 p18 hi => ?_⟩
      obtain ⟨here, rfl, hhere⟩ := inT hi
      have S18 := S17.off o18 p18
      refine ⟨_, rfl, _, rfl, c, .ref g, rfl, DGet.k (k := .inr "tags") (S18.o _ _ c1 ca), (show (1 : Nat) ≤ sizeLine by decide), fun D nD => ?_⟩
      have S19 := S18.new (u := .lst [.str "day"]) nD
      refine ⟨g, D, tags.map V.str, [.str "day"], rfl, rfl, S19.o _ _ c2 ga, upd_same, (by rw [List.length_map, sizeLine_eq]; simp; omega), fun L nL => ?_⟩
      have S20 := S19.new (u := .lst (tags.map V.str ++ [.str "day"])) nL
      refine ⟨a, L, _, rfl, S20.p, (S20.k _ List.mem_cons_self).2.1, upd_same, (by simp), (by simp; omega), fun H21 i v o21 p21 hi => ?_⟩
      obtain ⟨there, rfl, hthere⟩ := inT hi
      have S21 := S20.off o21 p21
      refine ⟨_, _, rfl, ?_⟩
      -- first and last
      refine ⟨_, rfl, _, rfl, 2, 4, rfl, rfl, .inl ⟨by decide, by decide⟩, a, 2 * 4, rfl, S21.p, by decide, by decide, fun H22 r o22 p22 r0 r1 => ?_⟩
      have S22 := S21.off o22 p22
      refine ⟨_, rfl, r, 4, rfl, rfl, ?_⟩
      refine ⟨_, rfl, _, rfl, c, .ref sp, rfl, DGet.k (k := .inr "spots") (S22.o _ _ c1 ca), _, rfl, sp, _, rfl, c8 here hhere ▸ DGet.k (k := .inr here) (S22.o _ _ c3 spa), _, _, rfl, rfl, ?_⟩
      refine ⟨_, rfl, _, rfl, (show (5 : Nat) ≤ sizeLine by decide), fun L nL => ?_⟩
      have S23 := S22.new (u := .lst [.int 0, .int 0, .int 1, .int 2, .int 4]) nL
      refine ⟨a, L, _, rfl, S23.p, (S23.k _ List.mem_cons_self).2.1, upd_same, (fun z => nomatch z), (show (5 : Nat) < 1000 by decide), fun H24 i v o24 p24 hi => ?_⟩
      obtain ⟨e, rfl, e0, e4⟩ : ∃ e : Int, v = .int e ∧ 0 ≤ e ∧ e ≤ 4 := by
        match i, hi with
        | 0, hi => cases hi; exact ⟨0, rfl, by decide, by decide⟩
        | 1, hi => cases hi; exact ⟨0, rfl, by decide, by decide⟩
        | 2, hi => cases hi; exact ⟨1, rfl, by decide, by decide⟩
        | 3, hi => cases hi; exact ⟨2, rfl, by decide, by decide⟩
        | 4, hi => cases hi; exact ⟨4, rfl, by decide, by decide⟩
      have S24 := S23.off o24 p24
      refine ⟨_, _, rfl, rfl, _, rfl, c, .ref sp, rfl, DGet.k (k := .inr "spots") (S24.o _ _ c1 ca), _, rfl, sp, _, rfl, c8 there hthere ▸ DGet.k (k := .inr there) (S24.o _ _ c3 spa), _, _, rfl, rfl, ?_⟩
      -- head and tail
      refine ⟨_, rfl, _, rfl, (show (2 : Nat) ≤ sizeLine by decide), fun h nh => ?_⟩
      have S25 := S24.new (u := .tup [.str here, .int (r - 4)]) nh
      refine ⟨_, rfl, _, rfl, (show (2 : Nat) ≤ sizeLine by decide), fun t nt => ?_⟩
      have S26 := S25.new (u := .tup [.str there, .int (r - 4 + ff here + e - ff there)]) nt
      refine ⟨(show (2 : Nat) ≤ sizeLine by decide), fun T nT => ?_⟩
      have S27 := S26.new (u := .tup [.ref h, .ref t]) nT
      refine ⟨T, _, rfl, SqT.of upd_same, rfl, _, _, rfl, _, rfl, q0, _, rfl, DPut.k (k := .inr "head") S27.at_ (show (5 : Nat) < sizeLine by decide), ?_⟩
      have S28 := S27.put (kvs' := [(.inr "tag", .str tg), (.inr "firm", .str firm), (.inr "shows", .ref x), (.inr "lands", .ref y), (.inr "roads", .ref z), (.inr "head", .ref h)])
      refine ⟨_, _, rfl, _, rfl, q0, _, rfl, DPut.k (k := .inr "tail") S28.at_ (show (6 : Nat) < sizeLine by decide), rfl, ?_⟩
      have S29 := S28.put (kvs' := [(.inr "tag", .str tg), (.inr "firm", .str firm), (.inr "shows", .ref x), (.inr "lands", .ref y), (.inr "roads", .ref z), (.inr "head", .ref h), (.inr "tail", .ref t)])
      -- sole and fee
      refine ⟨_, rfl, a, 3, rfl, S29.p, by decide, by decide, fun H30 so o30 p30 so0 so1 => ?_⟩
      have S30 := S29.off o30 p30
      refine ⟨so, 0, rfl, rfl, _, rfl, a, 5, rfl, S30.p, by decide, by decide, fun H31 fee o31 p31 fee0 fee1 => ?_⟩
      have S31 := S30.off o31 p31
      refine ⟨(show (2 : Nat) ≤ sizeLine by decide), fun T nT => ?_⟩
      have S32 := S31.new (u := .tup [.bl (decide (0 < so)), .int fee]) nT
      refine ⟨T, _, rfl, SqT.of upd_same, rfl, _, _, rfl, _, rfl, q0, _, rfl, DPut.k (k := .inr "sole") S32.at_ (show (7 : Nat) < sizeLine by decide), ?_⟩
      have S33 := S32.put (kvs' := [(.inr "tag", .str tg), (.inr "firm", .str firm), (.inr "shows", .ref x), (.inr "lands", .ref y), (.inr "roads", .ref z), (.inr "head", .ref h), (.inr "tail", .ref t), (.inr "sole", .bl (decide (0 < so)))])
      refine ⟨_, _, rfl, _, rfl, q0, _, rfl, DPut.k (k := .inr "fee") S33.at_ (show (8 : Nat) < sizeLine by decide), rfl, ?_⟩
      have S34 := S33.put (kvs' := pactKv ⟨tg, firm, fs, ls, ws, here, r - 4, there, r - 4 + ff here + e - ff there, decide (0 < so), fee⟩ x y z h t)
      refine ⟨_, rfl, ?_⟩
      refine q _ q0 ⟨tg, firm, fs, ls, ws, here, r - 4, there, r - 4 + ff here + e - ff there, decide (0 < so), fee⟩ S34.o S34.p nq ⟨x, y, z, h, t, S34.at_, S34.get (by simp), S34.get (by simp), S34.get (by simp), S34.get (by simp), S34.get (by simp)⟩ ?_
      have mo : ∀ m, (m = ("day" : Str) ∨ m ∈ tags) → momentB m = true ∧ m.length ≤ 100 := fun m hm => by
        rcases hm with rfl | hm
        · exact ⟨by decide +kernel, by decide⟩
        · have n := tok.name hm
          exact ⟨by unfold momentB; rw [n]; rfl, name_len n⟩
      have b1 := fb here hhere
      have b2 := fb there hthere
      have tg1 : nameB tg = true := by rcases htg with rfl | rfl <;> decide +kernel
      have fi1 : nameB firm = true := (show ∀ x ∈ [("odeon" : Str), "h", "wire"], nameB x = true by decide +kernel) firm hfirm
      have le1 : ff here + (r - 4) ≤ ff there + (r - 4 + ff here + e - ff there) := by omega
      refine ⟨⟨⟨tg1, name_len tg1⟩, ⟨fi1, name_len fi1⟩, ⟨nf1, nf2⟩, ⟨nl1, nl2⟩, ⟨nw1, nw2, nw3⟩, mo _ hhere, mo _ hthere, fun z => ?_, fee0, ?_, ?_, ?_⟩, hhere, hthere, le1, ⟨by show -10 ≤ r - 4; omega, by show r - 4 ≤ 10; omega⟩, ⟨by show -(3 * 10 ^ 30) ≤ r - 4 + ff here + e - ff there; omega, by show r - 4 + ff here + e - ff there ≤ 3 * 10 ^ 30; omega⟩⟩
      · have z : here = there := z
        subst z
        show r - 4 ≤ r - 4 + ff here + e - ff here
        omega
      · show (r - 4).natAbs < 10 ^ 60
        omega
      · show (r - 4 + ff here + e - ff there).natAbs < 10 ^ 60
        omega
      · show fee.natAbs < 10 ^ 60
        omega
end
end Ld
namespace Ld
open PySem PySem.Spec PyProof.Rows L2
/-- what making a deal asks -/
structure MkOk (P : Program) (w : World) (K : PySem.W.Frag) (mg : Str → Option Value) (base : Heap) (C : Addr) : Prop where
  ex : ∃ (f : Addr) (fd : FuncData) (ps : List Str), Mk K C f ∧ FnOk P w K mg base CX0 5 f fd ps (spInit C) ∧ KBn K fd ps 8 ["alone", "price"] (fun us ws => us ++ ws) (fun vs zs => vs ++ zs)
def spDeal (C : Addr) : Sp := fun vs H Q _ => ∃ (q : Addr) (p : Pact), vs = [.ref q] ∧ PactAt H q p ∧ PactOk p ∧ ∀ (H' : Hp) (d : Addr), Same H H' → H d = none → DealAt C H' d p.deal → Q (.ref d) H'
def spLCells : Sp := fun vs H Q _ => ∃ (q : Addr) (p : Pact), vs = [.ref q] ∧ PactAt H q p ∧ PactOk p ∧ ∀ (H' : Hp) (L : Addr) (xs : List V), Same H H' → H L = none → H' L = some (.lst xs) → AllT H' xs (p.deal.cells.map cellV) → Q (.ref L) H'
def spStretch : Sp := fun vs H Q _ => ∃ (sp q : Addr) (p : Pact) (kvs : List (Key × V)) (x y : Int), vs = [.ref sp, .ref q] ∧ H sp = some (.dK kvs) ∧ PactAt H q p ∧ valV kvs (.inr p.hd) = some (.int x) ∧ valV kvs (.inr p.tl) = some (.int y) ∧
  ∀ (H' : Hp) (t : Addr), Same H H' → H' t = some (.tup [.int (x + p.fi), .int (y + p.la)]) → Q (.ref t) H'
section
variable {P : Program} {w : World} {K : PySem.W.Frag} {mg : Str → Option Value} {base : Heap} {f : Addr} {fd : FuncData} {C : Addr}
theorem sc_deal : FnScope ["_law_pact_here", "_law_lists"] ["_law_pact_here"] (defScope sDeal) := ⟨rfl, rfl, rfl, by decide +kernel, rfl, by decide +kernel, by decide +kernel⟩
theorem ok_deal (F : Fun K "_law_deal" "_law_deal" sDeal f fd) (mC : mg "Deal" = some (.ref C)) (M : MkOk P w K mg base C) : FnOk P w K mg base CX0 7 f fd ["_law_pact_here"] (spDeal C) := by
  obtain ⟨fi, fdi, psi, mk, Fi, kb⟩ := M.ex
  refine F.ok sc_deal (fun vs H Q E h => ?_) fun cdv A outer s H vs Q E hr h => ?_
  · obtain ⟨q, p, rfl, _⟩ := h
    rfl
  · obtain ⟨q0, p, rfl, hp, op, q⟩ := h
    apply Exists.intro
    apply And.intro
    · exact pss_cons (ps_set (i := 1) sc_deal.nd rfl (Or.inl rfl) (pe_lst (pa_cons (pe_dget (ru1 hr) (pv 0) pe_str (fun _ _ => rfl)) (pa_cons (pe_dget (ru1 hr) (pv 0) pe_str (fun _ _ => rfl)) (pa_cons (pe_dget (ru1 hr) (pv 0) pe_str (fun _ _ => rfl)) pa_nil)))))
        (pss_one (ps_ret (pe_makeN (n := 7) mk Fi hr rfl mC kb pass0 (pa_cons (pe_dget (ru1 hr) (pv 0) pe_str (fun _ _ => rfl)) (pa_cons (pe_dget (ru1 hr) (pv 0) pe_str (fun _ _ => rfl)) (pa_cons (pe_ix ix_list (pv 1) pe_int (fun _ _ => rfl)) (pa_cons (pe_ix ix_list (pv 1) pe_int (fun _ _ => rfl)) (pa_cons (pe_ix ix_list (pv 1) pe_int (fun _ _ => rfl))
          (pa_cons (pe_dget (ru1 hr) (pv 0) pe_str (fun _ _ => rfl)) (pa_cons (pe_dget (ru1 hr) (pv 0) pe_str (fun _ _ => rfl)) pa_nil)))))))
          (pk_cons (pe_dget (ru1 hr) (pv 0) pe_str (fun _ _ => rfl)) (pk_cons (pe_dget (ru1 hr) (pv 0) pe_str (fun _ _ => rfl)) pk_nil)))))
    · obtain ⟨x, y, z, h, t, e0, e1, e2, e3, e4, e5⟩ := hp
      refine ⟨_, rfl, q0, .ref x, rfl, DGet.k (k := .inr "shows") e0, _, rfl, q0, .ref y, rfl, DGet.k (k := .inr "lands") e0, _, rfl, q0, .ref z, rfl, DGet.k (k := .inr "roads") e0, (show (3 : Nat) ≤ sizeLine by decide), fun L nL => ?_⟩
      have s1 : Same H (upd H L (.lst [.ref x, .ref y, .ref z])) := same_upd nL
      have e0' := s1 _ _ e0
      refine ⟨_, rfl, q0, .str p.tag, rfl, DGet.k (k := .inr "tag") e0', _, rfl, q0, .str p.firm, rfl, DGet.k (k := .inr "firm") e0', _, rfl, L, _, 0, .ref x, rfl, rfl, SqL.of upd_same, rfl, _, rfl, L, _, 1, .ref y, rfl, rfl, SqL.of upd_same, rfl, _, rfl, L, _, 2, .ref z, rfl, rfl, SqL.of upd_same, rfl,
        _, rfl, q0, .ref h, rfl, DGet.k (k := .inr "head") e0', _, rfl, q0, .ref t, rfl, DGet.k (k := .inr "tail") e0', ?_⟩
      refine ⟨_, rfl, q0, .bl p.sole, rfl, DGet.k (k := .inr "sole") e0', _, rfl, q0, .int p.fee, rfl, DGet.k (k := .inr "fee") e0', rfl, rfl, fun d dx nd ndx ne => ?_⟩
      have k : ∀ {b : Addr} {o : HO}, H b = some o → upd (upd (upd H L (.lst [.ref x, .ref y, .ref z])) dx (.own d)) d (.ins C dx []) b = some o := fun {b o} e => by
        have e' := s1 _ _ e
        rw [upd_ne (ne_of_none e' nd), upd_ne (ne_of_none e' ndx)]
        exact e'
      have nd0 : H d = none := by
        cases u : H d with
        | none => rfl
        | some o => rw [s1 _ _ u] at nd; cases nd
      refine ⟨d, dx, x, y, z, h, t, p, rfl, upd_same, k e1, k e2, k e3, k e4, k e5, op, fun H' o' hd => ⟨rfl, q H' d (fun b o e => ?_) nd0 hd⟩⟩
      exact o' _ _ (k e) (ne_of_none e nd0)
theorem sc_lcells : FnScope ["_law_pact_here", "_law_found", "_law_show", "_law_ground", "_law_road"] ["_law_pact_here"] (defScope sLCells) := ⟨rfl, rfl, rfl, by decide +kernel, rfl, by decide +kernel, by decide +kernel⟩
theorem ok_lcells (F : Fun K "_law_cells" "_law_cells" sLCells f fd) (B : Cs mg) : FnOk P w K mg base CX0 1 f fd ["_law_pact_here"] spLCells := by
  refine F.ok sc_lcells (fun vs H Q E h => ?_) fun cdv A outer s H vs Q E hr h => ?_
  · obtain ⟨q, p, rfl, _⟩ := h
    rfl
  · obtain ⟨q0, p, rfl, hp, op, q⟩ := h
    apply Exists.intro
    apply And.intro
    · exact pss_cons (ps_set (i := 1) sc_lcells.nd rfl (Or.inl rfl) (pe_lst pa_nil))
        (pss_cons (ps_for PassesOwn.never rfl (pi_list (pe_callB cr_sortedS rfl (B.nb _ (by decide)) rfl (pa_cons (pe_dget (ru1 hr) (pv 0) pe_str (fun _ _ => rfl)) pa_nil))) (pg_name (i := 2) sc_lcells.nd rfl (Or.inr rfl))
          (pss_one (ps_for PassesOwn.never rfl (pi_list (pe_callB cr_sortedS rfl (B.nb _ (by decide)) rfl (pa_cons (pe_dget (ru1 hr) (pv 0) pe_str (fun _ _ => rfl)) pa_nil))) (pg_name (i := 3) sc_lcells.nd rfl (Or.inr rfl))
          (pss_one (ps_expr (pe_bm PySem.F.plainAttrs_list PySem.F.slot_list_extend PySem.F.type_list_extend mt_extend (pv 1) (pa_cons (pe_lc (own := [("_law_road", 4)]) rfl sc_lcells.nd (pi_list (pe_callB cr_sortedS rfl (B.nb _ (by decide)) rfl (pa_cons (pe_dget (ru1 hr) (pv 0) pe_str (fun _ _ => rfl)) pa_nil))) (blkOk_by (N := ["_law_pact_here", "_law_found", "_law_show", "_law_ground", "_law_road"]) (sc := defScope sLCells) (by decide +kernel))
            (fun s H C cl fp => pg_name (i := 4) sc_lcells.nd rfl (Or.inl rfl)) (fun _ _ _ _ _ => pts_nil) (fun s H C cl fp => pe_tup (pa_cons (pv 2) (pa_cons (pv 3) (pa_cons (pv 4) pa_nil))))) pa_nil)))))))
        (pss_one (ps_ret (pv 1))))
    · refine ⟨by decide, fun L nL => ?_⟩
      obtain ⟨x, y, z, h, t, e0, e1, e2, e3, e4, e5⟩ := hp
      have s0 : Same H (upd H L (.lst [])) := same_upd nL
      have few := op.deal.few
      have small : ∀ {l : List Str}, Ld.Names l → l.length < 64 := fun n => Nat.lt_of_le_of_lt n.few (by decide)
      refine ⟨_, rfl, q0, .ref x, rfl, DGet.k (k := .inr "shows") (s0 _ _ e0), x, p.films, rfl, SqL.of (s0 _ _ e1), small op.films.1, fun ys px pm so npx => ?_⟩
      rw [srt_uniq pm so]
      have Lpx : L ≠ px := fun z => by rw [← z, upd_same] at npx; cases npx
      have npx0 : H px = none := by rw [upd_ne (Ne.symm Lpx)] at npx; exact npx
      have s1 : Same H (upd (upd H L (.lst [])) px (.lst ((srt p.films).map V.str))) := s0.trans (same_upd npx)
      refine ⟨px, rfl, ⟨_, SqL.of upd_same⟩, ?_⟩
      refine for_it (walk_list (xs := (srt p.films).map V.str)) (fun i σ H' => ∃ xs r2 r3 r4, σ = [some (.ref q0), some (.ref L), r2, r3, r4] ∧ Same H H' ∧ H' px = some (.lst ((srt p.films).map V.str)) ∧ H' L = some (.lst xs) ∧ AllT H' xs ((cellsIn ((srt p.films).take i) (srt p.lands) (srt p.ways)).map cellV))
        ⟨[], none, none, none, rfl, s1, upd_same, (by rw [upd_ne Lpx]; exact upd_same), .nil⟩ (fun i σ H' _ pp => by obtain ⟨_, _, _, _, _, _, e, _⟩ := pp; exact SqL.of e) ?_ ?_
      · rintro i v σ H1 H2 hi ⟨xs, r2, r3, r4, rfl, s2, epx, eL, t1⟩ ⟨rfl, hv⟩
        obtain ⟨u, hu, rfl⟩ : ∃ u, (srt p.films)[i]? = some u ∧ V.str u = v := by
          rw [List.getElem?_map] at hv
          cases e : (srt p.films)[i]? with
          | none => rw [e] at hv; cases hv
          | some z => rw [e] at hv; exact ⟨z, rfl, Option.some.inj hv⟩
        refine ⟨_, rfl, q0, .ref y, rfl, DGet.k (k := .inr "lands") (s2 _ _ e0), y, p.lands, rfl, SqL.of (s2 _ _ e2), small op.lands.1, fun ys py pm so npy => ?_⟩
        rw [srt_uniq pm so]
        have npy0 : H py = none := by
          cases o : H py with
          | none => rfl
          | some o' => rw [s2 _ _ o] at npy; cases npy
        have Lpy : L ≠ py := ne_of_none eL npy
        have s3 : Same H2 (upd H2 py (.lst ((srt p.lands).map V.str))) := same_upd npy
        refine ⟨py, rfl, ⟨_, SqL.of upd_same⟩, ?_⟩
        refine for_it (walk_list (xs := (srt p.lands).map V.str)) (fun j σ H' => ∃ xs r3 r4, σ = [some (.ref q0), some (.ref L), some (.str u), r3, r4] ∧ Same H H' ∧ H' px = some (.lst ((srt p.films).map V.str)) ∧ H' py = some (.lst ((srt p.lands).map V.str)) ∧ H' L = some (.lst xs) ∧
            AllT H' xs ((cellsIn ((srt p.films).take i) (srt p.lands) (srt p.ways) ++ cellsIn [u] ((srt p.lands).take j) (srt p.ways)).map cellV)) ⟨xs, r3, r4, rfl, s2.trans s3, s3 _ _ epx, upd_same, s3 _ _ eL, by simpa [cellsIn] using t1.keep (TupK.of s3)⟩
          (fun i σ H' _ pp => by obtain ⟨_, _, _, _, _, _, e, _⟩ := pp; exact SqL.of e) ?_ ?_
        · rintro j v σ H3 H4 hj ⟨xs, r3, r4, rfl, s4, epx, epy, eL, t3⟩ ⟨rfl, hv⟩
          obtain ⟨w', hw, rfl⟩ : ∃ z, (srt p.lands)[j]? = some z ∧ V.str z = v := by
            rw [List.getElem?_map] at hv
            cases e : (srt p.lands)[j]? with
            | none => rw [e] at hv; cases hv
            | some z => rw [e] at hv; exact ⟨z, rfl, Option.some.inj hv⟩
          refine ⟨_, rfl, .inl ⟨rfl, xs, SqL.of eL⟩, ?_⟩
          refine ⟨_, rfl, q0, .ref z, rfl, DGet.k (k := .inr "roads") (s4 _ _ e0), z, p.ways, rfl, SqL.of (s4 _ _ e3), small op.ways.1, fun ys pz pm so npz => ?_⟩
          rw [srt_uniq pm so]
          have s5 : Same H4 (upd H4 pz (.lst ((srt p.ways).map V.str))) := same_upd npz
          refine ⟨pz, rfl, ⟨_, SqL.of upd_same⟩, fun M nM => ?_⟩
          refine lc_tup (srt p.ways) (fun x => some [.str u, .str w', .str x]) (by have := walk_list (K := K) (a := pz) (xs := (srt p.ways).map V.str); rw [List.length_map] at this; exact this) nM (Nat.lt_of_le_of_lt few.ways (by decide)) (fun H' s' => SqL.of (s' _ _ upd_same)) (fun k x v H5 H6 Qn Qe hx s6 hv hn _ => ?_) (fun H5 ls s6 eM tM => ?_)
          · obtain ⟨rfl, hv⟩ := hv
            rw [List.getElem?_map, hx] at hv
            cases hv
            refine ⟨rfl, ⟨_, rfl, _, rfl, _, rfl, (show (3 : Nat) ≤ sizeLine by decide), fun T nT => ?_⟩⟩
            exact hn _ _ _ rfl (same_upd nT) ⟨T, rfl, upd_same⟩
          · have s46 := s5.trans s6
            have e5 := s46 _ _ eL
            have l1 : xs.length + ls.length ≤ sizeLine := by
              have c1 : (cellsIn ((srt p.films).take i) (srt p.lands) (srt p.ways)).length ≤ 48 := cellsIn_len (take_le _ _ _ few.films) few.lands few.ways
              have c2 : (cellsIn [u] ((srt p.lands).take j) (srt p.ways)).length ≤ 48 := cellsIn_len (show (1 : Nat) ≤ 4 by decide) (take_le _ _ _ few.lands) few.ways
              have c3 : ls.length ≤ 3 := by
                rw [tM.length]
                exact Nat.le_trans (List.length_filterMap_le _ _) few.ways
              rw [t3.length, List.length_map, List.length_append, sizeLine_eq]
              omega
            refine ⟨L, M, xs, ls, rfl, rfl, e5, eM, l1, xs ++ ls, _, _, rfl, same_off nL (s4.trans s46), (by rw [upd_ne (Ne.symm Lpx)]; exact s46 _ _ epx), (by rw [upd_ne (Ne.symm Lpy)]; exact s46 _ _ epy), upd_same, ?_⟩
            have k5 : TupK H5 (upd H5 L (.lst (xs ++ ls))) := TupK.put e5 (fun _ z => nomatch z)
            rw [cellsIn_inner hw, ← List.append_assoc, List.map_append, ← cells_fm]
            exact ((t3.keep (TupK.of s46)).append tM).keep k5
        · rintro σ H3 ⟨xs, r3, r4, rfl, s4, epx, epy, eL, t3⟩
          rw [List.length_map, List.take_length, ← cellsIn_outer hu] at t3
          exact ⟨xs, _, r3, r4, rfl, s4, epx, eL, t3⟩
      · rintro σ H3 ⟨xs, r2, r3, r4, rfl, s3, epx, eL, t3⟩
        rw [List.length_map, List.take_length] at t3
        exact ⟨_, rfl, q _ L _ s3 nL eL t3⟩
end
end Ld
namespace Ld
open PySem PySem.Spec PyProof.Rows L2 LamX
/-! ### a != b, lists of plain values -/
def rNeL (K : PySem.W.Frag) : R2 := fun x y H Q => ∃ (a b : Addr) (xs ys : List V), x = .ref a ∧ y = .ref b ∧ SqL K H a xs ∧ SqL K H b ys ∧ ((xs.length ≠ ys.length ∧ Q (.bl true) H) ∨ (xs = ys ∧ xs.all flatB = true ∧ Q (.bl false) H))
theorem op_neL {X : Cx} (hu : X.A.units + 64 < cLine) : OpR X (compareOp .NotEq) (rNeL X.K) := by
  intro pins s σ H x y v u Q I rx ry h
  obtain ⟨a, b, xs, ys, rfl, rfl, ha, hb, h⟩ := h
  cases (show v = Value.ref a from rx)
  cases (show u = Value.ref b from ry)
  obtain ⟨us, r1, p1, _⟩ := I.list ha
  obtain ⟨ws, r2, p2, _⟩ := I.list hb
  have l1 := r1.length
  have l2 := r2.length
  rcases h with ⟨ne, q⟩ | ⟨rfl, f, q⟩
  · exact SeqAt.RcNeAt.lists_lengths p1.isList p2.isList (by simp; omega) (by omega) X.prog X.w _ _ ⟨.bl true, H, I, rfl, q⟩
  · have hsz : us.toArray.size = ws.toArray.size := by simp; omega
    have he : ∀ j (h1 : j < us.toArray.size) (h2 : j < ws.toArray.size), SeqAt.EqAt X.A.in1 s us.toArray[j] ws.toArray[j] true := fun j h1 h2 => by
      have k1 : j < us.length := by simpa using h1
      have k2 : j < ws.length := by simpa using h2
      have kx : j < xs.length := by omega
      obtain ⟨u1, e1, q1⟩ := r1.get (List.getElem?_eq_getElem kx)
      obtain ⟨u2, e2, q2⟩ := r2.get (List.getElem?_eq_getElem kx)
      rw [List.getElem?_eq_getElem k1] at e1
      rw [List.getElem?_eq_getElem k2] at e2
      have := eqAt_same (A := X.A.in1) (s := s) q1 q2 (List.all_eq_true.mp f _ (List.getElem_mem kx))
      rw [← Option.some.inj e1, ← Option.some.inj e2] at this
      simpa using this
    refine SeqAt.RcNeAt.lists (e := fun _ => true) p1.isList p2.isList hsz (by omega) he X.prog X.w _ _ ?_
    rw [show ((List.range us.toArray.size).all fun _ => true) = true from List.all_eq_true.mpr fun _ _ => rfl]
    exact ⟨.bl false, H, I, rfl, q⟩
section
variable {P : Program} {w : World} {K : PySem.W.Frag} {mg : Str → Option Value} {base : Heap} {f : Addr} {fd : FuncData} {C : Addr}
theorem sc_stretch : FnScope ["_law_spots", "_law_pact_here"] ["_law_spots", "_law_pact_here"] (defScope sStretch) := ⟨rfl, rfl, rfl, by decide +kernel, rfl, by decide +kernel, by decide +kernel⟩
theorem ok_stretch (F : Fun K "_law_stretch" "_law_stretch" sStretch f fd) : FnOk P w K mg base CX0 1 f fd ["_law_spots", "_law_pact_here"] spStretch := by
  refine F.ok sc_stretch (fun vs H Q E h => ?_) fun cdv A outer s H vs Q E hr h => ?_
  · obtain ⟨sp, q0, p, kvs, x, y, rfl, _⟩ := h
    rfl
  · obtain ⟨sp, q0, p, kvs, x, y, rfl, hs, hp, vx, vy, q⟩ := h
    apply Exists.intro
    apply And.intro
    · exact pss_one (ps_ret (pe_tup (pa_cons (pe_op op_add (pe_dget (ru1 hr) (pv 0) (pe_ix ix_tup (pe_dget (ru1 hr) (pv 1) pe_str (fun _ _ => rfl)) pe_int (fun _ _ => rfl)) (fun _ _ => rfl)) (pe_ix ix_tup (pe_dget (ru1 hr) (pv 1) pe_str (fun _ _ => rfl)) pe_int (fun _ _ => rfl)))
        (pa_cons (pe_op op_add (pe_dget (ru1 hr) (pv 0) (pe_ix ix_tup (pe_dget (ru1 hr) (pv 1) pe_str (fun _ _ => rfl)) pe_int (fun _ _ => rfl)) (fun _ _ => rfl)) (pe_ix ix_tup (pe_dget (ru1 hr) (pv 1) pe_str (fun _ _ => rfl)) pe_int (fun _ _ => rfl))) pa_nil))))
    · obtain ⟨a, b, c, h, t, e0, e1, e2, e3, e4, e5⟩ := hp
      refine ⟨_, rfl, _, rfl, q0, .ref h, rfl, DGet.k (k := .inr "head") e0, h, _, 0, .str p.hd, rfl, rfl, SqT.of e4, rfl, sp, _, rfl, vx ▸ DGet.k (k := .inr p.hd) hs, ?_⟩
      refine ⟨_, rfl, q0, .ref h, rfl, DGet.k (k := .inr "head") e0, h, _, 1, .int p.fi, rfl, rfl, SqT.of e4, rfl, x, p.fi, rfl, rfl, ?_⟩
      refine ⟨_, rfl, _, rfl, q0, .ref t, rfl, DGet.k (k := .inr "tail") e0, t, _, 0, .str p.tl, rfl, rfl, SqT.of e5, rfl, sp, _, rfl, vy ▸ DGet.k (k := .inr p.tl) hs, ?_⟩
      refine ⟨_, rfl, q0, .ref t, rfl, DGet.k (k := .inr "tail") e0, t, _, 1, .int p.la, rfl, rfl, SqT.of e5, rfl, y, p.la, rfl, rfl, (show (2 : Nat) ≤ sizeLine by decide), fun T nT => ?_⟩
      exact q _ T (same_upd nT) upd_same
end
/-! ### the heap but for the pot and the tables -/
def core (a : Addr) (H : Hp) : Hp := fun b => if b = a then none else match H b with
  | some (.tbl _) => none
  | o => o
theorem core_of {a b : Addr} {H : Hp} {o : HO} (e : H b = some o) (n : b ≠ a) (t : ∀ ps, o ≠ .tbl ps) : core a H b = some o := by
  unfold core
  rw [if_neg n, e]
  cases o <;> first | rfl | exact absurd rfl (t _)
theorem core_to {a b : Addr} {H : Hp} {o : HO} (e : core a H b = some o) : H b = some o ∧ b ≠ a ∧ ∀ ps, o ≠ .tbl ps := by
  unfold core at e
  by_cases n : b = a
  · rw [if_pos n] at e
    cases e
  · rw [if_neg n] at e
    cases h : H b with
    | none => rw [h] at e; cases e
    | some u =>
      rw [h] at e
      cases u <;> first
        | (cases e; exact ⟨rfl, n, fun ps z => nomatch z⟩)
        | cases e
theorem core_same {a : Addr} {H : Hp} : Same (core a H) H := fun _ _ e => (core_to e).1
def Kp (a : Addr) (H H' : Hp) : Prop := Same (core a H) (core a H')
theorem Kp.refl {a : Addr} {H : Hp} : Kp a H H := Same.refl _
theorem Kp.trans {a : Addr} {H H1 H2 : Hp} (x : Kp a H H1) (y : Kp a H1 H2) : Kp a H H2 := Same.trans x y
theorem Kp.of_off {a : Addr} {H H' : Hp} (o : Off a H H') : Kp a H H' := fun _ _ e => by
  obtain ⟨h1, h2, h3⟩ := core_to e
  exact core_of (o _ _ h1 h2) h2 h3
theorem Kp.of_same {a : Addr} {H H' : Hp} (s : Same H H') : Kp a H H' := .of_off (.of s)
theorem Kp.of_ext {a : Addr} {H H' : Hp} (x : ExtN H H') : Kp a H H' := fun _ _ e => by
  obtain ⟨h1, h2, h3⟩ := core_to e
  exact core_of (x _ _ h1 h3) h2 h3
/-- the pot and the tables stand -/
structure Wd (a : Addr) (T : List (Addr × Str)) (H : Hp) : Prop where
  p : PotAt H a
  t : Tabs T H
theorem Wd.off {a : Addr} {T : List (Addr × Str)} {H H' : Hp} (d : Wd a T H) (o : Off a H H') (p : PotAt H' a) : Wd a T H' := by
  refine ⟨p, fun q hq => ?_⟩
  obtain ⟨ps, h1, h2, h3⟩ := d.t q hq
  have na : ∀ {b : Addr} {u : HO}, H b = some u → (∀ x y, u ≠ .lst [.int x, .int y]) → b ≠ a := fun {b u} e n z => by
    obtain ⟨x, y, ea, _⟩ := d.p
    rw [z, ea] at e
    exact n _ _ (Option.some.inj e).symm
  refine ⟨ps, o _ _ h1 (na h1 fun _ _ z => nomatch z), h2, fun pos cv hc => ?_⟩
  obtain ⟨c, e1, e2⟩ := h3 pos cv hc
  exact ⟨c, e1, o _ _ e2 (na e2 fun x y z => by unfold CodeO at z; cases z)⟩
theorem Wd.same {a : Addr} {T : List (Addr × Str)} {H H' : Hp} (d : Wd a T H) (s : Same H H') : Wd a T H' := ⟨d.p.same s, d.t.ext s⟩
theorem PotAt.ext {a : Addr} {H H' : Hp} (p : PotAt H a) (x : ExtN H H') : PotAt H' a := by
  obtain ⟨u, v, e, r⟩ := p
  exact ⟨u, v, x _ _ e (fun _ z => nomatch z), r⟩
end Ld
namespace Ld
open PySem PySem.Spec PyProof.Rows L2 LamX
open L2H (RoomH)
/-! ### a def that makes lambdas: its code object is known -/
structure FunC (K : PySem.W.Frag) (x qual : Str) (st : Stmt) (f : Addr) (fd : FuncData) (c : Addr) : Prop where
  ex : ∃ (oc : Value) (od : Option Addr) (kV doc pm : Value) (an : Option Addr) (ct : Value) (osl : Array (Option Value)),
    fd = PySem.W.fnOf x qual (defArgs st) (defBody st) (defScope st) .none kV doc pm an (.ref c) ct ∧ K.lookup f = some ⟨oc, od, .func fd, osl⟩ ∧ PySem.W.codeIn K (.ref c) qual = true
  kp : PySem.W.keepIn K (.ref f) = true
theorem FunC.okG {P : Program} {w : World} {K : PySem.W.Frag} {mg : Str → Option Value} {base : Heap} {cx : CXT} {k : Nat} {f c : Addr} {fd : FuncData} {ps : List Str} {sp : Sp} {x qual : Str} {st : Stmt} {N : List Str} (F : FunC K x qual st f fd c) (S : FnScope N ps (defScope st)) (len : ∀ vs H Q E, sp vs H Q E → vs.length = ps.length)
    (hbody : ∀ (A : Around) (outer : List Env) (s : Shared) (H : Hp) (vs : List V) (Q : VK) (E : XK), A.guards = some [] → Room k (A.deeper (envOfC qual (defScope st) s.heap.objs.size f (.ref c))) → sp vs H Q E →
      ∃ t, PSs (cxOf cx P w K mg base N qual (defScope st) f (.ref c) A outer s H E) (defBody st) t ∧ t { nx := fun _ H' => Q .non H', rt := Q } (start N vs) H) : FnG P w K mg base cx (k + 1) f fd ps sp := by
  obtain ⟨oc, od, kV, doc, pm, an, ct, osl, rfl, lk, hcd⟩ := F.ex
  refine ⟨len, fun A outer s H args us vs Q E hg hr e0 r hb hsp => ?_⟩
  exact LamX.run_ofS lk hcd S hr e0 hb r (len _ _ _ _ hsp) fun hr' => hbody A outer s H vs Q E hg hr' hsp
theorem FunC.okG0 {P : Program} {w : World} {K : PySem.W.Frag} {mg : Str → Option Value} {base : Heap} {k : Nat} {f c : Addr} {fd : FuncData} {ps : List Str} {sp : Sp} {x qual : Str} {st : Stmt} {N : List Str} (F : FunC K x qual st f fd c) (S : FnScope N ps (defScope st)) (len : ∀ vs H Q E, sp vs H Q E → vs.length = ps.length)
    (hbody : ∀ (A : Around) (outer : List Env) (s : Shared) (H : Hp) (vs : List V) (Q : VK) (E : XK), A.guards = some [] → Room k (A.deeper (envOfC qual (defScope st) s.heap.objs.size f (.ref c))) → sp vs H Q E →
      ∃ t, PSs (cxOf CX0 P w K mg base N qual (defScope st) f (.ref c) A outer s H E).nox (defBody st) t ∧ t { nx := fun _ H' => Q .non H', rt := Q } (start N vs) H) : FnG P w K mg base CX0 (k + 1) f fd ps sp :=
  F.okG S len fun A outer s H vs Q E h0 hr h => by
    obtain ⟨t, a, b⟩ := hbody A outer s H vs Q E h0 hr h
    exact ⟨t, a.nox, b⟩
/-! ### methods called by keywords alone -/
def gK {α : Type} (n : Nat) (us ws : List α) : List α := if us.length = 1 ∧ ws.length = n then us ++ ws else []
def gS {α : Type} (us ws : List α) : List α := if us.length = 1 ∧ ws.length = 2 then us ++ ws.reverse else []
theorem vals_rev : ∀ {vs : List V} {us : List Value}, Vals vs us → Vals vs.reverse us.reverse
  | _, _, .nil => .nil
  | _, _, .cons a b => by
    rw [List.reverse_cons, List.reverse_cons]
    exact (vals_rev b).append (.cons a .nil)
theorem gK_rel {n : Nat} {vs zs : List V} {us ws : List Value} (r : Vals vs us) (t : Vals zs ws) : Vals (gK n vs zs) (gK n us ws) := by
  unfold gK
  rw [r.length, t.length]
  split
  · exact r.append t
  · exact .nil
theorem gS_rel {vs zs : List V} {us ws : List Value} (r : Vals vs us) (t : Vals zs ws) : Vals (gS vs zs) (gS us ws) := by
  unfold gS
  rw [r.length, t.length]
  split
  · exact r.append (vals_rev t)
  · exact .nil
structure MKOk (P : Program) (w : World) (K : PySem.W.Frag) (mg : Str → Option Value) (base : Heap) (cx : CXT) (k : Nat) (C : Addr) (m : Str) (ks : List Str) (g : List Value → List Value → List Value) (gV : List V → List V → List V) (sp : Sp) : Prop where
  ex : ∃ (f : Addr) (fd : FuncData) (ps : List Str), Meth K C m f ∧ FnOk P w K mg base cx k f fd ps sp ∧ KBinds K fd ps ks g gV
theorem pe_mK {X : Cx} {cx : CXT} {k j : Nat} {C : Addr} {m : Str} {ks : List Str} {g : List Value → List Value → List Value} {gV : List V → List V → List V} {sp : Sp} {E : XK} {pos apos : Pos} {o : Expr} {kws : List Keyword} {ta : TE} {tk : TA} {pl : Sem Bool}
    (c : MKOk X.prog X.w X.K X.mg X.base cx k C m ks g gV sp) (hc : Cls X.K C) (hr : Room j X.A) (hk : k ≤ j) (hx : Passes cx X E) (he : PE X o ta) (hkw : PK X kws tk)
    (hall : (backToKw pos (keywordEach kws X.env)).all (·.1.isSome) = true := by rfl) (hks : (backToKw pos (keywordEach kws X.env)).filterMap (·.1) = ks := by rfl)
    (hpl : ((backTo pos (starEach [] X.env)).any (·.1) || (backToKw pos (keywordEach kws X.env)).any (·.1.isNone)) = false := by rfl)
    (ht : eval (.Call (.Attribute o m apos) [] kws pos) X.env = (do
      let ov ← eval o X.env
      standAt apos.atName
      let (f, first) ← holding [ov] (getMethod ov m pl)
      callWith pos f first (backTo pos (starEach [] X.env)) (backToKw pos (keywordEach kws X.env))) := by rfl) :
    PE X (.Call (.Attribute o m apos) [] kws pos) (fun σ H Q => ta σ H fun x H1 => ∃ a dx fs, x = .ref a ∧ H1 a = some (.ins C dx fs) ∧ fs.lookup m = none ∧ tk σ H1 fun zs H2 => sp (gV [x] zs) H2 Q E) := by
  obtain ⟨f, fd, ps, h1, h3, h4⟩ := c.ex
  exact pe_methKw he hc h1 h3 (hr.mono hk) h4 hx hkw hall hks hpl ht
/-- first <= at <= last -/
def tOn (i j k : Nat) : TE := fun σ H Q => ∃ F n L : Int, σ[i]? = some (some (.int F)) ∧ σ[j]? = some (some (.int n)) ∧ σ[k]? = some (some (.int L)) ∧ Q (.bl (onB F L n)) H
theorem pe_on {X : Cx} {a b c : Expr} {pos : Pos} {i j k : Nat} (ha : PE X a (tVar i)) (hb : PE X b (tVar j)) (hc : PE X c (tVar k)) (hm : lastMarks [CmpOp.LtE, CmpOp.LtE] [b, c] = false := by with_unfolding_all rfl) : PE X (.Compare a [.LtE, .LtE] [b, c] pos) (tOn i j k) :=
  PE.imp (pe_chain op_le op_le ha hb hc hm) fun σ H Q ⟨F, n, L, e1, e2, e3, q⟩ => by
    refine ⟨_, e1, _, e2, F, n, rfl, rfl, _, rfl, ?_⟩
    unfold onB at q
    cases h1 : decide (F ≤ n) with
    | false =>
      rw [h1] at q
      exact iteF q
    | true =>
      rw [h1] at q
      exact iteT ⟨_, e3, n, L, rfl, rfl, q⟩
/-- a table, the maker's code object, what the table holds -/
structure Tb (base : Heap) (mg : Str → Option Value) (T : List (Addr × Str)) (q : Str) (c P : Addr) : Prop where
  tb : TabB base mg c P
  mem : (P, q ++ "<lambda>") ∈ T
  un : ∀ p ∈ T, p.1 = P → p.2 = q ++ "<lambda>"
end Ld
namespace Ld
open PySem PySem.Spec PyProof.Rows L2 LamX
open L2H (RoomH)
/-- what the law's checks lean on -/
structure LK (P : Program) (w : World) (K : PySem.W.Frag) (mg : Str → Option Value) (base : Heap) (C CDE CD CN CX : Addr) : Prop where
  B : Cs mg
  D : DealK K mg C
  R : ROk P w K mg base C
  HK : Heard K mg CDE CD CN CX
  heard : ∃ (g : Addr) (gd : FuncData), Fun K "_law_heard" "_law_heard" sHeard g gd ∧ mg "_law_heard" = some (.ref g) ∧ Binds K gd ["_law_call"] []
  days : MOk P w K mg base (L2N.CX P w) 3 C "days" (spDays C CD)
  daysK : MKOk P w K mg base (L2N.CX P w) 3 C "days" ["dates"] (gK 1) (gK 1) (spDays C CD)
  isOn : MOk P w K mg base (L2N.CX P w) 4 C "is_on" (spIsOn C CD CN)
  isOnK : MKOk P w K mg base (L2N.CX P w) 4 C "is_on" ["day", "dates"] gS gS (spIsOn C CD CN)
  touches : MOk P w K mg base (L2N.CX P w) 4 C "touches" (spTouches K C CX)
  touchesK : MKOk P w K mg base (L2N.CX P w) 4 C "touches" ["other"] (gK 1) (gK 1) (spTouches K C CX)
  and_ : AOk P w K mg base (L2N.CX P w) 3 C (spAnd K C CX)
  pick : GOk P w K mg base CX0 2 "_law_pick" spPick
  stretch : GOk P w K mg base CX0 1 "_law_stretch" spStretch
  lcells : GOk P w K mg base CX0 1 "_law_cells" spLCells
/-- the dates that are told, and what the deal makes of them -/
structure Told (G : Hp) (t : Addr) (ds : List (PyData × PyData)) : Prop where
  sh : Sh G (.ref t) (.dict ds)
  ni : Nice 15 60000 (.dict ds)
def Mid (i : Int) : Prop := -(10 ^ 31) ≤ i ∧ i ≤ 10 ^ 31
theorem Mid.small {i : Int} (h : Mid i) : Small i := by
  unfold Mid at h
  show i.natAbs < 10 ^ 60
  omega
def spDaysR (T : List (Addr × Str)) (C : Addr) : Sp := fun vs H Q _ => ∃ (a q nd t sp : Addr) (p : Pact) (ds : List (PyData × PyData)) (kvs : List (Key × V)) (x y : Int), vs = [.ref a, .ref q, .ref nd, .ref t, .ref sp] ∧ Wd a T H ∧ PactAt (core a H) q p ∧ PactOk p ∧ DealAt C (core a H) nd p.deal ∧ Told (core a H) t ds ∧
  core a H sp = some (.dK kvs) ∧ valV kvs (.inr p.hd) = some (.int x) ∧ valV kvs (.inr p.tl) = some (.int y) ∧ Mid (x + p.fi) ∧ Mid (y + p.la) ∧ daysD p.deal (.dict ds) = some (x + p.fi, y + p.la) ∧ ∀ H', Kp a H H' → Wd a T H' → Q (.bl true) H'
theorem pair_nice {F L : Int} (h1 : Mid F) (h2 : Mid L) : Nice 2 1000 (.list [.tuple [.int F, .int L], .tuple [.int F, .int L]]) := by
  have one : Nice 1 402 (.tuple [.int F, .int L]) := by
    refine Nice.tuple (dp := 0) (n := 200) (k := 2) (fun d hd => ?_) (Nat.le_refl _) (Nat.le_refl _)
    simp only [List.mem_cons, List.not_mem_nil, or_false] at hd
    rcases hd with rfl | rfl
    · exact nice_int h1.small
    · exact nice_int h2.small
  refine Nice.list (dp := 1) (n := 402) (k := 2) (fun d hd => ?_) (Nat.le_refl _) (by decide)
  simp only [List.mem_cons, List.not_mem_nil, or_false] at hd
  rcases hd with rfl | rfl <;> exact one
theorem nice_bools (bs : List Bool) (h : bs.length ≤ 3) : Nice 1 10 (.list (bs.map PyData.bool)) := by
  refine Nice.list (dp := 0) (n := 0) (k := 3) (fun d hd => ?_) (by rw [List.length_map]; exact h) (by decide)
  obtain ⟨b, _, rfl⟩ := List.mem_map.mp hd
  exact nice_bool b
theorem ne_self {t : Str} : (!decide (V.str t = V.str t)) = false := by
  rw [decide_eq_true rfl]
  rfl
theorem eq_self {t : Str} : decide (V.str t = V.str t) = true := decide_eq_true rfl
theorem roomA {k : Nat} {A : Around} (r : Room k A) (h : 3 ≤ k) : RoomH 3 A := ⟨(r.mono h).dp, (r.mono h).un⟩
section
variable {P : Program} {w : World} {K : PySem.W.Frag} {mg : Str → Option Value} {base : Heap} {f c Pt : Addr} {fd : FuncData} {C CDE CD CN CX : Addr} {T : List (Addr × Str)}
theorem sc_daysR : FnScope ["_law_pot_here", "_law_pact_here", "_law_near", "_law_told", "_law_spots", "_law_first", "_law_last", "_law_kept", "_law_at", "_law_due", "_law_odd"] ["_law_pot_here", "_law_pact_here", "_law_near", "_law_told", "_law_spots"] (defScope sDaysR) := ⟨rfl, rfl, rfl, by decide +kernel, rfl, by decide +kernel, by decide +kernel⟩
theorem ok_daysR (Lk : LK P w K mg base C CDE CD CN CX) (F : FunC K "_law_days_right" "_law_days_right" sDaysR f fd c) (tb : Tb base mg T (("_law_days_right" : Str) ++ ".<locals>.") c Pt) :
    FnG P w K mg base CX0 7 f fd ["_law_pot_here", "_law_pact_here", "_law_near", "_law_told", "_law_spots"] (spDaysR T C) := by
  obtain ⟨gh, ghd, Fh, mh, bh⟩ := Lk.heard
  refine F.okG0 sc_daysR (fun vs H Q E h => ?_) fun A outer s H vs Q E h0 hr h => ?_
  · obtain ⟨a, q, nd, t, sp, p, ds, kvs, x, y, rfl, _⟩ := h
    rfl
  · obtain ⟨a, q0, nd, t, sp, p, ds, kvs, x, y, rfl, wd, hp, op, hd, tol, hsp, vx, vy, m1, m2, hday, q⟩ := h
    have B := Lk.B
    have D := Lk.D
    apply Exists.intro
    apply And.intro
    · exact pss_cons (ps_asg (pe_g Lk.stretch hr (by decide) rfl pass0 (pa_cons (pv 4) (pa_cons (pv 1) pa_nil))) (pg_tup rfl (pgs_cons (pg_name (i := 5) sc_daysR.nd rfl (Or.inl rfl)) (pgs_cons (pg_name (i := 6) sc_daysR.nd rfl (Or.inl rfl)) pgs_nil))))
        (pss_cons (ps_set (i := 7) sc_daysR.nd rfl (Or.inl rfl) (pe_callB (r := rReprA C) (cr_reprA Lk.R h0 (.inl rfl) (roomA hr (by decide))) rfl (B.nb _ (by decide)) rfl (pa_cons (pv 3) pa_nil)))
        (pss_cons (ps_if (pt_cmpR op_ne (pe_callB (r := rReprA C) (cr_reprA Lk.R h0 (.inl rfl) (roomA hr (by decide))) rfl (B.nb _ (by decide)) rfl (pa_cons (pe_lst (pa_cons (pe_m Lk.days D.cls hr (by decide) passF (pv 2) (pa_cons (pv 3) pa_nil)) (pa_cons (pe_mK Lk.daysK D.cls hr (by decide) passF (pv 2) (pk_cons (pv 3) pk_nil)) pa_nil))) pa_nil))
            (pe_callB (r := rReprA C) (cr_reprA Lk.R h0 (.inl rfl) (roomA hr (by decide))) rfl (B.nb _ (by decide)) rfl (pa_cons (pe_lst (pa_cons (pe_tup (pa_cons (pv 5) (pa_cons (pv 6) pa_nil))) (pa_cons (pe_tup (pa_cons (pv 5) (pa_cons (pv 6) pa_nil))) pa_nil))) pa_nil)) (nomark _)) (pss_one (ps_ret pe_bl)) pss_nil)
        (pss_cons (ps_for PassesOwn.never rfl (pi_list (pe_lst (pa_cons (pe_op op_sub (pv 5) pe_int) (pa_cons (pv 5) (pa_cons (pv 6) (pa_cons (pe_op op_add (pv 6) pe_int) (pa_cons (pe_op op_fdiv (pe_op op_add (pv 5) (pv 6)) pe_int) (pa_cons pe_int (pa_cons (pe_op op_sub (pv 5) (pe_op op_pow pe_int pe_int)) pa_nil)))))))))
            (pg_name (i := 8) sc_daysR.nd rfl (Or.inl rfl))
            (pss_cons (ps_set (i := 9) sc_daysR.nd rfl (Or.inl rfl) (pe_on (pv 5) (pv 8) (pv 6)))
            (pss_one (ps_if (pt_cmpR op_ne (pe_callB (r := rReprA C) (cr_reprA Lk.R h0 (.inl rfl) (roomA hr (by decide))) rfl (B.nb _ (by decide)) rfl (pa_cons (pe_lst (pa_cons (pe_m Lk.isOn D.cls hr (by decide) passF (pv 2) (pa_cons (pv 3) (pa_cons (pv 8) pa_nil))) (pa_cons (pe_mK Lk.isOnK D.cls hr (by decide) passF (pv 2) (pk_cons (pv 8) (pk_cons (pv 3) pk_nil))) pa_nil))) pa_nil))
              (pe_callB (r := rReprA C) (cr_reprA Lk.R h0 (.inl rfl) (roomA hr (by decide))) rfl (B.nb _ (by decide)) rfl (pa_cons (pe_lst (pa_cons (pv 9) (pa_cons (pv 9) pa_nil))) pa_nil)) (nomark _)) (pss_one (ps_ret pe_bl)) pss_nil))))
        (pss_cons (ps_set (i := 10) sc_daysR.nd rfl (Or.inr rfl) (pe_g Lk.pick hr (by decide) rfl pass0 (pa_cons (pv 0) (pa_cons (pe_lst (pa_cons pe_non (pa_cons pe_bl (pa_cons pe_bl (pa_cons pe_str (pa_cons (pe_tup pa_nil) (pa_cons (pe_lst (pa_cons (pv 5) pa_nil)) (pa_cons pe_dnewK pa_nil)))))))) pa_nil))))
        (pss_cons (ps_if (pt_cmpR (r := rNeL K) (op_neL (ru64 hr)) (pe_heard Fh mh bh B Lk.HK Lk.R rfl h0 tb.tb rfl tb.mem tb.un hr (lamS_by (sc := defScope sDaysR) (by decide +kernel)) rfl (fun _ _ _ _ _ => rfl) (fun A' outer' s' H' E' f' c' hr2 => pe_m Lk.isOn D.cls hr2 (Nat.le_refl _) passL (pv 2) (pa_cons (pv 3) (pa_cons (pv 10) pa_nil))))
            (pe_lst (pa_cons pe_str (pa_cons (pe_callB (r := rReprA C) (cr_reprA Lk.R h0 (.inl rfl) (roomA hr (by decide))) rfl (B.nb _ (by decide)) rfl (pa_cons (pv 10) pa_nil)) (pa_cons pe_bl pa_nil)))) (nomark _)) (pss_one (ps_ret pe_bl)) pss_nil)
        (pss_one (ps_ret (pe_cmpR op_eq (pe_callB (r := rReprA C) (cr_reprA Lk.R h0 (.inl rfl) (roomA hr (by decide))) rfl (B.nb _ (by decide)) rfl (pa_cons (pv 3) pa_nil)) (pv 7) (nomark _)))))))))
    · have all : ∀ {Hc : Hp}, Kp a H Hc → PactAt Hc q0 p ∧ DealAt C Hc nd p.deal ∧ Sh Hc (.ref t) (.dict ds) ∧ Hc sp = some (.dK kvs) := fun {Hc} k => ⟨(hp.same k).same core_same, (hd.same k).same core_same, (tol.sh.same k).same core_same, core_same _ _ (k _ _ hsp)⟩
      have hdno : daysD p.deal (.dict ds) = none → False := fun z => by rw [hday] at z; cases z
      obtain ⟨p0, _, _, s0⟩ := all Kp.refl
      refine ⟨_, rfl, _, rfl, sp, q0, p, kvs, x, y, rfl, s0, p0, vx, vy, fun H1 T1 s1 hT1 => ?_⟩
      refine ⟨T1, _, rfl, SqT.of hT1, rfl, _, _, rfl, _, _, rfl, rfl, ?_⟩
      have k1 : Kp a H H1 := .of_same s1
      have w1 := wd.same s1
      refine ⟨_, rfl, .ref t, PyData.shown (.dict ds), rfl, .inl ⟨_, (all k1).2.2.1, tol.ni.mono (by decide) (by decide), rfl⟩, fun H2 s2 => ?_⟩
      have k2 := k1.trans (.of_same s2)
      have w2 := w1.same s2
      obtain ⟨_, d2, t2, _⟩ := all k2
      obtain ⟨dx, fs, g2, n2⟩ := d2.obj
      refine ⟨_, rfl, nd, dx, fs, rfl, g2, n2 _ (by decide), _, rfl, nd, p.deal, .ref t, .dict ds, rfl, d2, t2, fun f l e H3 a3 s3 h3 => ?_, fun z => (hdno z).elim⟩
      rw [hday] at e
      cases e
      have k3 := k2.trans (.of_same s3)
      obtain ⟨_, d3, t3, _⟩ := all k3
      obtain ⟨dy, gs, g3, n3⟩ := d3.obj
      refine ⟨_, rfl, nd, dy, gs, rfl, g3, n3 _ (by decide), _, rfl, nd, p.deal, .ref t, .dict ds, rfl, d3, t3, fun f l e H4 b4 s4 h4 => ?_, fun z => (hdno z).elim⟩
      rw [hday] at e
      cases e
      have ptup : ∀ {Hz : Hp} {b : Addr}, Hz b = some (.tup [.int (x + p.fi), .int (y + p.la)]) → Sh Hz (.ref b) (.tuple [.int (x + p.fi), .int (y + p.la)]) := fun {Hz b} e => .tup e (.cons (.int _) (.cons (.int _) .nil))
      refine ⟨(show (2 : Nat) ≤ sizeLine by decide), fun L5 n5 => ?_⟩
      refine ⟨.ref L5, _, rfl, .inl ⟨.list [.tuple [.int (x + p.fi), .int (y + p.la)], .tuple [.int (x + p.fi), .int (y + p.la)]], .lst upd_same (.cons (ptup (same_upd n5 _ _ (s4 _ _ h3))) (.cons (ptup (same_upd n5 _ _ h4)) .nil)), (pair_nice m1 m2).mono (by decide) (by decide), rfl⟩, fun H6 s6 => ?_⟩
      have s26 : Same H2 H6 := ((s3.trans s4).trans (same_upd n5)).trans s6
      refine ⟨_, rfl, _, rfl, (show (2 : Nat) ≤ sizeLine by decide), fun A7 n7 => ?_⟩
      refine ⟨_, rfl, _, rfl, (show (2 : Nat) ≤ sizeLine by decide), fun A8 n8 => ⟨(show (2 : Nat) ≤ sizeLine by decide), fun L9 n9 => ?_⟩⟩
      refine ⟨.ref L9, _, rfl, .inl ⟨.list [.tuple [.int (x + p.fi), .int (y + p.la)], .tuple [.int (x + p.fi), .int (y + p.la)]], .lst upd_same (.cons (ptup (same_upd n9 _ _ (same_upd n8 _ _ upd_same))) (.cons (ptup (same_upd n9 _ _ upd_same)) .nil)), (pair_nice m1 m2).mono (by decide) (by decide), rfl⟩, fun H10 s10 => ?_⟩
      have s2x : Same H2 H10 := s26.trans (((same_upd n7).trans ((same_upd n8).trans (same_upd n9))).trans s10)
      refine ⟨rfl, _, rfl, ?_⟩
      rw [ne_self]
      refine iteF ?_
      have k10 := k2.trans (.of_same s2x)
      have w10 := w2.same s2x
      -- the days asked
      refine ⟨_, rfl, _, 1, rfl, rfl, _, rfl, _, rfl, _, rfl, _, 1, rfl, rfl, _, rfl, _, rfl, _, _, rfl, rfl, _, 2, rfl, rfl, ⟨by decide, by decide⟩, _, rfl, 10, 25, rfl, rfl, ⟨by decide, by decide, by decide⟩, _, _, rfl, rfl, (show (7 : Nat) ≤ sizeLine by decide), fun L11 n11 => ?_⟩
      refine ⟨L11, rfl, ⟨_, SqL.of upd_same⟩, ?_⟩
      have s11 : Same H10 (upd H10 L11 (.lst [V.int (x + p.fi - 1), .int (x + p.fi), .int (y + p.la), .int (y + p.la + 1), .int ((x + p.fi + (y + p.la)) / 2), .int 0, .int (x + p.fi - 10 ^ (25 : Int).toNat)])) := same_upd n11
      have k11 := k10.trans (.of_same s11)
      have w11 := w10.same s11
      refine for_it (walk_list (xs := [V.int (x + p.fi - 1), .int (x + p.fi), .int (y + p.la), .int (y + p.la + 1), .int ((x + p.fi + (y + p.la)) / 2), .int 0, .int (x + p.fi - 10 ^ (25 : Int).toNat)])) (fun i σ H' => ∃ r8 r9, σ = [some (.ref a), some (.ref q0), some (.ref nd), some (.ref t), some (.ref sp), some (.int (x + p.fi)), some (.int (y + p.la)), some (.str (PyData.shown (.dict ds))), r8, r9, none] ∧
          Same (upd H10 L11 (.lst [V.int (x + p.fi - 1), .int (x + p.fi), .int (y + p.la), .int (y + p.la + 1), .int ((x + p.fi + (y + p.la)) / 2), .int 0, .int (x + p.fi - 10 ^ (25 : Int).toNat)])) H') ⟨none, none, rfl, Same.refl _⟩ (fun i σ H' _ z => by obtain ⟨_, _, _, z⟩ := z; exact SqL.of (z _ _ upd_same)) ?_ ?_
      · rintro i v σ H12 H13 hi ⟨r8, r9, rfl, s12⟩ ⟨rfl, hv⟩
        obtain ⟨n, rfl⟩ : ∃ n : Int, v = .int n := by
          have m := List.mem_of_getElem? hv
          simp only [List.mem_cons, List.not_mem_nil, or_false] at m
          rcases m with rfl | rfl | rfl | rfl | rfl | rfl | rfl <;> exact ⟨_, rfl⟩
        have k12 := k11.trans (.of_same s12)
        refine ⟨_, n, _, rfl, rfl, rfl, ?_⟩
        obtain ⟨_, d12, t12, _⟩ := all k12
        obtain ⟨dx, fs, g12, n12⟩ := d12.obj
        refine ⟨_, rfl, nd, dx, fs, rfl, g12, n12 _ (by decide), _, rfl, _, rfl, nd, p.deal, .ref t, .dict ds, .int n, .int n, rfl, d12, t12, .int n, fun z => (hdno z).elim, fun f l e => ?_⟩
        rw [hday] at e
        cases e
        refine ⟨(fun z => nomatch z), fun i ei H14 s14 => ?_⟩
        cases ei
        have k14 := k12.trans (.of_same s14)
        obtain ⟨_, d14, t14, _⟩ := all k14
        obtain ⟨dx, fs, g14, n14⟩ := d14.obj
        refine ⟨_, rfl, nd, dx, fs, rfl, g14, n14 _ (by decide), _, rfl, _, rfl, nd, p.deal, .ref t, .dict ds, .int n, .int n, rfl, d14, t14, .int n, fun z => (hdno z).elim, fun f l e => ?_⟩
        rw [hday] at e
        cases e
        refine ⟨(fun z => nomatch z), fun i ei H15 s15 => ?_⟩
        cases ei
        refine ⟨(show (2 : Nat) ≤ sizeLine by decide), fun L16 n16 => ?_⟩
        refine ⟨.ref L16, _, rfl, .inl ⟨.list ([onB (x + p.fi) (y + p.la) n, onB (x + p.fi) (y + p.la) n].map PyData.bool), .lst upd_same (.cons (.bl _) (.cons (.bl _) .nil)), (nice_bools [onB (x + p.fi) (y + p.la) n, onB (x + p.fi) (y + p.la) n] (show (2 : Nat) ≤ 3 by decide)).mono (by decide) (by decide), rfl⟩, fun H17 s17 => ?_⟩
        refine ⟨_, rfl, _, rfl, (show (2 : Nat) ≤ sizeLine by decide), fun L18 n18 => ?_⟩
        refine ⟨.ref L18, _, rfl, .inl ⟨.list ([onB (x + p.fi) (y + p.la) n, onB (x + p.fi) (y + p.la) n].map PyData.bool), .lst upd_same (.cons (.bl _) (.cons (.bl _) .nil)), (nice_bools [onB (x + p.fi) (y + p.la) n, onB (x + p.fi) (y + p.la) n] (show (2 : Nat) ≤ 3 by decide)).mono (by decide) (by decide), rfl⟩, fun H19 s19 => ?_⟩
        refine ⟨rfl, _, rfl, ?_⟩
        rw [ne_self]
        exact iteF ⟨_, _, rfl, s12.trans (s14.trans (s15.trans ((same_upd n16).trans (s17.trans ((same_upd n18).trans s19)))))⟩
      · rintro σ H12 ⟨r8, r9, rfl, s12⟩
        have k12 := k11.trans (.of_same s12)
        have w12 := w11.same s12
        -- what is no day
        refine ⟨_, rfl, (Nat.zero_le _), fun U nU => ?_⟩
        refine ⟨_, rfl, (show (1 : Nat) ≤ sizeLine by decide), fun V1 nV => fun W1 nW => ⟨(show (7 : Nat) ≤ sizeLine by decide), fun M nM => ?_⟩⟩
        have sU : Same H12 (upd H12 U (.tup [])) := same_upd nU
        have sV : Same (upd H12 U (.tup [])) (upd (upd H12 U (.tup [])) V1 (.lst [.int (x + p.fi)])) := same_upd nV
        have sW : Same (upd (upd H12 U (.tup [])) V1 (.lst [.int (x + p.fi)])) (upd (upd (upd H12 U (.tup [])) V1 (.lst [.int (x + p.fi)])) W1 (.dK [])) := same_upd nW
        have sM := same_upd (o := .lst [.non, .bl true, .bl false, .str "0", .ref U, .ref V1, .ref W1]) nM
        have sA := sU.trans (sV.trans (sW.trans sM))
        have wA := w12.same sA
        have kA := k12.trans (.of_same sA)
        have Ua := w12.p.ne nU
        have Va := (w12.same sU).p.ne nV
        have Wa := ((w12.same sU).same sV).p.ne nW
        have Ma := (((w12.same sU).same sV).same sW).p.ne nM
        refine ⟨a, M, _, rfl, wA.p, Ma, upd_same, (fun z => nomatch z), (show (7 : Nat) < 1000 by decide), fun H20 i v o20 p20 hv => ?_⟩
        have k20 := kA.trans (.of_off o20)
        have w20 := wA.off o20 p20
        obtain ⟨dd, sh, ni, bad⟩ : ∃ dd, Sh (core a H20) v dd ∧ Nice 20 100000 dd ∧ isInt dd = false := by
          have m := List.mem_of_getElem? hv
          simp only [List.mem_cons, List.not_mem_nil, or_false] at m
          rcases m with rfl | rfl | rfl | rfl | rfl | rfl | rfl
          · exact ⟨_, .non, nice_none.mono (by decide) (by decide), rfl⟩
          · exact ⟨_, .bl true, (nice_bool _).mono (by decide) (by decide), rfl⟩
          · exact ⟨_, .bl false, (nice_bool _).mono (by decide) (by decide), rfl⟩
          · exact ⟨_, .str "0", (nice_str ⟨by decide, by decide +kernel⟩).mono (by decide) (by decide), rfl⟩
          · exact ⟨.tuple [], .tup (core_of (o20 _ _ (sM _ _ (sW _ _ (sV _ _ upd_same))) Ua) Ua (fun _ z => nomatch z)) .nil, (Nice.tuple (dp := 0) (n := 0) (k := 0) (m := 0) (fun _ z => absurd z List.not_mem_nil) (Nat.le_refl _) (Nat.le_refl _)).mono (by decide) (by decide), rfl⟩
          · refine ⟨.list [.int (x + p.fi)], .lst (core_of (o20 _ _ (sM _ _ (sW _ _ upd_same)) Va) Va (fun _ z => nomatch z)) (.cons (.int _) .nil), (Nice.list (dp := 0) (n := 200) (k := 1) (m := 201) (fun d hd => ?_) (Nat.le_refl _) (Nat.le_refl _)).mono (by decide) (by decide), rfl⟩
            rw [List.mem_singleton.mp hd]
            exact nice_int m1.small
          · exact ⟨.dict [], .dct (core_of (o20 _ _ (sM _ _ upd_same) Wa) Wa (fun _ z => nomatch z)) .nil, (Nice.dict (dp := 0) (n := 0) (k := 0) (m := 0) (fun _ z => absurd z List.not_mem_nil) (Nat.le_refl _) (Nat.le_refl _)).mono (by decide) (by decide), rfl⟩
        -- what is heard
        refine ⟨w20.t, fun H21 x21 T21 => ?_⟩
        have k21 := k20.trans (.of_ext x21)
        have w21 : Wd a T H21 := ⟨w20.p.ext x21, T21⟩
        have sh21 : Sh H21 v dd := (sh.same (Kp.of_ext x21)).same core_same
        obtain ⟨_, d21, t21, _⟩ := all k21
        obtain ⟨dx, fs, g21, n21⟩ := d21.obj
        refine ⟨_, rfl, nd, dx, fs, rfl, g21, n21 _ (by decide), _, rfl, _, rfl, nd, p.deal, .ref t, .dict ds, v, dd, rfl, d21, t21, sh21, fun z => (hdno z).elim, fun f l e => ?_⟩
        rw [hday] at e
        cases e
        refine ⟨fun _ H22 e22 s22 h22 => ?_, fun i ei => by rw [ei] at bad; cases bad⟩
        refine ⟨e22, v, PyData.shown dd, CN, "number", rfl, by simp [kindsOf], rfl, h22, .inl ⟨dd, sh21.same s22, ni, rfl⟩, fun H23 p23 s23 h23 => ?_⟩
        refine ⟨_, rfl, v, PyData.shown dd, rfl, .inl ⟨dd, (sh21.same s22).same s23, ni, rfl⟩, fun H24 s24 => ⟨(show (3 : Nat) ≤ sizeLine by decide), fun L25 n25 => ?_⟩⟩
        refine ⟨p23, L25, _, _, rfl, rfl, SqL.of (same_upd n25 _ _ (s24 _ _ h23)), SqL.of upd_same, .inr ⟨rfl, rfl, _, rfl, iteF ?_⟩⟩
        have s225 := s22.trans (s23.trans (s24.trans (same_upd (o := .lst [.str "number", .str (PyData.shown dd), .bl true]) n25)))
        have k25 := k21.trans (.of_same s225)
        have w25 := w21.same s225
        -- the dates again
        refine ⟨_, rfl, .ref t, PyData.shown (.dict ds), rfl, .inl ⟨_, (all k25).2.2.1, tol.ni.mono (by decide) (by decide), rfl⟩, fun H26 s26 => ⟨_, rfl, rfl, ?_⟩⟩
        rw [eq_self]
        exact q H26 (k25.trans (.of_same s26)) (w25.same s26)
end
end Ld
namespace Ld
open PySem PySem.Spec PyProof.Rows L2 LamX
/-! ### what two deals share does not hang on the side -/
theorem cellsIn_filter (A B D : Str → Bool) (fs ls ws : List Str) : (cellsIn fs ls ws).filter (fun c => A c.1 && (B c.2.1 && D c.2.2)) = cellsIn (fs.filter A) (ls.filter B) (ws.filter D) := by
  have h3 : ∀ f l, A f = true → B l = true → (ws.map fun w => ((f, l, w) : Cell)).filter (fun c => A c.1 && (B c.2.1 && D c.2.2)) = (ws.filter D).map fun w => (f, l, w) := fun f l ha hb => by
    induction ws with
    | nil => rfl
    | cons w r ih => cases hd : D w <;> simp [ha, hb, hd, ih]
  have h3' : ∀ f l, (A f && B l) = false → (ws.map fun w => ((f, l, w) : Cell)).filter (fun c => A c.1 && (B c.2.1 && D c.2.2)) = [] := fun f l h => by
    rw [List.filter_eq_nil_iff]
    intro c hc
    obtain ⟨w, _, rfl⟩ := List.mem_map.mp hc
    simp only [Bool.and_eq_true, not_and, Bool.not_eq_true]
    intro ha hb
    rw [ha, hb] at h
    cases h
  have h2 : ∀ f, A f = true → (ls.flatMap fun l => ws.map fun w => ((f, l, w) : Cell)).filter (fun c => A c.1 && (B c.2.1 && D c.2.2)) = (ls.filter B).flatMap fun l => (ws.filter D).map fun w => (f, l, w) := fun f ha => by
    clear h3'
    induction ls with
    | nil => rfl
    | cons l r ih =>
      rw [List.flatMap_cons, List.filter_append, ih]
      cases hb : B l with
      | true => rw [h3 f l ha hb, List.filter_cons_of_pos hb, List.flatMap_cons]
      | false =>
        rw [List.filter_cons_of_neg (by rw [hb]; simp)]
        have z : (ws.map fun w => ((f, l, w) : Cell)).filter (fun c => A c.1 && (B c.2.1 && D c.2.2)) = [] := by
          rw [List.filter_eq_nil_iff]
          intro c hc
          obtain ⟨w, _, rfl⟩ := List.mem_map.mp hc
          simp [hb]
        rw [z, List.nil_append]
  unfold cellsIn
  induction fs with
  | nil => rfl
  | cons f r ih =>
    rw [List.flatMap_cons, List.filter_append, ih]
    cases ha : A f with
    | true => rw [h2 f ha, List.filter_cons_of_pos ha, List.flatMap_cons]
    | false =>
      rw [List.filter_cons_of_neg (by rw [ha]; simp)]
      have z : (ls.flatMap fun l => ws.map fun w => ((f, l, w) : Cell)).filter (fun c => A c.1 && (B c.2.1 && D c.2.2)) = [] := by
        rw [List.filter_eq_nil_iff]
        intro c hc
        obtain ⟨l, _, hc⟩ := List.mem_flatMap.mp hc
        obtain ⟨w, _, rfl⟩ := List.mem_map.mp hc
        simp [ha]
      rw [z, List.nil_append]
theorem mem_cells {fs ls ws : List Str} {c : Cell} : c ∈ cellsIn fs ls ws ↔ c.1 ∈ fs ∧ c.2.1 ∈ ls ∧ c.2.2 ∈ ws := by
  simp only [cellsIn, List.mem_flatMap, List.mem_map]
  constructor
  · rintro ⟨f, hf, l, hl, w, hw, rfl⟩
    exact ⟨hf, hl, hw⟩
  · rintro ⟨h1, h2, h3⟩
    exact ⟨c.1, h1, c.2.1, h2, c.2.2, h3, rfl⟩
theorem common_eq (p q : Pact) : common p q = cellsIn (p.films.filter fun x => decide (x ∈ q.films)) (p.lands.filter fun x => decide (x ∈ q.lands)) (p.ways.filter fun x => decide (x ∈ q.ways)) := by
  rw [← cellsIn_filter]
  unfold common Pact.cells
  refine List.filter_congr fun c _ => ?_
  rw [Bool.eq_iff_iff]
  simp [mem_cells]
theorem meet_comm {l m : List Str} (hl : l.Nodup) (hm : m.Nodup) : (srt l).filter (fun x => decide (x ∈ srt m)) = (srt m).filter (fun x => decide (x ∈ srt l)) := by
  have n1 : (srt l).Nodup := (srt_perm l).nodup_iff.mpr hl
  have n2 : (srt m).Nodup := (srt_perm m).nodup_iff.mpr hm
  refine List.Perm.eq_of_pairwise (fun _ _ _ _ a b => leS_anti a b) ((srt_pw l).filter _) ((srt_pw m).filter _) ?_
  refine (List.perm_ext_iff_of_nodup (n1.filter _) (n2.filter _)).mpr fun x => ?_
  simp [List.mem_filter, and_comm]
theorem common_comm {p q : Pact} (hp : PactOk p) (hq : PactOk q) : common p.deal q.deal = common q.deal p.deal := by
  rw [common_eq, common_eq]
  show cellsIn ((srt p.films).filter fun x => decide (x ∈ srt q.films)) ((srt p.lands).filter fun x => decide (x ∈ srt q.lands)) ((srt p.ways).filter fun x => decide (x ∈ srt q.ways)) =
    cellsIn ((srt q.films).filter fun x => decide (x ∈ srt p.films)) ((srt q.lands).filter fun x => decide (x ∈ srt p.lands)) ((srt q.ways).filter fun x => decide (x ∈ srt p.ways))
  rw [meet_comm hp.films.1.nd hq.films.1.nd, meet_comm hp.lands.1.nd hq.lands.1.nd, meet_comm hp.ways.1.nd hq.ways.1.nd]
theorem touch_comm {p q : Pact} (hp : PactOk p) (hq : PactOk q) : touchB q.deal p.deal = touchB p.deal q.deal := by
  unfold touchB
  rw [common_comm hq hp, Bool.or_comm]
theorem common_short {p q : Pact} (hp : PactOk p) : ∀ c ∈ common p q, ShortC c := fun c hc => hp.short c (List.mem_filter.mp hc).1
theorem common_len {p q : Pact} (hp : PactOk p) : (common p q).length ≤ 48 := Nat.le_trans (List.length_filter_le _ _) (cellsIn_len hp.few.films hp.few.lands hp.few.ways)
end Ld
namespace Ld
open PySem PySem.Spec PyProof.Rows L2 LamX
/-! ### the signs of a deal's text -/
def Sg (x : Str) : Prop := ∀ c ∈ x.cps.toList, c < 16 ^ 8
theorem sg_of (s : String) : Sg (Str.ofString s) := fun c hc => by
  have h : ∃ z : Char, c = z.toNat := by
    rw [Str.ofString_eq_toList] at hc
    simp at hc
    obtain ⟨z, _, e⟩ := hc
    exact ⟨z, e.symm⟩
  obtain ⟨z, rfl⟩ := h
  exact UInt32.toNat_lt z.val
theorem sg_app {x y : Str} (a : Sg x) (b : Sg y) : Sg (x ++ y) := fun c hc => by
  have h : c ∈ x.cps.toList ++ y.cps.toList := by
    have e : (x ++ y).cps = x.cps ++ y.cps := rfl
    rw [e, Array.toList_append] at hc
    exact hc
  rcases List.mem_append.mp h with h | h
  · exact a c h
  · exact b c h
theorem sg_char {q c : Nat} (hc : c < 16 ^ 8) : ∀ e ∈ Builtin.Str.reprChar q c, e < 16 ^ 8 := fun e he => by
  have hex : ∀ (n : Nat), ∀ e ∈ (List.replicate (n - ((Nat.toDigits 16 c).map Char.toNat).length) 48 ++ (Nat.toDigits 16 c).map Char.toNat), e < 16 ^ 8 := fun n e he => by
    rcases List.mem_append.mp he with h | h
    · rw [List.eq_of_mem_replicate h]
      decide
    · obtain ⟨z, _, rfl⟩ := List.mem_map.mp h
      exact UInt32.toNat_lt z.val
  unfold Builtin.Str.reprChar at he
  dsimp only at he
  repeat' split at he
  all_goals first
    | (simp only [List.mem_cons, List.not_mem_nil, or_false] at he
       rcases he with rfl | rfl <;> first | assumption | decide)
    | (simp only [List.mem_cons, List.not_mem_nil, or_false] at he
       subst he
       assumption)
    | (rcases List.mem_append.mp he with h | h
       · simp only [List.mem_cons, List.not_mem_nil, or_false] at h
         rcases h with rfl | rfl <;> decide
       · exact hex _ _ h)
theorem sg_fold (q : Nat) : ∀ (l : List Nat) (acc : Array Nat), (∀ c ∈ l, c < 16 ^ 8) → (∀ c ∈ acc.toList, c < 16 ^ 8) → ∀ c ∈ (l.foldl (fun out c => out ++ (Builtin.Str.reprChar q c).toArray) acc).toList, c < 16 ^ 8
  | [], _, _, ha => ha
  | d :: r, acc, h, ha => by
    refine sg_fold q r _ (fun c hc => h c (List.mem_cons_of_mem _ hc)) fun c hc => ?_
    rw [Array.toList_append] at hc
    rcases List.mem_append.mp hc with hc | hc
    · exact ha c hc
    · exact sg_char (h d List.mem_cons_self) c (by simpa using hc)
theorem sg_repr {x : Str} (h : Sg x) : Sg (reprText x) := fun c hc => by
  have q : reprQuote x < 16 ^ 8 := by
    unfold reprQuote
    split <;> decide
  unfold reprText at hc
  simp only [Array.toList_push] at hc
  rcases List.mem_append.mp hc with hc | hc
  · rw [← Array.foldl_toList] at hc
    exact sg_fold _ _ _ h (fun c hc => by simp at hc; rw [hc]; exact q) c hc
  · rw [List.mem_singleton.mp hc]
    exact q
theorem sg_from : ∀ (ts : List Str) (k : Nat) (acc : Str), (∀ t ∈ ts, Sg t) → Sg acc → Sg (textFrom k acc ts)
  | [], _, _, _, ha => ha
  | t :: r, k, acc, h, ha => sg_from r (k + 1) _ (fun x hx => h x (List.mem_cons_of_mem _ hx)) (sg_app (sg_app ha (sg_of _)) (h t List.mem_cons_self))
theorem sg_list {ts : List Str} (h : ∀ t ∈ ts, Sg t) : Sg (listText ts) := sg_app (sg_from ts 0 _ h (sg_of _)) (sg_of _)
theorem sg_join (a : Str) (ha : Sg a) : ∀ (l : List Str), (∀ t ∈ l, Sg t) → Sg (Str.join a l)
  | [], _ => sg_of ""
  | [x], h => h x List.mem_cons_self
  | x :: y :: r, h => by
    show Sg (x ++ a ++ Str.join a (y :: r))
    exact sg_app (sg_app (h x List.mem_cons_self) ha) (sg_join a ha (y :: r) fun t ht => h t (List.mem_cons_of_mem _ ht))
theorem asc_sg {x : Str} (h : Asc x) : Sg x := h.2
theorem sg_shown_str {x : Str} (h : Sg x) : Sg (PyData.shown (.str x)) := by
  rw [PyData.shown]
  exact sg_repr h
theorem sg_shown_int (i : Int) : Sg (PyData.shown (.int i)) := by
  rw [PyData.shown]
  exact sg_of _
theorem sg_shown_strs {l : List Str} (h : ∀ x ∈ l, Sg x) : Sg (PyData.shown (.list (l.map PyData.str))) := by
  rw [PyData.shown]
  refine sg_list fun t ht => ?_
  rw [shownAll_map, List.map_map] at ht
  obtain ⟨x, hx, rfl⟩ := List.mem_map.mp ht
  exact sg_shown_str (h x hx)
theorem sg_shown_point {m : Str} {n : Int} (h : Sg m) : Sg (PyData.shown (.tuple [.str m, .int n])) := by
  rw [PyData.shown]
  unfold tupleText
  refine sg_app (sg_app (sg_of _) (sg_join _ (sg_of _) _ fun t ht => ?_)) (sg_of _)
  rw [shownAll_map] at ht
  simp only [List.map_cons, List.map_nil, List.mem_cons, List.not_mem_nil, or_false] at ht
  rcases ht with rfl | rfl
  · exact sg_shown_str h
  · exact sg_shown_int n
theorem sg_deal {d : Pact} (o : PactOk d) : Sg (dealText d) := by
  have names : ∀ {l : List Str}, Ld.Names l → ∀ x ∈ l, Sg x := fun n x hx => (asc_name (n.ok x hx) (n.sz x hx)).2
  unfold dealText
  rw [TL.join_eq]
  refine sg_app (sg_app (sg_app (sg_app (sg_app (sg_app (sg_app (sg_of "") (sg_of _)) (sg_join _ (sg_of _) _ fun t ht => ?_)) (sg_of _)) ?_) (sg_of _)) (sg_of _)) (sg_of _)
  · rw [shownAll_map] at ht
    simp only [parts, List.map_cons, List.map_nil, List.mem_cons, List.not_mem_nil, or_false] at ht
    rcases ht with rfl | rfl | rfl | rfl | rfl | rfl | rfl
    · exact sg_shown_str (asc_name o.tag.1 o.tag.2).2
    · exact sg_shown_str (asc_name o.firm.1 o.firm.2).2
    · exact sg_shown_strs (names o.films.1)
    · exact sg_shown_strs (names o.lands.1)
    · exact sg_shown_strs (names o.ways.1)
    · exact sg_shown_point (asc_moment o.hd.1 o.hd.2).2
    · exact sg_shown_point (asc_moment o.tl.1 o.tl.2).2
  · split <;> exact sg_of _
theorem name_len6 {x : Str} (h : nameB x = true) : x.length ≤ 6 := by
  unfold nameB at h
  have h1 := of_decide_eq_true (Bool.and_eq_true_iff.mp (Bool.and_eq_true_iff.mp (Bool.and_eq_true_iff.mp h).1).1).2
  omega
theorem nice_name {x : Str} (h : nameB x = true) : Nice 0 6 (.str x) := by
  obtain ⟨a, b, c, _⟩ := nice_str (asc_name h (name_len h))
  exact ⟨a, b, c, by simp only [PyData.weight]; exact name_len6 h⟩
theorem nice_list6 {l : List Str} (n : Ld.Names l) : Nice 1 28 (.list (l.map PyData.str)) := by
  refine Nice.list (dp := 0) (n := 6) (k := 4) (fun d hd => ?_) (by rw [List.length_map]; exact n.few) (by decide)
  obtain ⟨x, hx, rfl⟩ := List.mem_map.mp hd
  exact nice_name (n.ok x hx)
theorem dealText_short {d : Pact} (o : PactOk d) : (dealText d).length ≤ 100000 := by
  have l1 := (nice_name o.tag.1).len
  have l2 := (nice_name o.firm.1).len
  have l3 := (nice_list6 o.films.1).len
  have l4 := (nice_list6 o.lands.1).len
  have l5 := (nice_list6 o.ways.1).len
  have l6 := (nice_point (asc_moment o.hd.1 o.hd.2) o.sm.1).len
  have l7 := (nice_point (asc_moment o.tl.1 o.tl.2) o.sm.2.1).len
  have lj := join_len (", " : Str) (PyData.shownAll (parts d))
  have z3 := fee_len o
  have z4 : (if d.sole = true then ("True" : Str) else "False").length ≤ 5 := by split <;> decide
  have e : ((PyData.shownAll (parts d)).map (·.length)).sum = (PyData.shown (.str d.tag)).length + ((PyData.shown (.str d.firm)).length + ((PyData.shown (.list (d.films.map PyData.str))).length + ((PyData.shown (.list (d.lands.map PyData.str))).length + ((PyData.shown (.list (d.ways.map PyData.str))).length +
      ((PyData.shown (.tuple [.str d.hd, .int d.fi])).length + ((PyData.shown (.tuple [.str d.tl, .int d.la])).length + 0)))))) := by
    rw [shownAll_map]
    rfl
  have e2 : (PyData.shownAll (parts d)).length * ((", " : Str)).length = 14 := by rw [shownAll_map, List.length_map]; rfl
  unfold dealText
  rw [TL.join_eq, strLen_append, strLen_append, strLen_append, strLen_append, strLen_append, strLen_append, strLen_append]
  have : (Str.empty).length = 0 := rfl
  have : (("Deal(" : Str)).length = 5 := rfl
  have : ((", alone=" : Str)).length = 8 := rfl
  have : ((", price=" : Str)).length = 8 := rfl
  have : ((")" : Str)).length = 1 := rfl
  omega
theorem nice_deal {d : Pact} (o : PactOk d) : Nice 0 100000 (.str (dealText d)) := by
  refine ⟨rfl, by simp [PyData.depth], ?_, ?_⟩
  · simp only [PyData.leavesShort]
    exact List.all_eq_true.mpr fun c hc => decide_eq_true (sg_deal o c hc)
  · simp only [PyData.weight]
    exact dealText_short o
end Ld
namespace Ld
open PySem PySem.Spec PyProof.Rows L2 LamX
open L2H (RoomH)
def rAndE (K : PySem.W.Frag) (C CX : Addr) (E : XK) : R2 := fun x y H Q => ∃ a dx fs t, x = .ref a ∧ H a = some (.ins C dx fs) ∧ TyX K H y t ∧ (t = .ref C ∨ ∃ T, t = .type T ∧ AndT K C T) ∧ spAnd K C CX [x, y] H Q E
/-- whether two deals touch, told from the cells they share and the pacts -/
def tDue : TE := fun σ H Q => ∃ (Lb q1 q2 : Addr) (xs : List V) (cm : List Cell) (kv1 kv2 : List (Key × V)) (s1 s2 : Bool), σ[6]? = some (some (.ref Lb)) ∧ σ[1]? = some (some (.ref q1)) ∧ σ[2]? = some (some (.ref q2)) ∧ H Lb = some (.lst xs) ∧ AllT H xs (cm.map cellV) ∧ (∀ c ∈ cm, ShortC c) ∧
  H q1 = some (.dK kv1) ∧ valV kv1 (.inr "sole") = some (.bl s1) ∧ H q2 = some (.dK kv2) ∧ valV kv2 (.inr "sole") = some (.bl s2) ∧ ∀ H', Same H H' → Q (.bl (!cm.isEmpty && (s1 || s2))) H'
def spPairR (T : List (Addr × Str)) (C : Addr) : Sp := fun vs H Q _ => ∃ (a q1 q2 n1 n2 : Addr) (p m : Pact), vs = [.ref a, .ref q1, .ref q2, .ref n1, .ref n2] ∧ Wd a T H ∧ PactAt (core a H) q1 p ∧ PactOk p ∧ PactAt (core a H) q2 m ∧ PactOk m ∧ DealAt C (core a H) n1 p.deal ∧ DealAt C (core a H) n2 m.deal ∧
  ∀ H', Kp a H H' → Wd a T H' → Q (.bl true) H'
theorem kp_new {a R : Addr} {H H' : Hp} {o : HO} (k : Kp a H H') (n : H R = none) : Kp a H (upd H' R o) := fun b u e => by
  obtain ⟨e1, e2, e3⟩ := core_to e
  obtain ⟨f1, _, _⟩ := core_to (k b u e)
  exact core_of (by rw [upd_ne (ne_of_none e1 n)]; exact f1) e2 e3
theorem Wd.put {a L : Addr} {T : List (Addr × Str)} {H : Hp} {xs ys : List V} (d : Wd a T H) (e : H L = some (.lst xs)) (ne : L ≠ a) : Wd a T (upd H L (.lst ys)) := by
  obtain ⟨⟨u, v, ea, r⟩, t⟩ := d
  have k : ∀ {b : Addr} {o : HO}, H b = some o → (∀ zs, o ≠ .lst zs) → upd H L (.lst ys) b = some o := fun {b o} eb n => by
    rw [upd_ne]
    · exact eb
    · rintro rfl
      rw [e] at eb
      exact n _ (Option.some.inj eb).symm
  refine ⟨⟨u, v, by rw [upd_ne (Ne.symm ne)]; exact ea, r⟩, fun q hq => ?_⟩
  obtain ⟨ps, h1, h2, h3⟩ := t q hq
  refine ⟨ps, k h1 (fun _ z => nomatch z), h2, fun pos cv hc => ?_⟩
  obtain ⟨c, e1, e2⟩ := h3 pos cv hc
  exact ⟨c, e1, k e2 fun _ z => by unfold CodeO at z; cases z⟩
theorem tupk_core {a : Addr} {H : Hp} (p : PotAt H a) : TupK H (core a H) := fun b ys e => by
  refine core_of e (fun z => ?_) fun _ z => nomatch z
  obtain ⟨u, v, ea, _⟩ := p
  rw [z, ea] at e
  cases e
theorem tyD_mem (d : PyData) : tyD d ∈ tys := by cases d <;> simp [tyD, tys]
theorem same_none {H H' : Hp} {b : Addr} (s : Same H H') (n : H' b = none) : H b = none := by
  cases e : H b with
  | none => rfl
  | some o => rw [s _ _ e] at n; cases n
theorem ext_none {H H' : Hp} {b : Addr} (x : ExtN H H') (n : H' b = none) (k : ∀ ps, H b ≠ some (.tbl ps)) : H b = none := by
  cases e : H b with
  | none => rfl
  | some o => rw [x _ _ e fun ps z => k ps (by rw [e, z])] at n; cases n
section
variable {P : Program} {w : World} {K : PySem.W.Frag} {mg : Str → Option Value} {base : Heap} {f c Pt : Addr} {fd : FuncData} {C CDE CD CN CX : Addr} {T : List (Addr × Str)}
theorem sc_pairR : FnScope ["_law_pot_here", "_law_pact_here", "_law_mate", "_law_near", "_law_there", "_law_spot", "_law_both", "_law_found", "_law_due", "_law_told", "_law_odd"] ["_law_pot_here", "_law_pact_here", "_law_mate", "_law_near", "_law_there"] (defScope sPairR) := ⟨rfl, rfl, rfl, by decide +kernel, rfl, by decide +kernel, by decide +kernel⟩
theorem ok_pairR (Lk : LK P w K mg base C CDE CD CN CX) (F : FunC K "_law_pair_right" "_law_pair_right" sPairR f fd c) (tb : Tb base mg T (("_law_pair_right" : Str) ++ ".<locals>.") c Pt) :
    FnG P w K mg base CX0 7 f fd ["_law_pot_here", "_law_pact_here", "_law_mate", "_law_near", "_law_there"] (spPairR T C) := by
  obtain ⟨gh, ghd, Fh, mh, bh⟩ := Lk.heard
  refine F.okG0 sc_pairR (fun vs H Q E h => ?_) fun A outer s H vs Q E h0 hr h => ?_
  · obtain ⟨a, q1, q2, n1, n2, p, m, rfl, _⟩ := h
    rfl
  · obtain ⟨a, q1, q2, n1, n2, p, m, rfl, wd, hp, op, hm, om, hd1, hd2, q⟩ := h
    have B := Lk.B
    have D := Lk.D
    apply Exists.intro
    apply And.intro
    · exact pss_cons (ps_setLc (i := 6) (own := [("_law_spot", 5)]) rfl sc_pairR.nd rfl rfl rfl (pi_list (pe_g Lk.lcells hr (by decide) rfl pass0 (pa_cons (pv 1) pa_nil))) (blkOk_by (N := ["_law_pot_here", "_law_pact_here", "_law_mate", "_law_near", "_law_there", "_law_spot", "_law_both", "_law_found", "_law_due", "_law_told", "_law_odd"]) (sc := defScope sPairR) (by decide +kernel)) (fun _ _ _ _ _ => pg_name (i := 5) sc_pairR.nd rfl (Or.inl rfl))
            (fun _ _ _ _ _ => pts_one (pt_cmpR (r := rInD K) (op_inD (ru65 hr)) (pv 5) (pe_g Lk.lcells hr (by decide) rfl pass0 (pa_cons (pv 2) pa_nil)) rfl)) (fun _ _ _ _ _ => pv 5))
        (pss_cons (ps_set (i := 7) sc_pairR.nd rfl (Or.inl rfl) (pe_op (r := rAndE K C CX fun _ _ _ => False) (op_and Lk.and_ hr (by decide) passF) (pv 3) (pv 4)))
        (pss_cons (ps_if (PW.pt (pw_or (pt_cmpR op_ne (pe_callB (r := rReprA C) (cr_reprA Lk.R h0 (.inl rfl) (roomA hr (by decide))) rfl (B.nb _ (by decide)) rfl (pa_cons (pv 7) pa_nil)) (pe_callB (r := rReprA C) (cr_reprA Lk.R h0 (.inl rfl) (roomA hr (by decide))) rfl (B.nb _ (by decide)) rfl (pa_cons (pv 6) pa_nil)) (nomark _))
            (pw_or1 (pt_cmpR op_ne (pe_callB (r := rReprA C) (cr_reprA Lk.R h0 (.inl rfl) (roomA hr (by decide))) rfl (B.nb _ (by decide)) rfl (pa_cons (pe_op (r := rAndE K C CX fun _ _ _ => False) (op_and Lk.and_ hr (by decide) passF) (pv 4) (pv 3)) pa_nil)) (pe_callB (r := rReprA C) (cr_reprA Lk.R h0 (.inl rfl) (roomA hr (by decide))) rfl (B.nb _ (by decide)) rfl (pa_cons (pv 6) pa_nil)) (nomark _))))) (pss_one (ps_ret pe_bl)) pss_nil)
        (pss_cons (ps_expr (pe_bm PySem.F.plainAttrs_list PySem.F.slot_list_append PySem.F.type_list_append mt_append (pv 7) (pa_cons pe_non pa_nil)))
        (pss_cons (ps_set (i := 8) sc_pairR.nd rfl (Or.inl rfl) (PE.imp (t' := tDue) (pe_and (pe_cmpR (r := rNeD K) (op_neD (ru64 hr)) (pv 6) (pe_lst pa_nil) (nomark _)) (pe_one (pe_or (pe_dget (ru1 hr) (pv 1) pe_str (fun _ _ => rfl)) (pe_one (pe_dget (ru1 hr) (pv 2) pe_str (fun _ _ => rfl)))))) (fun σ H Q h => by
            obtain ⟨Lb, q1, q2, xs, cm, kv1, kv2, s1, s2, e6, e1, e2, hb, tb, sc, k1, v1, k2, v2, q⟩ := h
            refine ⟨_, e6, Nat.zero_le _, fun z nz => ?_⟩
            have sz : Same H (upd H z (.lst [])) := same_upd nz
            refine ⟨.list (cm.map cellD), .list [], cells_dp (sz _ _ hb) (tb.keep (TupK.of sz)), cells_dp (l := []) upd_same .nil, shaped_cells sc, by decide, ?_⟩
            have ev : PyData.eqv (.list (cm.map cellD)) (.list []) = cm.isEmpty := by
              simp only [PyData.eqv]
              cases cm <;> simp [PyData.eqvAll]
            rw [ev]
            have q := q _ sz
            refine ⟨_, rfl, ?_⟩
            cases hc : cm.isEmpty with
            | true =>
              rw [hc] at q
              exact iteF q
            | false =>
              rw [hc] at q
              refine iteT ⟨_, e1, q1, _, rfl, v1 ▸ DGet.k (k := .inr "sole") (sz _ _ k1), _, rfl, ?_⟩
              cases s1 with
              | true => exact iteT q
              | false => exact iteF ⟨_, e2, q2, _, rfl, v2 ▸ DGet.k (k := .inr "sole") (sz _ _ k2), q⟩)))
        (pss_cons (ps_if (pt_cmpR op_ne (pe_callB (r := rReprA C) (cr_reprA Lk.R h0 (.inl rfl) (roomA hr (by decide))) rfl (B.nb _ (by decide)) rfl (pa_cons (pe_lst (pa_cons (pe_m Lk.touches D.cls hr (by decide) passF (pv 3) (pa_cons (pv 4) pa_nil)) (pa_cons (pe_m Lk.touches D.cls hr (by decide) passF (pv 4) (pa_cons (pv 3) pa_nil)) (pa_cons (pe_mK Lk.touchesK D.cls hr (by decide) passF (pv 3) (pk_cons (pv 4) pk_nil)) pa_nil)))) pa_nil))
            (pe_callB (r := rReprA C) (cr_reprA Lk.R h0 (.inl rfl) (roomA hr (by decide))) rfl (B.nb _ (by decide)) rfl (pa_cons (pe_lst (pa_cons (pv 8) (pa_cons (pv 8) (pa_cons (pv 8) pa_nil)))) pa_nil)) (nomark _)) (pss_one (ps_ret pe_bl)) pss_nil)
        (pss_cons (ps_set (i := 10) sc_pairR.nd rfl (Or.inr rfl) (pe_g Lk.pick hr (by decide) rfl pass0 (pa_cons (pv 0) (pa_cons (pe_lst (pa_cons pe_non (pa_cons pe_int (pa_cons pe_str (pa_cons (pe_lst pa_nil) (pa_cons (pv 6) (pa_cons pe_dnewK
            (pa_cons (pe_callB (r := rReprA C) (cr_reprA Lk.R h0 (.inl rfl) (roomA hr (by decide))) rfl (B.nb _ (by decide)) rfl (pa_cons (pv 4) pa_nil)) (pa_cons (pe_tup pa_nil) (pa_cons (pe_lst (pa_cons (pv 4) pa_nil)) pa_nil)))))))))) pa_nil))))
        (pss_cons (ps_set (i := 9) sc_pairR.nd rfl (Or.inl rfl) (pe_lst (pa_cons (pe_heard Fh mh bh B Lk.HK Lk.R rfl h0 tb.tb rfl tb.mem tb.un hr (lamS_by (sc := defScope sPairR) (by decide +kernel)) rfl (fun _ _ _ _ _ => rfl) (fun A' outer' s' H' E' f' c' hr2 => pe_op (r := rAndE K C CX E') (op_and Lk.and_ hr2 (by decide) passL) (pv 3) (pv 10))) pa_nil)))
        (pss_cons (ps_expr (pe_bm PySem.F.plainAttrs_list PySem.F.slot_list_append PySem.F.type_list_append mt_append (pv 9) (pa_cons (pe_heard Fh mh bh B Lk.HK Lk.R rfl h0 tb.tb rfl tb.mem tb.un hr (lamS_by (sc := defScope sPairR) (by decide +kernel)) rfl (fun _ _ _ _ _ => rfl) (fun A' outer' s' H' E' f' c' hr2 => pe_m Lk.touches D.cls hr2 (Nat.le_refl _) passL (pv 3) (pa_cons (pv 10) pa_nil))) pa_nil)))
        (pss_one (ps_ret (pe_and (pe_cmpR (r := rEqV K) (op_eqV (ru64 hr)) (pv 9) (pe_op op_rep (pe_lst (pa_cons (pe_lst (pa_cons pe_str (pa_cons (pe_callB (r := rReprA C) (cr_reprA Lk.R h0 (.inl rfl) (roomA hr (by decide))) rfl (B.nb _ (by decide)) rfl (pa_cons (pv 10) pa_nil)) (pa_cons pe_bl pa_nil)))) pa_nil)) pe_int) (nomark _))
            (pe_one (pe_cmpR op_eq (pe_callB (r := rReprA C) (cr_reprA Lk.R h0 (.inl rfl) (roomA hr (by decide))) rfl (B.nb _ (by decide)) rfl (pa_cons (pe_op (r := rAndE K C CX fun _ _ _ => False) (op_and Lk.and_ hr (by decide) passF) (pv 3) (pv 4)) pa_nil)) (pe_callB (r := rReprA C) (cr_reprA Lk.R h0 (.inl rfl) (roomA hr (by decide))) rfl (B.nb _ (by decide)) rfl (pa_cons (pv 6) pa_nil)) (nomark _))))))))))))))
    · have all : ∀ {Hc : Hp}, Kp a H Hc → PactAt Hc q1 p ∧ PactAt Hc q2 m ∧ DealAt C Hc n1 p.deal ∧ DealAt C Hc n2 m.deal := fun {Hc} k => ⟨(hp.same k).same core_same, (hm.same k).same core_same, (hd1.same k).same core_same, (hd2.same k).same core_same⟩
      have od := op.deal
      have omd := om.deal
      have short : ∀ c ∈ common p.deal m.deal, ShortC c := common_short od
      have nice := nice_cells short (common_len od)
      -- both
      refine ⟨_, rfl, q1, p, rfl, (all Kp.refl).1, op, fun H1 L1 l1 s1 m1 e1 t1 => ?_⟩
      refine ⟨L1, rfl, ⟨_, SqL.of e1⟩, fun L nL => ?_⟩
      have hl : l1.length = p.deal.cells.length := by rw [t1.length, List.length_map]
      have k1 : Kp a H H1 := .of_same s1
      refine lc_tup p.deal.cells (fun c => if c ∈ m.deal.cells then some (cellV c) else none) (by have := walk_list (K := K) (a := L1) (xs := l1); rw [hl] at this; exact this) nL (Nat.lt_of_le_of_lt (cellsIn_len od.few.films od.few.lands od.few.ways) (by decide)) (fun H' s' => SqL.of (s' _ _ e1))
        (fun i c x H3 H4 Qn Qe hc s3 y hn hno => ?_) (fun H3 lb s3 e3 t3 => ?_)
      · obtain ⟨rfl, hx⟩ := y
        obtain ⟨ys, g1, g2⟩ := t1.get hx
        rw [List.getElem?_map, hc] at g1
        cases g1
        refine ⟨rfl, _, rfl, _, rfl, q2, m, rfl, (all (k1.trans (.of_same s3))).2.1, om, fun H5 L5 l5 s5 m5 e5 t5 => ?_⟩
        have g5 : TupAt H5 x (cellV c) := by obtain ⟨z, ez, hz⟩ := g2; exact ⟨z, ez, s5 _ _ (s3 _ _ hz)⟩
        refine ⟨cellD c, m.deal.cells.map cellD, cell_dp g5, cells_dp e5 t5, shaped_cell (od.short c (List.mem_of_getElem? hc)), shaped_cells omd.short, _, rfl, ?_⟩
        rw [any_cell]
        by_cases hin : c ∈ m.deal.cells
        · rw [decide_eq_true hin]
          exact iteT ⟨_, rfl, hn x (cellV c) _ (if_pos hin) s5 g5⟩
        · rw [decide_eq_false hin]
          exact iteF (hno _ (if_neg hin) s5)
      rw [fm_cells] at t3
      have t3 : AllT H3 lb ((common p.deal m.deal).map cellV) := t3
      have k3 := k1.trans (.of_same s3)
      have w3 := (wd.same s1).same s3
      -- found
      obtain ⟨_, _, d1, d2⟩ := all k3
      obtain ⟨dx, fs, g1, f1⟩ := d1.obj
      refine ⟨_, rfl, _, rfl, n1, dx, fs, .ref C, rfl, g1, d2.ty D, .inl rfl, n1, p.deal, .ref n2, rfl, d1, od, .inl ⟨n2, m.deal, rfl, d2, omd, fun H4 Lf xf s4 n4 e4 t4 => ?_⟩⟩
      have k4 := k3.trans (.of_same s4)
      have w4 := w3.same s4
      have Lf0 : H Lf = none := same_none s1 (same_none s3 n4)
      have LLf : L ≠ Lf := ne_of_none e3 n4
      refine ⟨_, rfl, .ref Lf, _, rfl, .inl ⟨_, .lst e4 (cells_sh t4), nice.mono (by decide) (by decide), rfl⟩, fun H5 s5 => ?_⟩
      have s35 := s4.trans s5
      refine ⟨_, rfl, .ref L, _, rfl, .inl ⟨_, .lst (s35 _ _ e3) (cells_sh (t3.keep (TupK.of s35))), nice.mono (by decide) (by decide), rfl⟩, fun H6 s6 => ⟨rfl, _, rfl, ?_⟩⟩
      rw [ne_self]
      refine iteF ?_
      have s36 := s35.trans s6
      have k6 := k3.trans (.of_same s36)
      obtain ⟨_, _, d1, d2⟩ := all k6
      obtain ⟨dx, fs, g2, f2⟩ := d2.obj
      refine ⟨_, rfl, _, rfl, n2, dx, fs, .ref C, rfl, g2, d1.ty D, .inl rfl, n2, m.deal, .ref n1, rfl, d2, omd, .inl ⟨n1, p.deal, rfl, d1, od, fun H7 Lg xg s7 n7 e7 t7 => ?_⟩⟩
      rw [common_comm om op] at t7
      refine ⟨.ref Lg, _, rfl, .inl ⟨_, .lst e7 (cells_sh t7), nice.mono (by decide) (by decide), rfl⟩, fun H8 s8 => ?_⟩
      have s38 := s36.trans (s7.trans s8)
      refine ⟨_, rfl, .ref L, _, rfl, .inl ⟨_, .lst (s38 _ _ e3) (cells_sh (t3.keep (TupK.of s38))), nice.mono (by decide) (by decide), rfl⟩, fun H9 s9 => ⟨rfl, _, rfl, ?_⟩⟩
      rw [ne_self]
      refine iteF ?_
      -- found grows
      have s49 : Same H4 H9 := s5.trans (s6.trans (s7.trans (s8.trans s9)))
      have eLf := s49 _ _ e4
      have Lfa : Lf ≠ a := wd.p.ne Lf0
      have w9 := w4.same s49
      refine ⟨_, rfl, .inl ⟨rfl, _, SqL.of eLf⟩, Lf, xf, .non, rfl, rfl, eLf, ?_, ?_⟩
      · rw [t4.length, List.length_map]
        exact Nat.lt_of_le_of_lt (common_len od) (by decide)
      have k10 : Kp a H (upd H9 Lf (.lst (xf ++ [.non]))) := kp_new (k4.trans (.of_same s49)) Lf0
      have w10 : Wd a T (upd H9 Lf (.lst (xf ++ [.non]))) := w9.put eLf Lfa
      have e10 : upd H9 Lf (.lst (xf ++ [.non])) L = some (.lst lb) := by rw [upd_ne LLf]; exact (s4.trans s49) _ _ e3
      have t10 : AllT (upd H9 Lf (.lst (xf ++ [.non]))) lb ((common p.deal m.deal).map cellV) := (t3.keep (TupK.of (s4.trans s49))).keep (TupK.put eLf fun _ z => nomatch z)
      generalize hG : upd H9 Lf (.lst (xf ++ [.non])) = H10 at k10 w10 e10 t10
      -- due
      obtain ⟨pa1, pa2, _, _⟩ := all k10
      obtain ⟨x1, y1, z1, h1, i1, b1, _⟩ := pa1
      obtain ⟨x2, y2, z2, h2, i2, b2, _⟩ := pa2
      refine ⟨L, q1, q2, lb, common p.deal m.deal, _, _, p.sole, m.sole, rfl, rfl, rfl, e10, t10, short, b1, rfl, b2, rfl, fun H11 s11 => ?_⟩
      have k11 := k10.trans (.of_same s11)
      obtain ⟨_, _, d1, d2⟩ := all k11
      obtain ⟨dx, fs, g1, f1⟩ := d1.obj
      refine ⟨_, rfl, n1, dx, fs, rfl, g1, f1 _ (by decide), _, rfl, n1, p.deal, .ref n2, rfl, d1, od, .inl ⟨n2, m.deal, rfl, d2, omd, fun H12 s12 => ?_⟩⟩
      have k12 := k11.trans (.of_same s12)
      obtain ⟨_, _, d1, d2⟩ := all k12
      obtain ⟨dx, fs, g2, f2⟩ := d2.obj
      refine ⟨_, rfl, n2, dx, fs, rfl, g2, f2 _ (by decide), _, rfl, n2, m.deal, .ref n1, rfl, d2, omd, .inl ⟨n1, p.deal, rfl, d1, od, fun H13 s13 => ?_⟩⟩
      have k13 := k12.trans (.of_same s13)
      obtain ⟨_, _, d1, d2⟩ := all k13
      obtain ⟨dx, fs, g1, f1⟩ := d1.obj
      refine ⟨_, rfl, n1, dx, fs, rfl, g1, f1 _ (by decide), _, rfl, n1, p.deal, .ref n2, rfl, d1, od, .inl ⟨n2, m.deal, rfl, d2, omd, fun H14 s14 => ?_⟩⟩
      refine ⟨(show (3 : Nat) ≤ sizeLine by decide), fun L15 n15 => ?_⟩
      refine ⟨.ref L15, _, rfl, .inl ⟨.list ([touchB p.deal m.deal, touchB p.deal m.deal, touchB p.deal m.deal].map PyData.bool), .lst upd_same (.cons (.bl _) (.cons (by rw [touch_comm op om]; exact .bl _) (.cons (.bl _) .nil))), (nice_bools [touchB p.deal m.deal, touchB p.deal m.deal, touchB p.deal m.deal] (show (3 : Nat) ≤ 3 by decide)).mono (by decide) (by decide), rfl⟩, fun H16 s16 => ?_⟩
      refine ⟨_, rfl, _, rfl, _, rfl, (show (3 : Nat) ≤ sizeLine by decide), fun L17 n17 => ?_⟩
      refine ⟨.ref L17, _, rfl, .inl ⟨.list ([touchB p.deal m.deal, touchB p.deal m.deal, touchB p.deal m.deal].map PyData.bool), .lst upd_same (.cons (.bl _) (.cons (.bl _) (.cons (.bl _) .nil))), (nice_bools [touchB p.deal m.deal, touchB p.deal m.deal, touchB p.deal m.deal] (show (3 : Nat) ≤ 3 by decide)).mono (by decide) (by decide), rfl⟩, fun H18 s18 => ⟨rfl, _, rfl, ?_⟩⟩
      rw [ne_self]
      refine iteF ?_
      have s1018 : Same H10 H18 := s11.trans (s12.trans (s13.trans (s14.trans ((same_upd n15).trans (s16.trans ((same_upd n17).trans s18))))))
      have k18 := k10.trans (.of_same s1018)
      have w18 := w10.same s1018
      have e18 := s1018 _ _ e10
      have t18 := t10.keep (TupK.of s1018)
      clear hG
      -- what is no deal
      refine ⟨_, rfl, (Nat.zero_le _), fun U1 nU1 => ?_⟩
      have a1 : Same H18 (upd H18 U1 (.lst [])) := same_upd nU1
      refine ⟨_, rfl, fun W1 nW1 => ?_⟩
      have a2 : Same H18 (upd (upd H18 U1 (.lst [])) W1 (.dK [])) := a1.trans (same_upd nW1)
      have wa2 := w18.same a2
      have ka2 := k18.trans (.of_same a2)
      refine ⟨_, rfl, .ref n2, dealText m.deal, rfl, .inr (.inl ⟨n2, m.deal, rfl, (all ka2).2.2.2, omd, rfl⟩), fun H19 s19 => ?_⟩
      have a3 : Same H18 H19 := a2.trans s19
      refine ⟨(Nat.zero_le _), fun U2 nU2 => ?_⟩
      have a4 : Same H19 (upd H19 U2 (.tup [])) := same_upd nU2
      refine ⟨_, rfl, (show (1 : Nat) ≤ sizeLine by decide), fun U3 nU3 => ⟨(show (9 : Nat) ≤ sizeLine by decide), fun M nM => ?_⟩⟩
      have a5 : Same (upd H19 U2 (.tup [])) (upd (upd H19 U2 (.tup [])) U3 (.lst [.ref n2])) := same_upd nU3
      have a6 := same_upd (o := .lst [.non, .int 0, .str "a", .ref U1, .ref L, .ref W1, .str (dealText m.deal), .ref U2, .ref U3]) nM
      have aA := a3.trans (a4.trans (a5.trans a6))
      have wA := w18.same aA
      have kA := k18.trans (.of_same aA)
      have U1a := w18.p.ne nU1
      have W1a := (w18.same a1).p.ne nW1
      have w19 := w18.same a3
      have U2a := w19.p.ne nU2
      have U3a := (w19.same a4).p.ne nU3
      have Ma := ((w19.same a4).same a5).p.ne nM
      have La : L ≠ a := (wd.same s1).p.ne nL
      have LM : M ≠ L := fun z => by
        rw [z] at nM
        have := (a3.trans (a4.trans a5)) _ _ e18
        rw [this] at nM
        cases nM
      refine ⟨a, M, _, rfl, wA.p, Ma, upd_same, (fun z => nomatch z), (show (9 : Nat) < 1000 by decide), fun H20 i v o20 p20 hv => ?_⟩
      have k20 := kA.trans (.of_off o20)
      have w20 := wA.off o20 p20
      have e20 := o20 _ _ (aA _ _ e18) La
      have tO : TupK (upd (upd (upd H19 U2 (.tup [])) U3 (.lst [.ref n2])) M (.lst [.non, .int 0, .str "a", .ref U1, .ref L, .ref W1, .str (dealText m.deal), .ref U2, .ref U3])) H20 := fun b ys e => o20 _ _ e (fun z => by
        obtain ⟨u, y, ea, _⟩ := wA.p
        rw [z, ea] at e
        cases e)
      have t20 := (t18.keep (TupK.of aA)).keep tO
      obtain ⟨t, odd⟩ : ∃ t, ∀ Hc, Kp a H20 Hc → Rp C Hc v t ∧ NoDeal K Hc v := by
        have data : ∀ {dd : PyData}, Sh (core a H20) v dd → Nice 20 100000 dd → ∃ t, ∀ Hc, Kp a H20 Hc → Rp C Hc v t ∧ NoDeal K Hc v := fun {dd} sh ni =>
          ⟨dd.shown, fun Hc k => ⟨.inl ⟨dd, (sh.same k).same core_same, ni, rfl⟩, tyD dd, tyD_mem dd, ((sh.same k).same core_same).ty⟩⟩
        have mv := List.mem_of_getElem? hv
        simp only [List.mem_cons, List.not_mem_nil, or_false] at mv
        rcases mv with rfl | rfl | rfl | rfl | rfl | rfl | rfl | rfl | rfl
        · exact data .non (nice_none.mono (by decide) (by decide))
        · exact data (.int 0) ((nice_int (show Small 0 from show (0 : Int).natAbs < 10 ^ 60 by decide)).mono (by decide) (by decide))
        · exact data (.str "a") ((nice_str ⟨by decide, by decide +kernel⟩).mono (by decide) (by decide))
        · exact data (.lst (core_of (o20 _ _ ((s19.trans (a4.trans (a5.trans a6))) _ _ (same_upd nW1 _ _ upd_same)) U1a) U1a (fun _ z => nomatch z)) .nil) ((Nice.list (dp := 0) (n := 0) (k := 0) (m := 0) (fun _ z => absurd z List.not_mem_nil) (Nat.le_refl _) (Nat.le_refl _)).mono (by decide) (by decide))
        · exact data (.lst (core_of e20 La (fun _ z => nomatch z)) (cells_sh (t20.keep (tupk_core p20)))) (nice.mono (by decide) (by decide))
        · exact data (.dct (core_of (o20 _ _ ((s19.trans (a4.trans (a5.trans a6))) _ _ upd_same) W1a) W1a (fun _ z => nomatch z)) .nil) ((Nice.dict (dp := 0) (n := 0) (k := 0) (m := 0) (fun _ z => absurd z List.not_mem_nil) (Nat.le_refl _) (Nat.le_refl _)).mono (by decide) (by decide))
        · exact data (.str _) ((nice_deal omd).mono (by decide) (Nat.le_refl _))
        · exact data (.tup (core_of (o20 _ _ ((a5.trans a6) _ _ upd_same) U2a) U2a (fun _ z => nomatch z)) .nil) ((Nice.tuple (dp := 0) (n := 0) (k := 0) (m := 0) (fun _ z => absurd z List.not_mem_nil) (Nat.le_refl _) (Nat.le_refl _)).mono (by decide) (by decide))
        · refine ⟨listText [dealText m.deal], fun Hc k => ?_⟩
          have e := core_same _ _ (k _ _ (core_of (o20 _ _ (a6 _ _ upd_same) U3a) U3a (fun _ z => nomatch z)))
          exact ⟨.inr (.inr ⟨U3, n2, m.deal, rfl, e, (all (k20.trans k)).2.2.2, omd, rfl⟩), "list", by decide, .base (.lst e)⟩
      -- heard twice
      refine ⟨w20.t, fun H21 x21 T21 => ?_⟩
      have c21 : Kp a H20 H21 := .of_ext x21
      have k21 := k20.trans c21
      have w21 : Wd a T H21 := ⟨w20.p.ext x21, T21⟩
      obtain ⟨_, _, d1, _⟩ := all k21
      obtain ⟨dx, fs, g1, f1⟩ := d1.obj
      obtain ⟨rp, nd⟩ := odd _ c21
      obtain ⟨ty, hty, ht⟩ := and_ty D (.inr nd)
      refine ⟨_, rfl, _, rfl, n1, dx, fs, ty, rfl, g1, hty, ht, n1, p.deal, v, rfl, d1, od, .inr ⟨nd, fun H22 e22 s22 h22 => ?_⟩⟩
      refine ⟨e22, v, t, CX, "deal", rfl, by simp [kindsOf], rfl, h22, rp.same s22, fun H23 p23 s23 h23 => ⟨(show (1 : Nat) ≤ sizeLine by decide), fun L24 n24 => ?_⟩⟩
      have s24 : Same H21 (upd H23 L24 (.lst [.ref p23])) := s22.trans (s23.trans (same_upd n24))
      have c24 := c21.trans (.of_same s24)
      have k24 := k20.trans c24
      have w24 := w21.same s24
      have h24 : upd H23 L24 (.lst [.ref p23]) p23 = some (.lst [.str "deal", .str t, .bl true]) := same_upd n24 _ _ h23
      have L240 : H21 L24 = none := same_none (s22.trans s23) n24
      refine ⟨_, rfl, .inl ⟨rfl, _, SqL.of upd_same⟩, w24.t, fun H25 x25 T25 => ?_⟩
      have c25 := c24.trans (.of_ext x25)
      have k25 := k20.trans c25
      have w25 : Wd a T H25 := ⟨w24.p.ext x25, T25⟩
      obtain ⟨_, _, d1, _⟩ := all k25
      obtain ⟨dx, fs, g1, f1⟩ := d1.obj
      obtain ⟨rp, nd⟩ := odd _ c25
      refine ⟨_, rfl, n1, dx, fs, rfl, g1, f1 _ (by decide), _, rfl, n1, p.deal, v, rfl, d1, od, .inr ⟨nd, fun H26 e26 s26 h26 => ?_⟩⟩
      refine ⟨e26, v, t, CX, "deal", rfl, by simp [kindsOf], rfl, h26, rp.same s26, fun H27 p27 s27 h27 => ?_⟩
      have s527 := s26.trans s27
      have eL24 : H27 L24 = some (.lst [.ref p23]) := s527 _ _ (x25 _ _ upd_same (fun _ z => nomatch z))
      have e23 : H27 p23 = some (.lst [.str "deal", .str t, .bl true]) := s527 _ _ (x25 _ _ h24 (fun _ z => nomatch z))
      have pL23 : p23 ≠ L24 := ne_of_none h23 n24
      have pL27 : p27 ≠ L24 := fun z => by rw [z, eL24] at h27; cases h27
      refine ⟨L24, [.ref p23], .ref p27, rfl, rfl, eL24, (show (1 : Nat) < sizeLine by decide), ?_⟩
      have w27 := w25.same s527
      have k27 := k25.trans (.of_same s527)
      have L24a : L24 ≠ a := w21.p.ne L240
      have L24k : ∀ {b : Addr} {o : HO}, core a H20 b = some o → b ≠ L24 := fun {b o} e z => by
        obtain ⟨e1, e2, e3⟩ := core_to e
        have := x21 _ _ e1 e3
        rw [z, L240] at this
        cases this
      have c28 : Kp a H20 (upd H27 L24 (.lst ([.ref p23] ++ [.ref p27]))) := fun b u e => by
        obtain ⟨f1, f2, f3⟩ := core_to ((c25.trans (.of_same s527)) _ _ e)
        exact core_of (by rw [upd_ne (L24k e)]; exact f1) f2 f3
      have w28 : Wd a T (upd H27 L24 (.lst ([.ref p23] ++ [.ref p27]))) := w27.put eL24 L24a
      have e28 : upd H27 L24 (.lst ([.ref p23] ++ [.ref p27])) p23 = some (.lst [.str "deal", .str t, .bl true]) := by rw [upd_ne pL23]; exact e23
      have f28 : upd H27 L24 (.lst ([.ref p23] ++ [.ref p27])) p27 = some (.lst [.str "deal", .str t, .bl true]) := by rw [upd_ne pL27]; exact h27
      have k28 := k20.trans c28
      -- the end
      refine ⟨_, rfl, _, rfl, v, t, rfl, (odd _ c28).1, fun H29 s29 => ⟨(show (3 : Nat) ≤ sizeLine by decide), fun L30 n30 => ⟨(show (1 : Nat) ≤ sizeLine by decide), fun L31 n31 => ?_⟩⟩⟩
      refine ⟨L31, 2, [.ref L30], rfl, rfl, upd_same, by decide, by decide, (show (2 : Nat) ≤ sizeLine by decide), fun p32 n32 => ?_⟩
      have s30 := same_upd (o := .lst [.str "deal", .str t, .bl true]) n30
      have s31 := same_upd (o := .lst [.ref L30]) n31
      have s32 := same_upd (o := .lst (List.replicate (2 : Int).toNat [V.ref L30]).flatten) n32
      have sE := s29.trans (s30.trans (s31.trans s32))
      have inner : ∀ (Hz : Hp) (b d : Addr), Hz b = some (.lst [.str "deal", .str t, .bl true]) → Hz d = some (.lst [.str "deal", .str t, .bl true]) → EqV K Hz 2 (.ref b) (.ref d) := fun Hz b d e1 e2 =>
        .inr (.inr (.inl ⟨b, d, _, _, rfl, rfl, SqL.of e1, SqL.of e2, .cons (.inl ⟨rfl, rfl⟩) (.cons (.inl ⟨rfl, rfl⟩) (.cons (.inl ⟨rfl, rfl⟩) .nil))⟩))
      have f30 := s32 _ _ (s31 _ _ (upd_same (a := L30)))
      refine ⟨2, by decide, .inl ⟨L24, p32, [.ref p23, .ref p27], [.ref L30, .ref L30], rfl, rfl, SqL.of (sE _ _ upd_same), SqL.of upd_same, .cons (inner _ _ _ (sE _ _ e28) f30) (.cons (inner _ _ _ (sE _ _ f28) f30) .nil)⟩, ?_⟩
      have kE := k28.trans (.of_same sE)
      have wE := w28.same sE
      obtain ⟨_, _, d1, d2⟩ := all kE
      obtain ⟨dx, fs, g1, f1⟩ := d1.obj
      refine ⟨true, rfl, iteT ⟨_, rfl, _, rfl, n1, dx, fs, .ref C, rfl, g1, d2.ty D, .inl rfl, n1, p.deal, .ref n2, rfl, d1, od, .inl ⟨n2, m.deal, rfl, d2, omd, fun H33 Lz xz s33 n33 e33 t33 => ?_⟩⟩⟩
      refine ⟨.ref Lz, _, rfl, .inl ⟨_, .lst e33 (cells_sh t33), nice.mono (by decide) (by decide), rfl⟩, fun H34 s34 => ?_⟩
      have eb := core_same _ _ ((c28.trans (.of_same sE)) _ _ (core_of e20 La (fun _ z => nomatch z)))
      have tb' := ((t20.keep (tupk_core p20)).keep (TupK.of (c28.trans (.of_same sE)))).keep (TupK.of core_same)
      refine ⟨_, rfl, .ref L, _, rfl, .inl ⟨_, .lst (s34 _ _ (s33 _ _ eb)) (cells_sh (tb'.keep (TupK.of (s33.trans s34)))), nice.mono (by decide) (by decide), rfl⟩, fun H35 s35 => ⟨rfl, ?_⟩⟩
      rw [eq_self]
      exact q H35 (kE.trans (.of_same (s33.trans (s34.trans s35)))) (wE.same (s33.trans (s34.trans s35)))
end
end Ld
namespace Ld
open PySem PySem.Spec PyProof.Rows L2 LamX
/-! ### dicts as data -/
def Ent (H : Hp) (e : Key × V) : Prop := ∃ d, Sh H e.2 d ∧ Nice 2 1000 d ∧ Nice 0 200 (kD e.1)
theorem Ent.same {H H' : Hp} {e : Key × V} (h : Ent H e) (s : Same H H') : Ent H' e := by
  obtain ⟨d, a, b⟩ := h
  exact ⟨d, a.same s, b⟩
theorem ent_data {H : Hp} : ∀ {kvs : List (Key × V)}, (∀ e ∈ kvs, Ent H e) → ∃ ds, ShKv H kvs ds ∧ NiceKv 2 1000 ds ∧ ds.length = kvs.length
  | [], _ => ⟨[], .nil, fun _ z => absurd z List.not_mem_nil, rfl⟩
  | e :: r, h => by
    obtain ⟨ds, a, b, c⟩ := ent_data fun x hx => h x (List.mem_cons_of_mem _ hx)
    obtain ⟨d, p1, p2, p3⟩ := h e List.mem_cons_self
    refine ⟨(kD e.1, d) :: ds, .cons p1 a, fun x hx => ?_, by rw [List.length_cons, List.length_cons, c]⟩
    rcases List.mem_cons.mp hx with rfl | hx
    · exact ⟨p3.mono (by decide) (by decide), p2⟩
    · exact b x hx
theorem dict_data {H : Hp} {a : Addr} {kvs : List (Key × V)} (e : H a = some (.dK kvs)) (h : ∀ x ∈ kvs, Ent H x) (l : kvs.length ≤ 12) : ∃ ds, Sh H (.ref a) (.dict ds) ∧ ShKv H kvs ds ∧ Nice 3 30000 (.dict ds) := by
  obtain ⟨ds, p, q, r⟩ := ent_data h
  exact ⟨ds, .dct e p, p, Nice.dict q (k := 12) (by omega) (by decide)⟩
theorem putK_mem {kvs : List (Key × V)} {k : Key} {v : V} {e : Key × V} (h : e ∈ putK kvs k v) : e ∈ kvs ∨ e = (k, v) := by
  unfold putK at h
  split at h
  · obtain ⟨x, hx, rfl⟩ := List.mem_map.mp h
    by_cases z : x.1 = k
    · rw [if_pos z, z]
      exact .inr rfl
    · rw [if_neg z]
      exact .inl hx
  · rcases List.mem_append.mp h with h | h
    · exact .inl h
    · exact .inr (List.mem_singleton.mp h)
theorem valV_not {kvs : List (Key × V)} {k : Key} (h : k ∉ kvs.map (·.1)) : valV kvs k = none := by
  cases e : valV kvs k with
  | none => rfl
  | some v =>
    exfalso
    apply h
    have a := valV_any k kvs
    rw [e] at a
    obtain ⟨x, hx, hk⟩ := List.any_eq_true.mp a
    exact List.mem_map.mpr ⟨x, hx, of_decide_eq_true hk⟩
theorem merge_app : ∀ (more acc : List (Key × V)), ((acc ++ more).map (·.1)).Nodup → mergeK acc more = acc ++ more
  | [], acc, _ => by rw [List.append_nil]; rfl
  | e :: r, acc, h => by
    have n : e.1 ∉ acc.map (·.1) := fun m => by
      rw [List.map_append] at h
      exact (List.nodup_append.mp h).2.2 _ m _ (List.mem_map.mpr ⟨e, List.mem_cons_self, rfl⟩) rfl
    show mergeK (putK acc e.1 e.2) r = _
    rw [putK_new _ (valV_not n), merge_app r (acc ++ [(e.1, e.2)]) (by simpa using h)]
    simp
theorem merge_self {kvs : List (Key × V)} (h : (kvs.map (·.1)).Nodup) : mergeK [] kvs = kvs := by
  rw [merge_app kvs [] (by simpa using h)]
  rfl
theorem merge_put {kvs : List (Key × V)} (h : (kvs.map (·.1)).Nodup) (k : Key) (v : V) : mergeK [] (kvs ++ [(k, v)]) = putK kvs k v := by
  have e : mergeK [] (kvs ++ [(k, v)]) = putK (mergeK [] kvs) k v := by
    unfold mergeK
    rw [List.foldl_append]
    rfl
  rw [e, merge_self h]
theorem putK_nodup {kvs : List (Key × V)} (h : (kvs.map (·.1)).Nodup) (k : Key) (v : V) : ((putK kvs k v).map (·.1)).Nodup := by
  unfold putK
  split
  · have e : (kvs.map fun kv => if kv.1 = k then (kv.1, v) else kv).map (·.1) = kvs.map (·.1) := by
      rw [List.map_map]
      refine List.map_congr_left fun x _ => ?_
      show (if x.1 = k then (x.1, v) else x).1 = x.1
      split <;> rfl
    rw [e]
    exact h
  · rename_i n
    rw [List.map_append]
    refine List.nodup_append.mpr ⟨h, by simp, fun a ha b hb z => ?_⟩
    simp at hb
    subst hb
    subst z
    obtain ⟨x, hx, e⟩ := List.mem_map.mp ha
    exact n (List.any_eq_true.mpr ⟨x, hx, decide_eq_true e⟩)
theorem merge_nodup : ∀ (more acc : List (Key × V)), (acc.map (·.1)).Nodup → ((mergeK acc more).map (·.1)).Nodup
  | [], _, h => h
  | e :: r, acc, h => merge_nodup r _ (putK_nodup h e.1 e.2)
theorem merge_mem : ∀ (more acc : List (Key × V)) (x : Key × V), x ∈ mergeK acc more → x ∈ acc ∨ x ∈ more
  | [], _, _, h => .inl h
  | e :: r, acc, x, h => by
    rcases merge_mem r _ x h with h | h
    · rcases putK_mem h with h | h
      · exact .inl h
      · exact .inr (by rw [h]; exact List.mem_cons_self)
    · exact .inr (List.mem_cons_of_mem _ h)
/-! ### what dates the deal refuses -/
theorem mom_int {H : Hp} {kvs : List (Key × V)} {ds : List (PyData × PyData)} (s : ShKv H kvs ds) {m : Str} {i : Int} (n : Int) (hm : m ≠ ("day" : Str)) (h : valV kvs (.inr m) = some (.int i)) : momD ds m n = some (i + n) := by
  unfold momD
  rw [if_neg hm]
  rcases lk_kv m s with ⟨h1, _⟩ | ⟨v, d, h1, h2, h3⟩
  · rw [h1] at h
    cases h
  · rw [h1] at h
    cases h
    rw [h2]
    cases h3
    rfl
theorem mom_no {H : Hp} {kvs : List (Key × V)} {ds : List (PyData × PyData)} (s : ShKv H kvs ds) {m : Str} (n : Int) (hm : m ≠ ("day" : Str)) (h : ∀ i, valV kvs (.inr m) ≠ some (.int i)) : momD ds m n = none := by
  unfold momD
  rw [if_neg hm]
  rcases lk_kv m s with ⟨_, h2⟩ | ⟨v, d, h1, h2, h3⟩
  · rw [h2]
    rfl
  · rw [h2]
    cases h3 with
    | int i => exact absurd h1 (h i)
    | _ => rfl
theorem mom_day {ds : List (PyData × PyData)} (n : Int) : momD ds ("day" : Str) n = some n := by
  unfold momD
  rw [if_pos rfl]
theorem pairD_l (b : Option Int) : pairD none b = none := by cases b <;> rfl
theorem pairD_r (a : Option Int) : pairD a none = none := by cases a <;> rfl
theorem days_no {H : Hp} {kvs : List (Key × V)} {ds : List (PyData × PyData)} {p : Pact} (s : ShKv H kvs ds) {m : Str} (hm : m = p.hd ∨ m = p.tl) (nd : m ≠ ("day" : Str)) (h : ∀ i, valV kvs (.inr m) ≠ some (.int i)) : daysD p (.dict ds) = none := by
  show pairD (momD ds p.hd p.fi) (momD ds p.tl p.la) = none
  rcases hm with rfl | rfl
  · rw [mom_no s _ nd h, pairD_l]
  · rw [mom_no s _ nd h, pairD_r]
/-- the dates that are told: a dict -/
structure Told2 (G : Hp) (t : Addr) (kvs : List (Key × V)) : Prop where
  at_ : G t = some (.dK kvs)
  nd : (kvs.map (·.1)).Nodup
  few : kvs.length ≤ 7
  ent : ∀ e ∈ kvs, Ent G e
/-- what the deal must refuse -/
structure Bad (p : Pact) (dd : PyData) : Prop where
  ni : Nice 20 100000 dd
  no : daysD p dd = none
  di : isDict dd = true → ¬ (p.hd = ("day" : Str) ∧ p.tl = ("day" : Str))
/-! ### the heap but for one more list -/
def cr2 (a W : Addr) (H : Hp) : Hp := fun b => if b = W then none else core a H b
theorem cr2_of {a W b : Addr} {H : Hp} {o : HO} (e : H b = some o) (n : b ≠ a) (m : b ≠ W) (t : ∀ ps, o ≠ .tbl ps) : cr2 a W H b = some o := by
  unfold cr2
  rw [if_neg m]
  exact core_of e n t
theorem cr2_to {a W b : Addr} {H : Hp} {o : HO} (e : cr2 a W H b = some o) : core a H b = some o ∧ b ≠ W := by
  unfold cr2 at e
  by_cases n : b = W
  · rw [if_pos n] at e
    cases e
  · rw [if_neg n] at e
    exact ⟨e, n⟩
theorem cr2_core {a W : Addr} {H : Hp} : Same (cr2 a W H) (core a H) := fun _ _ e => (cr2_to e).1
def Kq (a W : Addr) (H H' : Hp) : Prop := Same (cr2 a W H) (cr2 a W H')
theorem Kq.refl {a W : Addr} {H : Hp} : Kq a W H H := Same.refl _
theorem Kq.trans {a W : Addr} {H H1 H2 : Hp} (x : Kq a W H H1) (y : Kq a W H1 H2) : Kq a W H H2 := Same.trans x y
theorem Kq.of_kp {a W : Addr} {H H' : Hp} (k : Kp a H H') : Kq a W H H' := fun b u e => by
  obtain ⟨e1, e2⟩ := cr2_to e
  obtain ⟨f1, f2, f3⟩ := core_to (k _ _ e1)
  exact cr2_of f1 f2 e2 f3
theorem Kq.of_same {a W : Addr} {H H' : Hp} (s : Same H H') : Kq a W H H' := .of_kp (.of_same s)
theorem Kq.put {a W : Addr} {H : Hp} {o : HO} : Kq a W H (upd H W o) := fun b u e => by
  obtain ⟨e1, e2⟩ := cr2_to e
  obtain ⟨f1, f2, f3⟩ := core_to e1
  exact cr2_of (by rw [upd_ne e2]; exact f1) f2 e2 f3
theorem kq_of0 {a W : Addr} {H H' : Hp} (k : Kp a H H') (n : H W = none) : Same (core a H) (cr2 a W H') := fun b u e => by
  obtain ⟨f1, f2, f3⟩ := core_to (k _ _ e)
  exact cr2_of f1 f2 (ne_of_none (core_to e).1 n) f3
theorem bad_nd {p : Pact} {dd : PyData} (ni : Nice 20 100000 dd) (h : isDict dd = false) : Bad p dd := ⟨ni, (by cases dd <;> first | rfl | cases h), fun z => by rw [h] at z; cases z⟩
/-- while the wrong dates are gathered in W -/
structure PhA (H0 : Hp) (a W : Addr) (T : List (Addr × Str)) (p : Pact) (n : Nat) (H : Hp) : Prop where
  k : Same (core a H0) (cr2 a W H)
  w : Wd a T H
  wa : W ≠ a
  l : ∃ vs, H W = some (.lst vs) ∧ vs.length ≤ n ∧ ∀ v ∈ vs, ∃ dd, Sh (cr2 a W H) v dd ∧ Bad p dd
section
variable {H0 H H' : Hp} {a W : Addr} {T : List (Addr × Str)} {p : Pact} {n : Nat}
theorem PhA.same (h : PhA H0 a W T p n H) (s : Same H H') : PhA H0 a W T p n H' := by
  obtain ⟨vs, e, l, b⟩ := h.l
  have q : Kq a W H H' := .of_same s
  exact ⟨h.k.trans q, h.w.same s, h.wa, vs, s _ _ e, l, fun v hv => by obtain ⟨dd, x, y⟩ := b v hv; exact ⟨dd, x.same q, y⟩⟩
theorem PhA.mono {m : Nat} (h : PhA H0 a W T p n H) (l : n ≤ m) : PhA H0 a W T p m H := by
  obtain ⟨vs, e, l', b⟩ := h.l
  exact ⟨h.k, h.w, h.wa, vs, e, Nat.le_trans l' l, b⟩
theorem PhA.grow {vs : List V} {v : V} {dd : PyData} (h : PhA H0 a W T p n H) (e : H W = some (.lst vs)) (sh : Sh (cr2 a W H) v dd) (bad : Bad p dd) : PhA H0 a W T p (n + 1) (upd H W (.lst (vs ++ [v]))) := by
  obtain ⟨ws, e', l, b⟩ := h.l
  rw [e] at e'
  cases e'
  refine ⟨h.k.trans Kq.put, h.w.put e h.wa, h.wa, _, upd_same, by rw [List.length_append]; exact Nat.succ_le_succ l, fun u hu => ?_⟩
  rcases List.mem_append.mp hu with hu | hu
  · obtain ⟨d, x, y⟩ := b u hu
    exact ⟨d, x.same Kq.put, y⟩
  · rw [List.mem_singleton.mp hu]
    exact ⟨dd, sh.same Kq.put, bad⟩
theorem PhA.st (h : PhA H0 a W T p n H) : Same (core a H0) H := h.k.trans (cr2_core.trans core_same)
end
theorem kV_sh {H : Hp} (k : Key) : Sh H (kV k) (kD k) := by
  cases k with
  | inl i => exact .int i
  | inr x => exact .str x
theorem items_sh {G : Hp} : ∀ {ts : List Addr} {kvs : List (Key × V)}, Paired (fun (t : Addr) (q : Key × V) => G t = some (.tup [kV q.1, q.2])) ts kvs → (∀ e ∈ kvs, Ent G e) → ∃ dl, ShAll G (ts.map V.ref) dl ∧ NiceAll 3 3000 dl ∧ dl.length = kvs.length
  | _, _, .nil, _ => ⟨[], .nil, fun _ z => absurd z List.not_mem_nil, rfl⟩
  | _, _, .cons (a := t) (b := e) h r, en => by
    obtain ⟨dl, x, y, z⟩ := items_sh r fun u hu => en u (List.mem_cons_of_mem _ hu)
    obtain ⟨d, s1, s2, s3⟩ := en e List.mem_cons_self
    refine ⟨.tuple [kD e.1, d] :: dl, .cons (.tup h (.cons (kV_sh _) (.cons s1 .nil))) x, fun u hu => ?_, by rw [List.length_cons, List.length_cons, z]⟩
    rcases List.mem_cons.mp hu with rfl | hu
    · refine Nice.tuple (dp := 2) (n := 1000) (k := 2) (fun v hv => ?_) (Nat.le_refl _) (by decide)
      simp only [List.mem_cons, List.not_mem_nil, or_false] at hv
      rcases hv with rfl | rfl
      · exact s3.mono (by decide) (by decide)
      · exact s2
    · exact y u hu
theorem valV_get {kvs : List (Key × V)} (nd : (kvs.map (·.1)).Nodup) {i : Nat} {k : Key} {v : V} (h : kvs[i]? = some (k, v)) : valV kvs k = some v := by
  induction kvs generalizing i with
  | nil => simp at h
  | cons e r ih =>
    rw [List.map_cons, List.nodup_cons] at nd
    cases i with
    | zero =>
      simp at h
      subst h
      exact valV_pos rfl
    | succ i =>
      have h' : r[i]? = some (k, v) := by simpa using h
      rw [valV_neg (fun z => nd.1 (by rw [z]; exact List.mem_map.mpr ⟨_, List.mem_of_getElem? h', rfl⟩))]
      exact ih nd.2 h'
theorem allT_pairs {K : PySem.W.Frag} {H : Hp} : ∀ {l : List (Key × V)} {ls : List V}, AllT H ls (l.map fun e => [kV e.1, e.2]) → ∃ ps : List Addr, ls = ps.map V.ref ∧ Paired (fun p (kv : Key × V) => SqT K H p [kV kv.1, kv.2]) ps l
  | [], _, .nil => ⟨[], rfl, .nil⟩
  | e :: r, _, .cons ⟨b, eb, hb⟩ t => by
    obtain ⟨ps, x, y⟩ := allT_pairs t
    exact ⟨b :: ps, by rw [eb, x]; rfl, .cons (SqT.of hb) y⟩
theorem fm_drop (m : Str) : ∀ (kvs : List (Key × V)), kvs.filterMap (fun e => if e.1 = (Sum.inr m : Key) then none else some [kV e.1, e.2]) = (dropK kvs (.inr m)).map fun e => [kV e.1, e.2]
  | [] => rfl
  | e :: r => by
    have ih := fm_drop m r
    unfold dropK at ih ⊢
    by_cases h : e.1 = (Sum.inr m : Key)
    · simp [h, ih]
    · simp [h, ih]
theorem drop_none (kvs : List (Key × V)) (k : Key) : valV (dropK kvs k) k = none := by
  refine valV_not fun m => ?_
  obtain ⟨e, he, z⟩ := List.mem_map.mp m
  unfold dropK at he
  have := (List.mem_filter.mp he).2
  simp [z] at this
theorem pair_more {α β : Type} {R : α → β → Prop} : ∀ {xs : List α} {ys : List β} {x : α} {y : β}, Paired R xs ys → R x y → Paired R (xs ++ [x]) (ys ++ [y])
  | _, _, _, _, .nil, h => .cons h .nil
  | _, _, _, _, .cons a b, h => .cons a (pair_more b h)
theorem pair_imp {α β : Type} {R S : α → β → Prop} (h : ∀ x y, R x y → S x y) : ∀ {xs : List α} {ys : List β}, Paired R xs ys → Paired S xs ys
  | _, _, .nil => .nil
  | _, _, .cons a b => .cons (h _ _ a) (pair_imp h b)
theorem kV_ne {k : Key} {m : Str} : decide (kV k = V.str m) = decide (k = (Sum.inr m : Key)) := by
  cases k with
  | inl i => rw [decide_eq_false (fun z => nomatch z), decide_eq_false (fun z => nomatch z)]
  | inr x =>
    rw [Bool.eq_iff_iff, decide_eq_true_iff, decide_eq_true_iff]
    exact ⟨fun z => by rw [V.str.inj z], fun z => by rw [Sum.inr.inj z]; rfl⟩
end Ld
namespace Ld
open PySem PySem.Spec PyProof.Rows L2 LamX
open L2H (RoomH)
section
variable {P : Program} {w : World} {K : PySem.W.Frag} {mg : Str → Option Value} {base : Heap} {f c Pt : Addr} {fd : FuncData} {C CDE CD CN CX : Addr} {T : List (Addr × Str)}
theorem sc_spoilt : FnScope ["_law_pot_here", "_law_pact_here", "_law_near", "_law_told", "_law_spots", "_law_first", "_law_last", "_law_wrong", "_law_head", "_law_tail", "_law_tag", "_law_label", "_law_due", "_law_thing"] ["_law_pot_here", "_law_pact_here", "_law_near", "_law_told", "_law_spots"] (defScope sSpoiltR) := ⟨rfl, rfl, rfl, by decide +kernel, rfl, by decide +kernel, by decide +kernel⟩
def nS : List Str := ["_law_pot_here", "_law_pact_here", "_law_near", "_law_told", "_law_spots", "_law_first", "_law_last", "_law_wrong", "_law_head", "_law_tail", "_law_tag", "_law_label", "_law_due", "_law_thing"]
def spSpoilt (T : List (Addr × Str)) (C : Addr) : Sp := fun vs H Q _ => ∃ (a q nd t sp : Addr) (p : Pact) (kvs skv : List (Key × V)) (x y : Int), vs = [.ref a, .ref q, .ref nd, .ref t, .ref sp] ∧ Wd a T H ∧ PactAt (core a H) q p ∧ PactOk p ∧ DealAt C (core a H) nd p.deal ∧ Told2 (core a H) t kvs ∧
  core a H sp = some (.dK skv) ∧ valV skv (.inr p.hd) = some (.int x) ∧ valV skv (.inr p.tl) = some (.int y) ∧ (Mid x ∧ Mid y ∧ Mid (x + p.fi) ∧ Mid (y + p.la)) ∧ (p.hd ≠ ("day" : Str) → valV kvs (.inr p.hd) = some (.int x)) ∧ (p.hd = ("day" : Str) → x = 0) ∧ (p.tl ≠ ("day" : Str) → valV kvs (.inr p.tl) = some (.int y)) ∧ (p.tl = ("day" : Str) → y = 0) ∧
  ∀ H', Kp a H H' → Wd a T H' → Q (.bl true) H'
theorem PT.imp {X : Cx} {e : Expr} {t t' : TT} (h : PT X e t) (i : ∀ σ H Q, t' σ H Q → t σ H Q) : PT X e t' := ⟨fun pins s σ H Q I q => h.run pins s σ H Q I (i _ _ _ q)⟩
/-- the deal's points bear no day alone, or the thing is no dict -/
def tNoDue : TT := fun σ H Q => ∃ (q0 : Addr) (p : Pact) (v : V) (dd : PyData), σ[1]? = some (some (.ref q0)) ∧ σ[13]? = some (some v) ∧ PactAt H q0 p ∧ Sh H v dd ∧ (p.hd = ("day" : Str) → p.tl = ("day" : Str) → isDict dd = false) ∧ Q false H
theorem grow_dict {H0 H : Hp} {a W D : Addr} {T : List (Addr × Str)} {p : Pact} {n : Nat} {vs : List V} {kvs : List (Key × V)} (ph : PhA H0 a W T p n H) (nD : H D = none) (eW : H W = some (.lst vs)) (ent : ∀ e ∈ kvs, Ent (cr2 a W H) e) (l : kvs.length ≤ 12) (no : ∀ G ds, ShKv G kvs ds → daysD p (.dict ds) = none) (nb : ¬ (p.hd = ("day" : Str) ∧ p.tl = ("day" : Str))) :
    PhA H0 a W T p (n + 1) (upd (upd H D (.dK kvs)) W (.lst (vs ++ [.ref D]))) := by
  have s := same_upd (o := .dK kvs) nD
  have Da := ph.w.p.ne nD
  have DW : D ≠ W := fun z => by rw [z, eW] at nD; cases nD
  obtain ⟨ds, sh, sk, ni⟩ := dict_data (cr2_of (upd_same (a := D)) Da DW (fun _ z => nomatch z)) (fun e he => (ent e he).same (Kq.of_same s)) l
  exact (ph.same s).grow (s _ _ eW) sh ⟨ni.mono (by decide) (by decide), no _ ds sk, fun _ => nb⟩
theorem grow_put {H0 H : Hp} {a W D t : Addr} {T : List (Addr × Str)} {p : Pact} {n : Nat} {vs : List V} {kvs : List (Key × V)} {k : Key} {v : V} (tol : Told2 (core a H0) t kvs) (ph : PhA H0 a W T p n H) (nD : H D = none) (eW : H W = some (.lst vs)) (ent : Ent (cr2 a W H) (k, v)) (no : ∀ G ds, ShKv G (putK kvs k v) ds → daysD p (.dict ds) = none)
    (nb : ¬ (p.hd = ("day" : Str) ∧ p.tl = ("day" : Str))) : PhA H0 a W T p (n + 1) (upd (upd H D (.dK (mergeK [] (kvs ++ [(k, v)])))) W (.lst (vs ++ [.ref D]))) := by
  rw [merge_put tol.nd]
  refine grow_dict ph nD eW (fun e he => ?_) ?_ no nb
  · rcases putK_mem he with h | rfl
    · exact (tol.ent e h).same ph.k
    · exact ent
  · have := length_putK kvs k v
    have := tol.few
    omega
theorem key_nice {m : Str} (h : Asc m) : Nice 0 200 (kD (.inr m)) := (nice_str h).mono (Nat.le_refl _) (by decide)
def sMore : TS := fun D σ H => ∃ (H0 : Hp) (a W t : Addr) (T : List (Addr × Str)) (p : Pact) (n : Nat) (kvs : List (Key × V)) (x y : Int), PhA H0 a W T p.deal n H ∧ Told2 (core a H0) t kvs ∧ n ≤ 25 ∧ σ[3]? = some (some (.ref t)) ∧ σ[5]? = some (some (.int (x + p.fi))) ∧ σ[6]? = some (some (.int (y + p.la))) ∧ σ[7]? = some (some (.ref W)) ∧
  σ[8]? = some (some (.str p.hd)) ∧ σ[9]? = some (some (.str p.tl)) ∧ PactOk p ∧ (Mid x ∧ Mid y ∧ Mid (x + p.fi) ∧ Mid (y + p.la)) ∧ (p.hd ≠ ("day" : Str) → valV kvs (.inr p.hd) = some (.int x)) ∧ (p.hd = ("day" : Str) → x = 0) ∧ (p.tl ≠ ("day" : Str) → valV kvs (.inr p.tl) = some (.int y)) ∧ (p.tl = ("day" : Str) → y = 0) ∧
  ∀ H', PhA H0 a W T p.deal (n + 1) H' → D.nx σ H'
theorem same_lock {H H3 : Hp} {t : Addr} {u v : HO} (e : H t = some u) (s : Same (upd H t v) H3) : Same H (upd H3 t u) := fun b o eb => by
  by_cases z : b = t
  · rw [z, upd_same]
    rw [z, e] at eb
    exact eb
  · rw [upd_ne z]
    exact s _ _ (by rw [upd_ne z]; exact eb)
theorem ok_spoilt (Lk : LK P w K mg base C CDE CD CN CX) (F : FunC K "_law_spoilt_right" "_law_spoilt_right" sSpoiltR f fd c) (tb : Tb base mg T (("_law_spoilt_right" : Str) ++ ".<locals>.") c Pt) :
    FnG P w K mg base CX0 7 f fd ["_law_pot_here", "_law_pact_here", "_law_near", "_law_told", "_law_spots"] (spSpoilt T C) := by
  obtain ⟨gh, ghd, Fh, mh, bh⟩ := Lk.heard
  refine F.okG0 sc_spoilt (fun vs H Q E h => ?_) fun A outer s H vs Q E h0 hr h => ?_
  · obtain ⟨a, q, n, t, s, _, _, _, _, _, rfl, _⟩ := h
    rfl
  · obtain ⟨a, q0, nd, t, sp, p, kvs, skv, x, y, rfl, wd, hp, op, hd, tol, hsp, vx, vy, ⟨mx, my, m1, m2⟩, hx1, hx0, hy1, hy0, q⟩ := h
    have B := Lk.B
    have D := Lk.D
    apply Exists.intro
    apply And.intro
    · exact pss_cons (ps_asg (pe_g Lk.stretch hr (by decide) rfl pass0 (pa_cons (pv 4) (pa_cons (pv 1) pa_nil))) (pg_tup rfl (pgs_cons (pg_name (i := 5) sc_spoilt.nd rfl (Or.inl rfl)) (pgs_cons (pg_name (i := 6) sc_spoilt.nd rfl (Or.inl rfl)) pgs_nil))))
        (pss_cons (ps_par3 (i := 7) (j := 8) (l := 9) rfl sc_spoilt.nd rfl rfl rfl (by decide) (by decide) (by decide) rfl rfl rfl (pa_cons (pe_lst (pa_cons pe_non (pa_cons pe_int (pa_cons pe_str (pa_cons (pe_lst pa_nil) (pa_cons (LiI.pe_listItems rfl (pv 3) rfl (B.nb _ (by decide)) rfl) (pa_cons pe_bl pa_nil)))))))
            (pa_cons (pe_ix ix_tup (pe_dget (ru1 hr) (pv 1) pe_str (fun _ _ => rfl)) pe_int (fun _ _ => rfl)) (pa_cons (pe_ix ix_tup (pe_dget (ru1 hr) (pv 1) pe_str (fun _ _ => rfl)) pe_int (fun _ _ => rfl)) pa_nil))) rfl)
        (pss_cons (ps_for PassesOwn.never rfl (pi_list (pe_lc (own := [("_law_tag", 10)]) rfl sc_spoilt.nd (pi_list (pe_callB (cr_sortedTS rfl) rfl (B.nb _ (by decide)) rfl (pa_cons (pe_callTy (cr_setTS rfl) rfl (B.nb _ (by decide)) rfl (pa_cons (pe_lst (pa_cons (pv 8) (pa_cons (pv 9) pa_nil))) pa_nil)) pa_nil)))
            (blkOk_by (N := nS) (sc := defScope sSpoiltR) (by decide +kernel)) (fun _ _ _ _ _ => pg_name (i := 10) sc_spoilt.nd rfl (Or.inl rfl)) (fun _ _ _ _ _ => pts_one (pt_cmpR op_ne (pv 10) pe_str (nomark _))) (fun _ _ _ _ _ => pv 10))) (pg_name (i := 10) sc_spoilt.nd rfl (Or.inr rfl))
          (pss_cons (ps_expr (pe_bm PySem.F.plainAttrs_list PySem.F.slot_list_append PySem.F.type_list_append mt_append (pv 7) (pa_cons (pe_callTy (call_dictP rfl) rfl (B.nb _ (by decide)) rfl (pa_cons (pe_lock (pe_lc (own := [("_law_label", 11)]) rfl sc_spoilt.nd (pi_keys (pv 3)) (blkOk_by (N := nS) (sc := defScope sSpoiltR) (by decide +kernel))
              (fun _ _ _ _ _ => pg_name (i := 11) sc_spoilt.nd rfl (Or.inl rfl)) (fun _ _ _ _ _ => pts_one (pt_cmpR op_ne (pv 11) (pv 10) (nomark _))) (fun _ _ _ _ _ => pe_tup (pa_cons (pv 11) (pa_cons (pe_dget (ru1 hr) (pv 3) (pv 11) (fun _ _ => rfl)) pa_nil))))) pa_nil)) pa_nil)))
          (pss_one (ps_for PassesOwn.never rfl (pi_list (pe_lst (pa_cons pe_non (pa_cons pe_bl (pa_cons pe_str (pa_cons (pe_lst (pa_cons pe_int pa_nil)) (pa_cons (pe_tup (pa_cons pe_int (pa_cons pe_int pa_nil))) pa_nil))))))) (pg_name (i := 13) sc_spoilt.nd rfl (Or.inr rfl))
            (pss_one (ps_expr (pe_bm PySem.F.plainAttrs_list PySem.F.slot_list_append PySem.F.type_list_append mt_append (pv 7) (pa_cons (pe_callTy (call_dictP rfl) rfl (B.nb _ (by decide)) rfl (pa_cons (pe_op op_cat (LiI.pe_listItems rfl (pv 3) rfl (B.nb _ (by decide)) rfl) (pe_lst (pa_cons (pe_tup (pa_cons (pv 10) (pa_cons (pv 13) pa_nil))) pa_nil))) pa_nil)) pa_nil))))))))
        (pss_cons (PS.imp (t' := sMore) (ps_if (PW.pt (pw_and (pt_cmpR op_ne (pv 8) (pv 9) (nomark _)) (pw_and1 (pt_cmpR op_ne (pv 8) pe_str (nomark _))))) (pss_one (ps_expr (pe_bm PySem.F.plainAttrs_list PySem.F.slot_list_append PySem.F.type_list_append mt_append (pv 7) (pa_cons (pe_callTy (call_dictP rfl) rfl (B.nb _ (by decide)) rfl (pa_cons (pe_op op_cat (LiI.pe_listItems rfl (pv 3) rfl (B.nb _ (by decide)) rfl)
              (pe_lst (pa_cons (pe_tup (pa_cons (pv 8) (pa_cons (pe_op op_add (pe_op op_sub (pe_op op_add (pe_dget (ru1 hr) (pv 3) (pv 8) (fun _ _ => rfl)) (pv 6)) (pv 5)) pe_int) pa_nil))) pa_nil))) pa_nil)) pa_nil)))) pss_nil) (fun D σ H h => by
            obtain ⟨H0, a, W, t, T, p, n, kvs, x, y, ph, tol, nl, e3, e5, e6, e7, e8, e9, op, ⟨mx, my, m1, m2⟩, hx1, hx0, hy1, hy0, nx⟩ := h
            refine ⟨_, e8, _, e9, rfl, _, rfl, ?_⟩
            rw [dec_strV]
            by_cases z : p.hd = p.tl
            · rw [decide_eq_true z]
              exact iteF (iteF (nx _ (ph.mono (Nat.le_succ n))))
            · rw [decide_eq_false z]
              refine iteT ⟨_, e8, rfl, _, rfl, ?_⟩
              rw [dec_strV]
              by_cases z2 : p.hd = ("day" : Str)
              · rw [decide_eq_true z2]
                exact iteF (nx _ (ph.mono (Nat.le_succ n)))
              · rw [decide_eq_false z2]
                obtain ⟨vs, eW, lv, _⟩ := ph.l
                have et := ph.st _ _ tol.at_
                refine iteT ⟨_, e7, .inl ⟨rfl, _, SqL.of eW⟩, _, e3, t, kvs, rfl, et, fun H16 pl ts s16 npl nts hpl0 hpl pr => ?_⟩
                have s16 : Same H H16 := s16
                have et16 := s16 _ _ et
                refine ⟨_, e8, _, e3, _, e8, t, _, rfl, (hx1 z2) ▸ DGet.k (k := .inr p.hd) et16, _, e6, x, y + p.la, rfl, rfl, _, e5, _, _, rfl, rfl, _, 1, rfl, rfl, (show (2 : Nat) ≤ sizeLine by decide), fun T17 n17 => ⟨(show (1 : Nat) ≤ sizeLine by decide), fun L18 n18 => ?_⟩⟩
                have d1 := same_upd (o := .tup [.str p.hd, .int (x + (y + p.la) - (x + p.fi) + 1)]) n17
                have d2 := same_upd (o := .lst [.ref T17]) n18
                have tsl : ts.length ≤ 7 := by rw [Paired.length pr]; exact tol.few
                refine ⟨pl, L18, ts.map V.ref, [.ref T17], rfl, rfl, d2 _ _ (d1 _ _ hpl), upd_same, (by rw [List.length_map, sizeLine_eq]; simp; omega), fun M19 n19 => ?_⟩
                have d3 := same_upd (o := .lst (ts.map V.ref ++ [.ref T17])) n19
                have dA := s16.trans (d1.trans (d2.trans d3))
                refine ⟨M19, ts ++ [T17], kvs ++ [(.inr p.hd, .int (x + (y + p.la) - (x + p.fi) + 1))], rfl, SqL.of (by rw [List.map_append]; exact upd_same), pair_more (pair_imp (fun b e h => SqT.of ((d1.trans (d2.trans d3)) _ _ h)) pr) (SqT.of ((d2.trans d3) _ _ upd_same)), fun DD nD => ?_⟩
                have ph16 := ph.same dA
                have eW16 := dA _ _ eW
                refine ⟨W, vs, .ref DD, rfl, rfl, same_upd nD _ _ eW16, Nat.lt_of_le_of_lt lv (Nat.lt_of_le_of_lt nl (by decide)), ?_⟩
                have small : Small (x + (y + p.la) - (x + p.fi) + 1) := by
                  unfold Mid at mx my m1 m2
                  show Int.natAbs _ < 10 ^ 60
                  omega
                refine nx _ (grow_put tol ph16 nD eW16 ⟨_, .int _, (nice_int small).mono (by decide) (by decide), key_nice (asc_moment op.hd.1 op.hd.2)⟩ (fun G ds sk => ?_) (fun w => z2 w.1))
                show pairD (momD ds p.hd p.fi) (momD ds p.tl p.la) = none
                rw [mom_int sk p.fi z2 (by rw [valV_put, if_pos rfl])]
                by_cases z3 : p.tl = ("day" : Str)
                · have y0 := hy0 z3
                  rw [z3, mom_day, pairD_none (by omega)]
                · rw [mom_int sk p.la z3 (by rw [valV_put, if_neg (fun w => z (Sum.inr.inj w).symm)]; exact hy1 z3), pairD_none (by omega)]))
        (pss_cons (PS.imp (t' := sMore) (ps_if (PW.pt (pw_and (pt_cmpR op_ne (pv 8) (pv 9) (nomark _)) (pw_and1 (pt_cmpR op_ne (pv 9) pe_str (nomark _))))) (pss_one (ps_expr (pe_bm PySem.F.plainAttrs_list PySem.F.slot_list_append PySem.F.type_list_append mt_append (pv 7) (pa_cons (pe_callTy (call_dictP rfl) rfl (B.nb _ (by decide)) rfl (pa_cons (pe_op op_cat (LiI.pe_listItems rfl (pv 3) rfl (B.nb _ (by decide)) rfl)
              (pe_lst (pa_cons (pe_tup (pa_cons (pv 9) (pa_cons (pe_op op_sub (pe_op op_sub (pe_dget (ru1 hr) (pv 3) (pv 9) (fun _ _ => rfl)) (pe_op op_sub (pv 6) (pv 5))) pe_int) pa_nil))) pa_nil))) pa_nil)) pa_nil)))) pss_nil) (fun D σ H h => by
            obtain ⟨H0, a, W, t, T, p, n, kvs, x, y, ph, tol, nl, e3, e5, e6, e7, e8, e9, op, ⟨mx, my, m1, m2⟩, hx1, hx0, hy1, hy0, nx⟩ := h
            refine ⟨_, e8, _, e9, rfl, _, rfl, ?_⟩
            rw [dec_strV]
            by_cases z : p.hd = p.tl
            · rw [decide_eq_true z]
              exact iteF (iteF (nx _ (ph.mono (Nat.le_succ n))))
            · rw [decide_eq_false z]
              refine iteT ⟨_, e9, rfl, _, rfl, ?_⟩
              rw [dec_strV]
              by_cases z2 : p.tl = ("day" : Str)
              · rw [decide_eq_true z2]
                exact iteF (nx _ (ph.mono (Nat.le_succ n)))
              · rw [decide_eq_false z2]
                obtain ⟨vs, eW, lv, _⟩ := ph.l
                have et := ph.st _ _ tol.at_
                refine iteT ⟨_, e7, .inl ⟨rfl, _, SqL.of eW⟩, _, e3, t, kvs, rfl, et, fun H16 pl ts s16 npl nts hpl0 hpl pr => ?_⟩
                have s16 : Same H H16 := s16
                have et16 := s16 _ _ et
                refine ⟨_, e9, _, e3, _, e9, t, _, rfl, (hy1 z2) ▸ DGet.k (k := .inr p.tl) et16, _, e6, _, e5, _, _, rfl, rfl, y, _, rfl, rfl, _, 1, rfl, rfl, (show (2 : Nat) ≤ sizeLine by decide), fun T17 n17 => ⟨(show (1 : Nat) ≤ sizeLine by decide), fun L18 n18 => ?_⟩⟩
                have d1 := same_upd (o := .tup [.str p.tl, .int (y - (y + p.la - (x + p.fi)) - 1)]) n17
                have d2 := same_upd (o := .lst [.ref T17]) n18
                have tsl : ts.length ≤ 7 := by rw [Paired.length pr]; exact tol.few
                refine ⟨pl, L18, ts.map V.ref, [.ref T17], rfl, rfl, d2 _ _ (d1 _ _ hpl), upd_same, (by rw [List.length_map, sizeLine_eq]; simp; omega), fun M19 n19 => ?_⟩
                have d3 := same_upd (o := .lst (ts.map V.ref ++ [.ref T17])) n19
                have dA := s16.trans (d1.trans (d2.trans d3))
                refine ⟨M19, ts ++ [T17], kvs ++ [(.inr p.tl, .int (y - (y + p.la - (x + p.fi)) - 1))], rfl, SqL.of (by rw [List.map_append]; exact upd_same), pair_more (pair_imp (fun b e h => SqT.of ((d1.trans (d2.trans d3)) _ _ h)) pr) (SqT.of ((d2.trans d3) _ _ upd_same)), fun DD nD => ?_⟩
                have ph16 := ph.same dA
                have eW16 := dA _ _ eW
                refine ⟨W, vs, .ref DD, rfl, rfl, same_upd nD _ _ eW16, Nat.lt_of_le_of_lt lv (Nat.lt_of_le_of_lt nl (by decide)), ?_⟩
                have small : Small (y - (y + p.la - (x + p.fi)) - 1) := by
                  unfold Mid at mx my m1 m2
                  show Int.natAbs _ < 10 ^ 60
                  omega
                refine nx _ (grow_put tol ph16 nD eW16 ⟨_, .int _, (nice_int small).mono (by decide) (by decide), key_nice (asc_moment op.tl.1 op.tl.2)⟩ (fun G ds sk => ?_) (fun w => z2 w.2))
                show pairD (momD ds p.hd p.fi) (momD ds p.tl p.la) = none
                rw [mom_int sk p.la z2 (by rw [valV_put, if_pos rfl])]
                by_cases z3 : p.hd = ("day" : Str)
                · have x0 := hx0 z3
                  rw [z3, mom_day, pairD_none (by omega)]
                · rw [mom_int sk p.fi z3 (by rw [valV_put, if_neg (fun w => z (Sum.inr.inj w))]; exact hx1 z3), pairD_none (by omega)]))
        (pss_cons (ps_for PassesOwn.never rfl (pi_list (pv 7)) (pg_name (i := 13) sc_spoilt.nd rfl (Or.inr rfl))
          (pss_cons (ps_set (i := 12) sc_spoilt.nd rfl (Or.inl rfl) (pe_lst (pa_cons pe_str (pa_cons (pe_callB (r := rReprA C) (cr_reprA Lk.R h0 (.inl rfl) (roomA hr (by decide))) rfl (B.nb _ (by decide)) rfl (pa_cons (pv 13) pa_nil)) (pa_cons pe_bl pa_nil)))))
          (pss_cons (ps_if (PT.imp (t' := tNoDue) (PW.pt (pw_and (pt_cmpR op_eq (pe_ix ix_tup (pe_dget (ru1 hr) (pv 1) pe_str (fun _ _ => rfl)) pe_int (fun _ _ => rfl)) pe_str (nomark _)) (pw_and (pt_cmpR op_eq (pe_ix ix_tup (pe_dget (ru1 hr) (pv 1) pe_str (fun _ _ => rfl)) pe_int (fun _ _ => rfl)) pe_str (nomark _))
              (pw_and1 (pt_val (pe_callB call_isi rfl (B.nb _ (by decide)) rfl (pa_cons (pv 13) (pa_cons (pe_bltn (u := .type "dict") (v := .ty "dict") rfl (B.nb _ (by decide)) rfl rfl) pa_nil)))))))) (fun σ H Q h => by
              obtain ⟨q0, p, v, dd, e1, e13, ⟨xa, ya, za, hh, tt, f0, f1, f2, f3, f4, f5⟩, sh, im, q⟩ := h
              refine ⟨_, e1, q0, .ref hh, rfl, DGet.k (k := .inr "head") f0, hh, _, 0, .str p.hd, rfl, rfl, SqT.of f4, rfl, rfl, _, rfl, ?_⟩
              rw [dec_strV]
              by_cases z : p.hd = ("day" : Str)
              · rw [decide_eq_true z]
                refine iteT ⟨_, e1, q0, .ref tt, rfl, DGet.k (k := .inr "tail") f0, tt, _, 0, .str p.tl, rfl, rfl, SqT.of f5, rfl, rfl, _, rfl, ?_⟩
                rw [dec_strV]
                by_cases y : p.tl = ("day" : Str)
                · rw [decide_eq_true y]
                  refine iteT ⟨v, e13, v, .ty "dict", _, _, _, rfl, .ty _, sh.ty, kit_dict dd, _, rfl, ?_⟩
                  rw [im z y]
                  exact q
                · rw [decide_eq_false y]
                  exact iteF q
              · rw [decide_eq_false z]
                exact iteF q)) pss_never pss_nil)
          (pss_cons (ps_if (pt_cmpR (r := rNeL K) (op_neL (ru64 hr)) (pe_heard Fh mh bh B Lk.HK Lk.R rfl h0 tb.tb rfl tb.mem tb.un hr (lamS_by (sc := defScope sSpoiltR) (by decide +kernel)) rfl (fun _ _ _ _ _ => rfl) (fun A' outer' s' H' E' f' c' hr2 => pe_m Lk.days D.cls hr2 (by decide) passL (pv 2) (pa_cons (pv 13) pa_nil))) (pv 12) (nomark _)) (pss_one (ps_ret pe_bl)) pss_nil)
          (pss_one (ps_if (PW.pt (pw_and (pt_cmpR (r := rNeL K) (op_neL (ru64 hr)) (pv 12) (pe_lst (pa_cons pe_str pa_nil)) (nomark _)) (pw_and1 (pt_cmpR (r := rNeL K) (op_neL (ru64 hr)) (pe_heard Fh mh bh B Lk.HK Lk.R rfl h0 tb.tb rfl tb.mem tb.un hr (lamS_by (sc := defScope sSpoiltR) (by decide +kernel)) rfl (fun _ _ _ _ _ => rfl) (fun A' outer' s' H' E' f' c' hr2 => pe_m Lk.isOn D.cls hr2 (Nat.le_refl _) passL (pv 2) (pa_cons (pv 13) (pa_cons pe_non pa_nil)))) (pv 12) (nomark _))))) (pss_one (ps_ret pe_bl)) pss_nil))))))
        (pss_one (ps_ret pe_bl)))))))
    · refine ⟨_, rfl, _, rfl, sp, q0, p, skv, x, y, rfl, core_same _ _ hsp, hp.same core_same, vx, vy, fun H1 T1 s1 hT1 => ?_⟩
      refine ⟨T1, _, rfl, SqT.of hT1, rfl, _, _, rfl, _, _, rfl, rfl, ?_⟩
      have k1 : Kp a H H1 := .of_same s1
      have w1 := wd.same s1
      -- the wrong dates
      refine ⟨Nat.zero_le _, fun U nU => ?_⟩
      have sU : Same H1 (upd H1 U (.lst [])) := same_upd nU
      have Ua := w1.p.ne nU
      have wU := w1.same sU
      have kU := k1.trans (.of_same sU)
      refine ⟨_, rfl, t, kvs, rfl, core_same _ _ (kU _ _ tol.at_), fun H2 pl ts s2 npl nts hpt hpl pr => ⟨(show (6 : Nat) ≤ sizeLine by decide), fun W nW => ?_⟩⟩
      have s2 : Same (upd H1 U (.lst [])) H2 := s2
      have pla := wU.p.ne npl
      have w2 := wU.same s2
      have k2 := kU.trans (.of_same s2)
      have Wa := w2.p.ne nW
      have sW : Same H2 (upd H2 W (.lst [.non, .int 0, .str "day", .ref U, .ref pl, .bl true])) := same_upd nW
      have k3 := k2.trans (.of_same sW)
      have w3 := w2.same sW
      have W0 : H W = none := same_none s1 (same_none sU (same_none s2 nW))
      have K3 : Same (core a H) (cr2 a W (upd H2 W (.lst [.non, .int 0, .str "day", .ref U, .ref pl, .bl true]))) := kq_of0 k3 W0
      have c3 : ∀ {b : Addr} {o : HO}, H2 b = some o → b ≠ a → (∀ ps, o ≠ .tbl ps) → cr2 a W (upd H2 W (.lst [.non, .int 0, .str "day", .ref U, .ref pl, .bl true])) b = some o := fun {b o} e n tb => cr2_of (sW _ _ e) n (ne_of_none e nW) tb
      have ph3 : PhA H a W T p.deal 6 (upd H2 W (.lst [.non, .int 0, .str "day", .ref U, .ref pl, .bl true])) := by
        refine ⟨K3, w3, Wa, _, upd_same, (show (6 : Nat) ≤ 6 by decide), fun v hv => ?_⟩
        simp only [List.mem_cons, List.not_mem_nil, or_false] at hv
        rcases hv with rfl | rfl | rfl | rfl | rfl | rfl
        · exact ⟨_, .non, bad_nd (nice_none.mono (by decide) (by decide)) rfl⟩
        · exact ⟨_, .int 0, bad_nd ((nice_int (show Small 0 from show (0 : Int).natAbs < 10 ^ 60 by decide)).mono (by decide) (by decide)) rfl⟩
        · exact ⟨_, .str "day", bad_nd ((nice_str ⟨by decide, by decide +kernel⟩).mono (by decide) (by decide)) rfl⟩
        · exact ⟨.list [], .lst (c3 (s2 _ _ upd_same) Ua (fun _ z => nomatch z)) .nil, bad_nd ((Nice.list (dp := 0) (n := 0) (k := 0) (m := 0) (fun _ z => absurd z List.not_mem_nil) (Nat.le_refl _) (Nat.le_refl _)).mono (by decide) (by decide)) rfl⟩
        · obtain ⟨dl, z1, z2, z3⟩ := items_sh (pair_imp (S := fun (t : Addr) (q : Key × V) => cr2 a W (upd H2 W (.lst [.non, .int 0, .str "day", .ref U, .ref pl, .bl true])) t = some (.tup [kV q.1, q.2])) (fun b e h => c3 h (fun z => by
            obtain ⟨u, v, ea, _⟩ := w2.p
            rw [z, ea] at h
            cases h) (fun _ z => nomatch z)) pr) (fun e he => (tol.ent e he).same K3)
          have few := tol.few
          exact ⟨.list dl, .lst (c3 hpl pla (fun _ z => nomatch z)) z1, bad_nd ((Nice.list (dp := 3) (n := 3000) (k := 7) (m := 21007) z2 (by omega) (by decide)).mono (by decide) (by decide)) rfl⟩
        · exact ⟨_, .bl true, bad_nd ((nice_bool _).mono (by decide) (by decide)) rfl⟩
      generalize hH3 : upd H2 W (.lst [.non, .int 0, .str "day", .ref U, .ref pl, .bl true]) = H3 at ph3
      clear hH3 c3 K3
      obtain ⟨xa, ya, za, hh, tt, f0, f1, f2, f3, f4, f5⟩ := hp.same ph3.st
      refine ⟨_, rfl, q0, .ref hh, rfl, DGet.k (k := .inr "head") f0, hh, _, 0, .str p.hd, rfl, rfl, SqT.of f4, rfl, ?_⟩
      refine ⟨_, rfl, q0, .ref tt, rfl, DGet.k (k := .inr "tail") f0, tt, _, 0, .str p.tl, rfl, rfl, SqT.of f5, rfl, _, _, _, rfl, ?_⟩
      -- the tags
      refine ⟨_, rfl, _, rfl, (show (2 : Nat) ≤ sizeLine by decide), fun L4 n4 => ?_⟩
      refine ⟨L4, [p.hd, p.tl], rfl, SqL.of upd_same, (show (2 : Nat) < 64 by decide), fun S5 n5 => ?_⟩
      refine ⟨S5, insAll [p.hd, p.tl], rfl, upd_same, Nat.lt_of_le_of_lt (insAll_len _) (show (2 : Nat) < 64 by decide), fun ys M6 pm so n6 => ?_⟩
      refine ⟨M6, rfl, ⟨_, SqL.of upd_same⟩, fun D7 n7 => ?_⟩
      have a6 := (same_upd (o := .lst [.str p.hd, .str p.tl]) n4).trans ((same_upd (o := TSetO w S5 (insAll [p.hd, p.tl])) n5).trans (same_upd (o := .lst (ys.map V.str)) n6))
      have ph6 := ph3.same a6
      have yl : ys.length ≤ 2 := by rw [pm.length_eq]; exact insAll_len _
      have ymem : ∀ m ∈ ys, m = p.hd ∨ m = p.tl := fun m hm => by
        have := mem_insAll.mp (pm.mem_iff.mp hm)
        simpa using this
      refine lc_fm ys (fun m => if m = ("day" : Str) then none else some (.str m)) (by have := walk_list (K := K) (a := M6) (xs := ys.map V.str); rw [List.length_map] at this; exact this) n7 (Nat.lt_of_le_of_lt yl (by decide)) (fun H' s' => SqL.of (s' _ _ upd_same)) (fun i m x H8 H9 Qn Qe hm s8 y hn hno => ?_) (fun H8 s8 e8 => ?_)
      · obtain ⟨rfl, hx⟩ := y
        rw [List.getElem?_map, hm] at hx
        cases hx
        refine ⟨rfl, _, rfl, rfl, _, rfl, ?_⟩
        rw [dec_strV]
        by_cases z : m = ("day" : Str)
        · rw [decide_eq_true z]
          exact iteF (hno _ (if_pos z) (Same.refl _))
        · rw [decide_eq_false z]
          exact iteT ⟨_, rfl, hn _ _ (if_neg z) (Same.refl _)⟩
      have ph8 := ph6.same s8
      have DW : D7 ≠ W := fun z => by
        obtain ⟨_, e, _⟩ := ph6.l
        rw [z] at n7
        exact nomatch (e.symm.trans n7)
      have asc : ∀ m, (m = p.hd ∨ m = p.tl) → Asc m := fun m hm => by
        rcases hm with rfl | rfl
        · exact asc_moment op.hd.1 op.hd.2
        · exact asc_moment op.tl.1 op.tl.2
      refine ⟨D7, rfl, ⟨_, SqL.of e8⟩, ?_⟩
      refine for_it (walk_list (xs := (ys.filterMap fun m => if m = ("day" : Str) then none else some (V.str m)))) (fun i σ H' => ∃ r10 r11 r12 r13, σ = [some (.ref a), some (.ref q0), some (.ref nd), some (.ref t), some (.ref sp), some (.int (x + p.fi)), some (.int (y + p.la)), some (.ref W), some (.str p.hd), some (.str p.tl), r10, r11, r12, r13] ∧ PhA H a W T p.deal (6 + 6 * i) H' ∧ H' D7 = some (.lst (ys.filterMap fun m => if m = ("day" : Str) then none else some (V.str m)))) ⟨none, none, none, none, rfl, ph8, e8⟩ (fun i σ H' _ z => by obtain ⟨_, _, _, _, _, _, z⟩ := z; exact SqL.of z) ?_ ?_
      · rintro i v σ H9 H10 hi ⟨r10, r11, r12, r13, rfl, ph9, eD9⟩ ⟨rfl, hv⟩
        have il : i < 2 := Nat.lt_of_lt_of_le hi (Nat.le_trans (List.length_filterMap_le _ _) yl)
        obtain ⟨m, rfl, hm, nd0⟩ : ∃ m, v = .str m ∧ (m = p.hd ∨ m = p.tl) ∧ m ≠ ("day" : Str) := by
          obtain ⟨m, hm, e⟩ := List.mem_filterMap.mp (List.mem_of_getElem? hv)
          by_cases z : m = ("day" : Str)
          · rw [if_pos z] at e; cases e
          · rw [if_neg z] at e
            exact ⟨m, (Option.some.inj e).symm, ymem m hm, z⟩
        have nb : ¬ (p.deal.hd = ("day" : Str) ∧ p.deal.tl = ("day" : Str)) := fun z => by
          rcases hm with rfl | rfl
          · exact nd0 z.1
          · exact nd0 z.2
        have et := ph9.st _ _ tol.at_
        obtain ⟨vs, eW, lv, _⟩ := ph9.l
        -- a tag lacks
        refine ⟨_, rfl, .inl ⟨rfl, _, SqL.of eW⟩, t, .dK kvs, et, trivial, fun od => ?_⟩
        refine ⟨_, rfl, t, od, rfl, .inl ⟨kvs, upd_same, fun D2 nD2 => ?_⟩⟩
        refine lc_tup kvs (fun e => if e.1 = (Sum.inr m : Key) then none else some [kV e.1, e.2]) walk_keys nD2 (Nat.lt_of_le_of_lt tol.few (by decide)) (fun H' s' => s' _ _ upd_same) (fun j e v H11 H12 Qn Qe he s11 y hn hno => ?_) (fun H11 ls s11 e11 t11 => ?_)
        · obtain ⟨rfl, k, v', hk, rfl⟩ := y
          rw [he] at hk
          cases hk
          refine ⟨rfl, _, rfl, _, rfl, (by cases k <;> rfl), _, rfl, ?_⟩
          rw [kV_ne]
          by_cases z : k = (Sum.inr m : Key)
          · rw [decide_eq_true z]
            exact iteF (hno _ (if_pos z) (Same.refl _))
          · rw [decide_eq_false z]
            refine iteT ⟨_, rfl, _, rfl, _, rfl, t, v', rfl, .inl ⟨kvs, k, .inr ⟨od, s11 _ _ upd_same⟩, rfl, (valV_get tol.nd he).symm⟩, (show (2 : Nat) ≤ sizeLine by decide), fun T' nT => ?_⟩
            exact hn _ _ _ (if_neg z) (same_upd nT) ⟨T', rfl, upd_same⟩
        · refine ⟨s11 _ _ upd_same, ?_⟩
          have s12 := same_lock et s11
          have D2t : D2 ≠ t := fun z => by rw [z, upd_same] at nD2; cases nD2
          have e12 : upd H11 t (.dK kvs) D2 = some (.lst ls) := by rw [upd_ne D2t]; exact e11
          have t12 := t11.keep (TupK.put (o := .dK kvs) (s11 _ _ (upd_same (a := t))) (fun _ z => nomatch z))
          rw [fm_drop] at t12
          obtain ⟨ps, rfl, pp⟩ := allT_pairs (K := K) t12
          refine ⟨D2, ps, dropK kvs (.inr m), rfl, SqL.of e12, pp, fun D nD => ?_⟩
          have ph12 := ph9.same s12
          have eW12 := s12 _ _ eW
          have dnd : ((dropK kvs (.inr m)).map (·.1)).Nodup := tol.nd.sublist ((List.filter_sublist).map _)
          have dl : (dropK kvs (.inr m)).length ≤ 12 := Nat.le_trans (dropK_le _ _) (by have := tol.few; omega)
          refine ⟨W, vs, .ref D, rfl, rfl, same_upd nD _ _ eW12, Nat.lt_of_le_of_lt lv (Nat.lt_of_le_of_lt (show 6 + 6 * i ≤ 20 by omega) (by decide)), ?_⟩
          rw [merge_self dnd]
          have ph13 := grow_dict (kvs := dropK kvs (.inr m)) ph12 nD eW12 (fun e he => (tol.ent e (List.mem_filter.mp he).1).same ph12.k) dl (fun G ds sk => days_no (p := p.deal) sk hm nd0 fun i => by rw [drop_none]; exact fun z => nomatch z) nb
          have eD13 : upd (upd (upd H11 t (.dK kvs)) D (.dK (dropK kvs (.inr m)))) W (.lst (vs ++ [.ref D])) D7 = some (.lst (ys.filterMap fun m => if m = ("day" : Str) then none else some (V.str m))) := by
            rw [upd_ne DW]
            exact same_upd nD _ _ (s12 _ _ eD9)
          generalize hH13 : upd (upd (upd H11 t (.dK kvs)) D (.dK (dropK kvs (.inr m)))) W (.lst (vs ++ [.ref D])) = H13 at ph13 eD13
          clear hH13 e12 t12
          -- a tag is no int
          refine ⟨(show (1 : Nat) ≤ sizeLine by decide), fun Z1 nZ1 => ⟨(show (2 : Nat) ≤ sizeLine by decide), fun Z2 nZ2 => ⟨(show (5 : Nat) ≤ sizeLine by decide), fun Z3 nZ3 => ?_⟩⟩⟩
          have b1 := same_upd (o := .lst [.int 1]) nZ1
          have b2 := same_upd (o := .tup [.int 1, .int 2]) nZ2
          have b3 := same_upd (o := .lst [.non, .bl true, .str "1", .ref Z1, .ref Z2]) nZ3
          have bA := b1.trans (b2.trans b3)
          have Z1a := ph13.w.p.ne nZ1
          have Z2a := (ph13.same b1).w.p.ne nZ2
          have neW : ∀ {Hc : Hp} {b : Addr}, PhA H a W T p.deal (6 + 6 * i + 1) Hc → Hc b = none → b ≠ W := fun {Hc b} ph n z => by
            obtain ⟨_, e, _⟩ := ph.l
            rw [z, e] at n
            cases n
          have Z1W := neW ph13 nZ1
          have Z2W := neW (ph13.same b1) nZ2
          have Z3W := neW (ph13.same (b1.trans b2)) nZ3
          have ph14 := ph13.same bA
          have eZ1 := b3 _ _ (b2 _ _ (upd_same (a := Z1)))
          have eZ2 := b3 _ _ (upd_same (a := Z2))
          have eZ3 := upd_same (a := Z3) (H := (upd (upd H13 Z1 (.lst [.int 1])) Z2 (.tup [.int 1, .int 2]))) (o := .lst [.non, .bl true, .str "1", .ref Z1, .ref Z2])
          have eD14 := bA _ _ eD13
          refine ⟨Z3, rfl, ⟨_, SqL.of upd_same⟩, ?_⟩
          generalize hG : upd (upd (upd H13 Z1 (.lst [.int 1])) Z2 (.tup [.int 1, .int 2])) Z3 (.lst [.non, .bl true, .str "1", .ref Z1, .ref Z2]) = H14 at ph14 eZ1 eZ2 eZ3 eD14
          have small1 : Small 1 := show (1 : Int).natAbs < 10 ^ 60 by decide
          have small2 : Small 2 := show (2 : Int).natAbs < 10 ^ 60 by decide
          refine for_it (walk_list (xs := [V.non, .bl true, .str "1", .ref Z1, .ref Z2])) (fun j σ H' => ∃ r11 r12 r13, σ = [some (.ref a), some (.ref q0), some (.ref nd), some (.ref t), some (.ref sp), some (.int (x + p.fi)), some (.int (y + p.la)), some (.ref W), some (.str p.hd), some (.str p.tl), some (.str m), r11, r12, r13] ∧ PhA H a W T p.deal (6 + 6 * i + 1 + j) H' ∧ H' D7 = some (.lst (ys.filterMap fun m => if m = ("day" : Str) then none else some (V.str m))) ∧ H' Z3 = some (.lst [V.non, .bl true, .str "1", .ref Z1, .ref Z2]) ∧ Kq a W H14 H')
            ⟨r11, r12, r13, rfl, ph14, eD14, eZ3, Kq.refl⟩ (fun j σ H' _ z => by obtain ⟨_, _, _, _, _, _, z, _⟩ := z; exact SqL.of z) ?_ ?_
          · rintro j v σ H15 H15' hj ⟨r11, r12, r13, rfl, ph15, eD15, eZ15, q15⟩ ⟨rfl, hv⟩
            obtain ⟨d, shv, niv, nint⟩ : ∃ d, Sh (cr2 a W H14) v d ∧ Nice 2 1000 d ∧ ∀ i, v ≠ .int i := by
              have mv := List.mem_of_getElem? hv
              simp only [List.mem_cons, List.not_mem_nil, or_false] at mv
              rcases mv with rfl | rfl | rfl | rfl | rfl
              · exact ⟨_, .non, nice_none.mono (by decide) (by decide), fun _ z => nomatch z⟩
              · exact ⟨_, .bl true, (nice_bool _).mono (by decide) (by decide), fun _ z => nomatch z⟩
              · exact ⟨_, .str "1", (nice_str ⟨by decide, by decide +kernel⟩).mono (by decide) (by decide), fun _ z => nomatch z⟩
              · refine ⟨.list [.int 1], .lst (cr2_of eZ1 Z1a Z1W (fun _ z => nomatch z)) (.cons (.int 1) .nil), (Nice.list (dp := 0) (n := 200) (k := 1) (m := 201) (fun d hd => ?_) (Nat.le_refl _) (Nat.le_refl _)).mono (by decide) (by decide), fun _ z => nomatch z⟩
                rw [List.mem_singleton.mp hd]
                exact nice_int small1
              · refine ⟨.tuple [.int 1, .int 2], .tup (cr2_of eZ2 Z2a Z2W (fun _ z => nomatch z)) (.cons (.int 1) (.cons (.int 2) .nil)), (Nice.tuple (dp := 0) (n := 200) (k := 2) (m := 402) (fun d hd => ?_) (Nat.le_refl _) (Nat.le_refl _)).mono (by decide) (by decide), fun _ z => nomatch z⟩
                simp only [List.mem_cons, List.not_mem_nil, or_false] at hd
                rcases hd with rfl | rfl
                · exact nice_int small1
                · exact nice_int small2
            have jl : j < 5 := hj
            obtain ⟨vs, eW, lv, _⟩ := ph15.l
            have et := ph15.st _ _ tol.at_
            refine ⟨_, rfl, .inl ⟨rfl, _, SqL.of eW⟩, _, rfl, t, kvs, rfl, et, fun H16 pl ts s16 npl nts hpl0 hpl pr => ?_⟩
            have s16 : Same H15' H16 := s16
            refine ⟨_, rfl, _, rfl, (show (2 : Nat) ≤ sizeLine by decide), fun T17 n17 => ⟨(show (1 : Nat) ≤ sizeLine by decide), fun L18 n18 => ?_⟩⟩
            have d1 := same_upd (o := .tup [.str m, v]) n17
            have d2 := same_upd (o := .lst [.ref T17]) n18
            have tsl : ts.length ≤ 7 := by rw [Paired.length pr]; exact tol.few
            refine ⟨pl, L18, ts.map V.ref, [.ref T17], rfl, rfl, d2 _ _ (d1 _ _ hpl), upd_same, (by rw [List.length_map, sizeLine_eq]; simp; omega), fun M19 n19 => ?_⟩
            have d3 := same_upd (o := .lst (ts.map V.ref ++ [.ref T17])) n19
            have dA := s16.trans (d1.trans (d2.trans d3))
            refine ⟨M19, ts ++ [T17], kvs ++ [(.inr m, v)], rfl, SqL.of (by rw [List.map_append]; exact upd_same), pair_more (pair_imp (fun b e h => SqT.of ((d1.trans (d2.trans d3)) _ _ h)) pr) (SqT.of ((d2.trans d3) _ _ upd_same)), fun D nD => ?_⟩
            have ph16 := ph15.same dA
            have eW16 := dA _ _ eW
            refine ⟨W, vs, .ref D, rfl, rfl, same_upd nD _ _ eW16, Nat.lt_of_le_of_lt lv (Nat.lt_of_le_of_lt (show 6 + 6 * i + 1 + j ≤ 30 by omega) (by decide)), ?_⟩
            refine ⟨_, _, _, rfl, grow_put tol ph16 nD eW16 ⟨d, (shv.same q15).same (Kq.of_same dA), niv, key_nice (asc m hm)⟩ (fun G ds sk => days_no (p := p.deal) sk hm nd0 fun i => by rw [valV_put, if_pos rfl]; exact fun z => nint i (Option.some.inj z)) nb, ?_, ?_, ?_⟩
            · rw [upd_ne DW]
              exact same_upd nD _ _ (dA _ _ eD15)
            · rw [upd_ne Z3W]
              exact same_upd nD _ _ (dA _ _ eZ15)
            · exact q15.trans ((Kq.of_same (dA.trans (same_upd nD))).trans Kq.put)
          · rintro σ H15 ⟨r11, r12, r13, rfl, ph15, eD15, eZ15, q15⟩
            exact ⟨_, r11, r12, r13, rfl, ph15.mono (by show 6 + 6 * i + 1 + 5 ≤ 6 + 6 * (i + 1); omega), eD15⟩
      · rintro σ H9 ⟨r10, r11, r12, r13, rfl, ph9, eD9⟩
        have ph9 := ph9.mono (show _ ≤ 18 from by have := Nat.le_trans (List.length_filterMap_le (fun m => if m = ("day" : Str) then none else some (V.str m)) ys) yl; omega)
        clear eD9
        refine ⟨H, a, W, t, T, p, 18, kvs, x, y, ph9, tol, by decide, rfl, rfl, rfl, rfl, rfl, rfl, op, ⟨mx, my, m1, m2⟩, hx1, hx0, hy1, hy0, fun H10 ph10 => ?_⟩
        refine ⟨H, a, W, t, T, p, 19, kvs, x, y, ph10, tol, by decide, rfl, rfl, rfl, rfl, rfl, rfl, op, ⟨mx, my, m1, m2⟩, hx1, hx0, hy1, hy0, fun H11 ph11 => ?_⟩
        obtain ⟨vs, eW, lv, bad⟩ := ph11.l
        have kS : Kp a H H11 := ph11.k.trans cr2_core
        -- all are heard
        refine ⟨_, rfl, W, rfl, ⟨_, SqL.of eW⟩, ?_⟩
        refine for_it (walk_list (xs := vs)) (fun i σ H' => ∃ r12 r13, σ = [some (.ref a), some (.ref q0), some (.ref nd), some (.ref t), some (.ref sp), some (.int (x + p.fi)), some (.int (y + p.la)), some (.ref W), some (.str p.hd), some (.str p.tl), r10, r11, r12, r13] ∧ Kp a H11 H' ∧ Wd a T H' ∧ H' W = some (.lst vs)) ⟨r12, r13, rfl, Kp.refl, ph11.w, eW⟩ (fun i σ H' _ z => by obtain ⟨_, _, _, _, _, z⟩ := z; exact SqL.of z) ?_ ?_
        · rintro i v σ H12 H12' hi ⟨r12, r13, rfl, k12, w12, eW12⟩ ⟨rfl, hv⟩
          obtain ⟨dd, shd, bd⟩ := bad v (List.mem_of_getElem? hv)
          have sh : ∀ {Hc : Hp}, Kp a H11 Hc → Sh Hc v dd := fun {Hc} k => ((shd.same cr2_core).same k).same core_same
          refine ⟨_, rfl, v, dd.shown, rfl, .inl ⟨dd, sh k12, bd.ni, rfl⟩, fun H13 s13 => ⟨(show (3 : Nat) ≤ sizeLine by decide), fun L14 n14 => ?_⟩⟩
          have s14 := s13.trans (same_upd (o := .lst [.str "dates", .str dd.shown, .bl true]) n14)
          have k14 := k12.trans (.of_same s14)
          have w14 := w12.same s14
          have eW14 := s14 _ _ eW12
          refine ⟨q0, p, v, dd, rfl, rfl, (hp.same (kS.trans k14)).same core_same, sh k14, fun z1 z2 => ?_, iteF ?_⟩
          · cases hdd : isDict dd with
            | false => rfl
            | true => exact absurd ⟨z1, z2⟩ (bd.di hdd)
          refine ⟨w14.t, fun H15 x15 T15 => ?_⟩
          have k15 := k14.trans (.of_ext x15)
          have w15 : Wd a T H15 := ⟨w14.p.ext x15, T15⟩
          have d15 := (hd.same (kS.trans k15)).same core_same
          obtain ⟨dx, fs, g15, f15⟩ := d15.obj
          refine ⟨_, rfl, nd, dx, fs, rfl, g15, f15 _ (by decide), _, rfl, nd, p.deal, v, dd, rfl, d15, sh k15, (fun f l e => by rw [bd.no] at e; cases e), fun _ H16 e16 s16 h16 => ?_⟩
          refine ⟨e16, v, dd.shown, CD, "dates", rfl, by simp [kindsOf], rfl, h16, .inl ⟨dd, sh (k15.trans (.of_same s16)), bd.ni, rfl⟩, fun H17 p17 s17 h17 => ?_⟩
          have s167 := s16.trans s17
          have eL15 : H15 L14 = some (.lst [.str "dates", .str dd.shown, .bl true]) := x15 _ _ upd_same (fun _ z => nomatch z)
          have k17 := k15.trans (.of_same s167)
          have w17 := w15.same s167
          refine ⟨_, rfl, p17, L14, _, _, rfl, rfl, SqL.of h17, SqL.of (s167 _ _ eL15), .inr ⟨rfl, rfl, _, rfl, iteF ?_⟩⟩
          refine ⟨_, rfl, (show (1 : Nat) ≤ sizeLine by decide), fun L18 n18 => ?_⟩
          have s18 := same_upd (o := .lst [.str "told"]) n18
          refine ⟨L14, L18, _, _, rfl, rfl, SqL.of (s18 _ _ (s167 _ _ eL15)), SqL.of upd_same, .inl ⟨(show (3 : Nat) ≠ 1 by decide), _, rfl, iteT ?_⟩⟩
          have k18 := k17.trans (.of_same s18)
          have w18 := w17.same s18
          refine ⟨w18.t, fun H19 x19 T19 => ?_⟩
          have k19 := k18.trans (.of_ext x19)
          have w19 : Wd a T H19 := ⟨w18.p.ext x19, T19⟩
          have d19 := (hd.same (kS.trans k19)).same core_same
          obtain ⟨dx, fs, g19, f19⟩ := d19.obj
          refine ⟨_, rfl, nd, dx, fs, rfl, g19, f19 _ (by decide), _, rfl, nd, p.deal, v, dd, .non, .none, rfl, d19, sh k19, .non, fun _ H20 e20 s20 h20 => ?_, fun f l e => by rw [bd.no] at e; cases e⟩
          refine ⟨e20, v, dd.shown, CD, "dates", rfl, by simp [kindsOf], rfl, h20, .inl ⟨dd, sh (k19.trans (.of_same s20)), bd.ni, rfl⟩, fun H21 p21 s21 h21 => ?_⟩
          have s201 := s20.trans s21
          have eL19 : H19 L14 = some (.lst [.str "dates", .str dd.shown, .bl true]) := x19 _ _ (s18 _ _ (s167 _ _ eL15)) (fun _ z => nomatch z)
          refine ⟨_, rfl, p21, L14, _, _, rfl, rfl, SqL.of h21, SqL.of (s201 _ _ eL19), .inr ⟨rfl, rfl, _, rfl, iteF ?_⟩⟩
          have eWz : H21 W = some (.lst vs) := s201 _ _ (x19 _ _ (s18 _ _ (s167 _ _ (x15 _ _ eW14 (fun _ z => nomatch z)))) (fun _ z => nomatch z))
          exact ⟨_, _, rfl, k19.trans (.of_same s201), w19.same s201, eWz⟩
        · rintro σ H12 ⟨r12, r13, rfl, k12, w12, eW12⟩
          exact q H12 (kS.trans k12) w12
end
end Ld
namespace Ld
open PySem PySem.Spec PyProof.Rows L2 LamX
/-! ### from the heap to its core -/
theorem core_up {a b : Addr} {H : Hp} {o : HO} (p : PotAt H a) (e : H b = some o) (n : ∀ x y : Int, o ≠ .lst [.int x, .int y]) (t : ∀ ps, o ≠ .tbl ps) : core a H b = some o := by
  refine core_of e (fun z => ?_) t
  obtain ⟨x, y, ea, _⟩ := p
  rw [z, ea] at e
  exact n _ _ (Option.some.inj e).symm
theorem strs_ne {l : List Str} (x y : Int) : HO.lst (l.map V.str) ≠ .lst [.int x, .int y] := fun z => by
  have z := HO.lst.inj z
  cases l with
  | nil => cases z
  | cons t r => cases z
theorem PactAt.core {H : Hp} {a q : Addr} {p : Pact} (h : PactAt H q p) (pa : PotAt H a) : PactAt (core a H) q p := by
  obtain ⟨x, y, z, h, t, e0, e1, e2, e3, e4, e5⟩ := h
  exact ⟨x, y, z, h, t, core_up pa e0 (fun _ _ z => nomatch z) (fun _ z => nomatch z), core_up pa e1 strs_ne (fun _ z => nomatch z), core_up pa e2 strs_ne (fun _ z => nomatch z), core_up pa e3 strs_ne (fun _ z => nomatch z), core_up pa e4 (fun _ _ z => nomatch z) (fun _ z => nomatch z), core_up pa e5 (fun _ _ z => nomatch z) (fun _ z => nomatch z)⟩
theorem DealAt.core {C : Addr} {H : Hp} {a x : Addr} {p : Pact} (h : DealAt C H x p) (pa : PotAt H a) : DealAt C (core a H) x p := by
  obtain ⟨dx, fa, la, wa, b, e, e0, e1, e2, e3, e4, e5⟩ := h
  exact ⟨dx, fa, la, wa, b, e, core_up pa e0 (fun _ _ z => nomatch z) (fun _ z => nomatch z), core_up pa e1 (fun _ _ z => nomatch z) (fun _ z => nomatch z), core_up pa e2 (fun _ _ z => nomatch z) (fun _ z => nomatch z), core_up pa e3 (fun _ _ z => nomatch z) (fun _ z => nomatch z), core_up pa e4 (fun _ _ z => nomatch z) (fun _ z => nomatch z), core_up pa e5 (fun _ _ z => nomatch z) (fun _ z => nomatch z)⟩
/-- all but the pot, dicts and tables stay -/
def NK (a : Addr) (H H' : Hp) : Prop := ∀ b o, H b = some o → b ≠ a → (∀ kvs, o ≠ .dK kvs) → (∀ ps, o ≠ .tbl ps) → H' b = some o
theorem NK.trans {a : Addr} {H H1 H2 : Hp} (x : NK a H H1) (y : NK a H1 H2) : NK a H H2 := fun b o e n d t => y b o (x b o e n d t) n d t
theorem NK.of_off {a : Addr} {H H' : Hp} (o : Off a H H') : NK a H H' := fun b u e n _ _ => o b u e n
theorem NK.of_same {a : Addr} {H H' : Hp} (s : Same H H') : NK a H H' := .of_off (.of s)
theorem NK.of_kp {a : Addr} {H H' : Hp} (k : Kp a H H') : NK a H H' := fun b u e n _ t => (core_to (k _ _ (core_of e n t))).1
theorem NK.putD {a L : Addr} {H : Hp} {kvs kvs' : List (Key × V)} (e : H L = some (.dK kvs)) : NK a H (upd H L (.dK kvs')) := fun b u eb n d t => by
  rw [upd_ne]
  · exact eb
  · rintro rfl
    rw [e] at eb
    exact d _ (Option.some.inj eb).symm
theorem Wd.putD {a L : Addr} {T : List (Addr × Str)} {H : Hp} {xs ys : List (Key × V)} (d : Wd a T H) (e : H L = some (.dK xs)) : Wd a T (upd H L (.dK ys)) := by
  obtain ⟨⟨u, v, ea, r⟩, t⟩ := d
  have k : ∀ {b : Addr} {o : HO}, H b = some o → (∀ zs, o ≠ .dK zs) → upd H L (.dK ys) b = some o := fun {b o} eb n => by
    rw [upd_ne]
    · exact eb
    · rintro rfl
      rw [e] at eb
      exact n _ (Option.some.inj eb).symm
  refine ⟨⟨u, v, k ea (fun _ z => nomatch z), r⟩, fun q hq => ?_⟩
  obtain ⟨ps, h1, h2, h3⟩ := t q hq
  refine ⟨ps, k h1 (fun _ z => nomatch z), h2, fun pos cv hc => ?_⟩
  obtain ⟨c, e1, e2⟩ := h3 pos cv hc
  exact ⟨c, e1, k e2 fun _ z => by unfold CodeO at z; cases z⟩
theorem set_self {σ : L2.St} {i : Nat} {v : Option V} (h : σ[i]? = some v) : σ.set i v = σ := by
  apply List.ext_getElem?
  intro j
  rw [List.getElem?_set]
  by_cases e : i = j
  · subst e
    rw [if_pos rfl]
    obtain ⟨lt, hh⟩ := List.getElem?_eq_some_iff.mp h
    rw [if_pos lt, h]
  · rw [if_neg e]
/-- the dates that are told: every tag's spot, and perhaps more -/
structure Dates (H : Hp) (t : Addr) (tags : List Str) (f : Str → Int) : Prop where
  ex : ∃ kvs, H t = some (.dK kvs) ∧ (kvs.map (·.1)).Nodup ∧ kvs.length ≤ 7 ∧ (∀ m ∈ tags, valV kvs (.inr m) = some (.int (f m))) ∧ ∀ e ∈ kvs, Nice 0 200 (kD e.1) ∧ ((∃ d, Sh (fun _ => none) e.2 d ∧ Nice 2 1000 d) ∨ ∃ L, e.2 = .ref L ∧ H L = some (.lst []))
theorem Dates.told2 {H : Hp} {a t : Addr} {tags : List Str} {f : Str → Int} (h : Dates H t tags f) (p : PotAt H a) : ∃ kvs, Told2 (core a H) t kvs ∧ ∀ m ∈ tags, valV kvs (.inr m) = some (.int (f m)) := by
  obtain ⟨kvs, e, nd, few, lk, en⟩ := h.ex
  refine ⟨kvs, ⟨core_up p e (fun _ _ z => nomatch z) (fun _ z => nomatch z), nd, few, fun x hx => ?_⟩, lk⟩
  obtain ⟨kn, hv⟩ := en x hx
  rcases hv with ⟨d, s, n⟩ | ⟨L, e2, eL⟩
  · exact ⟨d, s.same (fun _ _ z => by cases z), n, kn⟩
  · rw [Ent, e2]
    exact ⟨.list [], .lst (core_up p eL (fun _ _ z => nomatch z) (fun _ z => nomatch z)) .nil, (Nice.list (dp := 0) (n := 0) (k := 0) (m := 0) (fun _ z => absurd z List.not_mem_nil) (Nat.le_refl _) (Nat.le_refl _)).mono (by decide) (by decide), kn⟩
end Ld
namespace Ld
open PySem PySem.Spec PyProof.Rows L2 LamX
/-- the law's own defs that _law_right calls -/
structure RK (P : Program) (w : World) (K : PySem.W.Frag) (mg : Str → Option Value) (base : Heap) (C : Addr) (T : List (Addr × Str)) : Prop where
  B : Cs mg
  draw : GOk P w K mg base CX0 1 "_law_draw" spDraw
  pick : GOk P w K mg base CX0 2 "_law_pick" spPick
  chart : GOk P w K mg base CX0 3 "_law_chart" spChart
  pact : GOk P w K mg base CX0 3 "_law_pact" spPact
  deal : GOk P w K mg base CX0 7 "_law_deal" (spDeal C)
  days : GOkG P w K mg base CX0 7 "_law_days_right" (spDaysR T C)
  spoilt : GOkG P w K mg base CX0 7 "_law_spoilt_right" (spSpoilt T C)
  pair : GOkG P w K mg base CX0 7 "_law_pair_right" (spPairR T C)
theorem Fun.okG0 {P : Program} {w : World} {K : PySem.W.Frag} {mg : Str → Option Value} {base : Heap} {k : Nat} {f : Addr} {fd : FuncData} {ps : List Str} {sp : Sp} {x qual : Str} {st : Stmt} {N : List Str} (F : Fun K x qual st f fd) (S : FnScope N ps (defScope st)) (len : ∀ vs H Q E, sp vs H Q E → vs.length = ps.length)
    (hbody : ∀ (cdv : Value) (A : Around) (outer : List Env) (s : Shared) (H : Hp) (vs : List V) (Q : VK) (E : XK), A.guards = some [] → Room k (A.deeper (envOfC qual (defScope st) s.heap.objs.size f cdv)) → sp vs H Q E →
      ∃ t, PSs (cxOf CX0 P w K mg base N qual (defScope st) f cdv A outer s H E).nox (defBody st) t ∧ t { nx := fun _ H' => Q .non H', rt := Q } (start N vs) H) : FnG P w K mg base CX0 (k + 1) f fd ps sp :=
  Fun.okG F S len fun cdv A outer s H vs Q E h0 hr h => by
    obtain ⟨t, a, b⟩ := hbody cdv A outer s H vs Q E h0 hr h
    exact ⟨t, a.nox, b⟩
def spRight (T : List (Addr × Str)) : Sp := fun vs H Q _ => ∃ a : Addr, vs = [.ref a] ∧ Wd a T H ∧ ∀ H', NK a H H' → Tabs T H' → Q (.bl true) H'
theorem off_at {a b : Addr} {H H' : Hp} {o : HO} (o' : Off a H H') (p : PotAt H a) (e : H b = some o) (n : ∀ x y : Int, o ≠ .lst [.int x, .int y]) : H' b = some o := o' _ _ e fun z => by
  obtain ⟨x, y, ea, _⟩ := p
  rw [z, ea] at e
  exact n _ _ (Option.some.inj e).symm
def EntD (H : Hp) (e : Key × V) : Prop := Nice 0 200 (kD e.1) ∧ ((∃ d, Sh (fun _ => none) e.2 d ∧ Nice 2 1000 d) ∨ ∃ L, e.2 = .ref L ∧ H L = some (.lst []))
theorem EntD.off {a : Addr} {H H' : Hp} {e : Key × V} (h : EntD H e) (o : Off a H H') (p : PotAt H a) : EntD H' e := by
  obtain ⟨k, d | ⟨L, e1, e2⟩⟩ := h
  · exact ⟨k, .inl d⟩
  · exact ⟨k, .inr ⟨L, e1, off_at o p e2 fun _ _ z => nomatch z⟩⟩
theorem Dates.off {a t : Addr} {H H' : Hp} {tags : List Str} {f : Str → Int} (h : Dates H t tags f) (o : Off a H H') (p : PotAt H a) : Dates H' t tags f := by
  obtain ⟨kvs, e, nd, few, lk, en⟩ := h.ex
  exact ⟨kvs, off_at o p e (fun _ _ z => nomatch z), nd, few, lk, fun x hx => EntD.off (en x hx) o p⟩
theorem pair_app {α β : Type} {R : α → β → Prop} : ∀ {xs : List α} {ys : List β} {us : List α} {vs : List β}, Paired R xs ys → Paired R us vs → Paired R (xs ++ us) (ys ++ vs)
  | _, _, _, _, .nil, h => h
  | _, _, _, _, .cons a b, h => .cons a (pair_app b h)
theorem tag_q : ∀ m ∈ tagPool, m ≠ ("qqqqqq" : Str) := by decide +kernel
/-- more dates, or as they were -/
def sTold (a : Addr) : TS := fun D σ H => ∃ (t : Addr) (tags : List Str) (f : Str → Int), σ[0]? = some (some (.ref a)) ∧ σ[8]? = some (some (.ref t)) ∧ PotAt H a ∧ Dates H t tags f ∧ TagsOk tags ∧ (∀ kvs, H t = some (.dK kvs) → kvs.length ≤ 3) ∧
  ∀ H' t', Off a H H' → PotAt H' a → Dates H' t' tags f → D.nx (σ.set 8 (some (.ref t'))) H'
theorem putK_len {kvs : List (Key × V)} {k : Key} {v w : V} (h : valV kvs k = some v) : (putK kvs k w).length = kvs.length := by
  unfold putK
  rw [if_pos (by rw [valV_any, h]; rfl), List.length_map]
theorem ChartAt.same {H H' : Hp} {c : Addr} {tags : List Str} {f : Str → Int} (h : ChartAt H c tags f) (s : Same H H') : ChartAt H' c tags f := by
  obtain ⟨g, sp, r, kvs, h1, h2, h3, h4⟩ := h
  exact ⟨g, sp, r, kvs, s _ _ h1, s _ _ h2, s _ _ h3, h4⟩
theorem day_sum {ds : List (PyData × PyData)} {H : Hp} {kvs : List (Key × V)} (s : ShKv H kvs ds) {tags : List Str} {f : Str → Int} (lk : ∀ m ∈ tags, valV kvs (.inr m) = some (.int (f m))) (f0 : f ("day" : Str) = 0) (tok : TagsOk tags) {m : Str} (n : Int) (hm : m = ("day" : Str) ∨ m ∈ tags) : momD ds m n = some (f m + n) := by
  rcases hm with rfl | hm
  · rw [mom_day, f0]
    simp
  · exact mom_int s n (name_ne (tok.name hm)) (lk m hm)
section
variable {P : Program} {w : World} {K : PySem.W.Frag} {mg : Str → Option Value} {base : Heap} {f : Addr} {fd : FuncData} {C : Addr} {T : List (Addr × Str)}
theorem sc_right : FnScope ["_law_pot_here", "_law_far", "_law_chart_here", "_law_tag", "_law_pact_here", "_law_mate", "_law_near", "_law_there", "_law_told", "_law_some_here", "_law_thing"] ["_law_pot_here"] (defScope sRight) := ⟨rfl, rfl, rfl, by decide +kernel, rfl, by decide +kernel, by decide +kernel⟩
theorem ok_right (Rk : RK P w K mg base C T) (F : Fun K "_law_right" "_law_right" sRight f fd) : FnG P w K mg base CX0 8 f fd ["_law_pot_here"] (spRight T) := by
  refine Fun.okG0 F sc_right (fun vs H Q E h => ?_) fun cdv A outer s H vs Q E h0 hr h => ?_
  · obtain ⟨a, rfl, _⟩ := h
    rfl
  · obtain ⟨a, rfl, wd, q⟩ := h
    have B := Rk.B
    apply Exists.intro
    apply And.intro
    · exact pss_cons (ps_set (i := 1) sc_right.nd rfl (Or.inl rfl) (pe_g Rk.pick hr (by decide) rfl pass0 (pa_cons (pv 0) (pa_cons (pe_lst (pa_cons pe_int (pa_cons pe_int (pa_cons (pe_op op_pow pe_int pe_int) pa_nil)))) pa_nil))))
        (pss_cons (ps_set (i := 2) sc_right.nd rfl (Or.inr rfl) (pe_g Rk.chart hr (by decide) rfl pass0 (pa_cons (pv 0) (pa_cons (pe_op op_add pe_int (pe_g Rk.draw hr (by decide) rfl pass0 (pa_cons (pv 0) (pa_cons pe_int pa_nil)))) (pa_cons pe_int (pa_cons pe_int pa_nil))))))
        (pss_cons (ps_for PassesOwn.never rfl (pi_list (pe_dget (ru1 hr) (pv 2) pe_str (fun _ _ => rfl))) (pg_name (i := 3) sc_right.nd rfl (Or.inl rfl)) (pss_one (ps_dput (ru1 hr) (pe_dget (ru1 hr) (pv 2) pe_str (fun _ _ => rfl)) (pv 3) (pe_op op_mul (pe_op op_sub (pe_dget (ru1 hr) (pe_dget (ru1 hr) (pv 2) pe_str (fun _ _ => rfl)) (pv 3) (fun _ _ => rfl)) pe_int) (pv 1)) rfl)))
        (pss_cons (ps_par (i := 4) (j := 5) rfl sc_right.nd rfl rfl (by decide) rfl rfl (pa_cons (pe_g Rk.pact hr (by decide) rfl pass0 (pa_cons (pv 0) (pa_cons (pv 2) (pa_cons pe_str (pa_cons pe_int pa_nil)))))
            (pa_cons (pe_g Rk.pact hr (by decide) rfl pass0 (pa_cons (pv 0) (pa_cons (pv 2) (pa_cons (pe_g Rk.pick hr (by decide) rfl pass0 (pa_cons (pv 0) (pa_cons (pe_lst (pa_cons pe_str (pa_cons pe_str pa_nil))) pa_nil))) (pa_cons pe_int pa_nil))))) pa_nil)) rfl)
        (pss_cons (ps_par (i := 6) (j := 7) rfl sc_right.nd rfl rfl (by decide) rfl rfl (pa_cons (pe_g Rk.deal hr (by decide) rfl pass0 (pa_cons (pv 4) pa_nil)) (pa_cons (pe_g Rk.deal hr (by decide) rfl pass0 (pa_cons (pv 5) pa_nil)) pa_nil)) rfl)
        (pss_cons (ps_set (i := 8) sc_right.nd rfl (Or.inl rfl) (pe_callTy (call_dictP rfl) rfl (B.nb _ (by decide)) rfl (pa_cons (pe_lc (own := [("_law_tag", 3)]) rfl sc_right.nd (pi_list (pe_dget (ru1 hr) (pv 2) pe_str (fun _ _ => rfl))) (blkOk_by (N := ["_law_pot_here", "_law_far", "_law_chart_here", "_law_tag", "_law_pact_here", "_law_mate", "_law_near", "_law_there", "_law_told", "_law_some_here", "_law_thing"]) (sc := defScope sRight) (by decide +kernel))
            (fun _ _ _ _ _ => pg_name (i := 3) sc_right.nd rfl (Or.inl rfl)) (fun _ _ _ _ _ => pts_nil) (fun _ _ _ _ _ => pe_tup (pa_cons (pv 3) (pa_cons (pe_dget (ru1 hr) (pe_dget (ru1 hr) (pv 2) pe_str (fun _ _ => rfl)) (pv 3) (fun _ _ => rfl)) pa_nil)))) pa_nil)))
        (pss_cons (PS.imp (t' := sTold a) (ps_if (pt_cmpR op_eq (pe_g Rk.draw hr (by decide) rfl pass0 (pa_cons (pv 0) (pa_cons pe_int pa_nil))) pe_int (nomark _)) (pss_one (ps_set (i := 8) sc_right.nd rfl (Or.inl rfl) (pe_callTy (call_dictP rfl) rfl (B.nb _ (by decide)) rfl (pa_cons (pe_op op_cat (LiI.pe_listItems rfl (pv 8) rfl (B.nb _ (by decide)) rfl)
            (pe_lst (pa_cons (pe_tup (pa_cons pe_str (pa_cons (pe_g Rk.pick hr (by decide) rfl pass0 (pa_cons (pv 0) (pa_cons (pe_lst (pa_cons pe_non (pa_cons pe_bl (pa_cons pe_int (pa_cons pe_str pa_nil))))) pa_nil))) pa_nil))) (pa_cons (pe_tup (pa_cons pe_int (pa_cons (pe_lst pa_nil) pa_nil))) (pa_cons (pe_tup (pa_cons pe_str (pa_cons pe_int pa_nil))) pa_nil))))) pa_nil)))) pss_nil) (fun D σ H h => by
              obtain ⟨t, tags, f, e0, e8, pa, dts, tok, few, nx⟩ := h
              refine ⟨_, e0, a, 2, rfl, pa, by decide, by decide, fun H1 r o1 p1 r0 r1 => ?_⟩
              have dts1 := dts.off o1 pa
              refine ⟨rfl, _, rfl, ?_⟩
              cases hr0 : decide (V.int r = V.int 0) with
              | false =>
                have := nx H1 t o1 p1 dts1
                rw [set_self e8] at this
                exact iteF this
              | true =>
                obtain ⟨kvs, et, nd, few7, lk, en⟩ := dts1.ex
                have kl : kvs.length ≤ 3 := by
                  obtain ⟨kvs0, et0, _⟩ := dts.ex
                  have := off_at o1 pa et0 (fun _ _ z => nomatch z)
                  rw [et] at this
                  cases this
                  exact few _ et0
                refine iteT ⟨_, e8, t, kvs, rfl, et, fun H2 pl ts s2 npl nts hpl0 hpl pr => ?_⟩
                have s2 : Same H1 H2 := s2
                have p2 := p1.same s2
                have pla := p1.ne npl
                refine ⟨_, e0, (show (4 : Nat) ≤ sizeLine by decide), fun L3 n3 => ?_⟩
                have b3 := same_upd (o := .lst [.non, .bl true, .int 3, .str "x"]) n3
                refine ⟨a, L3, _, rfl, p2.same b3, p2.ne n3, upd_same, (fun z => nomatch z), (show (4 : Nat) < 1000 by decide), fun H4 i v o4 p4 hv => ⟨(show (2 : Nat) ≤ sizeLine by decide), fun T5 n5 => ?_⟩⟩
                have b5 := same_upd (o := .tup [.str "qqqqqq", v]) n5
                refine ⟨Nat.zero_le _, fun E6 n6 => ⟨(show (2 : Nat) ≤ sizeLine by decide), fun T7 n7 => ?_⟩⟩
                have b6 := same_upd (o := .lst []) n6
                have b7 := same_upd (o := .tup [.int 7, .ref E6]) n7
                refine ⟨(show (2 : Nat) ≤ sizeLine by decide), fun T8 n8 => ⟨(show (3 : Nat) ≤ sizeLine by decide), fun L9 n9 => ?_⟩⟩
                have b8 := same_upd (o := .tup [.str "day", .int 5]) n8
                have b9 := same_upd (o := .lst [.ref T5, .ref T7, .ref T8]) n9
                have tsl : ts.length ≤ 3 := by rw [Paired.length pr]; exact kl
                have o24 : Off a H2 H4 := (Off.of b3).trans o4
                have b59 := b5.trans (b6.trans (b7.trans (b8.trans b9)))
                refine ⟨pl, L9, ts.map V.ref, [.ref T5, .ref T7, .ref T8], rfl, rfl, b59 _ _ (o24 _ _ hpl pla), upd_same, (by rw [List.length_map, sizeLine_eq]; simp; omega), fun M nM => ?_⟩
                have bM := same_upd (o := .lst (ts.map V.ref ++ [.ref T5, .ref T7, .ref T8])) nM
                refine ⟨M, ts ++ [T5, T7, T8], kvs ++ [(.inr "qqqqqq", v), (.inl 7, .ref E6), (.inr "day", .int 5)], rfl, SqL.of (by rw [List.map_append]; exact upd_same),
                  pair_app (pair_imp (fun b e h => SqT.of (bM _ _ (b59 _ _ (off_at o24 p2 h fun _ _ z => nomatch z)))) pr) (.cons (SqT.of (bM _ _ ((b6.trans (b7.trans (b8.trans b9))) _ _ upd_same))) (.cons (SqT.of (bM _ _ ((b8.trans b9) _ _ upd_same))) (.cons (SqT.of (bM _ _ (b9 _ _ upd_same))) .nil))), fun DD nD => ?_⟩
                have bD := same_upd (o := .dK (mergeK [] (kvs ++ [(.inr "qqqqqq", v), (.inl 7, .ref E6), (.inr "day", .int 5)]))) nD
                have o12 : Off a H1 H4 := (Off.of s2).trans o24
                have bZ := b59.trans (bM.trans bD)
                refine nx _ DD (o1.trans (o12.trans (.of bZ))) (p4.same bZ) ⟨_, upd_same, merge_nodup _ [] List.nodup_nil, ?_, fun m hm => ?_, fun e he => ?_⟩
                · have := length_mergeK (kvs ++ [((Sum.inr "qqqqqq" : Key), v), (.inl 7, .ref E6), (.inr "day", .int 5)]) []
                  simp at this
                  omega
                · have e : mergeK [] (kvs ++ [((Sum.inr "qqqqqq" : Key), v), (.inl 7, .ref E6), (.inr "day", .int 5)]) = putK (putK (putK (mergeK [] kvs) (.inr "qqqqqq") v) (.inl 7) (.ref E6)) (.inr "day") (.int 5) := by
                    unfold mergeK
                    rw [List.foldl_append]
                    rfl
                  rw [e, merge_self nd, valV_put, if_neg (fun z => name_ne (tok.name hm) (Sum.inr.inj z)), valV_put, if_neg (fun z => nomatch z), valV_put, if_neg (fun z => tag_q m (tok.in_ m hm) (Sum.inr.inj z))]
                  exact lk m hm
                · show EntD _ e
                  rcases merge_mem _ _ _ he with h | h
                  · exact absurd h List.not_mem_nil
                  rcases List.mem_append.mp h with h | h
                  · exact EntD.off (EntD.off (a := a) (en e h) o12 p1) (Off.of bZ) p4
                  · simp only [List.mem_cons, List.not_mem_nil, or_false] at h
                    rcases h with rfl | rfl | rfl
                    · refine ⟨key_nice ⟨by decide, by decide +kernel⟩, .inl ?_⟩
                      have mv := List.mem_of_getElem? hv
                      simp only [List.mem_cons, List.not_mem_nil, or_false] at mv
                      rcases mv with rfl | rfl | rfl | rfl
                      · exact ⟨_, .non, nice_none.mono (by decide) (by decide)⟩
                      · exact ⟨_, .bl true, (nice_bool _).mono (by decide) (by decide)⟩
                      · exact ⟨_, .int 3, (nice_int (show Small 3 from show (3 : Int).natAbs < 10 ^ 60 by decide)).mono (by decide) (by decide)⟩
                      · exact ⟨_, .str "x", (nice_str ⟨by decide, by decide +kernel⟩).mono (by decide) (by decide)⟩
                    · exact ⟨nice_int (show Small 7 from show (7 : Int).natAbs < 10 ^ 60 by decide), .inr ⟨E6, rfl, bD _ _ (bM _ _ ((b7.trans (b8.trans b9)) _ _ upd_same))⟩⟩
                    · exact ⟨key_nice ⟨by decide, by decide +kernel⟩, .inl ⟨_, .int 5, (nice_int (show Small 5 from show (5 : Int).natAbs < 10 ^ 60 by decide)).mono (by decide) (by decide)⟩⟩))
        (pss_cons (ps_for PassesOwn.never rfl (pi_list (pe_lst (pa_cons (pe_tup (pa_cons (pv 4) (pa_cons (pv 6) pa_nil))) (pa_cons (pe_tup (pa_cons (pv 5) (pa_cons (pv 7) pa_nil))) pa_nil)))) (pg_tup rfl (pgs_cons (pg_name (i := 9) sc_right.nd rfl (Or.inl rfl)) (pgs_cons (pg_name (i := 10) sc_right.nd rfl (Or.inl rfl)) pgs_nil)))
          (pss_cons (ps_if (pt_not (pt_val (pe_gG Rk.days hr (by decide) h0 rfl pass0 (pa_cons (pv 0) (pa_cons (pv 9) (pa_cons (pv 10) (pa_cons (pv 8) (pa_cons (pe_dget (ru1 hr) (pv 2) pe_str (fun _ _ => rfl)) pa_nil)))))))) (pss_one (ps_ret pe_bl)) pss_nil)
          (pss_one (ps_if (pt_not (pt_val (pe_gG Rk.spoilt hr (by decide) h0 rfl pass0 (pa_cons (pv 0) (pa_cons (pv 9) (pa_cons (pv 10) (pa_cons (pv 8) (pa_cons (pe_dget (ru1 hr) (pv 2) pe_str (fun _ _ => rfl)) pa_nil)))))))) (pss_one (ps_ret pe_bl)) pss_nil))))
        (pss_one (ps_ret (pe_and (pe_gG Rk.pair hr (by decide) h0 rfl pass0 (pa_cons (pv 0) (pa_cons (pv 4) (pa_cons (pv 5) (pa_cons (pv 6) (pa_cons (pv 7) pa_nil)))))) (pe_one (pe_gG Rk.pair hr (by decide) h0 rfl pass0 (pa_cons (pv 0) (pa_cons (pv 4) (pa_cons (pv 4) (pa_cons (pv 6) (pa_cons (pv 6) pa_nil))))))))))))))))) 
    · -- far
      refine ⟨_, rfl, 10, 25, rfl, rfl, ⟨by decide, by decide, by decide⟩, (show (3 : Nat) ≤ sizeLine by decide), fun L1 n1 => ?_⟩
      have t1 := same_upd (o := .lst [.int 1, .int 1, .int (10 ^ (25 : Int).toNat)]) n1
      refine ⟨a, L1, _, rfl, wd.p.same t1, wd.p.ne n1, upd_same, (fun z => nomatch z), (show (3 : Nat) < 1000 by decide), fun H2 i v o2 p2 hv => ?_⟩
      obtain ⟨far, rfl, far1, far2⟩ : ∃ far : Int, v = .int far ∧ 1 ≤ far ∧ far ≤ 10 ^ 25 := by
        have mv := List.mem_of_getElem? hv
        simp only [List.mem_cons, List.not_mem_nil, or_false] at mv
        rcases mv with rfl | rfl | rfl
        · exact ⟨1, rfl, by decide, by decide⟩
        · exact ⟨1, rfl, by decide, by decide⟩
        · exact ⟨_, rfl, by decide, by decide⟩
      have w2 := (wd.same t1).off o2 p2
      have k2 := (NK.of_same (a := a) t1).trans (.of_off o2)
      -- the chart
      refine ⟨_, rfl, _, rfl, a, 3, rfl, p2, by decide, by decide, fun H3 r o3 p3 r0 r1 => ?_⟩
      obtain ⟨k, rfl⟩ := Int.eq_ofNat_of_zero_le r0
      refine ⟨1, _, rfl, rfl, a, 1 + k, by rw [Int.natCast_add]; rfl, p3, by omega, by omega, fun H4 c tags f o4 p4 nc hc tok f0 fb => ?_⟩
      have w4 := (w2.off o3 p3).off o4 p4
      have k4 := (k2.trans (.of_off o3)).trans (.of_off o4)
      obtain ⟨g, sp, rr, kv0, c1, c2, c3, c4, c5, c6, c7, c8⟩ := hc
      refine ⟨_, rfl, c, .ref g, rfl, DGet.k (k := .inr "tags") c1, g, rfl, ⟨_, SqL.of c2⟩, ?_⟩
      have cday : ∀ {m : Str}, m ∈ tags → m ≠ ("day" : Str) := fun hm => name_ne (tok.name hm)
      refine for_it (walk_list (xs := tags.map V.str)) (fun i σ H' => ∃ kv r3, σ = [some (.ref a), some (.int far), some (.ref c), r3, none, none, none, none, none, none, none] ∧ H' = upd H4 sp (.dK kv) ∧ kv.length ≤ 20 ∧ valV kv (.inr "day") = some (.int 0) ∧
          ∀ (j : Nat) (m : Str), tags[j]? = some m → valV kv (.inr m) = some (.int (if j < i then (f m - 3) * far else f m))) ⟨kv0, none, rfl, ?_, c4, ?_, fun j m hj => ?_⟩ (fun i σ H' _ z => ?_) ?_ ?_
      · funext b
        by_cases z : b = sp
        · rw [z, upd_same, c3]
        · rw [upd_ne z]
      · rw [c8 _ (.inl rfl), f0]
      · rw [if_neg (Nat.not_lt_zero j)]
        exact c8 m (.inr (List.mem_of_getElem? hj))
      · obtain ⟨_, _, _, rfl, _⟩ := z
        exact SqL.of (by rw [upd_ne c7]; exact c2)
      · rintro i v σ H5 H5' hi ⟨kv, r3, rfl, rfl, kl, d0, all⟩ ⟨rfl, hv⟩
        obtain ⟨m, hm, rfl⟩ : ∃ m, tags[i]? = some m ∧ V.str m = v := by
          rw [List.getElem?_map] at hv
          cases e : tags[i]? with
          | none => rw [e] at hv; cases hv
          | some z => rw [e] at hv; exact ⟨z, rfl, Option.some.inj hv⟩
        have mt := List.mem_of_getElem? hm
        have hv0 := all i m hm
        rw [if_neg (Nat.lt_irrefl i)] at hv0
        have b1 := fb m mt
        have c1' : upd H4 sp (.dK kv) c = some (.dK [(.inr "tags", .ref g), (.inr "spots", .ref sp), (.inr "rules", .ref rr)]) := by rw [upd_ne c5]; exact c1
        refine ⟨_, rfl, c, .ref sp, rfl, DGet.k (k := .inr "spots") c1', _, rfl, sp, _, rfl, hv0 ▸ DGet.k (k := .inr m) upd_same, _, 3, rfl, rfl, _, rfl, _, far, rfl, rfl, .inl ⟨by omega, by omega⟩, ?_⟩
        refine ⟨_, rfl, c, .ref sp, rfl, DGet.k (k := .inr "spots") c1', _, rfl, sp, _, rfl, DPut.k (k := .inr m) upd_same (Nat.lt_of_le_of_lt kl (by decide)), ?_⟩
        refine ⟨putK kv (.inr m) (.int ((f m - 3) * far)), _, rfl, upd_upd, by rw [putK_len hv0]; exact kl, ?_, fun j m' hj => ?_⟩
        · rw [valV_put, if_neg (fun z => cday mt (Sum.inr.inj z).symm)]
          exact d0
        · rw [valV_put]
          by_cases z : m' = m
          · subst z
            have : j = i := nd_ix tok.nd hj hm
            rw [if_pos rfl, if_pos (by omega)]
          · rw [if_neg (fun w => z (Sum.inr.inj w)), all j m' hj]
            have : j ≠ i := fun w => z (by rw [w, hm] at hj; exact (Option.some.inj hj).symm)
            by_cases lt : j < i
            · rw [if_pos lt, if_pos (by omega)]
            · rw [if_neg lt, if_neg (by omega)]
      rintro σ H5 ⟨kv, r3, rfl, e5, kl, d0, all⟩
      rw [List.length_map] at all
      have w5 : Wd a T H5 := by rw [e5]; exact w4.putD c3
      have k5 : NK a H H5 := by rw [e5]; exact k4.trans (NK.putD c3)
      have s5 : H5 sp = some (.dK kv) := by rw [e5]; exact upd_same
      have ch5 : ChartAt H5 c tags (fun m => if m = ("day" : Str) then 0 else (f m - 3) * far) := by
        refine ⟨g, sp, rr, kv, by rw [e5, upd_ne c5]; exact c1, by rw [e5, upd_ne c7]; exact c2, s5, kl, c5, c6, c7, fun m hm => ?_⟩
        rcases hm with rfl | hm
        · exact d0
        · obtain ⟨j, hj⟩ := List.mem_iff_getElem?.mp hm
          rw [all j m hj, if_pos (List.getElem?_eq_some_iff.mp hj).1]
          show _ = some (V.int (if m = ("day" : Str) then 0 else (f m - 3) * far))
          rw [if_neg (cday hm)]
      have fb2 : ∀ m, (m = ("day" : Str) ∨ m ∈ tags) → -(10 ^ 30) ≤ (if m = ("day" : Str) then 0 else (f m - 3) * far) ∧ (if m = ("day" : Str) then 0 else (f m - 3) * far) ≤ 10 ^ 30 := fun m hm => by
        by_cases z : m = ("day" : Str)
        · rw [if_pos z]
          exact ⟨by decide, by decide⟩
        · rw [if_neg z]
          have b := fb m (hm.resolve_left z)
          have l1 : (f m - 3) * far ≤ 3 * far := Int.mul_le_mul_of_nonneg_right (by omega) (by omega)
          have l2 : (-3) * far ≤ (f m - 3) * far := Int.mul_le_mul_of_nonneg_right (by omega) (by omega)
          omega
      have f20 : (fun m => if m = ("day" : Str) then 0 else (f m - 3) * far) ("day" : Str) = (0 : Int) := if_pos rfl
      generalize hf2 : (fun m => if m = ("day" : Str) then (0 : Int) else (f m - 3) * far) = f2 at ch5 f20
      have fb2 : ∀ m, (m = ("day" : Str) ∨ m ∈ tags) → -(10 ^ 30) ≤ f2 m ∧ f2 m ≤ 10 ^ 30 := by rw [← hf2]; exact fb2
      clear hf2 e5 all d0
      -- the pacts
      refine ⟨_, rfl, _, rfl, a, c, tags, f2, "a", rfl, w5.p, ch5, tok, .inl rfl, fb2, fun H6 q1 P1 o6 p6 n6 hq1 g1 => ?_⟩
      have w6 := w5.off o6 p6
      refine ⟨_, rfl, _, rfl, _, rfl, (show (2 : Nat) ≤ sizeLine by decide), fun L7 n7 => ?_⟩
      have t7 := same_upd (o := .lst ([("a" : Str), "b"].map V.str)) n7
      refine ⟨a, L7, _, rfl, p6.same t7, p6.ne n7, upd_same, (fun z => nomatch z), (show (2 : Nat) < 1000 by decide), fun H8 i v o8 p8 hv => ?_⟩
      obtain ⟨tg, rfl, htg⟩ := pick_str (l := [("a" : Str), "b"]) hv
      have o58 : Off a H5 H8 := (o6.trans (.of t7)).trans o8
      refine ⟨a, c, tags, f2, tg, rfl, p8, ch5.off o58 w5.p, tok, by simpa using htg, fb2, fun H9 q2 P2 o9 p9 n9 hq2 g2 => ⟨_, _, rfl, ?_⟩⟩
      have w9 := w5.off (o58.trans o9) p9
      have k9 := k5.trans (.of_off (o58.trans o9))
      have pk1 : PactAt (core a H9) q1 P1 := (hq1.core p6).same (Kp.of_off (((Off.of t7).trans o8).trans o9))
      have pk2 : PactAt (core a H9) q2 P2 := hq2.core p9
      have ch9 := ch5.off (o58.trans o9) w5.p
      -- the deals
      refine ⟨_, rfl, q1, P1, rfl, pk1.same core_same, g1.ok, fun H10 d1 s10 n10 hd1 => ?_⟩
      have k910 : Kp a H9 H10 := .of_same s10
      refine ⟨_, rfl, q2, P2, rfl, (pk2.same k910).same core_same, g2.ok, fun H11 d2 s11 n11 hd2 => ⟨_, _, rfl, ?_⟩⟩
      have s911 := s10.trans s11
      have w11 := w9.same s911
      have k11 := k9.trans (.of_same s911)
      have q911 : Kp a H9 H11 := .of_same s911
      have dl1 : DealAt C (core a H11) d1 P1.deal := (hd1.core (w9.p.same s10)).same (Kp.of_same s11)
      have dl2 : DealAt C (core a H11) d2 P2.deal := hd2.core w11.p
      have ch11 := ch9.same s911
      -- the dates
      obtain ⟨g, sp, rr, kvp, c1, c2, c3, c4, c5, c6, c7, c8⟩ := ch11
      refine ⟨_, rfl, c, .ref g, rfl, DGet.k (k := .inr "tags") c1, g, rfl, ⟨_, SqL.of c2⟩, fun D nD => ?_⟩
      refine lc_tup tags (fun m => some [.str m, .int (f2 m)]) (by have := walk_list (K := K) (a := g) (xs := tags.map V.str); rw [List.length_map] at this; exact this) nD (Nat.lt_of_le_of_lt tok.n3 (by decide)) (fun H' s' => SqL.of (s' _ _ c2)) (fun i m x H12 H12' Qn Qe hm s12 y hn _ => ?_) (fun H12 ls s12 e12 t12 => ?_)
      · obtain ⟨rfl, hx⟩ := y
        rw [List.getElem?_map, hm] at hx
        cases hx
        refine ⟨rfl, _, rfl, _, rfl, c, .ref sp, rfl, DGet.k (k := .inr "spots") (s12 _ _ c1), _, rfl, sp, _, rfl, c8 m (.inr (List.mem_of_getElem? hm)) ▸ DGet.k (k := .inr m) (s12 _ _ c3), (show (2 : Nat) ≤ sizeLine by decide), fun T' nT => ?_⟩
        exact hn _ _ _ rfl (same_upd nT) ⟨T', rfl, upd_same⟩
      have fk : tags.filterMap (fun m => some [V.str m, V.int (f2 m)]) = (tags.map fun m => ((Sum.inr m : Key), V.int (f2 m))).map fun e => [kV e.1, e.2] := by
        rw [fm_some, List.map_map]
        rfl
      rw [fk] at t12
      obtain ⟨ps, rfl, pp⟩ := allT_pairs (K := K) t12
      have knd : ((tags.map fun m => ((Sum.inr m : Key), V.int (f2 m))).map (·.1)).Nodup := by
        rw [List.map_map]
        exact List.pairwise_map.mpr (List.Pairwise.imp (fun h e => h (Sum.inr.inj e)) tok.nd)
      refine ⟨D, ps, tags.map fun m => ((Sum.inr m : Key), V.int (f2 m)), rfl, SqL.of e12, pp, fun t nt => ?_⟩
      rw [merge_self knd]
      have s13 := s12.trans (same_upd (o := .dK (tags.map fun m => ((Sum.inr m : Key), V.int (f2 m)))) nt)
      have w13 := w11.same s13
      have dts : Dates (upd H12 t (.dK (tags.map fun m => ((Sum.inr m : Key), V.int (f2 m))))) t tags f2 := by
        refine ⟨_, upd_same, knd, by rw [List.length_map]; exact Nat.le_trans tok.n3 (by decide), fun m hm => ?_, fun e he => ?_⟩
        · obtain ⟨j, hj⟩ := List.mem_iff_getElem?.mp hm
          exact valV_get knd (i := j) (by rw [List.getElem?_map, hj]; rfl)
        · obtain ⟨m, hm, rfl⟩ := List.mem_map.mp he
          have b := fb2 m (.inr hm)
          refine ⟨key_nice (asc_name (tok.name hm) (name_len (tok.name hm))), .inl ⟨_, .int _, (nice_int (show (f2 m).natAbs < 10 ^ 60 by omega)).mono (by decide) (by decide)⟩⟩
      refine ⟨t, tags, f2, rfl, rfl, w13.p, dts, tok, fun kvs e => ?_, fun H14 t' o14 p14 dt14 => ?_⟩
      · rw [upd_same] at e
        cases e
        rw [List.length_map]
        exact tok.n3
      have w14 := w13.off o14 p14
      have k1114 : Kp a H11 H14 := (Kp.of_same s13).trans (.of_off o14)
      have k14 : NK a H H14 := k11.trans (.of_kp k1114)
      -- each deal
      refine ⟨_, rfl, _, rfl, (show (2 : Nat) ≤ sizeLine by decide), fun TA nA => ?_⟩
      refine ⟨_, rfl, _, rfl, (show (2 : Nat) ≤ sizeLine by decide), fun TB nB => ⟨(show (2 : Nat) ≤ sizeLine by decide), fun L nL => ?_⟩⟩
      have b1 := same_upd (o := .tup [.ref q1, .ref d1]) nA
      have b2 := same_upd (o := .tup [.ref q2, .ref d2]) nB
      have b3 := same_upd (o := .lst [.ref TA, .ref TB]) nL
      have bA := b1.trans (b2.trans b3)
      refine ⟨L, rfl, ⟨_, SqL.of upd_same⟩, ?_⟩
      have eA := b3 _ _ (b2 _ _ (upd_same (a := TA)))
      have eB := b3 _ _ (upd_same (a := TB))
      have eL := upd_same (a := L) (H := upd (upd H14 TA (.tup [.ref q1, .ref d1])) TB (.tup [.ref q2, .ref d2])) (o := .lst [.ref TA, .ref TB])
      have w15 := w14.same bA
      have k15 := k14.trans (.of_same bA)
      have k1115 := k1114.trans (.of_same bA)
      obtain ⟨kd, tol, lkd⟩ := dt14.told2 w14.p
      have bK : Kp a H14 (upd (upd (upd H14 TA (.tup [.ref q1, .ref d1])) TB (.tup [.ref q2, .ref d2])) L (.lst [.ref TA, .ref TB])) := .of_same bA
      generalize hG : upd (upd (upd H14 TA (.tup [.ref q1, .ref d1])) TB (.tup [.ref q2, .ref d2])) L (.lst [.ref TA, .ref TB]) = H15 at w15 k15 k1115 eA eB eL bK
      have La := (((w14.same b1).same b2).p).ne nL
      have cA := core_up w15.p eA (fun _ _ z => nomatch z) (fun _ z => nomatch z)
      have cB := core_up w15.p eB (fun _ _ z => nomatch z) (fun _ z => nomatch z)
      have cL := core_of eL La (fun _ z => nomatch z)
      have pc1 := (pk1.same q911).same k1115
      have pc2 := (pk2.same q911).same k1115
      have dc1 := dl1.same k1115
      have dc2 := dl2.same k1115
      have cc := k1115 _ _ (core_up w11.p c1 (fun _ _ z => nomatch z) (fun _ z => nomatch z))
      have csp := k1115 _ _ (core_up w11.p c3 (fun _ _ z => nomatch z) (fun _ z => nomatch z))
      refine for_it (walk_list (xs := [V.ref TA, V.ref TB])) (fun i σ H' => ∃ r3 r9 r10, σ = [some (.ref a), some (.int far), some (.ref c), r3, some (.ref q1), some (.ref q2), some (.ref d1), some (.ref d2), some (.ref t'), r9, r10] ∧ Kp a H15 H' ∧ Wd a T H') ⟨_, none, none, rfl, Kp.refl, w15⟩
        (fun i σ H' _ z => by obtain ⟨_, _, _, _, z, _⟩ := z; exact SqL.of (core_same _ _ (z _ _ cL))) ?_ ?_
      · rintro i v σ H16 H16' hi ⟨r3, r9, r10, rfl, k16, w16⟩ ⟨rfl, hv⟩
        obtain ⟨Tx, qx, dx, Px, rfl, eT, pcx, gx, dcx⟩ : ∃ Tx qx dx Px, v = .ref Tx ∧ core a H15 Tx = some (.tup [.ref qx, .ref dx]) ∧ PactAt (core a H15) qx Px ∧ PactGood Px tags f2 ∧ DealAt C (core a H15) dx Px.deal := by
          have mv := List.mem_of_getElem? hv
          simp only [List.mem_cons, List.not_mem_nil, or_false] at mv
          rcases mv with rfl | rfl
          · exact ⟨TA, q1, d1, P1, rfl, cA, pc1, g1, dc1⟩
          · exact ⟨TB, q2, d2, P2, rfl, cB, pc2, g2, dc2⟩
        have tol16 : Told2 (core a H15) t' kd := ⟨bK _ _ tol.at_, tol.nd, tol.few, fun e he => (tol.ent e he).same bK⟩
        obtain ⟨ds, shd, skd, nid⟩ := dict_data tol16.at_ tol16.ent (by have := tol.few; omega)
        have bh := fb2 Px.hd gx.hd
        have bt := fb2 Px.tl gx.tl
        have sm := gx.ok.sm
        have mids : Mid (f2 Px.hd) ∧ Mid (f2 Px.tl) ∧ Mid (f2 Px.hd + Px.fi) ∧ Mid (f2 Px.tl + Px.la) := by
          have bf := gx.bf
          have bl := gx.bl
          unfold Mid
          omega
        have hday : daysD Px.deal (.dict ds) = some (f2 Px.hd + Px.fi, f2 Px.tl + Px.la) := by
          show pairD (momD ds Px.hd Px.fi) (momD ds Px.tl Px.la) = _
          rw [day_sum skd lkd f20 tok Px.fi gx.hd, day_sum skd lkd f20 tok Px.la gx.tl, pairD_some (by have := gx.le; omega)]
        refine ⟨Tx, _, rfl, SqT.of (core_same _ _ (k16 _ _ eT)), rfl, _, _, rfl, _, _, rfl, rfl, ?_⟩
        have ccc : ∀ {Hc : Hp}, Kp a H15 Hc → Hc c = some (.dK [(.inr "tags", .ref g), (.inr "spots", .ref sp), (.inr "rules", .ref rr)]) := fun {Hc} k => core_same _ _ (k _ _ cc)
        refine ⟨_, rfl, _, rfl, _, rfl, _, rfl, _, rfl, c, .ref sp, rfl, DGet.k (k := .inr "spots") (ccc k16), a, qx, dx, t', sp, Px, ds, kvp, f2 Px.hd, f2 Px.tl, rfl, w16, pcx.same k16, gx.ok, dcx.same k16, ⟨shd.same k16, nid.mono (by decide) (by decide)⟩, k16 _ _ csp, c8 _ gx.hd, c8 _ gx.tl, mids.2.2.1, mids.2.2.2, hday, fun H17 k17 w17 => ⟨true, rfl, iteF ?_⟩⟩
        have k167 := k16.trans k17
        refine ⟨_, rfl, _, rfl, _, rfl, _, rfl, _, rfl, c, .ref sp, rfl, DGet.k (k := .inr "spots") (ccc k167), a, qx, dx, t', sp, Px, kd, kvp, f2 Px.hd, f2 Px.tl, rfl, w17, pcx.same k167, gx.ok, dcx.same k167, ⟨k167 _ _ tol16.at_, tol.nd, tol.few, fun e he => (tol16.ent e he).same k167⟩, k167 _ _ csp, c8 _ gx.hd, c8 _ gx.tl, mids,
          (fun z => lkd _ (gx.hd.resolve_left z)), (fun z => by rw [z]; exact f20), (fun z => lkd _ (gx.tl.resolve_left z)), (fun z => by rw [z]; exact f20), fun H18 k18 w18 => ⟨true, rfl, iteF ?_⟩⟩
        exact ⟨r3, _, _, rfl, k167.trans k18, w18⟩
      · rintro σ H16 ⟨r3, r9, r10, rfl, k16, w16⟩
        refine ⟨_, rfl, _, rfl, _, rfl, _, rfl, _, rfl, a, q1, q2, d1, d2, P1, P2, rfl, w16, pc1.same k16, g1.ok, pc2.same k16, g2.ok, dc1.same k16, dc2.same k16, fun H17 k17 w17 => ⟨true, rfl, iteT ?_⟩⟩
        have k167 := k16.trans k17
        refine ⟨_, rfl, _, rfl, _, rfl, _, rfl, _, rfl, a, q1, q1, d1, d1, P1, P1, rfl, w17, pc1.same k167, g1.ok, pc1.same k167, g1.ok, dc1.same k167, dc1.same k167, fun H18 k18 w18 => ?_⟩
        exact q H18 (k15.trans (.of_kp (k167.trans k18))) w18.t
end
end Ld
namespace Ld
open PySem PySem.Spec PyProof.Rows L2 LamX
def spLaw (K : PySem.W.Frag) (T : List (Addr × Str)) : Sp := fun vs H Q _ => ∃ (a : Addr) (ns : List Int), vs = [.ref a] ∧ SqL K H a (ns.map V.int) ∧ ns.length < 2 ^ 40 ∧ Tabs T H ∧ ∀ H', Q (.bl true) H'
theorem SqL.via {K : PySem.W.Frag} {H H' : Hp} {a : Addr} {xs : List V} (h : SqL K H a xs) (go : ∀ u, H a = some u → (∀ kvs, u ≠ .dK kvs) → (∀ ps, u ≠ .tbl ps) → H' a = some u) : SqL K H' a xs := by
  rcases h with h | h
  · rcases h with h | ⟨ob, h⟩
    · exact .inl (.inl (go _ h (fun _ z => nomatch z) fun _ z => nomatch z))
    · exact .inl (.inr ⟨ob, go _ h (fun _ z => nomatch z) fun _ z => nomatch z⟩)
  · exact .inr h
theorem Tabs.put {T : List (Addr × Str)} {H : Hp} {D : Addr} {xs ys : List V} (t : Tabs T H) (e : H D = some (.lst xs)) : Tabs T (upd H D (.lst ys)) := by
  intro q hq
  obtain ⟨ps, h1, h2, h3⟩ := t q hq
  have na : ∀ {b : Addr} {u : HO}, H b = some u → (∀ x, u ≠ .lst x) → upd H D (.lst ys) b = some u := fun {b u} e' n => by
    rw [upd_ne]
    · exact e'
    · rintro rfl
      rw [e] at e'
      exact n _ (Option.some.inj e').symm
  refine ⟨ps, na h1 (fun _ z => nomatch z), h2, fun pos cv hc => ?_⟩
  obtain ⟨c, e1, e2⟩ := h3 pos cv hc
  exact ⟨c, e1, na e2 fun x z => by unfold CodeO at z; cases z⟩
theorem SqL.same {K : PySem.W.Frag} {H H' : Hp} {a : Addr} {xs : List V} (h : SqL K H a xs) (s : Same H H') : SqL K H' a xs := by
  rcases h with h | h
  · rcases h with h | ⟨ob, h⟩
    · exact .inl (.inl (s _ _ h))
    · exact .inl (.inr ⟨ob, s _ _ h⟩)
  · exact .inr h
section
variable {P : Program} {w : World} {K : PySem.W.Frag} {mg : Str → Option Value} {base : Heap} {f : Addr} {fd : FuncData} {T : List (Addr × Str)}
theorem sc_law : FnScope ["_law_script", "_law_k"] ["_law_script"] (defScope sLaw) := ⟨rfl, rfl, rfl, by decide +kernel, rfl, by decide +kernel, by decide +kernel⟩
theorem ok_law (B : Cs mg) (nAll : mg "all" = none) (nRange : mg "range" = none) (G1 : GOk P w K mg base CX0 1 "_law_pot" (spPot K)) (G2 : GOkG P w K mg base CX0 8 "_law_right" (spRight T)) {x q : Str} (F : Fun K x q sLaw f fd) : FnG P w K mg base CX0 9 f fd ["_law_script"] (spLaw K T) := by
  refine Fun.okG0 F sc_law (fun vs H Q E h => ?_) fun cdv A outer s H vs Q E h0 hr h => ?_
  · obtain ⟨a, ns, rfl, _⟩ := h
    rfl
  · obtain ⟨a, ns, rfl, hs, hl, ht, q⟩ := h
    apply Exists.intro
    apply And.intro
    · exact pss_one (ps_ret (pe_callB (cr_all rfl) rfl nAll rfl (pa_cons (pe_lc (own := [("_law_k", 1)]) rfl sc_law.nd (pi_range1 rfl nRange (pa_cons (pe_callB (call_max2 rfl) rfl (B.nb _ (by decide)) rfl (pa_cons pe_int (pa_cons (pe_callB (call_min2 rfl) rfl (B.nb _ (by decide)) rfl (pa_cons pe_int (pa_cons (pe_callB call_len_seq rfl (B.nb _ (by decide)) rfl (pa_cons (pv 0) pa_nil)) pa_nil))) pa_nil))) pa_nil))
        (blkOk_by (N := ["_law_script", "_law_k"]) (sc := defScope sLaw) (by decide +kernel))
        (fun _ _ _ _ _ => pg_name (i := 1) sc_law.nd rfl (Or.inl rfl)) (fun _ _ _ _ _ => pts_nil) (fun _ _ _ _ _ => pe_gG G2 hr (by decide) h0 rfl pass0 (pa_cons (pe_g G1 hr (by decide) rfl pass0 (pa_cons (pv 0) (pa_cons (pv 1) pa_nil))) pa_nil))) pa_nil)))
    · refine ⟨_, rfl, a, ns.map V.int, rfl, .inl hs, _, _, rfl, _, _, rfl, _, rfl, ?_⟩
      rw [List.length_map]
      generalize hm : (if (if ((ns.length : Nat) : Int) < 3 then ((ns.length : Nat) : Int) else 3) > 1 then (if ((ns.length : Nat) : Int) < 3 then ((ns.length : Nat) : Int) else 3) else 1) = m
      have mb : 1 ≤ m ∧ m ≤ 3 := by
        rw [← hm]
        split <;> split <;> omega
      refine ⟨by omega, by omega, fun D nD => ?_⟩
      have aD : a ≠ D ∨ ∀ H', SqL K H' a (ns.map V.int) := by
        rcases hs with h | h
        · refine .inl fun z => ?_
          rcases h with h | ⟨ob, h⟩ <;> rw [z, nD] at h <;> cases h
        · exact .inr fun _ => .inr h
      refine lc_it (J := Itr 0 m.toNat) (g := gName 1) (tt := tYes) (te := fun σ H Q => tCons (fun σ H Q => tCons (tVar 0) (tCons (tVar 1) tNil) σ H fun vs H1 => spPot K vs H1 Q E0) tNil σ H fun vs H1 => spRight T vs H1 Q E0) (vs := [1]) (σ := L2.start ["_law_script", "_law_k"] [V.ref a]) (Qd := fun H' => rAll K [V.ref D] H' Q) walk_range (fun i H' => H' D = some (.lst ((List.replicate i true).map V.bl)) ∧ Tabs T H' ∧ SqL K H' a (ns.map V.int)) ⟨upd_same, ht.ext (same_upd nD), SqL.same hs (same_upd nD)⟩ (fun _ _ _ _ => trivial) ?_ ?_
      · rintro i v H1 H1' hi ⟨e1, t1, s1⟩ ⟨rfl, rfl⟩
        refine ⟨rfl, ?_⟩
        dsimp only [tYes]
        rw [if_pos rfl]
        refine ⟨_, rfl, _, rfl, a, ns, _, rfl, s1, hl, by omega, by omega, fun p H2 np s2 pp => ⟨p, rfl, ⟨pp, t1.ext s2⟩, fun H3 k3 t3 => ?_⟩⟩
        have e2 := s2 _ _ e1
        have nDp : D ≠ p := fun z => by rw [z, np] at e1; cases e1
        have e3 := k3 _ _ e2 nDp (fun _ z => nomatch z) fun _ z => nomatch z
        have s3 : SqL K H3 a (ns.map V.int) := SqL.via s1 fun u eu n1 n2 => k3 _ _ (s2 _ _ eu) (fun z => by rw [z, np] at eu; cases eu) n1 n2
        refine ⟨_, e3, ?_, ?_, Tabs.put t3 e3, ?_⟩
        · rw [List.length_map, List.length_replicate, sizeLine_eq]
          omega
        · rw [upd_same, List.replicate_succ', List.map_append]
          rfl
        · rcases aD with z | z
          · exact SqL.via s3 fun u eu _ _ => by rw [upd_ne z]; exact eu
          · exact z _
      · rintro H1 ⟨e1, t1, s1⟩
        refine ⟨D, List.replicate m.toNat true, rfl, SqL.of e1, ?_⟩
        have al : (List.replicate m.toNat true).all id = true := by
          rw [List.all_eq_true]
          intro b hb
          rw [List.eq_of_mem_replicate hb]
          rfl
        rw [al]
        exact q _
end
end Ld
namespace Ld
open PySem PySem.Spec PyProof.Rows L2 LamX
/-! ### the row's end: a promise that asks that nothing is guarded -/
def tab0 : Obj := { cls := .none, data := .fields #[] }
/-- what is tracked when the law is called: the tables, empty; the script, frozen, where K does not hold it -/
def H0 (K : PySem.W.Frag) (ts : List Addr) (a : Addr) (o : Obj) (xs : List V) : Hp := fun b => if b ∈ ts then some (.tbl #[]) else if b = a ∧ K.lookup a = none then some (.frz o (.lst xs)) else none
theorem H0_tab {K : PySem.W.Frag} {ts : List Addr} {a b : Addr} {o : Obj} {xs : List V} (h : b ∈ ts) : H0 K ts a o xs b = some (.tbl #[]) := if_pos h
theorem H0_is {K : PySem.W.Frag} {ts : List Addr} {a b : Addr} {o : Obj} {xs : List V} {u : HO} (h : H0 K ts a o xs b = some u) : (b ∈ ts ∧ u = .tbl #[]) ∨ (b ∉ ts ∧ b = a ∧ K.lookup a = none ∧ u = .frz o (.lst xs)) := by
  unfold H0 at h
  by_cases h1 : b ∈ ts
  · rw [if_pos h1] at h
    exact .inl ⟨h1, (Option.some.inj h).symm⟩
  · rw [if_neg h1] at h
    by_cases h2 : b = a ∧ K.lookup a = none
    · rw [if_pos h2] at h
      exact .inr ⟨h1, h2.1, h2.2, (Option.some.inj h).symm⟩
    · rw [if_neg h2] at h
      cases h
theorem H0_no {K : PySem.W.Frag} {ts : List Addr} {a b : Addr} {o : Obj} {xs : List V} (h1 : b ∉ ts) (h2 : b = a → K.lookup a ≠ none) : H0 K ts a o xs b = none := by
  unfold H0
  rw [if_neg h1, if_neg fun z => h2 z.1 z.2]
section
variable {P : Program} {w : World} {K : PySem.W.Frag} {mg mb : Str → Option Value} {k : Nat} {fa a : Addr} {cs : List (Addr × Addr)} {fd : FuncData} {x : Str} {sp : Sp} {s : Shared} {vs : List Value} {ns : List Int}
theorem law_callG (KX : K.In s.heap) (hns : s.heap.Ns mainGlobals mg) (hb : s.heap.Ns builtinsNs mb) (hbb : ∀ x : Str, x ≠ "__name__" → mb x = bootBuiltins x) (hlim : s.heap.NoLimit) (hg : s.gens = #[])
    (hT : ∀ p ∈ cs, s.heap.get? p.2 = some tab0) (nT : ∀ p ∈ cs, K.lookup p.2 = none) (C : ∀ p ∈ cs, PySem.W.CodeHd s.heap p.1 p.2)
    (hbm : ∃ (bm : Addr) (ob : Obj), mg "__builtins__" = some (.ref bm) ∧ bm ≠ builtinsNs ∧ s.heap.get? bm = some ob ∧ ob.cls = .type "module" ∧ ob.dict = some builtinsNs ∧ ob.data = .plain)
    (ha : s.heap.get? a = some { cls := .type "list", data := .seq vs.toArray }) (hi : IntsAre vs ns) (hl : ns.length ≤ sizeLine) (hr : Room k callerA)
    (F : ∀ base : Heap, K.In base → base.Ns mainGlobals mg → (∀ p ∈ cs, TabB base mg p.1 p.2) → FnG P w K mg base CX0 k fa fd [x] sp) (hbind : ∀ (s : Shared) (u : Value), BindsTo s fd ⟨[u], []⟩ [(x, u)])
    (hsp : ∀ H : Hp, (∀ p ∈ cs, H p.2 = some (.tbl #[])) → SqL K H a (ns.map V.int) → sp [.ref a] H (fun v _ => v = .bl true) fun _ _ _ => False) :
    codeAny (model P w) callerA (.call (.ref fa) ⟨[.ref a], []⟩) (fun r s' => r = .ok (.ret (.bool true)) ∧ OldK s.heap s'.heap ∧ s'.os = s.os ∧ AllBare s'.gens) s := by
  have rv := vals_ints hi
  have lenV := hi.length
  obtain ⟨ts, hts⟩ : ∃ ts, ts = cs.map (·.2) := ⟨_, rfl⟩
  have inT : ∀ b, b ∈ ts → ∃ p ∈ cs, p.2 = b := fun b h => by
    rw [hts] at h
    exact List.mem_map.mp h
  have memT : ∀ p ∈ cs, p.2 ∈ ts := fun p hp => by rw [hts]; exact List.mem_map.mpr ⟨p, hp, rfl⟩
  have isT : ∀ b, b ∈ ts → s.heap.get? b = some tab0 := fun b h => by
    obtain ⟨p, hp, e⟩ := inT b h
    rw [← e]
    exact hT p hp
  have noT : ∀ b, b ∈ ts → K.lookup b = none := fun b h => by
    obtain ⟨p, hp, e⟩ := inT b h
    rw [← e]
    exact nT p hp
  have aT : a ∉ ts := fun z => by
    have q := isT a z
    rw [ha] at q
    have := congrArg Obj.data (Option.some.inj q)
    cases this
  obtain ⟨oa, hoa⟩ : ∃ oa : Obj, oa = { cls := .type "list", data := .seq vs.toArray } := ⟨_, rfl⟩
  rw [← hoa] at ha
  have is := fun {b : Addr} {u : HO} => H0_is (K := K) (ts := ts) (a := a) (b := b) (o := oa) (xs := ns.map V.int) (u := u)
  have no := fun {b : Addr} => H0_no (K := K) (ts := ts) (a := a) (b := b) (o := oa) (xs := ns.map V.int)
  have tab := fun {b : Addr} => H0_tab (K := K) (ts := ts) (a := a) (b := b) (o := oa) (xs := ns.map V.int)
  have at_a : H0 K ts a oa (ns.map V.int) a = if K.lookup a = none then some (.frz oa (.lst (ns.map V.int))) else none := by
    unfold H0
    rw [if_neg aT]
    by_cases q : K.lookup a = none
    · rw [if_pos q, if_pos ⟨rfl, q⟩]
    · rw [if_neg q, if_neg fun z => q z.2]
  generalize H0 K ts a oa (ns.map V.int) = H at is no tab at_a
  -- neither a list nor a table: not tracked
  have free : ∀ {b : Addr} {o : Obj}, s.heap.get? b = some o → (∀ us n, o.data ≠ .seq us n) → o.data ≠ .fields #[] → H b = none := fun {b o} e h1 h2 => by
    refine no (fun z => ?_) fun z _ => ?_
    · rw [isT b z] at e
      cases e
      exact h2 rfl
    · rw [z, ha, hoa] at e
      cases e
      exact h1 _ _ rfl
  have dict_free : ∀ {b : Addr} {o : Obj} {es : Array DictEntry} {ep : Nat}, s.heap.get? b = some o → o.data = .dict es ep → H b = none := fun e d => free e (fun _ _ z => by rw [d] at z; cases z) fun z => by rw [d] at z; cases z
  have ns_ : ∀ {b : Addr} {m : Str → Option Value}, s.heap.Ns b m → (hidT s.heap H).Ns b m := fun ⟨o, es, ep, e, d, r⟩ => ⟨o, es, ep, hidT_get e (dict_free e d), d, r⟩
  have kin : K.In (hidT s.heap H) := fun b o e => hidT_get (KX b o e) (no (fun z => by rw [noT b z] at e; cases e) fun z q => by rw [z] at e; rw [q] at e; cases e)
  have mod : L2.Mod K mg (hidT s.heap H) := ⟨kin, ns_ hns, ⟨mb, ns_ hb, hbb⟩, let ⟨mc, h1, h2⟩ := hlim; ⟨mc, ns_ h1, h2⟩⟩
  have tbs : ∀ p ∈ cs, TabB (hidT s.heap H) mg p.1 p.2 := fun p hp => by
    have tp := hT p hp
    refine ⟨?_, ?_, fun z => ?_⟩
    · obtain ⟨o, us, file, tf, flags, tg, inF, text, tt, e1, r1, r2, r3, r⟩ := C p hp
      exact ⟨o, us, file, tf, flags, tg, inF, text, tt, hidT_get e1 (free e1 (fun _ _ z => by rw [r2] at z; cases z) fun z => by rw [r2] at z; cases z; simp at r3), r1, r2, r3, r⟩
    · obtain ⟨bm, ob, b1, b2, b3, b4, b5, b6⟩ := hbm
      refine ⟨bm, ob, b1, b2, fun q => ?_, fun q => ?_, hidT_get b3 (free b3 (fun _ _ z => by rw [b6] at z; cases z) fun z => by rw [b6] at z; cases z), b4, b5, b6⟩
      · obtain ⟨o, es, ep, e, hd, _⟩ := hns
        rw [q, e] at b3
        cases b3
        rw [hd] at b6
        cases b6
      · rw [q, tp] at b3
        cases b3
        cases b6
    · obtain ⟨o, es, ep, e, hd, _⟩ := hns
      rw [z, tp] at e
      cases e
      cases hd
  have hok : HOk P w H s.heap := fun b u e => by
    rcases is e with ⟨h1, rfl⟩ | ⟨_, rfl, _, rfl⟩
    · exact isT b h1
    · exact ⟨ha, by rw [List.length_map]; exact hl, vs, _, rv, by rw [ha, hoa]⟩
  have seq : SqL K H a (ns.map V.int) := by
    by_cases q : K.lookup a = none
    · exact .inl (.inr ⟨oa, by rw [at_a, if_pos q]⟩)
    · cases e : K.lookup a with
      | none => exact absurd e q
      | some o =>
        have e' := KX a o e
        rw [ha, hoa] at e'
        cases e'
        exact .inr ⟨_, vs.toArray, _, e, rfl, rfl, rfl, by rw [List.size_toArray, lenV]; exact hl, by simpa using rv⟩
  have e0 : Env0 P w K mg (hidT s.heap H) callerA [] s H := ⟨rfl, mod, fun b o e => of_hidT e, Nat.le_of_eq (hidT_size _ _), trivial, fun b z => absurd z List.not_mem_nil, hok, .of_eq hg⟩
  refine codeAny_mono ((F _ kin (ns_ hns) tbs).go callerA [] s H ⟨[.ref a], []⟩ [.ref a] [.ref a] _ _ rfl hr e0 (.cons rfl .nil) (hbind s (.ref a)) (hsp H (fun p hp => tab (memT p hp)) seq)) fun r s' h => ?_
  match r, h with
  | .error e, h => exact False.elim h
  | .ok (.ret u), h =>
    obtain ⟨v, H', os, bare, un, hok', r', q⟩ := h
    obtain rfl : v = .bl true := q
    obtain rfl : u = Value.bool true := r'
    have stays : ∀ b o, b ∉ ts → s.heap.get? b = some o → s'.heap.get? b = some o := fun b o nb e => by
      cases q : H b with
      | none => exact un.keep b o e q (fun z => absurd (show b ∈ ([] : List Addr) from z) List.not_mem_nil) List.not_mem_nil
      | some u =>
        rcases is q with ⟨h1, _⟩ | ⟨_, _, _, rfl⟩
        · exact absurd h1 nb
        · have e1 := (hok b _ q).1
          have e2 := (hok' b _ (un.frzs b _ _ q)).1
          rw [e] at e1
          cases e1
          exact e2
    have grown : ∀ b, b ∈ ts → ∃ more : Array Value, s'.heap.get? b = some { cls := .none, data := .fields more } := fun b h => by
      obtain ⟨more, z⟩ := un.tbls b #[] (tab h)
      exact ⟨_, hok' b _ z⟩
    refine ⟨rfl, ⟨fun b o e => ?_, fun b o e => ?_⟩, os, bare⟩
    · by_cases hb : b ∈ ts
      · obtain ⟨more, hm⟩ := grown b hb
        obtain ⟨p, hp, ep⟩ := inT b hb
        rw [isT b hb] at e
        cases e
        refine .inr (.inl ⟨?_, rfl, #[], more, rfl, by rw [Array.empty_append]; exact hm⟩)
        rw [← ep]
        exact ((C p hp).tab (hT p hp)).isCodeTable
      · exact .inl (stays b o hb e)
    · by_cases hb : b ∈ ts
      · obtain ⟨more, hm⟩ := grown b hb
        exact ⟨_, hm⟩
      · exact ⟨o, stays b o hb e⟩
end
/-- what is known of the law's promise at the heap that the head leaves -/
def LawAtG (l : PySem.W.OpenLaw) (w : World) (K : PySem.W.Frag) (k n : Nat) (x : Str) (mg : Str → Option Value) (fa : Addr) (h : Heap) : Prop :=
  ∃ (fd : FuncData) (cs : List (Addr × Addr)) (sp : Sp), (∀ p ∈ cs, h.get? p.2 = some tab0) ∧ (∀ p ∈ cs, K.lookup p.2 = none) ∧ (∀ p ∈ cs, PySem.W.CodeHd h p.1 p.2) ∧ (∀ (s : Shared) (u : Value), BindsTo s fd ⟨[u], []⟩ [(x, u)]) ∧
    (∀ (H : Hp) (a : Addr) (ns : List Int), ns.length ≤ n → (∀ p ∈ cs, H p.2 = some (.tbl #[])) → SqL K H a (ns.map V.int) → sp [.ref a] H (fun v _ => v = .bl true) fun _ _ _ => False) ∧
    ∀ base : Heap, K.In base → base.Ns mainGlobals mg → (∀ p ∈ cs, TabB base mg p.1 p.2) → FnG l.prog w K mg base CX0 k fa fd [x] sp
theorem walk_ofG {l : PySem.W.OpenLaw} {n k : Nat} {q : Program} {loose : List Str} {XP : (Str → Option Value) → Heap → Prop} {YP : World → Heap → Prop} {d : DefRec} {K : Params → PySem.W.Frag} {x : Str}
    (hn : l.most = some n) (hn2 : n ≤ sizeLine) (hdf : d.params.defaults = []) (hr : Room k callerA) (hY : ∀ (w : World) (h : Heap), YP w h → (K w.params).In h)
    (F : ∀ (w : World) (mg : Str → Option Value) (fa : Addr) (h : Heap), YP w h → (K w.params).In h → h.Ns mainGlobals mg → mg d.name = some (.ref fa) → LawAtG l w (K w.params) k n x mg fa h) :
    PySem.W.WalkO q loose XP YP l.row.toRowW d [] (fun f vs => PySem.call f vs) := by
  refine Att.attach_callB hn hdf fun w s₀ s₁ mg mb fa o pm cd doc a vs ns G Y ho hd hcd hmg hobj hints hlen hbits hg => ?_
  have KX := hY w _ Y
  obtain ⟨fd, cs, sp, hT, nT, C, hb, hsp, hF⟩ := F w mg fa _ Y KX G.T.g hmg
  exact law_callG KX G.T.g G.T.b G.T.builtins G.T.nolimit hg hT nT C G.T.bmain hobj hints (Nat.le_trans hlen hn2) hr hF hb fun H hH hS => hsp H a ns hlen hH hS
end Ld
namespace Ld
open PySem PySem.Spec PyProof.Rows L2 LamX
/-! ### what the written part says -/
/-- a def of the module -/
structure GF (K : PySem.W.Frag) (x : Str) (st : Stmt) : Prop where
  ex : ∃ (f : Addr) (fd : FuncData), PySem.W.nsIn K mainGlobals x = some (some (.ref f)) ∧ Fun K x x st f fd
structure GFC (K : PySem.W.Frag) (x : Str) (st : Stmt) (c : Addr) : Prop where
  ex : ∃ (f : Addr) (fd : FuncData), PySem.W.nsIn K mainGlobals x = some (some (.ref f)) ∧ FunC K x x st f fd c
/-- a method -/
structure MF (K : PySem.W.Frag) (C : Addr) (m q : Str) (st : Stmt) : Prop where
  ex : ∃ (f : Addr) (fd : FuncData), PySem.W.findIn K (.ref C) m = some (some (.ref f)) ∧ PySem.W.isFn K (.ref f) = true ∧ Fun K m q st f fd
section
variable {K : PySem.W.Frag} {x q : Str} {st : Stmt} {f C c : Addr} {oc : Value} {od an : Option Addr} {osl : Array (Option Value)} {kV doc pm cdv ct : Value}
theorem gf_mk (a : PySem.W.nsIn K mainGlobals x = some (some (.ref f))) (l : K.lookup f = some ⟨oc, od, .func (PySem.W.fnOf x x (defArgs st) (defBody st) (defScope st) .none kV doc pm an cdv ct), osl⟩) (c : PySem.W.codeIn K cdv x = true) (k : PySem.W.keepIn K (.ref f) = true) : GF K x st :=
  ⟨f, _, a, fun_mk l c k⟩
theorem gfc_mk (a : PySem.W.nsIn K mainGlobals x = some (some (.ref f))) (l : K.lookup f = some ⟨oc, od, .func (PySem.W.fnOf x x (defArgs st) (defBody st) (defScope st) .none kV doc pm an (.ref c) ct), osl⟩) (h : PySem.W.codeIn K (.ref c) x = true) (k : PySem.W.keepIn K (.ref f) = true) : GFC K x st c :=
  ⟨f, _, a, ⟨⟨_, _, _, _, _, _, _, _, rfl, l, h⟩, k⟩⟩
theorem mf_mk {m : Str} (a : PySem.W.findIn K (.ref C) m = some (some (.ref f))) (n : PySem.W.isFn K (.ref f) = true) (l : K.lookup f = some ⟨oc, od, .func (PySem.W.fnOf m q (defArgs st) (defBody st) (defScope st) .none kV doc pm an cdv ct), osl⟩) (c : PySem.W.codeIn K cdv q = true) (k : PySem.W.keepIn K (.ref f) = true) : MF K C m q st :=
  ⟨f, _, a, n, fun_mk l c k⟩
theorem oex_mk {nm q : Str} {N : Addr} {bs bm : List Value} {sn : List Str} {sub : List Value} {ab : Bool} {col : Option Bool} {dd : Option Addr} {m0 m1 m2 m3 m5 : Option Value} (l : K.lookup C = some (excClassObj nm q C N bs bm true sn sub ab col dd m0 m1 m2 m3 m5 "ValueError.__new__")) (r : PySem.HandSPX.refsVE bm = true)
    (sa : PySem.W.findIn K (.ref C) "__setattr__" = some (some (.builtin "object.__setattr__"))) (eC : PySem.W.subIn K (.ref C) (.type "BaseException") = some true) (tC : PySem.W.typeIn K (.ref C) = some (.type "type")) (kC : PySem.W.keepIn K (.ref C) = true) : OexC K C :=
  ⟨⟨_, _, _, _, _, _, _, _, _, _, _, _, _, _, _, l, r⟩, sa, eC, tC, kC⟩
end
/-- one of the module's errors that the law hears -/
structure EF (K : PySem.W.Frag) (x q : Str) (st : Stmt) (CDE D : Addr) : Prop where
  at_ : PySem.W.nsIn K mainGlobals x = some (some (.ref D))
  ox : OexC K D
  ini : MF K D "__init__" q st
  ty : ∀ f : Addr, PySem.W.findIn K (.ref D) "__init__" = some (some (.ref f)) → PySem.W.typeIn K (.ref f) = some (.type "function")
  xf : XfC K D
  ec : ExcC K D
  no : PySem.W.findIn K (.ref D) "value" = some none
  k1 : PySem.W.kitOne K (.ref D) (.ref CDE) = some true
  k2 : PySem.W.kitOne K (.ref D) (.type "ValueError") = some true
/-- all of it -/
structure AllF (K : PySem.W.Frag) (C CDE CD CN CX c1 c2 c3 : Addr) : Prop where
  nb : ∀ x : Str, x ∈ (["isinstance", "int", "bool", "list", "tuple", "str", "len", "all", "enumerate", "sorted", "dict", "set", "repr", "range", "abs", "max", "min", "divmod", "ValueError"] : List Str) → PySem.W.nsIn K mainGlobals x = some none
  le : ∃ t, PySem.W.nsIn K mainGlobals "LETTERS" = some (some (.str letters t))
  ml : ∃ t, PySem.W.nsIn K mainGlobals "MOST_LETTERS" = some (some (.int 6 t))
  ze : ∃ t, PySem.W.nsIn K mainGlobals "ZERO" = some (some (.str "day" t))
  mf : ∃ t, PySem.W.nsIn K mainGlobals "MOST_FILMS" = some (some (.int 4 t))
  mn : ∃ t, PySem.W.nsIn K mainGlobals "MOST_LANDS" = some (some (.int 4 t))
  mw : ∃ t, PySem.W.nsIn K mainGlobals "MOST_WAYS" = some (some (.int 3 t))
  isInt : GF K "is_integer" sIsInteger
  isCount : GF K "is_count" sIsCount
  isList : GF K "is_list" sIsList
  isName : GF K "is_name" sIsName
  isMoment : GF K "is_moment" sIsMoment
  isPoint : GF K "is_point" sIsPoint
  wrong : GF K "wrong_name" sWrongName
  wantName : GF K "want_name" sWantName
  wantNames : GF K "want_names" sWantNames
  wantFew : GF K "want_few" sWantFew
  wantPoints : GF K "want_points" sWantPoints
  dayOf : GF K "day_of" sDayOf
  pot : GF K "_law_pot" sPot
  draw : GF K "_law_draw" sDraw
  pick : GF K "_law_pick" sPick
  some_ : GF K "_law_some" sSome
  chart : GF K "_law_chart" sChart
  pact : GF K "_law_pact" sPact
  deal : GF K "_law_deal" sDeal
  lcells : GF K "_law_cells" sLCells
  stretch : GF K "_law_stretch" sStretch
  heard : GF K "_law_heard" sHeard
  right : GF K "_law_right" sRight
  law : GF K "law" sLaw
  daysR : GFC K "_law_days_right" sDaysR c1
  spoiltR : GFC K "_law_spoilt_right" sSpoiltR c2
  pairR : GFC K "_law_pair_right" sPairR c3
  atC : PySem.W.nsIn K mainGlobals "Deal" = some (some (.ref C))
  cls : Cls K C
  no : ∀ f : Str, f ∈ (["own_name", "own_house", "own_films", "own_lands", "own_ways", "own_begin", "own_end", "is_alone", "own_price"] : List Str) → NoAttr K C f
  kp : PySem.W.keepIn K (.ref C) = true
  makes : PySem.W.makesIn K C = true
  kit : PySem.W.kitOne K (.ref C) (.ref C) = some true
  kitT : ∀ T : String, T ∈ ["NoneType", "bool", "int", "str", "list", "tuple", "dict"] → PySem.W.kitOne K (.type T) (.ref C) = some false
  ha : PySem.W.findIn K (.ref C) "__class__" = some (some (.builtin "object.__class__"))
  hn : PySem.W.specialIn K (.builtin "object.__class__") "__get__" = some (some (.builtin "getset_descriptor.__get__"))
  htk : PySem.W.takesIn K (.builtin "object.__class__") = some true
  hm : PySem.W.mroIn K C (.type "object") = some true
  andT : ∀ T : String, T ∈ ["NoneType", "bool", "int", "str", "list", "tuple", "dict"] → AndT K C T
  sf : PySem.W.selfFirst K C = true
  nr : PySem.W.findIn K (.ref C) "__rand__" = some none
  init : MF K C "__init__" "Deal.__init__" sInit
  cells : MF K C "cells" "Deal.cells" sCells
  moments : MF K C "moments" "Deal.moments" sMoments
  points : MF K C "points" "Deal.points" sPoints
  days : MF K C "days" "Deal.days" sDays
  isOn : MF K C "is_on" "Deal.is_on" sIsOn
  touches : MF K C "touches" "Deal.touches" sTouches
  and_ : MF K C "__and__" "Deal.__and__" sAnd
  repr : MF K C "__repr__" "Deal.__repr__" sRepr
  eb : PySem.W.nsIn K mainGlobals "DaysError" = some (some (.ref CDE))
  ed : EF K "InvalidDates" "InvalidDates.__init__" sDatesI CDE CD
  en : EF K "InvalidNumber" "InvalidNumber.__init__" sNumI CDE CN
  ex : EF K "InvalidDeal" "InvalidDeal.__init__" sDealXI CDE CX
  dd : PySem.W.exmOne K (.ref CD) (.ref CD) = some true
  nd : PySem.W.exmOne K (.ref CN) (.ref CD) = some false
  nn : PySem.W.exmOne K (.ref CN) (.ref CN) = some true
  xd : PySem.W.exmOne K (.ref CX) (.ref CD) = some false
  xn : PySem.W.exmOne K (.ref CX) (.ref CN) = some false
  xx : PySem.W.exmOne K (.ref CX) (.ref CX) = some true
section
variable {P : Program} {w : World} {K : PySem.W.Frag} {mg : Str → Option Value} {base h : Heap} {C CDE CD CN CX c1 c2 c3 P1 P2 P3 : Addr}
theorem kbinds_mk {x qual : Str} {st : Stmt} {f : Addr} {fd : FuncData} {ps ks : List Str} {n : Nat} (F : Fun K x qual st f fd)
    (h : ∀ (kV doc pm : Value) (an : Option Addr) (cdv ct : Value) (us ws : List Value), us.length = 1 → ws.length = n → bindArgs (PySem.W.fnOf x qual (defArgs st) (defBody st) (defScope st) .none kV doc pm an cdv ct) ⟨us, ks.zip ws⟩ = pure (ps.zip (us ++ ws))) (ne : ps.length ≠ 0) : KBinds K fd ps ks (gK n) (gK n) := by
  refine ⟨fun s us ws X hl => ?_, fun r t => gK_rel r t⟩
  obtain ⟨oc, od, kV, doc, pm, an, cdv, ct, osl, rfl, lk, hcd⟩ := F.ex
  unfold gK at hl ⊢
  by_cases c : us.length = 1 ∧ ws.length = n
  · rw [if_pos c]
    exact .of_eq (h kV doc pm an cdv ct us ws c.1 c.2)
  · rw [if_neg c] at hl
    exact absurd hl.symm ne
theorem sbinds_mk {x qual : Str} {st : Stmt} {f : Addr} {fd : FuncData} {ps ks : List Str} (F : Fun K x qual st f fd)
    (h : ∀ (kV doc pm : Value) (an : Option Addr) (cdv ct : Value) (us ws : List Value), us.length = 1 → ws.length = 2 → bindArgs (PySem.W.fnOf x qual (defArgs st) (defBody st) (defScope st) .none kV doc pm an cdv ct) ⟨us, ks.zip ws⟩ = pure (ps.zip (us ++ ws.reverse))) (ne : ps.length ≠ 0) : KBinds K fd ps ks gS gS := by
  refine ⟨fun s us ws X hl => ?_, fun r t => gS_rel r t⟩
  obtain ⟨oc, od, kV, doc, pm, an, cdv, ct, osl, rfl, lk, hcd⟩ := F.ex
  unfold gS at hl ⊢
  by_cases c : us.length = 1 ∧ ws.length = 2
  · rw [if_pos c]
    exact .of_eq (h kV doc pm an cdv ct us ws c.1 c.2)
  · rw [if_neg c] at hl
    exact absurd hl.symm ne
theorem init_binds {f : Addr} {fd : FuncData} (F : Fun K "__init__" "Deal.__init__" sInit f fd) : KBn K fd ["self", "name", "house", "films", "lands", "ways", "begin", "end", "alone", "price"] 8 ["alone", "price"] (fun us ws => us ++ ws) (fun vs zs => vs ++ zs) := by
  refine ⟨fun s us ws X h1 h2 => ?_, fun r t => r.append t⟩
  obtain ⟨oc, od, kV, doc, pm, an, cdv, ct, osl, rfl, lk, hcd⟩ := F.ex
  exact match us, ws, h1, h2 with | [_, _, _, _, _, _, _, _], [_, _], _, _ => .of_eq rfl
theorem days_kb {f : Addr} {fd : FuncData} (F : Fun K "days" "Deal.days" sDays f fd) : KBinds K fd ["self", "dates"] ["dates"] (gK 1) (gK 1) :=
  kbinds_mk F (fun _ _ _ _ _ _ us ws h1 h2 => match us, ws, h1, h2 with | [_], [_], _, _ => rfl) (by decide)
theorem touches_kb {f : Addr} {fd : FuncData} (F : Fun K "touches" "Deal.touches" sTouches f fd) : KBinds K fd ["self", "other"] ["other"] (gK 1) (gK 1) :=
  kbinds_mk F (fun _ _ _ _ _ _ us ws h1 h2 => match us, ws, h1, h2 with | [_], [_], _, _ => rfl) (by decide)
theorem isOn_kb {f : Addr} {fd : FuncData} (F : Fun K "is_on" "Deal.is_on" sIsOn f fd) : KBinds K fd ["self", "dates", "day"] ["day", "dates"] gS gS :=
  sbinds_mk F (fun _ _ _ _ _ _ us ws h1 h2 => match us, ws, h1, h2 with | [_], [_, _], _, _ => rfl) (by decide)
end
end Ld
namespace Ld
open PySem PySem.Spec PyProof.Rows L2 LamX
section
variable {P : Program} {w : World} {K : PySem.W.Frag} {mg : Str → Option Value} {base h : Heap} {C CDE CD CN CX c1 c2 c3 P1 P2 P3 : Addr}
theorem GF.gok {x : Str} {st : Stmt} {cx : CXT} {k : Nat} {ps : List Str} {sp : Sp} (g : GF K x st) (X : K.In h) (G : h.Ns mainGlobals mg) (O : ∀ {f : Addr} {fd : FuncData}, Fun K x x st f fd → FnOk P w K mg base cx k f fd ps sp)
    (b : ∀ (kV doc pm : Value) (an : Option Addr) (cdv ct : Value) (us : List Value), us.length = ps.length → bindArgs (PySem.W.fnOf x x (defArgs st) (defBody st) (defScope st) .none kV doc pm an cdv ct) ⟨us, []⟩ = pure (ps.zip us)) : GOk P w K mg base cx k x sp := by
  obtain ⟨f, fd, a, F⟩ := g.ex
  exact gok_mk F (PySem.W.mg_of X G a) (O F) (F.binds b)
theorem MF.mok {m q : Str} {st : Stmt} {cx : CXT} {k : Nat} {ps : List Str} {sp : Sp} (g : MF K C m q st) (O : ∀ {f : Addr} {fd : FuncData}, Fun K m q st f fd → FnOk P w K mg base cx k f fd ps sp)
    (b : ∀ (kV doc pm : Value) (an : Option Addr) (cdv ct : Value) (us : List Value), us.length = ps.length → bindArgs (PySem.W.fnOf m q (defArgs st) (defBody st) (defScope st) .none kV doc pm an cdv ct) ⟨us, []⟩ = pure (ps.zip us)) : MOk P w K mg base cx k C m sp := by
  obtain ⟨f, fd, a, n, F⟩ := g.ex
  exact ⟨f, fd, ps, ⟨a, n, F.kp⟩, O F, F.binds b⟩
theorem EF.err {x q : Str} {st : Stmt} {D : Addr} (e : EF K x q st CDE D) (X : K.In h) (G : h.Ns mainGlobals mg) (O : ∀ {f : Addr} {fd : FuncData}, Fun K "__init__" q st f fd → FnOk P w K mg base CX0 1 f fd ["self", "value"] (spErr D))
    (b : ∀ (kV doc pm : Value) (an : Option Addr) (cdv ct : Value) (us : List Value), us.length = 2 → bindArgs (PySem.W.fnOf "__init__" q (defArgs st) (defBody st) (defScope st) .none kV doc pm an cdv ct) ⟨us, []⟩ = pure ((["self", "value"] : List Str).zip us)) : ErrC P w K mg base x D := by
  obtain ⟨f, fd, a, n, F⟩ := e.ini.ex
  exact ⟨e.ox, PySem.W.mg_of X G e.at_, f, fd, _, a, e.ty f a, O F, F.binds b⟩
theorem EF.herr {x q : Str} {st : Stmt} {D : Addr} (e : EF K x q st CDE D) (X : K.In h) (G : h.Ns mainGlobals mg) : HErr K mg x CDE D := ⟨PySem.W.mg_of X G e.at_, e.xf, e.ec, e.no, e.k1, e.k2⟩
theorem GFC.gok {x : Str} {st : Stmt} {c : Addr} {cx : CXT} {k : Nat} {ps : List Str} {sp : Sp} (g : GFC K x st c) (X : K.In h) (G : h.Ns mainGlobals mg) (O : ∀ {f : Addr} {fd : FuncData}, FunC K x x st f fd c → FnG P w K mg base cx k f fd ps sp)
    (b : ∀ (kV doc pm : Value) (an : Option Addr) (cdv ct : Value) (us : List Value), us.length = ps.length → bindArgs (PySem.W.fnOf x x (defArgs st) (defBody st) (defScope st) .none kV doc pm an cdv ct) ⟨us, []⟩ = pure (ps.zip us)) : GOkG P w K mg base cx k x sp := by
  obtain ⟨f, fd, a, F⟩ := g.ex
  obtain ⟨oc, od, kV, doc, pm, an, ct, osl, e1, e2, e3⟩ := F.ex
  have F' : Fun K x x st f fd := ⟨⟨oc, od, kV, doc, pm, an, .ref c, ct, osl, e1, e2, e3⟩, F.kp⟩
  exact ⟨f, fd, ps, PySem.W.mg_of X G a, F.kp, O F, F'.binds b⟩
theorem sc_errD : FnScope ["self", "value"] ["self", "value"] (defScope sDatesI) := ⟨rfl, rfl, rfl, by decide +kernel, rfl, by decide +kernel, by decide +kernel⟩
theorem sc_errX : FnScope ["self", "value"] ["self", "value"] (defScope sDealXI) := ⟨rfl, rfl, rfl, by decide +kernel, rfl, by decide +kernel, by decide +kernel⟩
/-- what the tables are told to hold -/
def TT (P1 P2 P3 : Addr) : List (Addr × Str) := [(P1, ("_law_days_right" : Str) ++ ".<locals>." ++ "<lambda>"), (P2, ("_law_spoilt_right" : Str) ++ ".<locals>." ++ "<lambda>"), (P3, ("_law_pair_right" : Str) ++ ".<locals>." ++ "<lambda>")]
theorem all_mk {fa : Addr} (X : K.In h) (G : h.Ns mainGlobals mg) (hfa : mg "law" = some (.ref fa)) (A : AllF K C CDE CD CN CX c1 c2 c3) (n12 : P1 ≠ P2) (n13 : P1 ≠ P3) (n23 : P2 ≠ P3) :
    ∃ fd : FuncData, (∀ (s : Shared) (u : Value), BindsTo s fd ⟨[u], []⟩ [("_law_script", u)]) ∧ ∀ base : Heap, TabB base mg c1 P1 → TabB base mg c2 P2 → TabB base mg c3 P3 → FnG P w K mg base CX0 9 fa fd ["_law_script"] (spLaw K (TT P1 P2 P3)) := by
  obtain ⟨f, fd, a, FL⟩ := A.law.ex
  have e := hfa.symm.trans (PySem.W.mg_of X G a)
  cases e
  refine ⟨fd, fun s u => ?_, fun base T1 T2 T3 => ?_⟩
  · obtain ⟨oc, od, kV, doc, pm, an, cdv, ct, osl, rfl, _⟩ := FL.ex
    exact .of_eq rfl
  · have none_of : ∀ x, PySem.W.nsIn K mainGlobals x = some none → mg x = none := fun x z => PySem.W.mg_none_of X G z
    have gv : ∀ {x : Str} {v : Value}, PySem.W.nsIn K mainGlobals x = some (some v) → mg x = some v := fun z => PySem.W.mg_of X G z
    have nb : NB mg := fun x hx => none_of x (A.nb x hx)
    have B : Cs mg := by
      obtain ⟨t1, e1⟩ := A.le
      obtain ⟨t2, e2⟩ := A.ml
      obtain ⟨t3, e3⟩ := A.ze
      obtain ⟨t4, e4⟩ := A.mf
      obtain ⟨t5, e5⟩ := A.mn
      obtain ⟨t6, e6⟩ := A.mw
      exact ⟨nb, ⟨_, gv e1, ⟨_, rfl⟩⟩, ⟨_, gv e2, ⟨_, rfl⟩⟩, ⟨_, gv e3, ⟨_, rfl⟩⟩, ⟨_, gv e4, ⟨_, rfl⟩⟩, ⟨_, gv e5, ⟨_, rfl⟩⟩, ⟨_, gv e6, ⟨_, rfl⟩⟩⟩
    have D : DealK K mg C := { cls := A.cls, no := A.no, at_ := gv A.atC, kp := A.kp, kit := A.kit, kitT := A.kitT, ha := A.ha, hn := A.hn, htk := A.htk, hm := A.hm, andT := A.andT }
    have gInt : GOk P w K mg base CX0 1 "is_integer" spIsInt := A.isInt.gok X G (fun F => ok_isInt F (nb _ (by decide)) (nb _ (by decide)) (nb _ (by decide))) fun _ _ _ _ _ _ us hl => match us, hl with | [_], _ => rfl
    have gCount : GOk P w K mg base CX0 2 "is_count" spIsCount := A.isCount.gok X G (fun F => ok_isCount F gInt) fun _ _ _ _ _ _ us hl => match us, hl with | [_], _ => rfl
    have gList : GOk P w K mg base CX0 1 "is_list" spIsList := A.isList.gok X G (fun F => ok_isList F B) fun _ _ _ _ _ _ us hl => match us, hl with | [_], _ => rfl
    have gName : GOk P w K mg base CX0 1 "is_name" spIsName := A.isName.gok X G (fun F => ok_isName F B) fun _ _ _ _ _ _ us hl => match us, hl with | [_], _ => rfl
    have gMoment : GOk P w K mg base CX0 2 "is_moment" spIsMoment := A.isMoment.gok X G (fun F => ok_isMoment F B gName) fun _ _ _ _ _ _ us hl => match us, hl with | [_], _ => rfl
    have gPoint : GOk P w K mg base CX0 3 "is_point" spIsPoint := A.isPoint.gok X G (fun F => ok_isPoint F B gMoment gInt) fun _ _ _ _ _ _ us hl => match us, hl with | [_], _ => rfl
    have gWantName : GOk P w K mg base CX0 2 "want_name" spWantName := A.wantName.gok X G (fun F => ok_wantName F gName) fun _ _ _ _ _ _ us hl => match us, hl with | [_], _ => rfl
    have gWantNames : GOk P w K mg base CX0 3 "want_names" spWantNames := by
      obtain ⟨g, gd, ga, FN⟩ := A.isName.ex
      have bN : Binds K gd ["value"] [] := FN.binds fun _ _ _ _ _ _ us hl => match us, hl with | [_], _ => rfl
      have gWrong : GOk P w K mg base CX0 2 "wrong_name" (spWrong g) := A.wrong.gok X G (fun F => ok_wrong F B (ok_isName FN B) FN.kp bN) fun _ _ _ _ _ _ us hl => match us, hl with | [_, _], _ => rfl
      exact A.wantNames.gok X G (fun F => ok_wantNames F B (gv ga) gList gWrong) fun _ _ _ _ _ _ us hl => match us, hl with | [_], _ => rfl
    have gWantFew : GOk P w K mg base CX0 1 "want_few" spWantFew := A.wantFew.gok X G (fun F => ok_wantFew F B) fun _ _ _ _ _ _ us hl => match us, hl with | [_, _, _], _ => rfl
    have gWantPoints : GOk P w K mg base CX0 4 "want_points" spWantPoints := A.wantPoints.gok X G (fun F => ok_wantPoints F gPoint) fun _ _ _ _ _ _ us hl => match us, hl with | [_, _], _ => rfl
    have gDayOf : GOk P w K mg base CX0 1 "day_of" spDayOf := A.dayOf.gok X G (fun F => ok_dayOf F B) fun _ _ _ _ _ _ us hl => match us, hl with | [_, _], _ => rfl
    have gPot : GOk P w K mg base CX0 1 "_law_pot" (spPot K) := A.pot.gok X G (fun F => ok_pot F B) fun _ _ _ _ _ _ us hl => match us, hl with | [_, _], _ => rfl
    have gDraw : GOk P w K mg base CX0 1 "_law_draw" spDraw := A.draw.gok X G (fun F => ok_draw F B) fun _ _ _ _ _ _ us hl => match us, hl with | [_, _], _ => rfl
    have gPick : GOk P w K mg base CX0 2 "_law_pick" spPick := A.pick.gok X G (fun F => ok_pick F B gDraw) fun _ _ _ _ _ _ us hl => match us, hl with | [_, _], _ => rfl
    have gSome : GOk P w K mg base CX0 2 "_law_some" spSome := A.some_.gok X G (fun F => ok_some F B gDraw) fun _ _ _ _ _ _ us hl => match us, hl with | [_, _, _], _ => rfl
    have gChart : GOk P w K mg base CX0 3 "_law_chart" spChart := A.chart.gok X G (fun F => ok_chart F B gDraw gSome) fun _ _ _ _ _ _ us hl => match us, hl with | [_, _, _, _], _ => rfl
    have gPact : GOk P w K mg base CX0 3 "_law_pact" spPact := A.pact.gok X G (fun F => ok_pact F B gDraw gSome gPick) fun _ _ _ _ _ _ us hl => match us, hl with | [_, _, _, _], _ => rfl
    have mkC : MkOk P w K mg base C := by
      obtain ⟨f1, fd1, a1, n1, F1⟩ := A.init.ex
      exact ⟨f1, fd1, _, ⟨A.makes, a1, n1, A.kp⟩, ok_init F1 B D.toDealC gWantName gWantNames gWantFew gWantPoints gCount, init_binds F1⟩
    have gDeal : GOk P w K mg base CX0 7 "_law_deal" (spDeal C) := A.deal.gok X G (fun F => ok_deal F D.at_ mkC) fun _ _ _ _ _ _ us hl => match us, hl with | [_], _ => rfl
    have gLCells : GOk P w K mg base CX0 1 "_law_cells" spLCells := A.lcells.gok X G (fun F => ok_lcells F B) fun _ _ _ _ _ _ us hl => match us, hl with | [_], _ => rfl
    have gStretch : GOk P w K mg base CX0 1 "_law_stretch" spStretch := A.stretch.gok X G (fun F => ok_stretch F) fun _ _ _ _ _ _ us hl => match us, hl with | [_, _], _ => rfl
    have eD : ErrC P w K mg base "InvalidDates" CD := A.ed.err X G (fun F => ok_err sc_errD ⟨_, _, _, _, rfl⟩ F A.ed.ox A.ed.no rfl rfl) fun _ _ _ _ _ _ us hl => match us, hl with | [_, _], _ => rfl
    have eN : ErrC P w K mg base "InvalidNumber" CN := A.en.err X G (fun F => ok_err sc_err ⟨_, _, _, _, rfl⟩ F A.en.ox A.en.no rfl rfl) fun _ _ _ _ _ _ us hl => match us, hl with | [_, _], _ => rfl
    have eX : ErrC P w K mg base "InvalidDeal" CX := A.ex.err X G (fun F => ok_err sc_errX ⟨_, _, _, _, rfl⟩ F A.ex.ox A.ex.no rfl rfl) fun _ _ _ _ _ _ us hl => match us, hl with | [_, _], _ => rfl
    have mCells : MOk P w K mg base CX0 1 C "cells" (spCells C) := A.cells.mok (fun F => ok_cells F D.toDealC) fun _ _ _ _ _ _ us hl => match us, hl with | [_], _ => rfl
    have mMoments : MOk P w K mg base CX0 1 C "moments" (spMoments C) := A.moments.mok (fun F => ok_moments F B D.toDealC) fun _ _ _ _ _ _ us hl => match us, hl with | [_], _ => rfl
    have mDays : MOk P w K mg base (L2N.CX P w) 3 C "days" (spDays C CD) := A.days.mok (fun F => ok_days F B D.toDealC eD gInt gDayOf mMoments) fun _ _ _ _ _ _ us hl => match us, hl with | [_, _], _ => rfl
    have mIsOn : MOk P w K mg base (L2N.CX P w) 4 C "is_on" (spIsOn C CD CN) := A.isOn.mok (fun F => ok_isOn F D eN gInt mDays) fun _ _ _ _ _ _ us hl => match us, hl with | [_, _, _], _ => rfl
    have aAnd : AOk P w K mg base (L2N.CX P w) 3 C (spAnd K C CX) := by
      obtain ⟨f1, fd1, a1, n1, F1⟩ := A.and_.ex
      exact ⟨f1, fd1, _, ⟨A.sf, a1, n1, A.nr⟩, ok_and F1 B D eX mCells, F1.binds fun _ _ _ _ _ _ us hl => match us, hl with | [_, _], _ => rfl⟩
    have mTouches : MOk P w K mg base (L2N.CX P w) 4 C "touches" (spTouches K C CX) := A.touches.mok (fun F => ok_touches F D aAnd) fun _ _ _ _ _ _ us hl => match us, hl with | [_, _], _ => rfl
    have R : ROk P w K mg base C := by
      obtain ⟨f1, fd1, a1, n1, F1⟩ := A.repr.ex
      obtain ⟨f2, fd2, a2, n2, F2⟩ := A.points.ex
      exact ⟨f1, fd1, a1, n1, ok_repr F1 B D.toDealC ⟨a2, n2, F2.kp⟩ (ok_points F2 D.toDealC) (F2.binds fun _ _ _ _ _ _ us hl => match us, hl with | [_], _ => rfl), F1.binds fun _ _ _ _ _ _ us hl => match us, hl with | [_], _ => rfl⟩
    have Lk : LK P w K mg base C CDE CD CN CX :=
      { B := B, D := D, R := R, HK := ⟨gv A.eb, A.ed.herr X G, A.en.herr X G, A.ex.herr X G, A.dd, A.nd, A.nn, A.xd, A.xn, A.xx⟩
        heard := by
          obtain ⟨f1, fd1, a1, F1⟩ := A.heard.ex
          exact ⟨f1, fd1, F1, gv a1, F1.binds fun _ _ _ _ _ _ us hl => match us, hl with | [_], _ => rfl⟩
        days := mDays
        daysK := by
          obtain ⟨f1, fd1, a1, n1, F1⟩ := A.days.ex
          exact ⟨f1, fd1, _, ⟨a1, n1, F1.kp⟩, ok_days F1 B D.toDealC eD gInt gDayOf mMoments, days_kb F1⟩
        isOn := mIsOn
        isOnK := by
          obtain ⟨f1, fd1, a1, n1, F1⟩ := A.isOn.ex
          exact ⟨f1, fd1, _, ⟨a1, n1, F1.kp⟩, ok_isOn F1 D eN gInt mDays, isOn_kb F1⟩
        touches := mTouches
        touchesK := by
          obtain ⟨f1, fd1, a1, n1, F1⟩ := A.touches.ex
          exact ⟨f1, fd1, _, ⟨a1, n1, F1.kp⟩, ok_touches F1 D aAnd, touches_kb F1⟩
        and_ := aAnd
        pick := gPick
        stretch := gStretch
        lcells := gLCells }
    have t1 : Tb base mg (TT P1 P2 P3) (("_law_days_right" : Str) ++ ".<locals>.") c1 P1 := ⟨T1, by simp [TT], fun p hp e => by
      simp only [TT, List.mem_cons, List.not_mem_nil, or_false] at hp
      rcases hp with rfl | rfl | rfl
      · rfl
      · exact absurd e.symm n12
      · exact absurd e.symm n13⟩
    have t2 : Tb base mg (TT P1 P2 P3) (("_law_spoilt_right" : Str) ++ ".<locals>.") c2 P2 := ⟨T2, by simp [TT], fun p hp e => by
      simp only [TT, List.mem_cons, List.not_mem_nil, or_false] at hp
      rcases hp with rfl | rfl | rfl
      · exact absurd e n12
      · rfl
      · exact absurd e.symm n23⟩
    have t3 : Tb base mg (TT P1 P2 P3) (("_law_pair_right" : Str) ++ ".<locals>.") c3 P3 := ⟨T3, by simp [TT], fun p hp e => by
      simp only [TT, List.mem_cons, List.not_mem_nil, or_false] at hp
      rcases hp with rfl | rfl | rfl
      · exact absurd e n13
      · exact absurd e n23
      · rfl⟩
    have gDaysR : GOkG P w K mg base CX0 7 "_law_days_right" (spDaysR (TT P1 P2 P3) C) := A.daysR.gok X G (fun F => ok_daysR Lk F t1) fun _ _ _ _ _ _ us hl => match us, hl with | [_, _, _, _, _], _ => rfl
    have gSpoilt : GOkG P w K mg base CX0 7 "_law_spoilt_right" (spSpoilt (TT P1 P2 P3) C) := A.spoiltR.gok X G (fun F => ok_spoilt Lk F t2) fun _ _ _ _ _ _ us hl => match us, hl with | [_, _, _, _, _], _ => rfl
    have gPairR : GOkG P w K mg base CX0 7 "_law_pair_right" (spPairR (TT P1 P2 P3) C) := A.pairR.gok X G (fun F => ok_pairR Lk F t3) fun _ _ _ _ _ _ us hl => match us, hl with | [_, _, _, _, _], _ => rfl
    have Rk : RK P w K mg base C (TT P1 P2 P3) := ⟨B, gDraw, gPick, gChart, gPact, gDeal, gDaysR, gSpoilt, gPairR⟩
    have gRight : GOkG P w K mg base CX0 8 "_law_right" (spRight (TT P1 P2 P3)) := by
      obtain ⟨f1, fd1, a1, F1⟩ := A.right.ex
      exact ⟨f1, fd1, _, gv a1, F1.kp, ok_right Rk F1, F1.binds fun _ _ _ _ _ _ us hl => match us, hl with | [_], _ => rfl⟩
    exact ok_law B (nb _ (by decide)) (nb _ (by decide)) gPot gRight FL
end
end Ld

namespace Ld
open PySem PySem.Spec PyProof.Rows L2 LamX
theorem noA {K : PySem.W.Frag} {C : Addr} {f : Str} (h : PySem.W.findIn K (.ref C) f = some none) : NoAttr K C f := h
theorem ty_mk {K : PySem.W.Frag} {D g : Addr} {x : Str} (h : PySem.W.findIn K (.ref D) x = some (some (.ref g))) (t : PySem.W.typeIn K (.ref g) = some (.type "function")) : ∀ f : Addr, PySem.W.findIn K (.ref D) x = some (some (.ref f)) → PySem.W.typeIn K (.ref f) = some (.type "function") := fun f e => by
  rw [h] at e
  cases e
  exact t
theorem law_at {l : PySem.W.OpenLaw} {w : World} {K : PySem.W.Frag} {mg : Str → Option Value} {fa C CDE CD CN CX c1 c2 c3 P1 P2 P3 : Addr} {h : Heap} {n : Nat} (hn : n < 2 ^ 40) (X : K.In h) (G : h.Ns mainGlobals mg) (hfa : mg "law" = some (.ref fa)) (hT : ∀ P ∈ [P3, P2, P1], h.get? P = some tab0)
    (k1 : K.lookup P1 = none) (k2 : K.lookup P2 = none) (k3 : K.lookup P3 = none) (d1 : PySem.W.codeHdIn K c1 P1 = true) (d2 : PySem.W.codeHdIn K c2 P2 = true) (d3 : PySem.W.codeHdIn K c3 P3 = true) (n12 : P1 ≠ P2) (n13 : P1 ≠ P3) (n23 : P2 ≠ P3) (A : AllF K C CDE CD CN CX c1 c2 c3) :
    LawAtG l w K 9 n "_law_script" mg fa h := by
  obtain ⟨fd, hb, hF⟩ := all_mk (P := l.prog) (w := w) X G hfa A n12 n13 n23
  refine ⟨fd, [(c1, P1), (c2, P2), (c3, P3)], _, fun p hp => ?_, fun p hp => ?_, fun p hp => ?_, hb, fun H a ns hl hH hS => ⟨a, ns, rfl, hS, Nat.lt_of_le_of_lt hl hn, fun p hp => ?_, fun _ => rfl⟩, fun base KX GX TB => hF base (TB (c1, P1) (by simp)) (TB (c2, P2) (by simp)) (TB (c3, P3) (by simp))⟩
  · simp only [List.mem_cons, List.not_mem_nil, or_false] at hp
    rcases hp with rfl | rfl | rfl <;> exact hT _ (by simp)
  · simp only [List.mem_cons, List.not_mem_nil, or_false] at hp
    rcases hp with rfl | rfl | rfl
    · exact k1
    · exact k2
    · exact k3
  · simp only [List.mem_cons, List.not_mem_nil, or_false] at hp
    rcases hp with rfl | rfl | rfl
    · exact PySem.W.codeHd_of_K X d1
    · exact PySem.W.codeHd_of_K X d2
    · exact PySem.W.codeHd_of_K X d3
  · simp only [TT, List.mem_cons, List.not_mem_nil, or_false] at hp
    rcases hp with rfl | rfl | rfl
    · exact TabS.nil (hH (c1, P1) (by simp))
    · exact TabS.nil (hH (c2, P2) (by simp))
    · exact TabS.nil (hH (c3, P3) (by simp))
end Ld
open PySem PySem.W PyProof.Rows
set_option maxRecDepth 100000 in
set_option maxHeartbeats 0 in
theorem PySem.Challenge.cw_letdays_k23_whole_days_of_deals_holds : PySem.Challenge.rw_letdays_k23_whole_days_of_deals.Holds := by
  w_on; o_law; k_head; (case hw => w_witness2)
  k_fill
  refine Ld.walk_ofG (k := 9) (x := "_law_script") (by first | rfl | decide +kernel) (by first | decide | decide +kernel) rfl ⟨rfl, by decide, by decide⟩ (fun w h Y => km_in_of Y) fun w mg fa h Y KX G hmg => ?_
  have hT := km_tabs_of Y
  refine Ld.law_at (C := 475) (CDE := 78) (CD := 155) (CN := 136) (CX := 174) (c1 := 563) (c2 := 568) (c3 := 573) (P1 := 559) (P2 := 566) (P3 := 571) (by decide) KX G hmg hT (by kernel_rfl) (by kernel_rfl) (by kernel_rfl) (by kernel_rfl) (by kernel_rfl) (by kernel_rfl) (by decide) (by decide) (by decide)
    { nb := List.forall_mem_cons.mpr ⟨by k_is, List.forall_mem_cons.mpr ⟨by k_is, List.forall_mem_cons.mpr ⟨by k_is, List.forall_mem_cons.mpr ⟨by k_is, List.forall_mem_cons.mpr ⟨by k_is, List.forall_mem_cons.mpr ⟨by k_is, List.forall_mem_cons.mpr ⟨by k_is, List.forall_mem_cons.mpr ⟨by k_is, List.forall_mem_cons.mpr ⟨by k_is, List.forall_mem_cons.mpr ⟨by k_is, List.forall_mem_cons.mpr ⟨by k_is, List.forall_mem_cons.mpr ⟨by k_is, List.forall_mem_cons.mpr ⟨by k_is, List.forall_mem_cons.mpr ⟨by k_is, List.forall_mem_cons.mpr ⟨by k_is, List.forall_mem_cons.mpr ⟨by k_is, List.forall_mem_cons.mpr ⟨by k_is, List.forall_mem_cons.mpr ⟨by k_is, List.forall_mem_cons.mpr ⟨by k_is, List.forall_mem_nil _⟩⟩⟩⟩⟩⟩⟩⟩⟩⟩⟩⟩⟩⟩⟩⟩⟩⟩⟩,
      le := ⟨_, by k_is⟩,
      ml := ⟨_, by k_is⟩,
      ze := ⟨_, by k_is⟩,
      mf := ⟨_, by k_is⟩,
      mn := ⟨_, by k_is⟩,
      mw := ⟨_, by k_is⟩,
      isInt := Ld.gf_mk (by k_is) (by k_is) (by k_is) (by k_is),
      isCount := Ld.gf_mk (by k_is) (by k_is) (by k_is) (by k_is),
      isList := Ld.gf_mk (by k_is) (by k_is) (by k_is) (by k_is),
      isName := Ld.gf_mk (by k_is) (by k_is) (by k_is) (by k_is),
      isMoment := Ld.gf_mk (by k_is) (by k_is) (by k_is) (by k_is),
      isPoint := Ld.gf_mk (by k_is) (by k_is) (by k_is) (by k_is),
      wrong := Ld.gf_mk (by k_is) (by k_is) (by k_is) (by k_is),
      wantName := Ld.gf_mk (by k_is) (by k_is) (by k_is) (by k_is),
      wantNames := Ld.gf_mk (by k_is) (by k_is) (by k_is) (by k_is),
      wantFew := Ld.gf_mk (by k_is) (by k_is) (by k_is) (by k_is),
      wantPoints := Ld.gf_mk (by k_is) (by k_is) (by k_is) (by k_is),
      dayOf := Ld.gf_mk (by k_is) (by k_is) (by k_is) (by k_is),
      pot := Ld.gf_mk (by k_is) (by k_is) (by k_is) (by k_is),
      draw := Ld.gf_mk (by k_is) (by k_is) (by k_is) (by k_is),
      pick := Ld.gf_mk (by k_is) (by k_is) (by k_is) (by k_is),
      some_ := Ld.gf_mk (by k_is) (by k_is) (by k_is) (by k_is),
      chart := Ld.gf_mk (by k_is) (by k_is) (by k_is) (by k_is),
      pact := Ld.gf_mk (by k_is) (by k_is) (by k_is) (by k_is),
      deal := Ld.gf_mk (by k_is) (by k_is) (by k_is) (by k_is),
      lcells := Ld.gf_mk (by k_is) (by k_is) (by k_is) (by k_is),
      stretch := Ld.gf_mk (by k_is) (by k_is) (by k_is) (by k_is),
      heard := Ld.gf_mk (by k_is) (by k_is) (by k_is) (by k_is),
      right := Ld.gf_mk (by k_is) (by k_is) (by k_is) (by k_is),
      law := Ld.gf_mk (by k_is) (by k_is) (by k_is) (by k_is),
      daysR := Ld.gfc_mk (by k_is) (by k_is) (by k_is) (by k_is),
      spoiltR := Ld.gfc_mk (by k_is) (by k_is) (by k_is) (by k_is),
      pairR := Ld.gfc_mk (by k_is) (by k_is) (by k_is) (by k_is),
      atC := by k_is,
      cls := ⟨by k_is, by k_is, by k_is, by k_is⟩,
      no := List.forall_mem_cons.mpr ⟨Ld.noA (by k_is), List.forall_mem_cons.mpr ⟨Ld.noA (by k_is), List.forall_mem_cons.mpr ⟨Ld.noA (by k_is), List.forall_mem_cons.mpr ⟨Ld.noA (by k_is), List.forall_mem_cons.mpr ⟨Ld.noA (by k_is), List.forall_mem_cons.mpr ⟨Ld.noA (by k_is), List.forall_mem_cons.mpr ⟨Ld.noA (by k_is), List.forall_mem_cons.mpr ⟨Ld.noA (by k_is), List.forall_mem_cons.mpr ⟨Ld.noA (by k_is), List.forall_mem_nil _⟩⟩⟩⟩⟩⟩⟩⟩⟩,
      kp := by k_is,
      makes := by k_is,
      kit := by kernel_rfl,
      kitT := List.forall_mem_cons.mpr ⟨by kernel_rfl, List.forall_mem_cons.mpr ⟨by kernel_rfl, List.forall_mem_cons.mpr ⟨by kernel_rfl, List.forall_mem_cons.mpr ⟨by kernel_rfl, List.forall_mem_cons.mpr ⟨by kernel_rfl, List.forall_mem_cons.mpr ⟨by kernel_rfl, List.forall_mem_cons.mpr ⟨by kernel_rfl, List.forall_mem_nil _⟩⟩⟩⟩⟩⟩⟩,
      ha := by k_is,
      hn := by k_is,
      htk := by k_is,
      hm := by k_is,
      andT := List.forall_mem_cons.mpr ⟨⟨⟨_, by k_is⟩, ⟨_, by k_is⟩, by k_is⟩, List.forall_mem_cons.mpr ⟨⟨⟨_, by k_is⟩, ⟨_, by k_is⟩, by k_is⟩, List.forall_mem_cons.mpr ⟨⟨⟨_, by k_is⟩, ⟨_, by k_is⟩, by k_is⟩, List.forall_mem_cons.mpr ⟨⟨⟨_, by k_is⟩, ⟨_, by k_is⟩, by k_is⟩, List.forall_mem_cons.mpr ⟨⟨⟨_, by k_is⟩, ⟨_, by k_is⟩, by k_is⟩, List.forall_mem_cons.mpr ⟨⟨⟨_, by k_is⟩, ⟨_, by k_is⟩, by k_is⟩, List.forall_mem_cons.mpr ⟨⟨⟨_, by k_is⟩, ⟨_, by k_is⟩, by k_is⟩, List.forall_mem_nil _⟩⟩⟩⟩⟩⟩⟩,
      sf := by k_is,
      nr := by k_is,
      init := Ld.mf_mk (by k_is) (by k_is) (by k_is) (by k_is) (by k_is),
      cells := Ld.mf_mk (by k_is) (by k_is) (by k_is) (by k_is) (by k_is),
      moments := Ld.mf_mk (by k_is) (by k_is) (by k_is) (by k_is) (by k_is),
      points := Ld.mf_mk (by k_is) (by k_is) (by k_is) (by k_is) (by k_is),
      days := Ld.mf_mk (by k_is) (by k_is) (by k_is) (by k_is) (by k_is),
      isOn := Ld.mf_mk (by k_is) (by k_is) (by k_is) (by k_is) (by k_is),
      touches := Ld.mf_mk (by k_is) (by k_is) (by k_is) (by k_is) (by k_is),
      and_ := Ld.mf_mk (by k_is) (by k_is) (by k_is) (by k_is) (by k_is),
      repr := Ld.mf_mk (by k_is) (by k_is) (by k_is) (by k_is) (by k_is),
      eb := by k_is,
      ed := { at_ := by k_is, ox := Ld.oex_mk (by k_is) (by first | rfl | decide +kernel) (by k_is) (by k_is) (by k_is) (by k_is), ini := Ld.mf_mk (by k_is) (by k_is) (by k_is) (by k_is) (by k_is), ty := Ld.ty_mk (by k_is) (by k_is), xf := ⟨by k_is, by k_is, by k_is, by k_is⟩, ec := ⟨by k_is, by k_is, by k_is, by k_is, by k_is, by k_is, by k_is, by k_is⟩, no := by k_is, k1 := by kernel_rfl, k2 := by kernel_rfl },
      en := { at_ := by k_is, ox := Ld.oex_mk (by k_is) (by first | rfl | decide +kernel) (by k_is) (by k_is) (by k_is) (by k_is), ini := Ld.mf_mk (by k_is) (by k_is) (by k_is) (by k_is) (by k_is), ty := Ld.ty_mk (by k_is) (by k_is), xf := ⟨by k_is, by k_is, by k_is, by k_is⟩, ec := ⟨by k_is, by k_is, by k_is, by k_is, by k_is, by k_is, by k_is, by k_is⟩, no := by k_is, k1 := by kernel_rfl, k2 := by kernel_rfl },
      ex := { at_ := by k_is, ox := Ld.oex_mk (by k_is) (by first | rfl | decide +kernel) (by k_is) (by k_is) (by k_is) (by k_is), ini := Ld.mf_mk (by k_is) (by k_is) (by k_is) (by k_is) (by k_is), ty := Ld.ty_mk (by k_is) (by k_is), xf := ⟨by k_is, by k_is, by k_is, by k_is⟩, ec := ⟨by k_is, by k_is, by k_is, by k_is, by k_is, by k_is, by k_is, by k_is⟩, no := by k_is, k1 := by kernel_rfl, k2 := by kernel_rfl },
      dd := by kernel_rfl,
      nd := by kernel_rfl,
      nn := by kernel_rfl,
      xd := by kernel_rfl,
      xn := by kernel_rfl,
      xx := by kernel_rfl }
