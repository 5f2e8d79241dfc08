import PyProof.Rows.All
import Wide.All
import OpenK.AllK
import Wide.FinOn
import HandS.ForMost
import HandS.ForExc
import HandS.Defaults
import PySem.Challenge.RW_allbrokers_k25_whole_watchers
import KE.KDictKeyed
import KE.KDictCopyH
import KE.KDictDisplayH
import HandS.Conv
import KE.KDictOf
import KE.KDictSum
import KE.SortData
import KE.GoesComp
import KE.GoesMore
import HandS.Star
import HandS.MakeKwOnly
import HandS.Property
import HandS.HotCalls
import HandS.IterVal
import HandS.OwnIter
import PyProof.TupleIter
import HandS.NoneIn
import HandS.IsInst
import HandS.Text
import HandS.Walk
import HandS.DictComp
import HandS.More
import HandS.Zip
import HandS.TupAny
import HandS.TryOnly
import KE.KStateDown
import HandS.Head0
import HandS.Head1
import HandS.Head2
import HandS.HeadEnd
import HandS.HeadHook1
import HandS.HeadHook2
set_option Elab.async false
set_option linter.all false
set_option maxRecDepth 100000
set_option maxHeartbeats 0
/-! K25: the text by places. -/
namespace K25
open PySem PySem.Spec L2
def top (i : Nat) : Stmt := PySem.Challenge.pw_allbrokers_k25_whole_watchers.main.body.getD i (.Pass ⟨0, 0, 0, 0⟩)
abbrev sIsNum : Stmt := top 10
abbrev sIsWord : Stmt := top 11
abbrev sIsStep : Stmt := top 12
abbrev sMInit : Stmt := inClass (top 13) 0
abbrev sCheckKinds : Stmt := top 16
abbrev sVInit : Stmt := inClass (top 17) 0
abbrev sVClosed : Stmt := inClass (top 17) 1
abbrev sVStart : Stmt := inClass (top 17) 2
abbrev sVBehind : Stmt := inClass (top 17) 3
abbrev sVHas : Stmt := inClass (top 17) 5
abbrev sIsTrace : Stmt := top 18
abbrev sCheckAsked : Stmt := top 20
abbrev sWatch : Stmt := top 21
abbrev sClosed : Stmt := top 22
abbrev sWInit : Stmt := inClass (top 23) 0
abbrev sWAbout : Stmt := inClass (top 23) 1
abbrev sWSet : Stmt := inClass (top 23) 2
abbrev sWAsk : Stmt := inClass (top 23) 3
abbrev sWSee : Stmt := inClass (top 23) 4
abbrev sWCall : Stmt := inClass (top 23) 5
abbrev sWKnown : Stmt := inClass (top 23) 6
abbrev sWLen : Stmt := inClass (top 23) 7
abbrev sWIter : Stmt := inClass (top 23) 8
abbrev sDraw : Stmt := top 25
abbrev sMachine : Stmt := top 26
abbrev sLaw : Stmt := top 28
/-- a def of the text, without defaults -/
abbrev FnP (K : PySem.W.Frag) (x q : Str) (st : Stmt) (f : Addr) (fd : FuncData) : Prop := FunD K x q (defArgs st) (defBody st) (defScope st) [] [] f fd

theorem scIsNum : FnScope ["thing"] ["thing"] (defScope sIsNum) := ⟨rfl, rfl, rfl, by decide +kernel, rfl, by decide +kernel, by decide +kernel⟩
theorem scIsWord : FnScope ["thing", "sign"] ["thing"] (defScope sIsWord) := ⟨rfl, rfl, rfl, by decide +kernel, rfl, by decide +kernel, by decide +kernel⟩
theorem scIsStep : FnScope ["thing", "many", "known", "state", "kind", "seen", "goal", "one"] ["thing", "many", "known"] (defScope sIsStep) := ⟨rfl, rfl, rfl, by decide +kernel, rfl, by decide +kernel, by decide +kernel⟩
theorem scMInit : FnScope ["self", "many", "steps", "known", "place", "step", "state"] ["self", "many", "steps"] (defScope sMInit) := ⟨rfl, rfl, rfl, by decide +kernel, rfl, by decide +kernel, by decide +kernel⟩
theorem scCheckKinds : FnScope ["free", "kind", "one", "late"] ["free"] (defScope sCheckKinds) := ⟨rfl, rfl, rfl, by decide +kernel, rfl, by decide +kernel, by decide +kernel⟩
theorem scVInit : FnScope ["self", "machine", "free", "state", "kind", "seen", "goal"] ["self", "machine", "free"] (defScope sVInit) := ⟨rfl, rfl, rfl, by decide +kernel, rfl, by decide +kernel, by decide +kernel⟩
theorem scVClosed : FnScope ["self", "states", "found", "rest", "goal", "state"] ["self", "states"] (defScope sVClosed) := ⟨rfl, rfl, rfl, by decide +kernel, rfl, by decide +kernel, by decide +kernel⟩
theorem scVStart : FnScope ["self"] ["self"] (defScope sVStart) := ⟨rfl, rfl, rfl, by decide +kernel, rfl, by decide +kernel, by decide +kernel⟩
theorem scVBehind : FnScope ["self", "states", "word", "state", "seen", "goal"] ["self", "states", "word"] (defScope sVBehind) := ⟨rfl, rfl, rfl, by decide +kernel, rfl, by decide +kernel, by decide +kernel⟩
theorem scVHas : FnScope ["self", "trace", "states", "word"] ["self", "trace"] (defScope sVHas) := ⟨rfl, rfl, rfl, by decide +kernel, rfl, by decide +kernel, by decide +kernel⟩
theorem scIsTrace : FnScope ["machine", "trace", "free"] ["machine", "trace", "free"] (defScope sIsTrace) := ⟨rfl, rfl, rfl, by decide +kernel, rfl, by decide +kernel, by decide +kernel⟩
theorem scCheckAsked : FnScope ["kind", "free"] ["kind", "free"] (defScope sCheckAsked) := ⟨rfl, rfl, rfl, by decide +kernel, rfl, by decide +kernel, by decide +kernel⟩
theorem scWatch : FnScope ["machine", "trace", "free", "found", "kind", "states", "word", "late", "state", "is_fallen", "first", "fall", "seen", "goal", "told"] ["machine", "trace", "free"] (defScope sWatch) := ⟨rfl, rfl, rfl, by decide +kernel, rfl, by decide +kernel, by decide +kernel⟩
theorem scClosed : FnScope ["machine", "free", "kind", "states", "found", "rest", "state", "is_fallen", "first", "fall", "seen", "goal", "late"] ["machine", "free", "kind", "states"] (defScope sClosed) := ⟨rfl, rfl, rfl, by decide +kernel, rfl, by decide +kernel, by decide +kernel⟩
theorem scWInit : FnScope ["self", "machine", "free", "about"] ["self", "machine", "free", "about"] (defScope sWInit) := ⟨rfl, rfl, rfl, by decide +kernel, rfl, by decide +kernel, by decide +kernel⟩
theorem scWAbout : FnScope ["self"] ["self"] (defScope sWAbout) := ⟨rfl, rfl, rfl, by decide +kernel, rfl, by decide +kernel, by decide +kernel⟩
theorem scWSet : FnScope ["self", "about"] ["self", "about"] (defScope sWSet) := ⟨rfl, rfl, rfl, by decide +kernel, rfl, by decide +kernel, by decide +kernel⟩
theorem scWAsk : FnScope ["self", "about"] ["self", "about"] (defScope sWAsk) := ⟨rfl, rfl, rfl, by decide +kernel, rfl, by decide +kernel, by decide +kernel⟩
theorem scWSee : FnScope ["self", "words", "found", "seen", "word", "told"] ["self", "words"] (defScope sWSee) := ⟨rfl, rfl, rfl, by decide +kernel, rfl, by decide +kernel, by decide +kernel⟩
theorem scWCall : FnScope ["self", "word"] ["self", "word"] (defScope sWCall) := ⟨rfl, rfl, rfl, by decide +kernel, rfl, by decide +kernel, by decide +kernel⟩
theorem scWKnown : FnScope ["self"] ["self"] (defScope sWKnown) := ⟨rfl, rfl, rfl, by decide +kernel, rfl, by decide +kernel, by decide +kernel⟩
theorem scWLen : FnScope ["self"] ["self"] (defScope sWLen) := ⟨rfl, rfl, rfl, by decide +kernel, rfl, by decide +kernel, by decide +kernel⟩
theorem scWIter : FnScope ["self"] ["self"] (defScope sWIter) := ⟨rfl, rfl, rfl, by decide +kernel, rfl, by decide +kernel, by decide +kernel⟩
theorem scDraw : FnScope ["_law_script", "_law_at", "_law_many", "_law_row", "_law_cell", "_law_turn", "_law_step", "_law_mixed"] ["_law_script", "_law_at", "_law_many"] (defScope sDraw) := ⟨rfl, rfl, rfl, by decide +kernel, rfl, by decide +kernel, by decide +kernel⟩
theorem scMachine : FnScope ["_law_script", "_law_at", "_law_most", "_law_kinds", "_law_words", "_law_many", "_law_steps", "_law_turn", "_law_spot", "_law_kind", "_law_seen", "_law_first"] ["_law_script", "_law_at", "_law_most", "_law_kinds", "_law_words"] (defScope sMachine) := ⟨rfl, rfl, rfl, by decide +kernel, rfl, by decide +kernel, by decide +kernel⟩
theorem scLaw : FnScope ["_law_script", "_law_many", "_law_steps", "_law_machine_here", "_law_free", "_law_watcher", "_law_words", "_law_turn", "_law_more", "_law_is_fine", "_law_told", "_law_due", "_law_bad", "_law_before", "_law_spot", "_law_size"] ["_law_script"] (defScope sLaw) := ⟨rfl, rfl, rfl, by decide +kernel, rfl, by decide +kernel, by decide +kernel⟩
end K25

/-! K25: dicts used as sets, their keys tuples of ints, bools, texts (all values True). -/
namespace K25
open PySem PySem.Spec PyProof.Rows L2
/-- a flat value as a part of a key -/
def nk : V → NestedKey
  | .int i => .num i
  | .bl b => .num (if b = true then 1 else 0)
  | .str x => .text x
  | _ => .none
def flat1 : V → Bool
  | .int _ => true
  | .bl _ => true
  | .str _ => true
  | _ => false
def nkT (k : List V) : NestedKey := .tup (k.map nk)
/-- an entry: the key's items, the address of the key's tuple -/
abbrev En := List V × Addr
def enX (p : En) : NestedKey × Addr × Value := (nkT p.1, p.2, .bool true)
theorem nk_is {h : Heap} {v : V} {u : Value} (r : RelV v u) (f : flat1 v = true) : NestedIs h (nk v) u := by
  cases v with
  | int i => obtain ⟨t, e⟩ := (show ∃ t, u = Value.int i t from r); subst e; exact .int _ _
  | bl b => cases (show u = Value.bool b from r); exact .bool rfl
  | str x => obtain ⟨t, e⟩ := (show ∃ t, u = Value.str x t from r); subst e; exact .text _ _
  | _ => cases f
theorem nk_all {h : Heap} : ∀ {vs : List V} {us : List Value}, Vals vs us → vs.all flat1 = true → NestedAll h (vs.map nk) us
  | [], _, .nil, _ => .nil
  | v :: vs, _, .cons r t, f => by
    rw [List.all_cons, Bool.and_eq_true] at f
    exact .cons (nk_is r f.1) (nk_all t f.2)
theorem nk_depth : ∀ vs : List V, NestedKey.depthAll (vs.map nk) = 0
  | [] => rfl
  | v :: vs => by
    show max (NestedKey.depth (nk v)) (NestedKey.depthAll (vs.map nk)) = 0
    rw [nk_depth vs]
    cases v <;> rfl
theorem nkT_depth (k : List V) : (nkT k).depth ≤ 8 := by
  show NestedKey.depthAll (k.map nk) + 1 ≤ 8
  rw [nk_depth]; decide
section
variable {P : Program} {w : World} {H : Hp} {h : Heap} {a d : Addr} {k : List V} {xs : List En}
/-- a tracked tuple of flat values is a key -/
theorem key_at (ok : HOk P w H h) (e : H a = some (.tup k)) (f : k.all flat1 = true) : (nestedKind P w).is h (nkT k) a := by
  obtain ⟨_, its, r, o, h1, h2, n, h3⟩ := (show ObjOk P w H h a (.tup k) from ok a _ e)
  exact ⟨.tup h1 h2 h3 (by simpa using nk_all r f), nkT_depth k⟩
/-- the object alone -/
def dsP (P : Program) (w : World) (d : Addr) (xs : List En) : Heap → Prop := fun h => (d == sysModules) = false ∧ ∃ o es ep, h.get? d = some o ∧ o.ExactDict ∧ o.data = .dict es ep ∧
  es.toList = (xs.map enX).map (entryOfKey (nestedKind P w)) ∧ ((xs.map enX).map (·.1)).Nodup
def dsO (P : Program) (w : World) (d : Addr) (xs : List En) : HO := .ext (dsP P w d xs)
theorem dsO_ok (x : dsP P w d xs h) : ObjOk P w H h d (dsO P w d xs) := by
  refine ⟨x, ?_, ?_⟩
  · obtain ⟨_, o, _, _, e, _⟩ := x; exact ⟨o, e⟩
  · rintro h1 h2 ⟨z, o, es, ep, e, r⟩ k
    exact ⟨z, o, es, ep, k o e, r⟩
/-- the keys' tuples -/
def Keys (H : Hp) (xs : List En) : Prop := ∀ p ∈ xs, H p.2 = some (.tup p.1) ∧ p.1.all flat1 = true
theorem Keys.same {H' : Hp} (k : Keys H xs) (s : Same H H') : Keys H' xs := fun p hp => ⟨s _ _ (k p hp).1, (k p hp).2⟩
theorem Keys.upd {ob : HO} (k : Keys H xs) (e : ∀ ys, H d ≠ some (.tup ys)) : Keys (upd H d ob) xs := fun p hp => by
  refine ⟨?_, (k p hp).2⟩
  rw [upd_ne fun z => e p.1 (by rw [← z]; exact (k p hp).1)]
  exact (k p hp).1
theorem ds_dict (ok : HOk P w H h) (x : dsP P w d xs h) (ks : Keys H xs) : h.DictOfH (nestedKind P w) d (xs.map enX) := by
  obtain ⟨_, o, es, ep, e, r1, r2, r3, r4⟩ := x
  refine ⟨o, es, ep, e, r1, r2, r3, fun y hy => ?_, r4⟩
  obtain ⟨p, hp, rfl⟩ := List.mem_map.mp hy
  exact key_at ok (ks p hp).1 (ks p hp).2
theorem ds_of (x : h.DictOfH (nestedKind P w) d (xs.map enX)) (hd : (d == sysModules) = false) : dsP P w d xs h := by
  obtain ⟨o, es, ep, e, r1, r2, r3, _, r4⟩ := x
  exact ⟨hd, o, es, ep, e, r1, r2, r3, r4⟩
/-- a dict of that kind that may be read -/
def DsR (P : Program) (w : World) (H : Hp) (d : Addr) (xs : List En) : Prop := Rd H d (dsO P w d xs) ∧ Keys H xs
theorem DsR.of (e : H d = some (dsO P w d xs)) (k : Keys H xs) : DsR P w H d xs := ⟨.inl e, k⟩
theorem DsR.phi (x : DsR P w H d xs) (ok : HOk P w H h) : dsP P w d xs h := by
  have q := x.1.ok ok
  exact (show ObjOk P w H h d (.ext (dsP P w d xs)) from q).1
theorem DsR.dict (x : DsR P w H d xs) (ok : HOk P w H h) : h.DictOfH (nestedKind P w) d (xs.map enX) := ds_dict ok (x.phi ok) x.2
end
/-- is a key there -/
def hasE (xs : List En) (k : List V) : Bool := xs.any fun p => decide (nkT p.1 = nkT k)
def putE (xs : List En) (k : List V) (b : Addr) : List En := if hasE xs k = true then xs else xs ++ [(k, b)]
theorem atKey_has : ∀ (xs : List En) (k : List V), (atKey (xs.map enX) (nkT k)).isSome = hasE xs k
  | [], _ => rfl
  | p :: xs, k => by
    have ih := atKey_has xs k
    unfold atKey hasE at *
    rw [List.map_cons, List.find?_cons, List.any_cons]
    by_cases e : nkT p.1 = nkT k
    · have e1 : decide ((enX p).1 = nkT k) = true := decide_eq_true e
      rw [e1, decide_eq_true e]
      rfl
    · have e1 : decide ((enX p).1 = nkT k) = false := decide_eq_false e
      rw [e1, decide_eq_false e, Bool.false_or]
      exact ih
theorem putAt_same {k : NestedKey} : ∀ xs : List En, (xs.map enX).map (putAt k (.bool true)) = xs.map enX
  | [] => rfl
  | p :: xs => by
    rw [List.map_cons, List.map_cons, putAt_same xs]
    have e : putAt k (.bool true) (enX p) = enX p := by
      unfold putAt enX
      by_cases c : nkT p.1 = k
      · rw [if_pos c]
      · rw [if_neg c]
    rw [e]
theorem stored_put (xs : List En) (k : List V) (b : Addr) : storedH (xs.map enX) (nkT k) b (.bool true) = (putE xs k b).map enX := by
  unfold storedH putE
  rw [atKey_has]
  by_cases c : hasE xs k = true
  · rw [if_pos c, if_pos c]; exact putAt_same xs
  · rw [if_neg c, if_neg c, List.map_append]
    rfl
theorem putE_len (xs : List En) (k : List V) (b : Addr) : (putE xs k b).length ≤ xs.length + 1 := by
  unfold putE
  split
  · omega
  · rw [List.length_append]; exact Nat.le_refl _
section
variable {X : Cx}
theorem inv_ns {pins : List (Addr × Obj)} {σ : L2.St} {H : Hp} {s : Shared} (I : Inv X pins σ H s) : (s.heap.objs.size == sysModules) = false := beq_eq_false_iff_ne.mpr (Nat.ne_of_gt I.big)
theorem ds_empty {P : Program} {w : World} (h : Heap) (hb : sysModules < h.objs.size) : dsP P w h.objs.size [] (h.push { cls := .type "dict", data := .dict #[] }) :=
  ⟨beq_eq_false_iff_ne.mpr (Nat.ne_of_gt hb), _, #[], 0, Heap.get?_push_size _ rfl, ⟨rfl, rfl, rfl⟩, rfl, rfl, List.nodup_nil⟩
/-- {}, to be such a dict -/
def tDNewS (X : Cx) : TE := fun _ H Q => ∀ p, H p = none → Q (.ref p) (upd H p (dsO X.prog X.w p []))
theorem pe_dnewS {pos : Pos} : PE X (.Dict [] [] pos) (tDNewS X) := ⟨fun pins s σ H Q I h =>
  wpAny_Dict_empty ⟨.ref s.heap.objs.size, _, I.laid (a := s.heap.objs.size) (o := dsO X.prog X.w _ []) (t' := s.toks) (fun _ _ q => Heap.get?_push_of_some _ q) (Nat.le_refl _) (dsO_ok (ds_empty s.heap I.big)), rfl, h _ (I.hok.fresh (Nat.le_refl _))⟩⟩
/-- d[k] = True -/
def rSetS (X : Cx) : TSet := fun o i v H Q => ∃ (d b : Addr) (k : List V) (xs : List En), o = .ref d ∧ i = .ref b ∧ v = .bl true ∧ H d = some (dsO X.prog X.w d xs) ∧ Keys H xs ∧ H b = some (.tup k) ∧ k.all flat1 = true ∧ xs.length ≤ 1000 ∧
  Q (upd H d (dsO X.prog X.w d (putE xs k b)))
theorem set_ds (hu : X.A.units + 20 < cLine) : PSet X (rSetS X) := by
  intro pins s σ H o i v ov iv u Q I r1 r2 r3 h
  obtain ⟨d, b, k, xs, eo, ei, ev, hd, ks, hb, hf, hl, q⟩ := h
  subst eo ei ev
  cases (show ov = Value.ref d from r1)
  cases (show iv = Value.ref b from r2)
  cases (show u = Value.bool true from r3)
  have x : DsR X.prog X.w H d xs := .of hd ks
  have phi := x.phi I.hok
  have hz : (xs.map enX).length ≤ sizeLine := by rw [List.length_map, sizeLine_eq]; omega
  refine wpAny_setItem_heap (knd := nestedKind X.prog X.w) (hsz := hz) (show X.A.in1.units + 8 < cLine from by show X.A.units + 1 + 8 < cLine; omega) (key_at I.hok hb hf) (x.dict I.hok) fun h' dd' hs => ⟨_, ?_, q⟩
  rw [stored_put] at dd'
  have he : ∃ q, h'.get? d = some q := let ⟨q, _, _, hq, _⟩ := dd'; ⟨q, hq⟩
  exact d_write I (by rw [hd]; exact True.intro) hs he (dsO_ok (ds_of dd' phi.1))
/-- k not in d -/
def rNotInS (X : Cx) : R2 := fun x y H Q => ∃ (d b : Addr) (k : List V) (xs : List En), x = .ref b ∧ y = .ref d ∧ DsR X.prog X.w H d xs ∧ H b = some (.tup k) ∧ k.all flat1 = true ∧ Q (.bl (!hasE xs k)) H
theorem op_notinS (hu : X.A.units + 20 < cLine) : OpR X (compareOp .NotIn) (rNotInS X) := by
  intro pins s σ H x y v u Q I rx ry h
  obtain ⟨d, b, k, xs, ex, ey, hd, hb, hf, q⟩ := h
  subst ex ey
  cases (show v = Value.ref b from rx)
  cases (show u = Value.ref d from ry)
  refine wpAny_notIn_heap (knd := nestedKind X.prog X.w) (show X.A.in1.units + 8 < cLine from by show X.A.units + 1 + 8 < cLine; omega) (key_at I.hok hb hf) (hd.phi I.hok).1 (hd.dict I.hok) ?_
  rw [atKey_has]
  exact ⟨.bl (!hasE xs k), H, I.tok _, rfl, q⟩
end
/-! ### for k in d -/
/-- the keys of the locked dict at d -/
def ItS (P : Program) (w : World) (d : Addr) (o : Obj) (xs : List En) : It :=
  ⟨fun i H => H d = some (.frz o (dsO P w d xs)) ∧ i < xs.length, fun i H x H' => H' = H ∧ ∃ p : En, xs[i]? = some p ∧ x = .ref p.2, fun i H => H d = some (.frz o (dsO P w d xs)) ∧ xs.length ≤ i⟩
theorem frzS {X : Cx} {pins : List (Addr × Obj)} {σ : L2.St} {H : Hp} {s : Shared} {d : Addr} {o : Obj} {xs : List En} (I : Inv X pins σ H s) (h : H d = some (.frz o (dsO X.prog X.w d xs))) :
    (d == sysModules) = false ∧ s.heap.get? d = some o ∧ o.ExactDict ∧ ∃ (es : Array DictEntry) (ep : Nat), o.data = .dict es ep ∧ es.size = xs.length ∧ ∀ (i : Nat) (p : En), xs[i]? = some p → ∃ en : DictEntry, es[i]? = some en ∧ en.key = .ref p.2 := by
  obtain ⟨hd, ⟨hs, o', es, ep, ho, hx, hdt, he, _⟩, _⟩ := (show ObjOk X.prog X.w H s.heap d (.frz o (.ext (dsP X.prog X.w d xs))) from I.hok d _ h)
  rw [hd] at ho
  cases ho
  refine ⟨hs, hd, hx, es, ep, hdt, ?_, fun i p e => ?_⟩
  · have l1 : es.size = (xs.map enX).length := size_of_entries he
    rw [l1, List.length_map]
  · have q := entry_at he i
    rw [List.getElem?_map, e] at q
    exact ⟨_, q, rfl⟩
theorem turn_keysS {P : Program} {w : World} {K : PySem.W.Frag} {tg : Expr} {d : Addr} {o : Obj} {es : Array DictEntry} {ep : Nat} {xs : List En} (it : Addr) (hod : o.data = .dict es ep) :
    Turn P w K tg (ItS P w d o xs) [it] it (fun i h => h.IsKeyIter it d i xs.length ep) where
  mem := by simp
  obj := fun i h st b hb => by
    have e : b = it := by simpa using hb
    subst e
    obtain ⟨oi, e, c, dd⟩ := st
    exact ⟨oi, e, fun v z => by rw [dd] at z; cases z⟩
  keep := fun i h h' st k => st.at fun oi e => k it (by simp) oi e
  item := by
    intro X hP hw hK hc i pins s σ H E I hf st hg
    subst hP hw hK
    obtain ⟨hd, hi⟩ := hg
    obtain ⟨f0, f1, f2, f3, f4, f5⟩ := hf it (by simp)
    obtain ⟨hs, hgd, hx, es', ep', hdt, hsz, ent⟩ := frzS I hd
    obtain ⟨rfl, rfl⟩ := dict_ep hod hdt
    obtain ⟨p, hp⟩ : ∃ p, xs[i]? = some p := ⟨xs[i], List.getElem?_eq_getElem hi⟩
    obtain ⟨en, hen, hkey⟩ := ent i p hp
    refine next_key_item st hgd hdt hsz hen fun h' st' sb => ?_
    have I1 : Inv X pins σ H { s with heap := h' } := I.turned (t' := s.toks) (fun b ob hb e => (sb.2 b hb).trans e) f0 f1 f3 f4 f5
    obtain ⟨oi, e, c, dd⟩ := id st'
    exact ⟨en.key, rfl, go_of (s := { s with heap := h' }) e c dd (by decide) ⟨.ref p.2, H, I1, hkey, ⟨rfl, p, hp, rfl⟩, st', fun b hb => (hf b hb).1⟩⟩
  done := by
    intro X hP hw hK hc i pins s σ H E I hf st hg
    subst hP hw hK
    obtain ⟨hd, hi⟩ := hg
    obtain ⟨f0, f1, f2, f3, f4, f5⟩ := hf it (by simp)
    obtain ⟨hs, hgd, hx, es', ep', hdt, hsz, ent⟩ := frzS I hd
    obtain ⟨rfl, rfl⟩ := dict_ep hod hdt
    exact next_key_end (I.ok.hd hc) st hgd hdt hsz hi fun h' eb => ⟨rfl, I.turned (t' := s.toks) (fun b ob hb e => eb b ob hb e) f0 f1 f3 f4 f5⟩
  self := fun A i s Q E st h => wpAny_pyIter_keyiter st h
def iKeysS (X : Cx) (td : TE) : TI := fun σ H R => td σ H fun x H1 => ∃ d o xs, x = .ref d ∧ H1 d = some (.frz o (dsO X.prog X.w d xs)) ∧ R (ItS X.prog X.w d o xs) H1
theorem pi_keysS {X : Cx} {tg e : Expr} {td : TE} (he : PE X e td) : PI X tg e (iKeysS X td) := by
  refine ⟨fun pins s σ H R I h => ?_⟩
  refine thn (he.run pins s σ H _ I h) fun u s1 ⟨x, H1, I1, rx, d, o, xs, ex, hd, q⟩ => ?_
  subst ex
  obtain rfl : u = Value.ref d := rx
  obtain ⟨hs, hgd, hx, es, ep, hdt, hsz, ent⟩ := frzS I1 hd
  refine iter_keys hs hgd hx hdt (pi_one (tk := s1.toks) I1 _ (turn_keysS _ hdt) ⟨_, Heap.get?_push_size _ rfl, rfl, ?_⟩ q)
  rw [hsz] <;> rfl
/-- for over such a dict -/
theorem for_keysS {P : Program} {w : World} {d : Addr} {o : Obj} {xs : List En} {g : TG} {tb : TS} {D : Ends} {σ : L2.St} {H : Hp} (Pv : Nat → L2.St → Hp → Prop) (h0 : Pv 0 σ H) (hl : ∀ i σ H, Pv i σ H → H d = some (.frz o (dsO P w d xs)))
    (hs : ∀ i p σ H, xs[i]? = some p → Pv i σ H → g (.ref p.2) σ H fun σ2 H2 => tb { D with nx := Pv (i + 1), ct := Pv (i + 1), bk := D.nx } σ2 H2) (hd : ∀ σ H, Pv xs.length σ H → D.nx σ H) :
    ∃ W : Nat → Nat → L2.St → Hp → Prop, (∃ m, W 0 m σ H) ∧ ∀ i m σ H, W i m σ H →
      ((ItS P w d o xs).stop i H ∧ D.nx σ H) ∨ ((ItS P w d o xs).go i H ∧ ∃ N : L2.St → Hp → Prop, (∀ σ' H', N σ' H' → ∃ m', m' < m ∧ W (i + 1) m' σ' H') ∧ ∀ x H', (ItS P w d o xs).yld i H x H' → g x σ H' fun σ2 H2 => tb { D with nx := N, ct := N, bk := D.nx } σ2 H2) := by
  refine ⟨fun i m σ H => m = xs.length - i ∧ i ≤ xs.length ∧ Pv i σ H, ⟨xs.length, by simp, Nat.zero_le _, h0⟩, ?_⟩
  rintro i m σ H ⟨rfl, hi, p⟩
  have q := hl i σ H p
  by_cases hlt : i < xs.length
  · refine .inr ⟨⟨q, hlt⟩, Pv (i + 1), fun σ' H' p' => ⟨xs.length - (i + 1), by omega, rfl, hlt, p'⟩, fun x H' y => ?_⟩
    obtain ⟨e, p1, e1, e2⟩ := y
    subst e e2
    exact hs i p1 σ _ e1 p
  · have e : i = xs.length := by omega
    subst e
    exact .inl ⟨⟨q, Nat.le_refl _⟩, hd σ H p⟩
/-- a comprehension over such a dict -/
theorem lc_keysS {P : Program} {w : World} {d : Addr} {o : Obj} {xs : List En} {g : TG} {tt : TT} {te : TE} {vs : List Nat} {σ : L2.St} {H1 : Hp} {D : Addr} {Qd : Hp → Prop} (Pv : Nat → Hp → Prop) (h0 : Pv 0 (upd H1 D (.lst []))) (hl : ∀ i H, Pv i H → H d = some (.frz o (dsO P w d xs)))
    (hs : ∀ i p H, xs[i]? = some p → Pv i H → g (.ref p.2) (wipe σ vs) H fun σ2 H2 => wipe σ2 vs = wipe σ vs ∧ tt σ2 H2 fun b H3 =>
      if b = true then te σ2 H3 fun y H4 => ∃ acc, H4 D = some (.lst acc) ∧ acc.length < sizeLine ∧ Pv (i + 1) (upd H4 D (.lst (acc ++ [y]))) else Pv (i + 1) H3) (hd : ∀ H, Pv xs.length H → Qd H) :
    ∃ W : Nat → Nat → Hp → Prop, (∃ m, W 0 m (upd H1 D (.lst []))) ∧ ∀ i m H, W i m H →
      ((ItS P w d o xs).stop i H ∧ Qd H) ∨ ((ItS P w d o xs).go i H ∧ ∃ Nx : Hp → Prop, (∀ H', Nx H' → ∃ m', m' < m ∧ W (i + 1) m' H') ∧ ∀ x H', (ItS P w d o xs).yld i H x H' → g x (wipe σ vs) H' fun σ2 H2 => wipe σ2 vs = wipe σ vs ∧ tt σ2 H2 fun b H3 =>
        if b = true then te σ2 H3 fun y H4 => ∃ acc, H4 D = some (.lst acc) ∧ acc.length < sizeLine ∧ Nx (upd H4 D (.lst (acc ++ [y]))) else Nx H3) := by
  refine ⟨fun i m H => m = xs.length - i ∧ i ≤ xs.length ∧ Pv i H, ⟨xs.length, by simp, Nat.zero_le _, h0⟩, ?_⟩
  rintro i m H ⟨rfl, hi, p⟩
  have q := hl i H p
  by_cases hlt : i < xs.length
  · refine .inr ⟨⟨q, hlt⟩, Pv (i + 1), fun H' p' => ⟨xs.length - (i + 1), by omega, rfl, hlt, p'⟩, fun x H' y => ?_⟩
    obtain ⟨e, p1, e1, e2⟩ := y
    subst e e2
    exact hs i p1 _ e1 p
  · have e : i = xs.length := by omega
    subst e
    exact .inl ⟨⟨q, Nat.le_refl _⟩, hd H p⟩
/-! ### list(d), dict(d) -/
section
variable {X : Cx}
theorem vals_keys (xs : List En) : Vals (xs.map fun p => V.ref p.2) (xs.map fun p => Value.ref p.2) := by
  induction xs with
  | nil => exact .nil
  | cons p xs ih => exact .cons rfl ih
def rListS (X : Cx) : List V → Hp → VK → Prop := fun vs H Q => ∃ (d : Addr) (xs : List En), vs = [.ref d] ∧ DsR X.prog X.w H d xs ∧ xs.length ≤ 1000 ∧ ∀ p, H p = none → Q (.ref p) (upd H p (.lst (xs.map fun e => V.ref e.2)))
theorem call_listS (hc : X.calm = true) : CallR X (.type "list") (rListS X) := by
  intro pins s σ H vs us Q I r h
  obtain ⟨d, xs, ev, x, hl, q⟩ := h
  subst ev
  obtain ⟨u, eu, ru⟩ := vals1 r
  subst eu
  cases (show u = Value.ref d from ru)
  obtain ⟨lo, o, es, ep, ho, hx, hdt, he, _⟩ := x.phi I.hok
  have hsz : es.size = xs.length := by rw [size_of_entries he, List.length_map]
  have h16 : es.size ≤ sizeLine := by rw [hsz, sizeLine_eq]; omega
  refine PySem.W.kdl_call (kdl_raw (prog := X.prog) (w := X.w) lo hx hdt) (I.ok.hd hc) ho h16 fun h' tk acc c' hk hD hacc => ?_
  have ea : acc.toList = xs.map fun p => Value.ref p.2 := by
    apply List.ext_getElem?
    intro j
    rw [List.getElem?_map]
    by_cases hj : j < acc.toList.length
    · obtain ⟨en, e1, e2⟩ := hacc.2 j acc.toList[j] (by rw [← Array.getElem?_toList]; exact List.getElem?_eq_getElem hj)
      rw [List.getElem?_eq_getElem hj, e2]
      have q := entry_at he j
      rw [e1, List.getElem?_map] at q
      cases hx : xs[j]? with
      | none => rw [hx] at q; cases q
      | some p =>
        rw [hx] at q
        have e3 := Option.some.inj q
        rw [e3]
        rfl
    · rw [List.getElem?_eq_none (by omega)]
      have : xs.length ≤ j := by rw [Array.length_toList, hacc.1, hsz] at hj; omega
      rw [List.getElem?_eq_none this]
      rfl
  refine ⟨.ref s.heap.objs.size, upd H s.heap.objs.size (.lst (xs.map fun e => V.ref e.2)), I.laid (t' := tk) hk (Nat.le_refl _) ?_, rfl, q _ (I.hok.fresh (Nat.le_refl _))⟩
  exact ⟨by rw [List.length_map, sizeLine_eq]; omega, acc.toList, c', by rw [ea]; exact vals_keys xs, by rw [Array.toArray_toList]; exact hD⟩
end
end K25

/-! K25: more rules for these dicts: dict(d), {k: True}, {x: True for x in xs}, sorted(d). -/
namespace K25
open PySem PySem.Spec PyProof.Rows L2
section
variable {X : Cx}
/-! ### dict(d) -/
theorem dict_codes {P : Program} {w : World} {A : Around} {E : Value → Shared → Prop} {s : Shared} {o : Addr} {xs : List En} {Q : Value → Shared → Prop} (hu : A.units + 20 < cLine) (hb : sysModules < s.heap.objs.size) (hoS : (o == sysModules) = false)
    (ho : s.heap.DictOfH (nestedKind P w) o (xs.map enX)) (hz : xs.length ≤ 1000) (hap : ((xs.map enX).map fun x => (nestedKind P w).hash x.1).Nodup)
    (h : ∀ h', h'.DictOfH (nestedKind P w) s.heap.objs.size (xs.map enX) → (∀ b u, s.heap.get? b = some u → h'.get? b = some u) → Q (.ref s.heap.objs.size) { s with heap := h' }) :
    wpAny (model P w) A (call (.type "dict") [.ref o]) Q E s := by
  refine callType_codes (Q₁ := fun obj s₁ => obj = .ref s.heap.objs.size ∧ s₁ = { s with heap := s.heap.push { cls := .type "dict", data := .dict #[] } }) F.kt_called_dict (F.kt_typeCall_dict_1 _) F.entry_dict_init (kt_code_dict_new _ ⟨rfl, rfl⟩) ?_
  rintro obj s₁ ⟨rfl, rfl⟩
  have hnew : (s.heap.push { cls := .type "dict", data := .dict #[] }).DictOfH (nestedKind P w) s.heap.objs.size [] := Heap.DictOfH.new s.heap
  have up : ∀ b u, s.heap.get? b = some u → (s.heap.push { cls := .type "dict", data := .dict #[] }).get? b = some u := fun b u e => Heap.get?_push_of_some _ e
  have ho' : (s.heap.push { cls := .type "dict", data := .dict #[] }).DictOfH (nestedKind P w) o (xs.map enX) := by
    obtain ⟨ob, es, ep, e, r1, r2, r3, r4, r5⟩ := ho
    exact ⟨ob, es, ep, up _ _ e, r1, r2, r3, fun x hx => nestedKind_stays.stays (fun b u _ _ e _ => up b u e) (r4 x hx), r5⟩
  have hdo : s.heap.objs.size ≠ o := by
    obtain ⟨_, _, _, hg, _⟩ := ho
    exact fun e => absurd (Heap.lt_size hg) (by rw [e]; exact Nat.lt_irrefl _)
  refine ⟨hnew.typeIs, F.args_dict_init_2 _ _, ?_⟩
  unfold Builtin.«dict.__init__»
  refine wpAny_bind ?_
  unfold Builtin.Dict.selfAndRest
  refine wpAny_bind (wpAny_notOrdered_dict hnew.typeIs ?_)
  show wpAny _ _ (pure (s.heap.objs.size, [Value.ref o])) _ _ _
  refine wpAny_pure ?_
  show wpAny _ _ (Builtin.Dict.updateFrom "dict.__init__" s.heap.objs.size (.ref o) [] .none) _ _ _
  refine updateFrom_dictH (A := A.in1) (knd := nestedKind P w) .none (show A.in1.in1.units + 8 < cLine from by show A.units + 1 + 1 + 8 < cLine; omega) hdo hoS hnew ho' (.inr ⟨keyed_apart nestedKind_stays ho', hap⟩) (by rw [List.length_map, sizeLine_eq]; simp; omega) fun h' hd' _ hs => ?_
  rw [storedAllH_nil_of_nodup _ ho.nodup] at hd'
  exact ⟨rfl, h h' hd' fun b u e => (hs.2 b (Nat.ne_of_lt (Heap.lt_size e))).trans (up b u e)⟩
def rDictS (X : Cx) : List V → Hp → VK → Prop := fun vs H Q => ∃ (d : Addr) (xs : List En), vs = [.ref d] ∧ DsR X.prog X.w H d xs ∧ xs.length ≤ 1000 ∧ ((xs.map enX).map fun x => x.1.hash X.w).Nodup ∧ ∀ p, H p = none → Q (.ref p) (upd H p (dsO X.prog X.w p xs))
theorem call_dictS (hu : X.A.units + 20 < cLine) : CallR X (.type "dict") (rDictS X) := by
  intro pins s σ H vs us Q I r h
  obtain ⟨d, xs, ev, x, hl, hh, q⟩ := h
  subst ev
  obtain ⟨u, eu, ru⟩ := vals1 r
  subst eu
  cases (show u = Value.ref d from ru)
  refine dict_codes hu I.big (x.phi I.hok).1 (x.dict I.hok) hl hh fun h' hd' hk => ?_
  exact ⟨.ref s.heap.objs.size, upd H s.heap.objs.size (dsO X.prog X.w _ xs), I.laid (t' := s.toks) hk (Nat.le_refl _) (dsO_ok (ds_of hd' (inv_ns I))), rfl, q _ (I.hok.fresh (Nat.le_refl _))⟩
/-! ### {k: True}, k a tuple -/
def tDisp1 (X : Cx) (tk tv : TE) : TE := fun σ H Q => ∀ p, H p = none → tPairs [(tk, tv)] σ (upd H p (dsO X.prog X.w p [])) fun ps H2 =>
  ∃ (b : Addr) (k : List V), ps = [(.ref b, .bl true)] ∧ H2 p = some (dsO X.prog X.w p []) ∧ H2 b = some (.tup k) ∧ k.all flat1 = true ∧ Q (.ref p) (upd H2 p (dsO X.prog X.w p [(k, b)]))
theorem pe_disp1 {ke ve : Expr} {tk tv : TE} {pos : Pos} (hu : X.A.units + 20 < cLine) (hk : PE X ke tk) (hv : PE X ve tv) (hsh : (evalEachOpt [some ke] X.env).zip ((evalEach [ve] X.env).map fun v => do let x ← v; standAt pos; pure x) = (pairTrees [some ke] [ve] X.env pos).map fun p => (some p.1, p.2) := by rfl) :
    PE X (.Dict [some ke] [ve] pos) (tDisp1 X tk tv) := by
  refine ⟨fun pins s σ H Q I q => ?_⟩
  have hn := I.hok.fresh (Nat.le_refl s.heap.objs.size)
  have I1 := I.laid (a := s.heap.objs.size) (o := dsO X.prog X.w s.heap.objs.size []) (h' := s.heap.push { cls := .type "dict", data := .dict #[] }) (t' := s.toks) (fun _ _ q => Heap.get?_push_of_some _ q) (Nat.le_refl _) (dsO_ok (ds_empty s.heap I.big))
  have hp : PPs X pos [some ke] [ve] [(tk, tv)] := pps_cons hk hv pps_nil
  rw [arm_eval_Dict, hsh, dictDisplay_pairs _ (by intro z; cases z) (by show 1 < 17; decide)]
  refine wpAny_bind (wpAny_standAt (wpAny_bind (wpAny_subDictH (knd := nestedKind X.prog X.w) (show X.A.units + 8 < cLine by omega) (by show 1 ≤ 15; decide) (thn (hp.run pins _ σ _ _ I1 (q _ hn)) fun ws s2 hh => ?_))))
  obtain ⟨ps, H2, I2, rel, b, k, eps, e, eb, hf, q2⟩ := hh
  subst eps
  cases rel with
  | @cons pv pw pvs pws r1 r2 =>
    cases r2
    obtain ⟨w1, w2⟩ := pw
    obtain ⟨ru, rv⟩ := r1
    obtain rfl : w1 = Value.ref b := ru
    obtain rfl : w2 = Value.bool true := rv
    have nil : ∀ h : Heap, dsP X.prog X.w s.heap.objs.size [] h → h.DictOfH (nestedKind X.prog X.w) s.heap.objs.size [] := fun h ⟨_, o, es, ep, e1, e2, e3, e4, e5⟩ => ⟨o, es, ep, e1, e2, e3, e4, (fun x hx => absurd hx (by simp)), List.nodup_nil⟩
    have phi : dsP X.prog X.w s.heap.objs.size [] s2.heap := (show ObjOk X.prog X.w H2 s2.heap _ (.ext (dsP X.prog X.w s.heap.objs.size [])) from I2.hok _ _ e).1
    refine ⟨[(nkT k, b, .bool true)], ⟨rfl, rfl, key_at I2.hok eb hf, True.intro⟩, nil _ phi, fun h' tk hd' hs => wpAny_pure ?_⟩
    have he : ∃ q, h'.get? s.heap.objs.size = some q := by
      obtain ⟨q, _, _, hq, _⟩ := hd'
      exact ⟨q, hq⟩
    exact ⟨.ref s.heap.objs.size, _, d_write (ob := dsO X.prog X.w s.heap.objs.size [(k, b)]) I2 (by rw [e]; exact True.intro) hs he (dsO_ok (ds_of (xs := [(k, b)]) hd' phi.1)), rfl, q2⟩
/-! ### {x: True for x in xs}, xs a list of tuples -/
def putAll (es : List En) : List En := es.foldl (fun acc p => putE acc p.1 p.2) []
theorem foldl_put_len : ∀ (es acc : List En), (es.foldl (fun acc p => putE acc p.1 p.2) acc).length ≤ acc.length + es.length
  | [], acc => Nat.le_refl _
  | p :: es, acc => by
    have h1 := foldl_put_len es (putE acc p.1 p.2)
    have h2 := putE_len acc p.1 p.2
    show (es.foldl _ (putE acc p.1 p.2)).length ≤ _
    rw [List.length_cons]
    omega
theorem putAll_take {es : List En} {i : Nat} {p : En} (h : es[i]? = some p) : putAll (es.take (i + 1)) = putE (putAll (es.take i)) p.1 p.2 := by
  unfold putAll
  rw [List.take_add_one, h]
  simp [List.foldl_append]
theorem putE_mem {xs : List En} {k : List V} {b : Addr} {p : En} (h : p ∈ putE xs k b) : p ∈ xs ∨ p = (k, b) := by
  unfold putE at h
  split at h
  · exact .inl h
  · rcases List.mem_append.mp h with h | h
    · exact .inl h
    · exact .inr (by simpa using h)
theorem foldl_put_mem {p : En} : ∀ (es acc : List En), p ∈ es.foldl (fun acc p => putE acc p.1 p.2) acc → p ∈ acc ∨ p ∈ es
  | [], acc, h => .inl h
  | q :: es, acc, h => by
    rcases foldl_put_mem es (putE acc q.1 q.2) h with h | h
    · rcases putE_mem h with h | h
      · exact .inl h
      · exact .inr (by rw [h]; exact List.mem_cons_self)
    · exact .inr (List.mem_cons_of_mem _ h)
theorem putAll_mem {es : List En} {p : En} (h : p ∈ putAll es) : p ∈ es := (foldl_put_mem es [] h).elim (fun z => absurd z (by simp)) id
theorem putAll_len (es : List En) : (putAll es).length ≤ es.length := by
  have := foldl_put_len es []
  simpa [putAll] using this
def tDcS (X : Cx) (ti : TE) : TE := fun σ H Q => ti σ H fun v H1 => ∃ (l : Addr) (es : List En), v = .ref l ∧ SqL X.K H1 l (es.map fun e => V.ref e.2) ∧ Keys H1 es ∧ es.length ≤ 1000 ∧ ∀ D, H1 D = none → Q (.ref D) (upd H1 D (dsO X.prog X.w D (putAll es)))
theorem off1 {b N C : Nat} (hb : b < N + 1) (hC : N + 1 ≤ C) : b ≠ C := by omega
theorem pe_dcS {x : Str} {iter : Expr} {ti : TE} {scope : Scope} {j : Nat} {pk pv px pos : Pos} (hc : X.calm = true) (hu : X.A.units + 20 < cLine) (hi : PE X iter ti) (hcell : ∀ y ∈ scope.names, y.2 ≠ .cell) (hfree : ∀ y ∈ scope.names, y.2 ≠ .free) (hkind : scope.kind = .function)
    (hnames : ∀ y ∈ scope.names, y.2 = .local → scope.names.lookup y.1 = some .local) (hx : scope.names.lookup x = some .local) (hdb : (x == ("__debug__" : Str)) = false) (hs : ∀ x, foldedSetIterable iter X.env x = pure x := by intro _; rfl) :
    PE X (.DictComp (.Name x pk) (.Constant (.bool true) j pv) [⟨.Name x px, iter, [], 0⟩] scope pos) (tDcS X ti) := by
  refine ⟨fun pins s0 σ H Q I h => ?_⟩
  refine DictComp_goes (closure_ok fun y hy e => absurd e (hfree y hy)) hcell hkind hnames (thn (hi.run pins s0 σ H _ I h) fun v s hh => ?_) hs
  obtain ⟨vv, H1, I1, r1, l, es, ev, hl, ks, hlen, q⟩ := hh
  subst ev
  obtain rfl : v = Value.ref l := r1
  obtain ⟨its, rv, pl, hz⟩ := I1.list hl
  have hh : X.A.handled = none := I1.ok.hd hc
  have hL := pl.isList
  have hlt : (l : Nat) < s.heap.objs.size := by obtain ⟨o, ho, _⟩ := hL; exact Heap.lt_size ho
  refine wpAny_pyIter_list hL ?_
  refine ⟨_, _, _, _, _, _, rfl, Goes.list hh s.heap.objs.size l (Nat.ne_of_lt hlt) its.toArray, ⟨⟨_, Heap.get?_push_size _ rfl, rfl, rfl⟩, hL.push _⟩, fun D C s₃ hB hnew => ?_⟩
  obtain ⟨⟨h₃, tk₃, rfl⟩, old, nD, nC, hDC, hnm⟩ := hB
  have nC' : (s.heap.objs.size + 1 : Nat) ≤ C := by
    have q : (s.heap.push { cls := .type "list_iterator", data := .fields #[.ref l, .int 0 0] }).objs.size ≤ C := nC
    rw [Heap.size_push] at q
    exact q
  have nD' : (s.heap.objs.size + 1 : Nat) ≤ D := by
    have q : (s.heap.push { cls := .type "list_iterator", data := .fields #[.ref l, .int 0 0] }).objs.size ≤ D := nD
    rw [Heap.size_push] at q
    exact q
  have hDC' : (D : Nat) ≠ C := hDC
  have kx : (compEnvC scope (cloFrom X.env.cells scope.names []) C X.env).kindOf x = some .local := lookup_relabel_local hx
  have hp : ((compEnvC scope (cloFrom X.env.cells scope.names []) C X.env).scope.kind == .class || ((compEnvC scope (cloFrom X.env.cells scope.names []) C X.env).scope.kind == .module && (compEnvC scope (cloFrom X.env.cells scope.names []) C X.env).locals != (compEnvC scope (cloFrom X.env.cells scope.names []) C X.env).globals)) = false := by
    show (scope.kind == .class || (scope.kind == .module && _)) = false
    rw [hkind]; rfl
  have offC : ∀ b : Addr, b < s.heap.objs.size + 1 → b ≠ C := fun b hb => off1 hb nC'
  have offD : ∀ b : Addr, b < s.heap.objs.size + 1 → b ≠ D := fun b hb => off1 hb nD'
  have hD0 : h₃.DictOfH (nestedKind X.prog X.w) D [] := ⟨_, #[], 0, hnew, ⟨rfl, rfl, rfl⟩, rfl, rfl, (fun x hx => absurd hx (by simp)), List.nodup_nil⟩
  have keyH : ∀ p ∈ es, ∀ h' : Heap, (∀ b o, s.heap.get? b = some o → h'.get? b = some o) → (nestedKind X.prog X.w).is h' (nkT p.1) p.2 := fun p hp h' k => key_at (P := X.prog) (w := X.w) (I1.hok.kept k) (ks p hp).1 (ks p hp).2
  refine ⟨fun i s₁ => ∃ h' tk m, s₁ = { s with heap := h', toks := tk } ∧ h'.Ns C m ∧ h'.DictOfH (nestedKind X.prog X.w) D ((putAll (es.take i)).map enX) ∧ ∀ b o, s.heap.get? b = some o → h'.get? b = some o, ⟨h₃, tk₃, _, rfl, hnm, hD0, fun b o e => old b o (Heap.get?_push_of_some _ e)⟩, ?_, ?_, ?_⟩
  · rintro i s₁ h' tk ⟨h₄, tk₄, m, rfl, n₄, d₄, k₄⟩ hk' _
    have nw : ∀ b : Addr, b ≠ s.heap.objs.size → b ∉ [s.heap.objs.size] := fun b hb hm => hb (by simpa using hm)
    have kk : ∀ b o, s.heap.get? b = some o → h'.get? b = some o := fun b o e => hk' b o (nw b (Nat.ne_of_lt (Heap.lt_size e))) (k₄ b o e)
    refine ⟨h', tk, m, rfl, n₄.at' fun o e => hk' _ o (nw _ (Nat.ne_of_gt nC')) e, ?_, kk⟩
    obtain ⟨o, es', ep, e, r1, r2, r3, r4, r5⟩ := d₄
    refine ⟨o, es', ep, hk' _ _ (nw _ (Nat.ne_of_gt nD')) e, r1, r2, r3, fun y hy => ?_, r5⟩
    obtain ⟨p, hp, rfl⟩ := List.mem_map.mp hy
    exact keyH p (List.mem_of_mem_take (putAll_mem hp)) h' kk
  · rintro i v s₁ hi hv st ⟨h₄, tk₄, m, rfl, n₄, d₄, k₄⟩
    have hil : i < es.length := by
      have e1 := rv.length
      rw [List.length_map] at e1
      rw [List.size_toArray] at hi
      omega
    have hei : es[i]? = some es[i] := List.getElem?_eq_getElem hil
    obtain ⟨u, hu1, ru⟩ := rv.get (i := i) (x := V.ref es[i].2) (by rw [List.getElem?_map, hei]; rfl)
    obtain rfl : u = Value.ref es[i].2 := ru
    have hv2 : v = Value.ref es[i].2 := by
      have e1 : its.toArray[i]? = some v := hv
      rw [← Array.getElem?_toList, List.toList_toArray, hu1] at e1
      exact (Option.some.inj e1).symm
    subst hv2
    refine wpAny_assign_Name (wpAny_storeName_local kx n₄ (fun h₅ n₅ s₅ => ?_) hp)
    refine wpAny_tests_nil ?_
    show wpAny _ _ _ _ _ _
    rw [eval_Name _ _ _ hdb]
    refine wpAny_bind (wpAny_standAt (wpAny_loadName_local hkind kx n₅ (v := .ref es[i].2) (if_pos rfl) ?_))
    refine Constant_bool ?_
    have k₅ : ∀ b o, s.heap.get? b = some o → h₅.get? b = some o := fun b o e => s₅.extBut b o (offC b (Nat.lt_succ_of_lt (Heap.lt_size e))) (k₄ b o e)
    have d₅ : h₅.DictOfH (nestedKind X.prog X.w) D ((putAll (es.take i)).map enX) := by
      obtain ⟨o, es', ep, e, r1, r2, r3, r4, r5⟩ := d₄
      refine ⟨o, es', ep, s₅.extBut D o hDC e, r1, r2, r3, fun y hy => ?_, r5⟩
      obtain ⟨p, hp, rfl⟩ := List.mem_map.mp hy
      exact keyH p (List.mem_of_mem_take (putAll_mem hp)) h₅ k₅
    refine wpAny_dictSet_heap (knd := nestedKind X.prog X.w) (show X.A.units + 8 < cLine by omega) (keyH es[i] (List.getElem_mem hil) h₅ k₅) d₅ (fun h₆ d₆ s₆ => ?_) ?_
    · rw [stored_put, ← putAll_take hei] at d₆
      have k₆ : ∀ b o, b ≠ D → h₅.get? b = some o → h₆.get? b = some o := fun b o hb e => (s₆.2 b hb).trans e
      refine ⟨⟨h₆, _, _, rfl, n₅.at' fun o e => k₆ C o (Ne.symm hDC) e, d₆, fun b o e => k₆ b o (offD b (Nat.lt_succ_of_lt (Heap.lt_size e))) (k₅ b o e)⟩, ?_⟩
      exact ⟨st.1.at fun o e => k₆ _ o (offD _ (Nat.lt_succ_self _)) (s₅.extBut _ o (offC _ (Nat.lt_succ_self _)) e), st.2.at fun o e => k₆ _ o (offD _ (Nat.lt_succ_of_lt hlt)) (s₅.extBut _ o (offC _ (Nat.lt_succ_of_lt hlt)) e)⟩
    · rw [List.length_map, sizeLine_eq]
      have h1 := putAll_len (es.take i)
      have h2 := List.length_take_le i es
      have h3 : (es.take i).length ≤ es.length := by rw [List.length_take]; omega
      omega
  · rintro s₁ ⟨h₄, tk₄, m, rfl, n₄, d₄, k₄⟩
    refine ⟨m, n₄, fun h' hs' => ?_⟩
    have kk : ∀ b o, s.heap.get? b = some o → h'.get? b = some o := fun b o e => hs'.extBut b o (offC b (Nat.lt_succ_of_lt (Heap.lt_size e))) (k₄ b o e)
    have lD : s.heap.objs.size ≤ D := Nat.le_of_succ_le nD'
    have hns : (D == sysModules) = false := beq_eq_false_iff_ne.mpr (Nat.ne_of_gt (Nat.lt_of_lt_of_le I1.big lD))
    have el : es.take its.toArray.size = es := by
      have e1 := rv.length
      rw [List.length_map] at e1
      rw [List.size_toArray, ← e1, List.take_length]
    rw [el] at d₄
    refine ⟨.ref D, upd H1 D (dsO X.prog X.w D (putAll es)), I1.laid (t' := tk₄) kk lD (dsO_ok ?_), rfl, q D (I1.hok.fresh lD)⟩
    obtain ⟨o, es', ep, e, r1, r2, r3, r4, r5⟩ := d₄
    exact ⟨hns, o, es', ep, hs'.extBut D o hDC e, r1, r2, r3, r5⟩
/-! ### sorted(d), the keys four items each: int, text, text, int -/
def qKey (a : Int) (b c : Str) (d : Int) : List V := [.int a, .str b, .str c, .int d]
def encQ (p : En) : PyData := match p.1 with
  | [.int a, .str b, .str c, .int d] => .tuple [.int a, .str b, .str c, .int d]
  | _ => .tuple [.int 0, .str Str.empty, .str Str.empty, .int 0]
theorem encQ_shape (p : En) : ∃ a b c d, encQ p = .tuple [.int a, .str b, .str c, .int d] := by
  unfold encQ
  split
  · exact ⟨_, _, _, _, rfl⟩
  · exact ⟨_, _, _, _, rfl⟩
def rSortS (X : Cx) : List V → Hp → VK → Prop := fun vs H Q => ∃ (d : Addr) (xs : List En), vs = [.ref d] ∧ DsR X.prog X.w H d xs ∧ (∀ p ∈ xs, ∃ a b c d, p.1 = qKey a b c d) ∧ xs.length ≤ 1000 ∧
  ∀ (ys : List En) (p : Addr), ys.Perm xs → H p = none → Q (.ref p) (upd H p (.lst (ys.map fun e => V.ref e.2)))
theorem reads_q {P : Program} {w : World} {H : Hp} {h : Heap} {p : En} (ok : HOk P w H h) (e : H p.2 = some (.tup p.1)) (hq : ∃ a b c d, p.1 = qKey a b c d) : Reads h (.ref p.2) (encQ p) [] := by
  obtain ⟨a, b, c, d, ep⟩ := hq
  obtain ⟨_, its, r, o, h1, h2, n, h3⟩ := (show ObjOk P w H h p.2 (.tup p.1) from ok _ _ e)
  have ee : encQ p = .tuple [.int a, .str b, .str c, .int d] := by unfold encQ; rw [ep]; rfl
  rw [ep] at r
  obtain ⟨u1, rs, rfl, e1, r⟩ : ∃ u rs, its = u :: rs ∧ RelV (.int a) u ∧ Vals [.str b, .str c, .int d] rs := by
    cases r with | cons x y => exact ⟨_, _, rfl, x, y⟩
  obtain ⟨u2, rs2, rfl, e2, r⟩ : ∃ u rs2, rs = u :: rs2 ∧ RelV (.str b) u ∧ Vals [.str c, .int d] rs2 := by
    cases r with | cons x y => exact ⟨_, _, rfl, x, y⟩
  obtain ⟨u3, rs3, rfl, e3, r⟩ : ∃ u rs3, rs2 = u :: rs3 ∧ RelV (.str c) u ∧ Vals [.int d] rs3 := by
    cases r with | cons x y => exact ⟨_, _, rfl, x, y⟩
  obtain ⟨u4, rfl, e4⟩ : ∃ u, rs3 = [u] ∧ RelV (.int d) u := by
    cases r with | cons x y => cases y; exact ⟨_, rfl, x⟩
  obtain ⟨t1, rfl⟩ := e1
  obtain ⟨t2, rfl⟩ := e2
  obtain ⟨t3, rfl⟩ := e3
  obtain ⟨t4, rfl⟩ := e4
  rw [ee]
  have h4 : ReadsAll h [Value.int a t1, .str b t2, .str c t3, .int d t4] [.int a, .str b, .str c, .int d] [] := .cons (as := []) (bs := []) (.int _ _) (.cons (as := []) (bs := []) (.str _ _) (.cons (as := []) (bs := []) (.str _ _) (.cons (as := []) (bs := []) (.int _ _) .nil)))
  exact .tuple h1 h2 h3 h4
theorem each_refs (P : Value → En → Prop) : ∀ xs : List En, (∀ p ∈ xs, P (.ref p.2) p) → PySem.W.EachIs P (xs.map fun p => Value.ref p.2) xs
  | [], _ => .nil
  | p :: xs, h => .cons (h p List.mem_cons_self) (each_refs P xs fun q hq => h q (List.mem_cons_of_mem _ hq))
theorem each_out : ∀ {out : List Value} {ys : List En}, PySem.W.EachIs (fun v (p : En) => v = Value.ref p.2) out ys → out = ys.map fun p => Value.ref p.2
  | _, _, .nil => rfl
  | _, _, .cons h t => by rw [h, each_out t]; rfl
theorem call_sortS (hc : X.calm = true) (hu : X.A.units + 20 < cLine) : CallR X (.builtin "sorted") (rSortS X) := by
  intro pins s σ H vs us Q I r h
  obtain ⟨d, xs, ev, x, hq, hl, q⟩ := h
  subst ev
  obtain ⟨u, eu, ru⟩ := vals1 r
  subst eu
  cases (show u = Value.ref d from ru)
  obtain ⟨lo, o, es, ep, ho, hx, hdt, he, _⟩ := x.phi I.hok
  have hsz : es.size = xs.length := by rw [size_of_entries he, List.length_map]
  have h16 : es.size ≤ sizeLine := by rw [hsz, sizeLine_eq]; omega
  refine Calls.call_function_entry PyProof.Rows.kind_sorted PyProof.Rows.plain_sorted PyProof.Rows.entry_sorted (PyProof.Rows.args_sorted1 _) ?_
  unfold Builtin.«sorted»
  refine wpAny_bind (m := checkCount "sorted" 1 1 _) (wpAny_pure ?_)
  refine wpAny_bind (PySem.W.kdu_collect (A := X.A.in1) (kdl_raw (prog := X.prog) (w := X.w) lo hx hdt) (I.ok.hd hc) ho h16 fun h' tk acc hk hacc => ?_)
  have ea : acc.toList = xs.map fun p => Value.ref p.2 := by
    apply List.ext_getElem?
    intro j
    rw [List.getElem?_map]
    by_cases hj : j < acc.toList.length
    · obtain ⟨en, e1, e2⟩ := hacc.2 j acc.toList[j] (by rw [← Array.getElem?_toList]; exact List.getElem?_eq_getElem hj)
      rw [List.getElem?_eq_getElem hj, e2]
      have q := entry_at he j
      rw [e1, List.getElem?_map] at q
      cases hx : xs[j]? with
      | none => rw [hx] at q; cases q
      | some p =>
        rw [hx] at q
        have e3 := Option.some.inj q
        rw [e3]
        rfl
    · rw [List.getElem?_eq_none (by omega)]
      have : xs.length ≤ j := by rw [Array.length_toList, hacc.1, hsz] at hj; omega
      rw [List.getElem?_eq_none this]
      rfl
  have I1 : Inv X pins σ H { s with heap := h', toks := tk } := I.kept hk
  rw [ea]
  refine wpAny_bind (wpAny_newList ?_ (by rw [List.length_map, sizeLine_eq]; omega))
  have hoL : (h'.push (seqObj "list" (xs.map fun p => Value.ref p.2).toArray 0)).get? h'.objs.size = some (seqObj "list" (xs.map fun p => Value.ref p.2).toArray 0) := Heap.get?_push_size _ rfl
  show wpAny _ _ _ _ _ { s with heap := h'.push (seqObj "list" (xs.map fun p => Value.ref p.2).toArray 0), toks := tk }
  have up : ∀ b u, h'.get? b = some u → (h'.push (seqObj "list" (xs.map fun p => Value.ref p.2).toArray 0)).get? b = some u := fun b u e => Heap.get?_push_of_some _ e
  have I2 : Inv X pins σ H { s with heap := h'.push (seqObj "list" (xs.map fun p => Value.ref p.2).toArray 0), toks := tk } := I1.kept (t' := tk) up
  have er : PySem.W.EachIs (fun v p => ∃ as, Reads (h'.push (seqObj "list" (xs.map fun p => Value.ref p.2).toArray 0)) v (encQ p) as ∧ h'.objs.size ∉ as) (xs.map fun p => Value.ref p.2) xs := by
    refine each_refs _ xs fun p hp => ?_
    exact ⟨[], reads_q I2.hok (x.2 p hp).1 (hq p hp), by simp⟩
  refine wpAny_bind (wpAny_holding (PySem.W.list_sort_data (s := { s with heap := h'.push (seqObj "list" (xs.map fun p => Value.ref p.2).toArray 0), toks := tk }) (R := fun v (p : En) => v = Value.ref p.2) (enc := encQ) hoL (each_refs _ xs fun _ _ => rfl) er
    (PySem.W.AllAlike.of fun b b' => ?_) (PySem.W.Sortable.tuples fun b => ?_) (by rw [sizeLine_eq]; omega) (fun b _ => ?_) fun out hlen he2 => ?_))
  · obtain ⟨a1, b1, c1, d1, e1⟩ := encQ_shape b
    obtain ⟨a2, b2, c2, d2, e2⟩ := encQ_shape b'
    rw [e1, e2]
    rfl
  · obtain ⟨a1, b1, c1, d1, e1⟩ := encQ_shape b
    exact ⟨_, _, e1⟩
  · obtain ⟨a1, b1, c1, d1, e1⟩ := encQ_shape b
    rw [e1]
    have : (PyData.tuple [PyData.int a1, .str b1, .str c1, .int d1]).depth = 1 := rfl
    show X.A.units + 1 + 1 + _ < cLine
    omega
  · have eo := each_out he2
    have pm : (xs.mergeSort (PySem.W.dataLe false encQ)).Perm xs := List.mergeSort_perm xs _
    obtain ⟨e', he'⟩ := PyProof.Rows.sortedHeap_at (vs := xs.map fun p => Value.ref p.2) (out := out.toArray) hoL
    have hlen2 : ((xs.mergeSort (PySem.W.dataLe false encQ)).map fun e => V.ref e.2).length ≤ sizeLine := by
      rw [List.length_map, pm.length_eq, sizeLine_eq]
      omega
    refine wpAny_pure ⟨_, rfl, .ref h'.objs.size, upd H h'.objs.size (.lst ((xs.mergeSort (PySem.W.dataLe false encQ)).map fun e => V.ref e.2)), I1.laid (t' := tk) (fun b u e => ?_) (Nat.le_refl _) ⟨hlen2, out, e', ?_, he'⟩, rfl, q _ _ pm (I1.hok.fresh (Nat.le_refl _))⟩
    · have hb : b < h'.objs.size := Heap.lt_size e
      rw [PyProof.Rows.sortedHeap_old (Nat.ne_of_lt hb) (by rw [size_push']; exact Nat.lt_succ_of_lt hb)]
      exact up b u e
    · rw [eo]
      exact vals_keys _
end
end K25

/-! K25: own rules: calls whose wish depends on the slots, a property that is set, a property read in an except suite. -/
namespace K25
open PySem PySem.Spec PyProof.Rows L2
/-! ### calls with a wish by the slots -/
section
variable {X : Cx} {CX : CXT} {k : Nat} {f C g : Addr} {fd : FuncData} {ps : List Str} {sp : Sp} {E : L2.St → XK} {x m : Str} {p pos apos : Pos} {e o fe : Expr} {es : List Expr} {ta tf : TE} {t tk : TA}
theorem run_fnRE {pins : List (Addr × Obj)} {σ : L2.St} {H : Hp} {s : Shared} {Q : VK} {us : List Value} {vs : List V} (F : FnR X.prog X.w X.K X.mg X.base CX k f sp) (hr : Room k X.A) (hx : PassesAt CX X σ (E σ)) (I : Inv X pins σ H s) (r : Vals vs us) (h : sp vs H Q (E σ)) :
    codeAny (model X.prog X.w) X.A (.call (.ref f) ⟨us, []⟩) (fun r s' => match r with | .ok (.ret v) => EP X pins σ Q v s' | .ok _ => False | .error e => X.xe e s') s := by
  refine codeAny_mono (F X.A X.stack s H us vs Q (E σ) hr I.env0 r h) fun r s' hq => ?_
  cases r with
  | error e => exact hx pins H s e s' I hq
  | ok fl =>
    cases fl with
    | ret u => exact I.after hq
    | next => exact False.elim hq
    | brk => exact False.elim hq
    | cont => exact False.elim hq
def tMethE (C : Addr) (m : Str) (sp : Sp) (E : L2.St → XK) (ta : TE) (t : TA) : TE := fun σ H Q => ta σ H fun x H1 => ∃ a dx fs, x = .ref a ∧ H1 a = some (.ins C dx fs) ∧ fs.lookup m = none ∧ t σ H1 fun vs H2 => sp (x :: vs) H2 Q (E σ)
theorem pe_methE {pl : Sem Bool} (he : PE X o ta) (c : Cls X.K C) (hm : Meth X.K C m f) (F : FnR X.prog X.w X.K X.mg X.base CX k f sp) (hr : Room k X.A) (hx : ∀ σ, PassesAt CX X σ (E σ)) (ha : PA X (e :: es) t)
    (hst : starEach (e :: es) X.env = (false, eval e X.env) :: starEach es X.env := by rfl) (hpl : (backTo pos (starEach es X.env)).any (·.1) = false := by rfl)
    (ht : eval (.Call (.Attribute o m apos) (e :: es) [] pos) X.env = (do
      let ov ← eval o X.env
      standAt apos.atName
      let (f, first) ← holding [ov] (getMethod ov m pl)
      callWith pos f first (backTo pos (starEach (e :: es) X.env)) (backToKw pos (keywordEach [] X.env))) := by rfl) :
    PE X (.Call (.Attribute o m apos) (e :: es) [] pos) (tMethE C m sp E ta t) := by
  refine ⟨fun pins s σ H Q I h => ?_⟩
  refine PySem.W.methodCall_KW (pl := pl) (thn (he.run pins s σ H _ I h) fun u s1 ⟨x, H1, I1, rx, a, dx, fs, ex, ea, l, q⟩ => ?_) ht
  subst ex
  obtain rfl : u = Value.ref a := rx
  refine getmeth_ok I1 ea c hm l ?_
  refine PySem.W.callWith_K (first := [.ref a]) (h₀ := X.base) I.ok.mod.kin hm.kp (thn (ha.run pos pins s1 σ H1 _ I1 q) fun us s2 ⟨vs, H2, I2, r, q2⟩ => ⟨I2.kIn, ?_⟩) hst hpl
  exact wpAny_call (run_fnRE (us := .ref a :: us) (vs := .ref a :: vs) F hr (hx σ) I2 (.cons rfl r) q2)
/-- o(e, ..), o an instance -/
def tCallOE (X : Cx) (C : Addr) (sp : Sp) (E : L2.St → XK) (tf : TE) (t : TA) : TE := fun σ H Q => tf σ H fun y H1 => ∃ a, y = V.ref a ∧ t σ H1 fun vs H2 => StX.InsC X H2 a C ∧ sp (V.ref a :: vs) H2 Q (E σ)
theorem pe_callOE {g : Addr} (hf : PE X fe tf) (c : StX.CallO X.K C g) (F : FnR X.prog X.w X.K X.mg X.base CX k g sp) (hr : Room k X.A) (hx : ∀ σ, PassesAt CX X σ (E σ)) (ha : PA X (e :: es) t)
    (ht : eval (.Call fe (e :: es) [] pos) X.env = (do callWith pos (← eval fe X.env) [] (backTo pos (starEach (e :: es) X.env)) (backToKw pos (keywordEach [] X.env))) := by rfl)
    (he : starEach (e :: es) X.env = (false, eval e X.env) :: starEach es X.env := by rfl) (hpl : (backTo pos (starEach es X.env)).any (·.1) = false := by rfl) : PE X (.Call fe (e :: es) [] pos) (tCallOE X C sp E tf t) := by
  refine ⟨fun pins s σ H Q I h => ?_⟩
  refine Call_ (thn (hf.run pins s σ H _ I h) fun u s1 ⟨y, H1, I1, ry, a, ey, q⟩ => ?_) ht
  subst ey
  obtain rfl : u = Value.ref a := ry
  refine StX.callO_with (thn (ha.run pos pins s1 σ H1 _ I1 q) fun us s2 ⟨vs, H2, I2, r, hi, q2⟩ => ?_) he hpl
  obtain ⟨ox, od, J, hd⟩ := StX.insC_at I2 hi
  exact ⟨⟨C, ox, od, J, hd⟩, wpAny_call (PySem.W.kco_code I2.kIn J hd c.at_ c.fn c.fi (run_fnRE (us := .ref a :: us) (vs := .ref a :: vs) F hr (hx σ) I2 (.cons rfl r) q2))⟩
end
/-! ### C(e, .., k = v) with a wish by the slots -/
def tMakeKE (C : Addr) (n m : Nat) (sp : Sp) (gV : List V → List V → List V) (E : L2.St → XK) (t tk : TA) : TE := fun σ H Q => t σ H fun vs H1 => tk σ H1 fun zs H2 => vs.length = n ∧ zs.length = m ∧ ∀ x dx, H2 x = none → H2 dx = none → dx ≠ x →
  sp (gV (.ref x :: vs) zs) (upd (upd H2 dx (.own x)) x (.ins C dx [])) (fun v H3 => v = .non ∧ Q (.ref x) H3) (E σ)
section
variable {X : Cx} {CX : CXT} {k n : Nat} {f C : Addr} {fd : FuncData} {ps ks : List Str} {sp : Sp} {E : L2.St → XK} {x : Str} {p pos : Pos} {e : Expr} {es : List Expr} {kws : List Keyword} {t tk : TA} {g : List Value → List Value → List Value} {gV : List V → List V → List V}
theorem run_makeKE {pins : List (Addr × Obj)} {σ : L2.St} {H : Hp} {s : Shared} {Q : VK} {us ws : List Value} {vs zs : List V} (M : Mk X.K C f) (F : FnOk X.prog X.w X.K X.mg X.base CX k f fd ps sp) (hr : Room (k + 1) X.A) (hb : KBn X.K fd ps (n + 1) ks g gV) (hx : PassesAt CX X σ (E σ))
    (I : Inv X pins σ H s) (r : Vals vs us) (rz : Vals zs ws) (l1 : vs.length = n) (l2 : zs.length = ks.length)
    (h : ∀ x dx, H x = none → H dx = none → dx ≠ x → sp (gV (.ref x :: vs) zs) (upd (upd H dx (.own x)) x (.ins C dx [])) (fun v H2 => v = .non ∧ Q (.ref x) H2) (E σ)) :
    wpAny (model X.prog X.w) X.A (call (.ref C) us (ks.zip ws)) (EP X pins σ Q) X.xe s := by
  have hq := h (s.heap.objs.size + 1) s.heap.objs.size (I.hok.fresh (Nat.le_succ _)) (I.hok.fresh (Nat.le_refl _)) (Nat.ne_of_lt (Nat.lt_succ_self _))
  have I2 := Inv.made (C := C) I
  have r1 : Vals (V.ref (s.heap.objs.size + 1) :: vs) (Value.ref (s.heap.objs.size + 1) :: us) := .cons rfl r
  have r2 := hb.rel r1 rz
  have n1 : (Value.ref (s.heap.objs.size + 1) :: us).length = n + 1 := by
    rw [List.length_cons, ← r.length, l1]
  refine wpAny_call (make_map (f := f) I.kIn M.makes M.init (beq_iff_eq.mp M.fn) (codeAny_mono (F.run _ X.stack _ _ ⟨Value.ref (s.heap.objs.size + 1) :: us, ks.zip ws⟩ (g (Value.ref (s.heap.objs.size + 1) :: us) ws) _ _ (E σ) (hr.make C us (ks.zip ws))
    (I2.env0.make C us (ks.zip ws)) (hb.to _ (Value.ref (s.heap.objs.size + 1) :: us) ws I2.kIn n1 (rz.length.symm.trans l2)) r2 hq) fun r s' hq' => ?_))
  cases r with
  | error e => exact hx pins _ _ e s' I2 hq'
  | ok fl =>
    cases fl with
    | ret u =>
      obtain ⟨v, H', I3, rv, ev, q3⟩ := I2.after hq'
      subst ev
      exact ⟨rv, ⟨V.ref (s.heap.objs.size + 1), H', I3, rfl, q3⟩⟩
    | next => exact False.elim hq'
    | brk => exact False.elim hq'
    | cont => exact False.elim hq'
theorem pe_makeKE (M : Mk X.K C f) (F : FnOk X.prog X.w X.K X.mg X.base CX k f fd ps sp) (hr : Room (k + 1) X.A) (hg : Gl X x) (hm : X.mg x = some (.ref C)) (hb : KBn X.K fd ps (n + 1) ks g gV) (hx : ∀ σ, PassesAt CX X σ (E σ)) (ha : PA X (e :: es) t) (hkw : PK X kws tk)
    (hall : (backToKw pos (keywordEach kws X.env)).all (·.1.isSome) = true := by rfl) (hks : (backToKw pos (keywordEach kws X.env)).filterMap (·.1) = ks := by rfl) (hdb : (x == ("__debug__" : Str)) = false := by decide)
    (he : starEach (e :: es) X.env = (false, eval e X.env) :: starEach es X.env := by rfl) (hpl : ((backTo pos (starEach (e :: es) X.env)).any (·.1) || (backToKw pos (keywordEach kws X.env)).any (·.1.isNone)) = false := by rfl) :
    PE X (.Call (.Name x p) (e :: es) kws pos) (tMakeKE C n ks.length sp gV E t tk) := by
  refine ⟨fun pins s σ H Q I h => ?_⟩
  refine wpAny_Call_Name_kw (ld_glob I hg hm ?_ hdb)
  refine PySem.W.callWith_KW (h₀ := X.base) I.ok.mod.kin M.kp hall (thn (ha.run pos pins s σ H _ I h) fun us s1 ⟨vs, H1, I1, r, q⟩ => ?_) hpl he
  refine thn (hkw.run pos pins s1 σ H1 _ I1 q) fun ws s2 ⟨zs, H2, I2, rz, l1, l2, q2⟩ => ⟨I2.kIn, ?_⟩
  rw [hks]
  exact run_makeKE M F hr hb (hx σ) I2 r rz l1 l2 q2
end
/-! ### o.f = e, f a property with a setter -/
structure PropSet (K : PySem.W.Frag) (C : Addr) (f : Str) (p g : Addr) : Prop where
  tk : PySem.W.takerIn K C f = some (some (.ref p))
  ty : PySem.W.typeIn K (.ref p) = some (.type "property")
  rec_ : ∃ a rest, PySem.W.recIn K p "property" = some (a :: .ref g :: rest)
def sPset (C : Addr) (sp : Sp) (E : L2.St → XK) (ta tv : TE) : TS := fun D σ H => tv σ H fun y H1 => ta σ H1 fun x H2 => ∃ a dx fs, x = .ref a ∧ H2 a = some (.ins C dx fs) ∧ sp [.ref a, y] H2 (fun _ H3 => D.nx σ H3) (E σ)
section
variable {X : Cx} {CX : CXT} {k : Nat} {f C p g : Addr} {fd : FuncData} {ps : List Str} {sp : Sp} {E : L2.St → XK} {nm : Str} {pos pos' : Pos} {value o : Expr} {ta tv : TE}
theorem ps_pset (ha : PE X o ta) (hv : PE X value tv) (c : Cls X.K C) (hp : PropSet X.K C nm p g) (F : FnR X.prog X.w X.K X.mg X.base CX k g sp) (hr : Room (k + 2) X.A) (hx : ∀ σ, PassesAt CX X σ (E σ)) (hs : swapsWith value (some (.Attribute o nm pos')) pos.line X.env = pure false := by rfl) :
    PS X (.Assign [.Attribute o nm pos'] value pos) (sPset C sp E ta tv) := by
  refine ⟨fun pins s σ H D I h => ?_⟩
  refine plainObj_wpAny_Assign_Attribute (thn (hv.run pins s σ H _ I h) fun u s1 ⟨y, H1, I1, ry, q⟩ => thn (ha.run pins s1 σ H1 _ I1 q) fun ov s2 ⟨x, H2, I2, rx, a, dx, fs, ex, ea, q2⟩ => ?_) hs
  subst ex
  obtain rfl : ov = Value.ref a := rx
  obtain ⟨mA, O, _⟩ := ins_get I2.hok ea
  obtain ⟨od, J, _⟩ := O.look
  obtain ⟨a0, rest, hrec⟩ := hp.rec_
  have I3 := I2.tok (s2.toks + 1)
  refine PySem.W.set_plain I2.kIn J c.sa (PySem.W.osa_descr (s := { s2 with toks := s2.toks + 1 }) PySem.W.KF.slot_pset I3.kIn J c.po hp.tk hp.ty (PySem.W.prop_set (s := { s2 with toks := s2.toks + 1 }) I3.kIn hrec ?_))
  refine codeAny_mono (F X.A.in1.in1 X.stack { s2 with toks := s2.toks + 1 } H2 [.ref a, u] [.ref a, y] (fun _ H3 => D.nx σ H3) (E σ) hr.in1.in1 I3.env0.in1.in1 (.cons rfl (.cons ry .nil)) q2) fun r s' hq => ?_
  cases r with
  | error er => exact hx σ pins H2 { s2 with toks := s2.toks + 1 } er s' I3 hq
  | ok fl =>
    cases fl with
    | ret u =>
      obtain ⟨v, H', I4, rv, q3⟩ := I3.after hq
      exact ⟨σ, H', I4, q3⟩
    | next => exact False.elim hq
    | brk => exact False.elim hq
    | cont => exact False.elim hq
end
end K25

/-! K25: own rules: iter(tuple), len(o), list(o) of a class with __len__ and __iter__. -/
namespace K25
open PySem PySem.Spec PyProof.Rows L2
/-! ### iter(t), t a tuple -/
def ItT (t it : Addr) (i : Nat) : HO := .ext fun h => h.IsTupleIter it t i
def ItX0 (it : Addr) : HO := .ext fun h => ∃ u, h.get? it = some u
section
variable {P : Program} {w : World} {H : Hp} {h : Heap} {t it : Addr} {i : Nat}
theorem itT_ok (e : h.IsTupleIter it t i) : ObjOk P w H h it (ItT t it i) := by
  refine ⟨e, ?_, ?_⟩
  · obtain ⟨o, e, _⟩ := e; exact ⟨o, e⟩
  · rintro h1 h2 ⟨o, e1, r⟩ k
    exact ⟨o, k o e1, r⟩
theorem itX_ok (e : ∃ u, h.get? it = some u) : ObjOk P w H h it (ItX0 it) := by
  refine ⟨e, e, ?_⟩
  rintro h1 h2 ⟨u, e1⟩ k
  exact ⟨u, k u e1⟩
end
theorem itT_get {X : Cx} {pins : List (Addr × Obj)} {σ : L2.St} {H : Hp} {s : Shared} {t it : Addr} {i : Nat} (I : Inv X pins σ H s) (e : H it = some (ItT t it i)) : s.heap.IsTupleIter it t i :=
  (show ObjOk X.prog X.w H s.heap it (.ext fun h => h.IsTupleIter it t i) from I.hok it _ e).1
theorem call_iter_tup {prog : Program} {w : World} {A : Around} {E : Value → Shared → Prop} {s : Shared} {t : Addr} {items : Array Value} {Q : Value → Shared → Prop} (ht : s.heap.IsTuple t items)
    (h : Q (.ref s.heap.objs.size) { s with heap := s.heap.push { cls := .type "tuple_iterator", data := .fields #[.ref t, .int 0 0] } }) : wpAny (model prog w) A (call (.builtin "iter") [.ref t]) Q E s := by
  refine Calls.call_function_entry (by decide +kernel) (by decide +kernel) PySem.W.kdk_entry_iter (PySem.W.kdk_args_iter _) ?_
  unfold Builtin.«iter»
  refine wpAny_bind (m := someArgs "iter" 1 2 _) (wpAny_of_eq (a := [Value.ref t]) (by first | rfl | kernel_rfl!) ?_)
  show wpAny _ _ (pyIter (.ref t) >>= _) _ _ _
  refine wpAny_bind (wpAny_pyIter_tuple ht ?_)
  exact wpAny_pure ⟨_, rfl, h⟩
def rIterT (K : PySem.W.Frag) : List V → Hp → VK → Prop := fun xs H Q => ∃ (t : Addr) (zs : List V), xs = [.ref t] ∧ SqT K H t zs ∧ ∀ it, H it = none → Q (.ref it) (upd H it (ItT t it 0))
theorem call_iterT {X : Cx} : CallR X (.builtin "iter") (rIterT X.K) := by
  intro pins s σ H xs us Q I r h
  obtain ⟨l, zs, rfl, hq, q⟩ := h
  obtain ⟨u, rfl, ru⟩ := vals1 r
  cases ru
  obtain ⟨its, rv, pl, hz⟩ := I.tuple hq
  refine call_iter_tup (show s.heap.IsTuple l its.toArray from pl) ?_
  exact ⟨.ref s.heap.objs.size, _, I.laid (t' := s.toks) (fun b u e => Heap.get?_push_of_some _ e) (Nat.le_refl _) (itT_ok ⟨_, Heap.get?_push_size _ rfl, rfl, rfl⟩), rfl, q _ (I.hok.fresh (Nat.le_refl _))⟩
theorem next_tup_end {prog : Program} {w : World} {A : Around} {E : Value → Shared → Prop} {s : Shared} {it t : Addr} {i : Nat} {items : Array Value} {Q : Option Value → Shared → Prop} (hh : A.handled = none)
    (hit : s.heap.IsTupleIter it t i) (ht : s.heap.IsTuple t items) (hx : items[i]? = none)
    (hQ : ∀ h', Heap.ExtBut it s.heap h' → (∃ u, h'.get? it = some u) → Q none { s with heap := h' }) : wpAny (model prog w) A (pyNext (.ref it)) Q E s := by
  obtain ⟨o, ho, hc, hd⟩ := id hit
  obtain ⟨ol, hol, _, nl, hdl⟩ := ht
  unfold pyNext
  refine wpAny_bind (wpAny_attempt (wpAny_callSpecial?_slot (name := Str.ofString "__next__") hit.typeIs F.slot_tuple_iterator_next
    (wpAny_call_entry F.slot_tuple_iterator_next hit.typeIs F.entry_tuple_iterator_next ?_ (F.args_tuple_iterator_next_1 _))))
  show wpAny _ _ (field (.ref it) 0 >>= _) _ _ s
  refine wpAny_bind (wpAny_field ho hd (x := .ref t) rfl ?_)
  show wpAny _ _ (if (Value.ref t == Value.none) = true then _ else _) _ _ s
  rw [if_neg (show ¬ ((Value.ref t == Value.none) = true) from Bool.false_ne_true)]
  show wpAny _ _ (field (.ref it) 1 >>= _) _ _ s
  refine wpAny_bind (wpAny_field ho hd (x := .int i 0) rfl ?_)
  show wpAny _ _ (seqItems? (.ref t) >>= _) _ _ s
  refine wpAny_bind (wpAny_seqItems hol hdl ?_)
  simp only [Int.toNat_natCast, hx]
  refine wpAny_bind (wpAny_rule (wpAny_bind (wpAny_setField ho hd (by simp) ?_)))
  show wpAny _ _ (newExc (.type "StopIteration") [] >>= _) _ _ _
  refine wpAny_bind ?_
  simp only [newExc, newTuple]
  refine wpAny_bind (wpAny_newObj_type ?_ (by size_fits))
  refine wpAny_bind (m := firstArgMember _ _) (wpAny_of_eq (a := Value.none) (by first | rfl | (simp only [firstArgMember]; rfl)) ?_)
  refine wpAny_newObj_type ?_ (by size_fits)
  simp only [raiseNew]
  refine wpAny_bind (wpAny_handled ?_)
  first | rw [show A.in1.handled = none from hh] | rw [hh]
  refine wpAny_bind (wpAny_pure (wpAny_throw ?_))
  refine wpAny_bind (wpAny_isInstance (T := "StopIteration") (b := true) ⟨_, Heap.get?_push_size _ rfl, rfl⟩ isSubtype_stop ?_)
  exact wpAny_pure (hQ _ (((Heap.SameBut.update ..).extBut.push _).push _) ⟨_, Heap.get?_push_of_some _ (Heap.get?_push_of_some _ (Heap.get?_update_self _ ho (Obj.isFreed_of_fields (Obj.data_mapFields hd _))))⟩)
/-! ### len(o) by an own __len__ -/
structure LenC (K : PySem.W.Frag) (C g : Addr) : Prop where
  at_ : PySem.W.findIn K (.ref C) "__len__" = some (some (.ref g))
  fn : PySem.W.isFn K (.ref g) = true
section
variable {X : Cx} {CX : CXT} {C g gi a dx : Addr} {fs : List (Str × V)} {n : Nat} {sp spi : Sp} {E Ei : XK} {pins : List (Addr × Obj)} {σ : L2.St} {H : Hp} {s : Shared} {A1 : Around}
theorem len_body {Q : Value → Shared → Prop} (sb : Sub X n A1) (hL : LenC X.K C g) (F : FnR X.prog X.w X.K X.mg X.base CX n g sp) (hx : Passes CX X E) (I : Inv X pins σ H s) (ha : H a = some (.ins C dx fs))
    (h : sp [.ref a] H (fun v H1 => ∃ k : Nat, v = .int k ∧ k ≤ 1000 ∧ ∀ s' t, Inv X pins σ H1 s' → Q (.int k t) s') E) :
    wpAny (model X.prog X.w) A1 (Builtin.«len» ⟨[.ref a], []⟩) (fun fin s' => ∃ r, fin = .done (.ret r) ∧ Q r s') X.xe s := by
  obtain ⟨mA, J, _⟩ := ins_get I.hok ha
  obtain ⟨od, J, _⟩ := J.look
  unfold Builtin.«len»
  refine wpAny_bind (m := oneArg "len" _) (wpAny_pure ?_)
  have e0 : Env0 X.prog X.w X.K X.mg X.base A1 X.stack s H := by
    have e := I.env0
    exact ⟨by rw [sb.fr]; exact e.frames, e.mod, e.bs, e.bsz, e.funs, e.frf, e.hok, e.bare⟩
  refine wpAny_bind (m := callSpecial? (.ref a) (Str.ofString "__len__")) (PySem.W.special_fn (args := []) I.kIn J hL.at_ (beq_iff_eq.mp hL.fn) (wpAny_call (codeAny_mono (F A1 X.stack s H [.ref a] [.ref a] _ E sb.room e0 (.cons rfl .nil) h) fun r s' hq => ?_)))
  cases r with
  | error e => exact hx pins σ H s e s' I hq
  | ok fl =>
    cases fl with
    | next => exact False.elim hq
    | brk => exact False.elim hq
    | cont => exact False.elim hq
    | ret u =>
      obtain ⟨v, H', I', rv, k, ev, hk, q⟩ := I.after hq
      subst ev
      obtain ⟨t, rfl⟩ := (show ∃ t, u = Value.int k t from rv)
      refine wpAny_bind (wpAny_holding (wpAny_pure ?_))
      refine wpAny_bind (wpAny_letGo ?_)
      show wpAny _ _ (if ((k : Nat) : Int) < 0 then _ else _) _ _ _
      rw [if_neg (by omega)]
      show wpAny _ _ (if ((k : Nat) : Int) ≥ 2 ^ 63 then _ else _) _ _ _
      rw [if_neg (by omega)]
      exact wpAny_bind (wpAny_mkInt (wpAny_pure ⟨_, rfl, q _ _ (I'.tok _)⟩))
def rLenO (C : Addr) (sp : Sp) (E : XK) : List V → Hp → VK → Prop := fun xs H Q => ∃ a dx fs, xs = [.ref a] ∧ H a = some (.ins C dx fs) ∧ sp [.ref a] H (fun v H1 => ∃ k : Nat, v = .int k ∧ k ≤ 1000 ∧ Q (.int k) H1) E
theorem call_lenO (hL : LenC X.K C g) (F : FnR X.prog X.w X.K X.mg X.base CX n g sp) (hx : Passes CX X E) (hr : Room (n + 2) X.A) (himp : ∀ vs H (Q Q' : VK), (∀ v H, Q v H → Q' v H) → sp vs H Q E → sp vs H Q' E) : CallR X (.builtin "len") (rLenO C sp E) := by
  intro pins s σ H xs us Q I r h
  obtain ⟨a, dx, fs, rfl, ha, q⟩ := h
  obtain ⟨u, rfl, ru⟩ := vals1 r
  cases ru
  have sb : Sub X n X.A.in1 := (Sub.in1 ((⟨hr.mono (by omega), rfl⟩ : Sub X (n + 1) X.A)))
  refine PySem.Calls.call_function_entry PySem.kind_len PySem.plain_len PySem.entry_len (PySem.args_len1 _) ?_
  exact len_body sb hL F hx I ha (himp _ _ _ _ (fun v H1 ⟨k, e1, e2, q⟩ => ⟨k, e1, e2, fun s' t I' => ⟨.int k, H1, I', ⟨t, rfl⟩, q⟩⟩) q)
/-! ### list(o) by an own __iter__ (a tuple's iterator) and an own __len__ -/
structure IterC (K : PySem.W.Frag) (C g : Addr) : Prop where
  at_ : PySem.W.findIn K (.ref C) "__iter__" = some (some (.ref g))
  fn : PySem.W.isFn K (.ref g) = true
theorem tup_loop {q it t : Addr} {xs : List V} {Qf : Hp → Prop} {Rs : Result → Shared → Prop} (hh : A1.in1.handled = none) (hdone : ∀ H s, Inv X pins σ H s → Qf H → Rs (.ok (.ret .none)) s) (hqi : q ≠ it) :
    ∀ (m i : Nat) (H : Hp) (s : Shared), m + i = xs.length → Inv X pins σ H s → H q = some (.lst (xs.take i)) → H it = some (ItT t it i) → H t = some (.tup xs) → (∀ H', H' = upd (upd H it (ItX0 it)) q (.lst xs) → Qf H') →
      codeAny (model X.prog X.w) A1 (.builtin "list.extend.loop" ⟨[.ref q, .ref it, .none], []⟩) Rs s := by
  intro m
  induction m with
  | zero =>
    intro i H s hm I hq hi ht hQ
    refine codeAny_builtin PySem.F.entry_extend_loop ?_
    rw [Around.under_plainId PySem.F.plain_extend_loop _]
    show wpAny _ A1.in1 (pyNext (.ref it) >>= _) _ _ s
    obtain ⟨its, rv, pl, hz⟩ := I.tuple (SqT.of ht)
    have hl := rv.length
    refine wpAny_bind (next_tup_end hh (itT_get I hi) (show s.heap.IsTuple t its.toArray from pl) (by simp; omega) fun h' eb hx => wpAny_pure (hdone _ _ (I.write (x := it) (e := it) (o := ItX0 it) (t' := s.toks) (by rw [hi]; exact True.intro) (.inl rfl) (fun b o hb e => eb b o hb e) hx (itX_ok hx)) ?_))
    refine hQ _ ?_
    have e : xs.take i = xs := List.take_of_length_le (by omega)
    funext b
    by_cases hb : b = q
    · subst hb
      rw [upd_same, upd_ne hqi, hq, e]
    · rw [upd_ne hb]
  | succ m ih =>
    intro i H s hm I hq hi ht hQ
    refine codeAny_builtin PySem.F.entry_extend_loop ?_
    rw [Around.under_plainId PySem.F.plain_extend_loop _]
    show wpAny _ A1.in1 (pyNext (.ref it) >>= _) _ _ s
    obtain ⟨its, rv, pl, hz⟩ := I.tuple (SqT.of ht)
    have hlt : i < xs.length := by omega
    obtain ⟨u, hu, ru⟩ := rv.get (List.getElem?_eq_getElem hlt)
    refine wpAny_bind (wpAny_pyNext_tuple_item (itT_get I hi) (show s.heap.IsTuple t its.toArray from pl) (x := u) (by simpa using hu) fun h' st' sb => ?_)
    have heo : ∃ u, h'.get? it = some u := by obtain ⟨o, e, _⟩ := id st'; exact ⟨o, e⟩
    have I1 : Inv X pins σ (upd H it (ItT t it (i + 1))) { s with heap := h' } := I.write (x := it) (e := it) (o := ItT t it (i + 1)) (t' := s.toks) (by rw [hi]; exact True.intro) (.inl rfl) (fun b o hb e => (sb.2 b hb).trans e) heo (itT_ok st')
    have hq1 : upd H it (ItT t it (i + 1)) q = some (.lst (xs.take i)) := by rw [upd_ne hqi]; exact hq
    have hti : t ≠ it := ne_of ht hi (fun z => nomatch z)
    have htq : t ≠ q := ne_of ht hq (fun z => nomatch z)
    show wpAny _ A1.in1 (updateSeq q (·.push u) >>= _) _ _ _
    obtain ⟨z, its2, k, r2, hl, e⟩ := I1.lstM hq1
    have hl2 : (xs.take i).length = its2.length := r2.length
    have hl3 : (xs.take i).length ≤ i := by rw [List.length_take]; omega
    refine wpAny_bind (wpAny_updateSeq e rfl (wpAny_pure ⟨plainId_quiet PySem.F.plain_extend_loop _, ?_⟩) (by rw [List.size_toArray]; omega) (by show (its2.toArray.push u).size ≤ sizeLine + 1; rw [Array.size_push, List.size_toArray]; omega))
    have et : xs.take (i + 1) = xs.take i ++ [xs[i]] := (List.take_append_getElem hlt).symm
    refine ih (i + 1) _ _ (by omega) (I1.lset (its' := its2 ++ [u]) (ys := xs.take i ++ [xs[i]]) (t' := s.toks) hq1 e (by simp) (r2.append (.cons ru .nil)) (by rw [List.length_append, List.length_singleton]; omega)) (by rw [upd_same, et]) (by rw [upd_ne hqi.symm, upd_same]) (by rw [upd_ne htq, upd_ne hti]; exact ht) (fun H' eH => hQ H' ?_)
    rw [eH]
    funext b
    by_cases hb : b = q
    · subst hb
      rw [upd_same, upd_same]
    · rw [upd_ne hb, upd_ne hb]
      by_cases hc : b = it
      · subst hc
        rw [upd_same, upd_same]
      · rw [upd_ne hc, upd_ne hc, upd_ne hb, upd_ne hc]
end
/-- what such an __iter__, such a __len__ promise: the tuple in the field fl -/
def spIterF (C : Addr) (fl : Str) : Sp := fun vs H Q _ => ∃ (a dx : Addr) (fs : List (Str × V)) (t : Addr) (xs : List V), vs = [.ref a] ∧ H a = some (.ins C dx fs) ∧ fs.lookup fl = some (.ref t) ∧ H t = some (.tup xs) ∧ ∀ it, H it = none → Q (.ref it) (upd H it (ItT t it 0))
def spLenF (C : Addr) (fl : Str) : Sp := fun vs H Q _ => ∃ (a dx : Addr) (fs : List (Str × V)) (t : Addr) (xs : List V), vs = [.ref a] ∧ H a = some (.ins C dx fs) ∧ fs.lookup fl = some (.ref t) ∧ H t = some (.tup xs) ∧ Q (.int xs.length) H
section
variable {X : Cx} {CX : CXT} {C g gi a dx : Addr} {fs : List (Str × V)} {fl : Str} {n : Nat} {E Ei : XK} {pins : List (Addr × Obj)} {σ : L2.St} {H : Hp} {s : Shared} {A1 : Around}
theorem if_yes {α : Type} {M : Model} {A : Around} {E : Value → Shared → Prop} {s : Shared} {c : Bool} {a b : Sem α} {Q : α → Shared → Prop} (hc : c = true) (h : wpAny M A a Q E s) : wpAny M A (if c = true then a else b) Q E s := by
  rw [if_pos hc]
  exact h
theorem len_hint {t : Addr} {xs : List V} {Q : Bool → Shared → Prop} {E' : Value → Shared → Prop} (sb : Sub X n A1.in1) (hL : LenC X.K C g) (F : FnR X.prog X.w X.K X.mg X.base CX n g (spLenF C fl)) (hx : Passes CX X.nox E) (I : Inv X pins σ H s) (ha : H a = some (.ins C dx fs)) (hf : fs.lookup fl = some (.ref t)) (ht : H t = some (.tup xs)) (hz : xs.length ≤ 1000)
    (hq : ∀ b s', Inv X pins σ H s' → Q b s') : wpAny (model X.prog X.w) A1 (Builtin.List.listLengthHint (.ref a)) Q E' s := by
  obtain ⟨mA, J, _⟩ := ins_get I.hok ha
  obtain ⟨od, J, _⟩ := J.look
  unfold Builtin.List.listLengthHint
  refine wpAny_bind (wpAny_bind (J.type.here ((PySem.W.looks_findIn I.kIn hL.at_).here ?_)))
  refine PySem.W.KFB.if_not rfl ?_
  refine if_yes rfl ?_
  refine wpAny_bind (wpAny_rule ?_)
  refine wpAny_bind (wpAny_attempt ?_)
  refine PySem.Calls.call_function_entry PySem.kind_len PySem.plain_len PySem.entry_len (PySem.args_len1 _) ?_
  refine wpAny_mono (len_body (X := X.nox) (Q := fun u s' => ∃ t, u = .int xs.length t ∧ Inv X pins σ H s') (⟨sb.room, sb.fr⟩ : Sub X.nox n A1.in1) hL F hx (I.wish _) ha ⟨a, dx, fs, t, xs, rfl, ha, hf, ht, xs.length, rfl, hz, fun s' t I' => ⟨t, rfl, I'.unwish⟩⟩) (fun fin s' ⟨r, e1, t2, e2, I'⟩ => ⟨r, e1, ?_⟩) fun e s' z => z.elim
  subst e2
  show wpAny _ _ (asInt? (Value.int xs.length t2) >>= _) _ _ _
  refine wpAny_bind (wpAny_pure ?_)
  refine PySem.W.KFB.if_not ?_ (wpAny_pure (hq _ _ I'))
  show Builtin.List.listTooLong ((xs.length : Int).toNat) = false
  rw [Int.toNat_natCast]
  unfold Builtin.List.listTooLong
  rw [sizeLine_eq]
  exact decide_eq_false (by omega)
theorem listO_extend {q t : Addr} {xs : List V} {Qf : Hp → Prop} {Rs : Result → Shared → Prop} (hh : A1.in1.handled = none) (sb : Sub X n A1.in1.in1) (hI : IterC X.K C gi) (FI : FnR X.prog X.w X.K X.mg X.base CX n gi (spIterF C fl)) (hxI : Passes CX X E) (hL : LenC X.K C g) (F : FnR X.prog X.w X.K X.mg X.base CX n g (spLenF C fl)) (hx : Passes CX X.nox E)
    (I : Inv X pins σ H s) (ha : H a = some (.ins C dx fs)) (hf : fs.lookup fl = some (.ref t)) (ht : H t = some (.tup xs)) (hz : xs.length ≤ 1000) (hq : H q = some (.lst []))
    (hdone : ∀ H s, Inv X pins σ H s → Qf H → Rs (.ok (.ret .none)) s) (herr : ∀ e s, X.xe e s → Rs (.error e) s) (hQ : ∀ it, H it = none → Qf (upd (upd (upd H it (ItT t it 0)) it (ItX0 it)) q (.lst xs)) ∧ ∀ j, Qf (upd (upd (upd H it (ItT t it j)) it (ItX0 it)) q (.lst xs))) :
    wpAny (model X.prog X.w) A1.in1 (Builtin.List.listExtendWith (.ref q) (.ref a) .none)
      (fun fin s' => match fin with | .done f => Rs (.ok f) s' | .again c' => c'.quiet = true ∧ codeAny (model X.prog X.w) A1 c' Rs s') (fun e s' => Rs (.error e) s') s := by
  have hne : q ≠ a := ne_of hq ha (fun z => nomatch z)
  obtain ⟨mA, J, _⟩ := ins_get I.hok ha
  obtain ⟨od, J, _⟩ := J.look
  obtain ⟨m0, hF⟩ := I.fr
  unfold Builtin.List.listExtendWith
  refine wpAny_bind (J.type.here ?_)
  have h1 : Builtin.List.listSameRef (.ref q) (.ref a) = false := by simp [Builtin.List.listSameRef, hne]
  have h2 : (Value.ref C == Value.type "list") = false := rfl
  have h3 : (Value.ref C == Value.type "tuple") = false := rfl
  simp only [h1, h2, h3, Bool.or_false, Bool.false_eq_true, if_false]
  have sb1 : Sub X n A1.in1 := ⟨⟨hh, by have := sb.room.dp; exact this, by have := sb.room.un; have e : A1.in1.in1.units = A1.in1.units + 1 := rfl; rw [e] at this; omega⟩, sb.fr⟩
  refine wpAny_bind (PySem.W.owit_iter hF I.ok.mod.kin J hI.at_ hI.fn ?_)
  have e0 : Env0 X.prog X.w X.K X.mg X.base A1.in1 X.stack s H := by
    have e := I.env0
    exact ⟨by rw [sb1.fr]; exact e.frames, e.mod, e.bs, e.bsz, e.funs, e.frf, e.hok, e.bare⟩
  have hspI : spIterF C fl [.ref a] H (fun v H' => ∃ it, v = .ref it ∧ H it = none ∧ H' = upd H it (ItT t it 0)) E := ⟨a, dx, fs, t, xs, rfl, ha, hf, ht, fun it hit => ⟨it, rfl, hit, rfl⟩⟩
  refine wpAny_call (codeAny_mono (FI A1.in1 X.stack s H [.ref a] [.ref a] _ E sb1.room e0 (.cons rfl .nil) hspI) fun r s' hq' => ?_)
  cases r with
  | error e => exact herr e s' (hxI pins σ H s e s' I hq')
  | ok fl =>
    cases fl with
    | next => exact False.elim hq'
    | brk => exact False.elim hq'
    | cont => exact False.elim hq'
    | ret u =>
      obtain ⟨v, H', I', rv, it, ev, hit, eH⟩ := I.after hq'
      subst ev
      rw [eH] at I'
      cases rv
      have hqi : q ≠ it := ne_of_none hq hit
      have hai : a ≠ it := ne_of_none ha hit
      have hti : t ≠ it := ne_of_none ht hit
      have hi1 : upd H it (ItT t it 0) it = some (ItT t it 0) := upd_same
      have hq1 : upd H it (ItT t it 0) q = some (.lst []) := by rw [upd_ne hqi]; exact hq
      have hT := (itT_get I' hi1).typeIs
      show wpAny _ _ (specialOf (.ref it) (Str.ofString "__next__")) _ _ _
      refine wpAny_specialOf (name := Str.ofString "__next__") hT PySem.F.slot_tuple_iterator_next.lookup ?_
      refine wpAny_bind (wpAny_holding (len_hint sb hL F hx I' (by rw [upd_ne hai]; exact ha) hf (by rw [upd_ne hti]; exact ht) hz fun b s2 I2 => ?_))
      obtain ⟨z, its, k, r3, hl3, e3⟩ := I2.lstM hq1
      cases r3
      have fin : ∀ s3, Inv X pins σ (upd H it (ItT t it 0)) s3 → codeAny (model X.prog X.w) A1 (.builtin "list.extend.loop" ⟨[.ref q, .ref it, .none], []⟩) Rs s3 := fun s3 I3 =>
        tup_loop (A1 := A1) (xs := xs) hh hdone hqi xs.length 0 _ _ (by omega) I3 (by rw [hq1]; rfl) hi1 (by rw [upd_ne hti]; exact ht) fun H4 e4 => by rw [e4]; exact (hQ it hit).1
      refine wpAny_ite_split (fun _ => ?_) (fun _ => wpAny_pure ⟨plainId_quiet PySem.F.plain_extend_loop _, fin _ I2⟩)
      refine wpAny_bind (wpAny_rule ?_)
      refine wpAny_bind ?_
      show wpAny _ _ (updateSeq q (·.push .none) >>= fun _ => updateSeq q (·.pop)) _ _ _
      refine wpAny_bind (wpAny_updateSeq e3 rfl ?_)
      have I2' := I2.lset (f := (·.push Value.none)) (its' := [Value.none]) (ys := [.non]) (t' := s2.toks) hq1 e3 (by simp) (.cons rfl .nil) (by rw [List.length_singleton, sizeLine_eq]; decide)
      obtain ⟨z4, its4, k4, r4, hl4, e4⟩ := I2'.lstM upd_same
      obtain ⟨u4, rfl, ru4⟩ := r4.one
      refine wpAny_updateSeq e4 rfl ?_ (by show 1 ≤ sizeLine; rw [sizeLine_eq]; decide) (by show 0 ≤ sizeLine + 1; exact Nat.zero_le _)
      refine wpAny_pure ⟨plainId_quiet PySem.F.plain_extend_loop _, fin _ ?_⟩
      have I3 := I2'.lset (f := (·.pop)) (its := [u4]) (its' := []) (ys := []) (t' := s2.toks) upd_same e4 (by rfl) .nil (Nat.zero_le _)
      rw [upd_upd] at I3
      have hH : upd (upd H it (ItT t it 0)) q (.lst []) = upd H it (ItT t it 0) := by
        funext b
        by_cases hb : b = q
        · rw [hb, upd_same, hq1]
        · rw [upd_ne hb]
      rw [hH] at I3
      exact I3
def rListO (C : Addr) (fl : Str) : List V → Hp → VK → Prop := fun xs H Q => ∃ (a dx : Addr) (fs : List (Str × V)) (t : Addr) (ys : List V), xs = [.ref a] ∧ H a = some (.ins C dx fs) ∧ fs.lookup fl = some (.ref t) ∧ H t = some (.tup ys) ∧ ys.length ≤ 1000 ∧
  ∀ H' q, H q = none → Same H H' → H' q = some (.lst ys) → Q (.ref q) H'
theorem call_listO (hc : X.calm = true) (hI : IterC X.K C gi) (FI : FnR X.prog X.w X.K X.mg X.base CX n gi (spIterF C fl)) (hxI : Passes CX X E) (hL : LenC X.K C g) (F : FnR X.prog X.w X.K X.mg X.base CX n g (spLenF C fl)) (hx : Passes CX X.nox E) (hr : Room (n + 4) X.A) : CallR X (.type "list") (rListO C fl) := by
  intro pins s σ H xs us Q I rv h
  obtain ⟨a, dx, fs, t, ys, rfl, ha, hf, ht, hz, hq⟩ := h
  obtain ⟨u, rfl, ru⟩ := rv.one
  cases ru
  have sb : Sub X n X.A.in1.in1.in1 := ((Sub.in1 (Sub.in1 (Sub.in1 (⟨hr.mono (by omega), rfl⟩ : Sub X (n + 3) X.A)))))
  refine callType_codes (Q₁ := fun obj s₁ => obj = .ref s.heap.objs.size ∧ s₁ = { s with heap := s.heap.push { cls := .type "list", data := .seq #[] } }) PySem.F.called_list (PySem.F.typeCall_list_1 _) PySem.F.entry_list_init
    (code_list_new _ ⟨rfl, rfl⟩) fun obj s₁ h₁ => ?_
  obtain ⟨rfl, rfl⟩ := h₁
  have hS : (s.heap.push { cls := .type "list", data := .seq #[] }).get? s.heap.objs.size = some { cls := .type "list", data := .seq #[] } := Heap.get?_push_size _ rfl
  refine ⟨⟨_, hS, rfl⟩, PySem.F.args_list_init_2 _ _, ?_⟩
  have fr : H s.heap.objs.size = none := I.hok.fresh (Nat.le_refl _)
  have I1 : Inv X pins σ (upd H s.heap.objs.size (.lst [])) { s with heap := s.heap.push { cls := .type "list", data := .seq #[] } } := I.lnew (its := []) (t' := s.toks) .nil (Nat.zero_le _)
  show wpAny _ _ (do let old ← Builtin.List.listItems (.ref s.heap.objs.size); Builtin.List.listUpdate (.ref s.heap.objs.size) (fun _ => #[]); letGo old.toList.reverse; Builtin.List.listExtendWith (.ref s.heap.objs.size) (.ref a) .none) _ _ _
  refine wpAny_bind ?_
  unfold Builtin.List.listItems
  refine wpAny_bind (wpAny_seqItems hS rfl (wpAny_pure ?_))
  show wpAny _ _ (updateSeq s.heap.objs.size (fun _ => #[]) >>= fun _ => letGo (#[] : Array Value).toList.reverse >>= fun _ => Builtin.List.listExtendWith (.ref s.heap.objs.size) (.ref a) .none) _ _ _
  refine wpAny_bind (wpAny_updateSeq hS rfl ?_)
  have I2 := I1.lset (f := fun _ => #[]) (its := []) (its' := []) (ys := []) (t' := s.toks) upd_same hS rfl .nil (Nat.zero_le _)
  rw [upd_upd] at I2
  refine wpAny_bind (wpAny_letGo ?_)
  have ha2 : upd H s.heap.objs.size (.lst []) a = some (.ins C dx fs) := by rw [upd_ne (ne_of_none ha fr)]; exact ha
  have ht2 : upd H s.heap.objs.size (.lst []) t = some (.tup ys) := by rw [upd_ne (ne_of_none ht fr)]; exact ht
  refine listO_extend (A1 := X.A.in1) (Rs := wants (fun r s₂ => r = .none ∧ EP X pins σ Q (.ref s.heap.objs.size) s₂) X.xe) (I.ok.hd hc) sb hI FI hxI hL F hx I2 ha2 hf ht2 hz upd_same
    (Qf := Q (.ref s.heap.objs.size)) (fun H' s' I' hR => ⟨rfl, .ref s.heap.objs.size, H', I', rfl, hR⟩) (fun e s' he => he) fun it hit => ?_
  have key : ∀ o, Q (.ref s.heap.objs.size) (upd (upd (upd (upd H s.heap.objs.size (.lst [])) it o) it (ItX0 it)) s.heap.objs.size (.lst ys)) := fun o => by
    have hiq : it ≠ s.heap.objs.size := fun z => by rw [z, upd_same] at hit; cases hit
    have hi0 : H it = none := by rw [upd_ne hiq] at hit; exact hit
    refine hq _ _ fr (fun b ob e => ?_) upd_same
    have nb : b ≠ s.heap.objs.size := ne_of_none e fr
    have ni : b ≠ it := ne_of_none e hi0
    rw [upd_ne nb, upd_ne ni, upd_ne ni, upd_ne nb]
    exact e
  exact ⟨key _, fun _ => key _⟩
end
end K25

/-! K25: own rules: a def that runs whatever is handled; a property read in an except suite; d.get(None). -/
namespace K25
open PySem PySem.Spec PyProof.Rows L2
/-! ### a def that runs whatever is handled -/
/-- what such a def promises -/
structure FnC (P : Program) (w : World) (K : PySem.W.Frag) (mg : Str → Option Value) (base : Heap) (CX : CXT) (k : Nat) (f : Addr) (fd : FuncData) (ps : List Str) (sp : Sp) : Prop where
  len : ∀ vs H Q E, sp vs H Q E → vs.length = ps.length
  run : ∀ (A : Around) (outer : List Env) (s : Shared) (H : Hp) (args : Args) (us : List Value) (vs : List V) (Q : VK) (E : XK), L2H.RoomH k A → Env0 P w K mg base A outer s H → BindsTo s fd args (ps.zip us) → Vals vs us → sp vs H Q E →
    codeAny (model P w) A (.call (.ref f) args) (CR CX outer P w H s Q E) s
def cxC (CX : CXT) (P : Program) (w : World) (K : PySem.W.Frag) (mg : Str → Option Value) (base : Heap) (N : List Str) (qual : Str) (scope : Scope) (f : Addr) (cd : Value) (A : Around) (outer : List Env) (s : Shared) (H : Hp) (E : XK) : Cx :=
  { cxOf CX P w K mg base N qual scope f cd A outer s H E with calm := false }
theorem inv_startC {CX : CXT} {P : Program} {w : World} {K : PySem.W.Frag} {mg : Str → Option Value} {base : Heap} {N ps : List Str} {qual : Str} {scope : Scope} {f : Addr} {cd : Value} {A : Around} {outer : List Env} {s s1 : Shared} {H : Hp} {E : XK} {us : List Value} {vs : List V}
    (S : FnScope N ps scope) (e0 : Env0 P w K mg base A outer s H) (hl : vs.length = ps.length) (r : Vals vs us)
    (x : InCallC s s.heap.objs.size (bindL (envOfC qual scope s.heap.objs.size f cd).kindOf (ps.zip us) fun _ => none) (cellsFrom (s.heap.objs.size + 1) scope.names []) (bindC (envOfC qual scope s.heap.objs.size f cd).kindOf (ps.zip us) fun _ => none) s1) :
    Inv (cxC CX P w K mg base N qual scope f cd A outer s H E) [] (L2.start N vs) H s1 := by
  have hpl : ps.length ≤ N.length := by have := congrArg List.length S.pre; rw [List.length_take] at this; omega
  obtain ⟨h1, tk, rfl, hk⟩ := x.done
  have noA : ∀ b : Addr, b ∉ (cxC CX P w K mg base N qual scope f cd A outer s H E).ex := fun b z => absurd (show b ∈ ([] : List Addr) from z) (by simp)
  refine ⟨⟨e0.mod, S.kind, rfl, rfl, Nat.le_refl _, fun y z c h1 h2 => ?_, fun y hy => ?_, fun y c _ h => ?_, (fun z => Bool.noConfusion (show false = true from z)), Around.frames_deeper e0.frames, .inr ⟨rfl, rfl⟩, fun b z => absurd z (noA b), e0.bs, e0.bsz, fun b _ _ => noA b, fun b z => absurd z (noA b), e0.funs, e0.frf⟩,
    rfl, e0.bare, Un.kept hk, ⟨_, x.toInCall.ns, fun i y v h1 h2 h3 => ?_⟩, fun y c h => ⟨_, x.cell y c h⟩, e0.hok.fresh (Nat.le_refl _), fun y c h => ?_, fun q hq => ?_, e0.hok.kept hk, ?_⟩
  · exact name_of_addr x.apart (PySem.mem_of_lookup h1) (PySem.mem_of_lookup h2)
  · have hy : scope.names.lookup y = some .cell ∨ scope.names.lookup y = some .free := hy
    rcases hy with hy | hy
    · exact cell_has hy
    · exact absurd rfl (S.nofree _ (PySem.mem_of_lookup hy))
  · exact Nat.le_of_lt (x.above y c (PySem.mem_of_lookup h))
  · have hi : i < vs.length := by
      unfold L2.start at h2
      by_cases hi : i < vs.length
      · exact hi
      · rw [List.getElem?_append_right (by simpa using hi)] at h2
        rw [List.getElem?_replicate] at h2
        split at h2 <;> cases h2
    have ha : vs[i]? = some v := by
      unfold L2.start at h2
      rw [List.getElem?_append_left (by simpa using hi), List.getElem?_map] at h2
      cases e : vs[i]? with
      | none => rw [e] at h2; cases h2
      | some a => rw [e] at h2; cases h2; rfl
    obtain ⟨u, hu, rv⟩ := r.get ha
    have hp : ps[i]? = some y := by
      rw [← S.pre, List.getElem?_take_of_lt (by omega)]; exact h1
    have ndP : ps.Nodup := by rw [← S.pre]; exact S.nd.sublist (List.take_sublist _ _)
    refine ⟨u, rv, ?_⟩
    rcases S.par y (List.mem_of_getElem? hp) with k | k
    · exact .inl ⟨k, bindL_get ndP hp hu k⟩
    · obtain ⟨c, e⟩ := cell_has (n := s.heap.objs.size + 1) k
      refine .inr ⟨.inl k, c, e, ?_⟩
      have q := x.cell y c e
      rw [bindC_get ndP hp hu (by show scope.names.lookup y ≠ _; rw [k]; decide)] at q
      exact q
  · exact e0.hok.fresh (Nat.le_of_lt (x.above y c (PySem.mem_of_lookup h)))
  · exact absurd (show q ∈ ([] : List (Addr × Obj)) from hq) (by simp)
  · unfold L2.start
    show _ = N.length
    rw [List.length_append, List.length_map, List.length_replicate]
    omega
theorem fnC_ok {CX : CXT} {P : Program} {w : World} {K : PySem.W.Frag} {mg : Str → Option Value} {base : Heap} {x qual : Str} {params : Arguments} {body : List Stmt} {scope : Scope} {dvs : List V} {kws : List (Str × V)} {f : Addr} {fd : FuncData} {N ps : List Str} {k : Nat} {sp : Sp} (F : FunD K x qual params body scope dvs kws f fd) (S : FnScope N ps scope) (len : ∀ vs H Q E, sp vs H Q E → vs.length = ps.length)
    (hbody : ∀ (cdv : Value) (A : Around) (outer : List Env) (s : Shared) (H : Hp) (vs : List V) (Q : VK) (E : XK), L2H.RoomH k (A.deeper (envOfC qual scope s.heap.objs.size f cdv)) → sp vs H Q E →
      ∃ t, PSs (cxC CX P w K mg base N qual scope f cdv A outer s H E) body t ∧ t { nx := fun _ H' => Q .non H', rt := Q } (L2.start N vs) H) :
    FnC P w K mg base CX (k + 1) f fd ps sp := by
  obtain ⟨oc, od, dV, kV, doc, pm, an, cdv, ct, osl, rfl, lk, hcd, _, _⟩ := F.ex
  refine ⟨len, fun A outer s H args us vs Q E hr e0 hb r hsp => ?_⟩
  have hl := len _ _ _ _ hsp
  have KX : K.In s.heap := e0.mod.kin.keeps fun b o e => (e0.bs b o e).1
  have lim : s.heap.NoLimit := e0.mod.nolimit.keeps fun b o e => (e0.bs b o e).1
  have hkind : ∀ y ∈ ps.zip us, scope.names.lookup y.1 = some .local ∨ (scope.names.lookup y.1 = some .cell ∧ ((cellsFrom (s.heap.objs.size + 1) scope.names []).lookup y.1).isSome = true) := fun ⟨n, v⟩ hy => by
    rcases S.par n (List.of_mem_zip hy).1 with q | q
    · exact .inl q
    · exact .inr ⟨q, PySem.W.cellsFrom_some _ _ _ (.inl q)⟩
  refine codeAny_call_function hr.depth (KX _ _ lk) rfl S.co S.gen rfl (PySem.W.codeRec_of KX hcd) (hb _ _ _ _ ?_)
  refine wpAny_newFunctionEnv_cells S.kind hkind fun env he s1 x => ?_
  subst he
  refine ⟨lim.keeps x.toInCall.keep, codeAny_func ?_⟩
  obtain ⟨t, ht, hq⟩ := hbody cdv A outer s H vs Q E (hr.deeper _) hsp
  have I : Inv (cxC CX P w K mg base N qual scope f cdv A outer s H E) [] (L2.start N vs) H s1 := inv_startC S e0 hl r x
  refine wpAny_mono (ht.run [] s1 (L2.start N vs) H _ I hq) (fun fl s' hs => ?_) fun e s' hs => hs
  have fin : ∀ {σ' : L2.St} {H' : Hp} {v : V} {u : Value}, Inv (cxC CX P w K mg base N qual scope f cdv A outer s H E) [] σ' H' s' → RelV v u → Q v H' → CE outer P w H s Q u s' :=
    fun {σ' H' v u} J rv q => ⟨v, H', J.os, J.bare, J.base, J.hok, rv, q⟩
  cases fl with
  | ret u =>
    obtain ⟨v, σ', H', J, rv, q⟩ := hs
    exact fin J rv q
  | next =>
    obtain ⟨σ', H', J, q⟩ := hs
    exact fin (v := V.non) (u := Value.none) J rfl q
  | brk =>
    obtain ⟨_, _, _, q⟩ := hs
    exact False.elim q
  | cont =>
    obtain ⟨_, _, _, q⟩ := hs
    exact False.elim q
/-! ### e.f, a property, whatever is handled -/
section
variable {X : Cx} {k : Nat} {C p g a dx : Addr} {fs : List (Str × V)} {f : Str} {fd : FuncData} {ps : List Str} {sp : Sp} {e : Expr} {pos : Pos} {ta : TE}
theorem pe_propC {E : XK} (he : PE X e ta) (c : Cls X.K C) (hp : PropOf X.K C f p g) (F : FnC X.prog X.w X.K X.mg X.base CX0 k g fd ps sp) (hr : L2H.RoomH (k + 1) X.A) (hb : Binds X.K fd ps []) (hab : attributeBase e f X.env (eval e X.env) = eval e X.env := by rfl) : PE X (.Attribute e f pos) (tProp C sp [] E ta) := by
  refine ⟨fun pins s σ H Q I h => ?_⟩
  refine attr_of hab (thn (he.run pins s σ H _ I h) fun u s1 ⟨x, H1, I1, rx, a, dx, fs, ex, ea, q⟩ => ?_)
  subst ex
  obtain rfl : u = Value.ref a := rx
  obtain ⟨mA, O, _, _, _, _⟩ := ins_get I1.hok ea
  obtain ⟨od, J, _⟩ := O.look
  obtain ⟨rest, hrec⟩ := hp.rec_
  have I2 := I1.tok (s1.toks + 1)
  have hl : [Value.ref a].length = ps.length := by
    rw [← F.len _ _ _ _ q]
    rfl
  have hc : (PySem.W.clsIn X.K C).isSome = true := by
    obtain ⟨cd, hc, _⟩ := PySem.W.any_some c.hd
    rw [hc]
    rfl
  have hr1 : L2H.RoomH k X.A.in1 := ⟨by have := hr.dp; show X.A.depth + _ + _ < _; omega, by have := hr.un; show X.A.units + 1 + _ + _ < _; omega⟩
  have b1 := hb { s1 with toks := s1.toks + 1 } [.ref a] I2.kIn (by rw [List.append_nil]; exact hl)
  rw [List.append_nil] at b1
  refine PySem.W.get_bind I1.kIn J (PySem.W.plainGet_of (c.get f)).1 (PySem.W.findObj_data hc hp.at_ hp.get hp.tak) (PySem.W.plainGet_of (c.get f)).2 (wpAny_call (PySem.W.prop_get (s := { s1 with toks := s1.toks + 1 }) I1.kIn hrec ?_))
  refine codeAny_mono (F.run X.A.in1 X.stack { s1 with toks := s1.toks + 1 } H1 ⟨[.ref a], []⟩ [.ref a] [.ref a] Q E hr1 I2.env0.in1 b1 (.cons rfl .nil) q) fun r s' hq => ?_
  cases r with
  | error er => exact False.elim hq
  | ok fl =>
    cases fl with
    | ret u =>
      obtain ⟨v, H', I3, rv, q3⟩ := I2.after hq
      show wpAny _ _ (handedOut u) _ _ _
      rw [PySem.W.handedOut_of (handed_of rv)]
      exact wpAny_pure ⟨v, H', I3, rv, q3⟩
    | next => exact False.elim hq
    | brk => exact False.elim hq
    | cont => exact False.elim hq
end
/-! ### d.get(k), k None or a key -/
def tDGetN (td ty : TE) : TE := fun σ H Q => td σ H fun x H1 => ∃ a, x = .ref a ∧ IsD H1 a ∧ ty σ H1 fun y H2 => (y = .non ∧ (∃ kvs, Rd H2 a (.dK kvs)) ∧ Q .non H2) ∨ ∃ o, DGet H2 a y o ∧ Q (o.getD .non) H2
theorem pe_dgetN {X : Cx} {o e : Expr} {apos cpos : Pos} {td ty : TE} (hu : X.A.units + 1 < cLine) (ho : PE X o td) (he : PE X e ty) (m : M1 X o "get" apos e cpos) : PE X (.Call (.Attribute o "get" apos) [e] [] cpos) (tDGetN td ty) := by
  refine ⟨fun pins s σ H Q I h => ?_⟩
  refine wpAny_Call_method m.base m.few m.line PySem.F.plainAttrs_dict PySem.F.slot_dict_get PySem.F.type_dict_get (thn (ho.run pins s σ H _ I h) fun u s1 ⟨x, H1, I1, rx, a, ex, d, q1⟩ => ?_)
  subst ex
  obtain rfl : u = Value.ref a := rx
  obtain ⟨t1, t2, _⟩ := isD_at I1 d
  refine ⟨t1, t2, ?_⟩
  rw [m.trees]
  refine Calls.callWith_builtin rfl (Calls.evalArgs_plain (Calls.spliced_cons (thn (he.run pins s1 σ H1 _ I1 q1) fun iv s2 ⟨y, H2, I2, ry, h2⟩ => Calls.spliced_nil ?_)))
  rcases h2 with ⟨ey, ⟨kvs, hd⟩, q2⟩ | ⟨ov, g, q2⟩
  · subst ey
    obtain rfl : iv = Value.none := ry
    obtain ⟨_, hsm, vs, _, dd⟩ := dk_rd I2.hok hd
    obtain ⟨f, hm, hf⟩ := none_map dd
    refine PySem.call_meetsIn PySem.F.slot_dict_get dd.typeIs PySem.F.entry_dict_get (PySem.F.args_dict_get_2 _ _) (meets_dict_get (noneKind X.prog X.w) a (show (noneKind X.prog X.w).is none .none = true from rfl) hsm) ⟨_, hm, ?_⟩
    rw [hf]
    exact ⟨.non, H2, I2.tok _, rfl, q2⟩
  · exact d_get1 hu I2 g ry fun w' s3 I3 rw' => ⟨_, H2, I3, rw', q2⟩
end K25

/-! K25: the plain law: closures, runs, what a watcher tells. -/
namespace K25
open PySem
/-! ### closures by a list of what is found and a list of what is to be looked at -/
inductive Clo {α : Type} (R : α → α → Prop) (S : α → Prop) : α → Prop
  | base {a : α} (h : S a) : Clo R S a
  | step {a b : α} (h : Clo R S a) (r : R a b) : Clo R S b
structure Work {α : Type} (R : α → α → Prop) (S : α → Prop) (found rest : List α) : Prop where
  sound : ∀ x ∈ found, Clo R S x
  base : ∀ x, S x → x ∈ found
  shut : ∀ x ∈ found, x ∈ rest ∨ ∀ y, R x y → y ∈ found
  sub : ∀ x ∈ rest, x ∈ found
  nd : found.Nodup
theorem Work.start {α : Type} {R : α → α → Prop} {S : α → Prop} {l : List α} (h : ∀ x, S x ↔ x ∈ l) (nd : l.Nodup) : Work R S l l :=
  ⟨fun x hx => .base ((h x).mpr hx), fun x hx => (h x).mp hx, fun x hx => .inl hx, fun x hx => hx, nd⟩
theorem Work.done {α : Type} {R : α → α → Prop} {S : α → Prop} {found : List α} (w : Work R S found []) (x : α) : x ∈ found ↔ Clo R S x := by
  refine ⟨w.sound x, fun h => ?_⟩
  induction h with
  | base h => exact w.base _ h
  | step h r ih =>
    rcases w.shut _ ih with z | z
    · exact absurd z (by simp)
    · exact z _ r
/-- x is taken off the rest; of its edges those in es are seen -/
structure Half {α : Type} (R : α → α → Prop) (S : α → Prop) (x : α) (done : α → Prop) (found rest : List α) : Prop where
  sound : ∀ z ∈ found, Clo R S z
  base : ∀ z, S z → z ∈ found
  shut : ∀ z ∈ found, z ∈ rest ∨ z = x ∨ ∀ y, R z y → y ∈ found
  sub : ∀ z ∈ rest, z ∈ found
  nd : found.Nodup
  at_ : x ∈ found
  mine : ∀ y, done y → y ∈ found
theorem Work.pop {α : Type} {R : α → α → Prop} {S : α → Prop} {found rest : List α} {x : α} (w : Work R S found (rest ++ [x])) : Half R S x (fun _ => False) found rest := by
  refine ⟨w.sound, w.base, fun z hz => ?_, fun z hz => w.sub z (List.mem_append_left _ hz), w.nd, w.sub x (by simp), fun _ h => h.elim⟩
  rcases w.shut z hz with q | q
  · rcases List.mem_append.mp q with k | k
    · exact .inl k
    · exact .inr (.inl (by simpa using k))
  · exact .inr (.inr q)
theorem Half.skip {α : Type} {R : α → α → Prop} {S : α → Prop} {found rest : List α} {x : α} {d d' : α → Prop} (w : Half R S x d found rest) (h : ∀ y, d' y → d y ∨ y ∈ found) : Half R S x d' found rest :=
  ⟨w.sound, w.base, w.shut, w.sub, w.nd, w.at_, fun y hy => (h y hy).elim (w.mine y) id⟩
theorem Half.add {α : Type} {R : α → α → Prop} {S : α → Prop} {found rest : List α} {x y : α} {d d' : α → Prop} (w : Half R S x d found rest) (r : R x y) (hn : y ∉ found) (h : ∀ z, d' z → d z ∨ z = y) : Half R S x d' (found ++ [y]) (rest ++ [y]) := by
  refine ⟨fun z hz => ?_, fun z hz => List.mem_append_left _ (w.base z hz), fun z hz => ?_, fun z hz => ?_, ?_, List.mem_append_left _ w.at_, fun z hz => ?_⟩
  · rcases List.mem_append.mp hz with k | k
    · exact w.sound z k
    · have e : z = y := by simpa using k
      rw [e]
      exact .step (w.sound x w.at_) r
  · rcases List.mem_append.mp hz with k | k
    · rcases w.shut z k with q | q | q
      · exact .inl (List.mem_append_left _ q)
      · exact .inr (.inl q)
      · exact .inr (.inr fun u hu => List.mem_append_left _ (q u hu))
    · exact .inl (List.mem_append_right _ k)
  · rcases List.mem_append.mp hz with k | k
    · exact List.mem_append_left _ (w.sub z k)
    · exact List.mem_append_right _ k
  · rw [List.nodup_append]
    refine ⟨w.nd, by simp, fun a ha b hb e => hn ?_⟩
    have e2 : b = y := by simpa using hb
    rw [← e2, ← e]
    exact ha
  · rcases h z hz with k | k
    · exact List.mem_append_left _ (w.mine z k)
    · exact List.mem_append_right _ (by simp [k])
theorem Half.done {α : Type} {R : α → α → Prop} {S : α → Prop} {found rest : List α} {x : α} {d : α → Prop} (w : Half R S x d found rest) (h : ∀ y, R x y → d y) : Work R S found rest :=
  ⟨w.sound, w.base, fun z hz => by
    rcases w.shut z hz with q | q | q
    · exact .inl q
    · exact .inr (by rw [q]; exact fun y hy => w.mine y (h y hy))
    · exact .inr q, w.sub, w.nd⟩
theorem nodup_len {α : Type} [DecidableEq α] : ∀ (l U : List α), l.Nodup → (∀ x ∈ l, x ∈ U) → l.length ≤ U.length
  | [], _, _, _ => Nat.zero_le _
  | a :: l, U, nd, h => by
    rw [List.nodup_cons] at nd
    have ha : a ∈ U := h a (by simp)
    have ih := nodup_len l (U.erase a) nd.2 fun x hx => (List.mem_erase_of_ne fun e : x = a => nd.1 (by rw [← e]; exact hx)).mpr (h x (List.mem_cons_of_mem _ hx))
    have e := List.length_erase_of_mem ha
    have hp : 0 < U.length := List.length_pos_of_mem ha
    rw [List.length_cons]
    omega
theorem Clo.mem {α : Type} {R : α → α → Prop} {S : α → Prop} {T : α → Prop} (hs : ∀ a, S a → T a) (hr : ∀ a b, R a b → T b) {x : α} (h : Clo R S x) : T x := by
  cases h with
  | base h => exact hs _ h
  | step h r => exact hr _ _ r
theorem Clo.congr {α : Type} {R : α → α → Prop} {S S' : α → Prop} (h : ∀ a, S a ↔ S' a) (x : α) : Clo R S x ↔ Clo R S' x := by
  constructor
  · intro q
    induction q with
    | base q => exact .base ((h _).mp q)
    | step _ r ih => exact .step ih r
  · intro q
    induction q with
    | base q => exact .base ((h _).mpr q)
    | step _ r ih => exact .step ih r
/-! ### steps and runs -/
structure Stp where
  s : Int
  k : Str
  w : Str
  g : Int
def OkK (fs : List Str) (k : Str) : Prop := k = "" ∨ k ∈ fs
instance (fs : List Str) (k : Str) : Decidable (OkK fs k) := by unfold OkK; infer_instance
/-- what a machine's steps must be -/
structure OkM (many : Nat) (ss : List Stp) : Prop where
  lo : 1 ≤ many
  hi : many ≤ 5
  len : ss.length ≤ 12
  st : ∀ t ∈ ss, 0 ≤ t.s ∧ t.s < many ∧ 0 ≤ t.g ∧ t.g < many
section
variable (ss : List Stp) (fs : List Str)
def HS (a b : Int) : Prop := ∃ t ∈ ss, t.s = a ∧ OkK fs t.k ∧ t.w = "" ∧ t.g = b
def SS (w : Str) (a b : Int) : Prop := ∃ t ∈ ss, t.s = a ∧ OkK fs t.k ∧ t.w = w ∧ t.g = b
/-- closed again behind one word -/
def nxt (w : Str) (S : Int → Prop) : Int → Prop := Clo (HS ss fs) fun b => ∃ a, S a ∧ SS ss fs w a b
def run0 : Int → Prop := Clo (HS ss fs) fun a => a = 0
def runs (t : List Str) (S : Int → Prop) : Int → Prop := t.foldl (fun S w => nxt ss fs w S) S
/-- there is a run that shows t -/
def Has (t : List Str) : Prop := ∃ g, runs ss fs t (run0 ss fs) g
theorem runs_append (t u : List Str) (S : Int → Prop) : runs ss fs (t ++ u) S = runs ss fs u (runs ss fs t S) := List.foldl_append
theorem nxt_some {w : Str} {S : Int → Prop} {x : Int} (h : nxt ss fs w S x) : ∃ y, S y := by
  induction h with
  | base h => obtain ⟨a, ha, _⟩ := h; exact ⟨a, ha⟩
  | step _ _ ih => exact ih
theorem runs_some : ∀ (t : List Str) (S : Int → Prop), (∃ x, runs ss fs t S x) → ∃ y, S y
  | [], _, h => h
  | w :: t, S, h => by
    obtain ⟨y, hy⟩ := runs_some t (nxt ss fs w S) h
    exact nxt_some ss fs hy
theorem Has.left {t u : List Str} (h : Has ss fs (t ++ u)) : Has ss fs t := by
  unfold Has at *
  rw [runs_append] at h
  exact runs_some ss fs u _ h
/-- pairs: the state, whether a step of kind k is behind -/
abbrev Pr := Int × Bool
def PHid (k : Str) (a b : Pr) : Prop := ∃ t ∈ ss, t.s = a.1 ∧ OkK fs t.k ∧ t.w = "" ∧ t.g = b.1 ∧ b.2 = (a.2 || decide (t.k = k))
def PShow (k w : Str) (a b : Pr) : Prop := ∃ t ∈ ss, t.s = a.1 ∧ OkK fs t.k ∧ t.w = w ∧ t.g = b.1 ∧ b.2 = (a.2 || decide (t.k = k))
def pnxt (k w : Str) (S : Pr → Prop) : Pr → Prop := Clo (PHid ss fs k) fun b => ∃ a, S a ∧ PShow ss fs k w a b
def prun0 (k : Str) : Pr → Prop := Clo (PHid ss fs k) fun a => a = (0, false)
def pruns (k : Str) (t : List Str) (S : Pr → Prop) : Pr → Prop := t.foldl (fun S w => pnxt ss fs k w S) S
/-- what is told of kind k behind t -/
def Tells (t : List Str) (k z : Str) : Prop :=
  ((∀ p, pruns ss fs k t (prun0 ss fs k) p → p.2 = true) ∧ z = "certain") ∨
  ((¬ ∀ p, pruns ss fs k t (prun0 ss fs k) p → p.2 = true) ∧ (∃ p, pruns ss fs k t (prun0 ss fs k) p ∧ p.2 = true) ∧ z = "possible") ∨
  ((¬ ∀ p, pruns ss fs k t (prun0 ss fs k) p → p.2 = true) ∧ (¬ ∃ p, pruns ss fs k t (prun0 ss fs k) p ∧ p.2 = true) ∧ z = "out")
theorem Tells.inj {t : List Str} {k z z' : Str} (h : Tells ss fs t k z) (h' : Tells ss fs t k z') : z = z' := by
  rcases h with ⟨a, e⟩ | ⟨a, b, e⟩ | ⟨a, b, e⟩ <;> rcases h' with ⟨a', e'⟩ | ⟨a', b', e'⟩ | ⟨a', b', e'⟩ <;>
    first
    | exact e.trans e'.symm
    | exact absurd a a'
    | exact absurd a' a
    | exact absurd b b'
    | exact absurd b' b
end
theorem take_more {α : Type} {l : List α} {i : Nat} {x : α} (h : l[i]? = some x) : l.take (i + 1) = l.take i ++ [x] := by
  rw [List.take_add_one, h]
  rfl
theorem runs_more {ss : List Stp} {fs : List Str} {t : List Str} {i : Nat} {w : Str} (S : Int → Prop) (h : t[i]? = some w) : runs ss fs (t.take (i + 1)) S = nxt ss fs w (runs ss fs (t.take i) S) := by
  rw [take_more h, runs_append]
  rfl
theorem pruns_more {ss : List Stp} {fs : List Str} {k : Str} {t : List Str} {i : Nat} {w : Str} (S : Pr → Prop) (h : t[i]? = some w) : pruns ss fs k (t.take (i + 1)) S = pnxt ss fs k w (pruns ss fs k (t.take i) S) := by
  unfold pruns
  rw [take_more h, List.foldl_append]
  rfl
/-- the free kinds that the law draws -/
def OkF (fs : List Str) : Prop := fs = [("x" : Str)] ∨ fs = [("x" : Str), ("y" : Str)] ∨ fs = []
/-- all states below many -/
def allS (many : Nat) : List Int := (List.range many).map fun i : Nat => (i : Int)
theorem mem_allS {many : Nat} {x : Int} (h0 : 0 ≤ x) (h1 : x < many) : x ∈ allS many := List.mem_map.mpr ⟨x.toNat, List.mem_range.mpr (by omega), by omega⟩
def allP (many : Nat) : List Pr := (allS many).flatMap fun i => [(i, false), (i, true)]
theorem mem_allP {many : Nat} {p : Pr} (h0 : 0 ≤ p.1) (h1 : p.1 < many) : p ∈ allP many := List.mem_flatMap.mpr ⟨p.1, mem_allS h0 h1, by rcases p with ⟨i, b⟩; cases b <;> simp⟩
theorem allS_len (many : Nat) : (allS many).length = many := by
  unfold allS
  simp
theorem two_len : ∀ l : List Int, (l.flatMap fun i => [((i, false) : Pr), (i, true)]).length = 2 * l.length
  | [] => rfl
  | a :: l => by
    rw [List.flatMap_cons, List.length_append, two_len l]
    show 2 + 2 * l.length = 2 * (l.length + 1)
    omega
theorem allP_len (many : Nat) : (allP many).length = 2 * many := by
  unfold allP
  rw [two_len, allS_len]
end K25

/-! K25: the small defs: is_number, is_word, is_step. -/
namespace K25
open PySem PySem.Spec PyProof.Rows L2
/-- the built-in names and the text's constants -/
structure Bi (mg : Str → Option Value) : Prop where
  inst : mg "isinstance" = none
  int : mg "int" = none
  bool : mg "bool" = none
  str : mg "str" = none
  len : mg "len" = none
  all : mg "all" = none
  any : mg "any" = none
  tuple : mg "tuple" = none
  list : mg "list" = none
  enum : mg "enumerate" = none
  sorted : mg "sorted" = none
  range : mg "range" = none
  zip : mg "zip" = none
  dict : mg "dict" = none
  iter : mg "iter" = none
  ml : ∃ t, mg "MOST_LETTERS" = some (.int 8 t)
  ms : ∃ t, mg "MOST_STATES" = some (.int 3000 t)
def spIsNum : Sp := fun vs H Q _ => ∃ i : Int, vs = [.int i] ∧ Q (.bl true) H
/-- is z a word: one to eight small letters -/
def isW (z : Str) : Bool := decide (1 ≤ z.cps.size) && decide (z.cps.size ≤ 8) && z.cps.toList.all fun c => (!decide ([c] < [97])) && (!decide ([122] < [c]))
def spIsWord : Sp := fun vs H Q _ => (∃ i : Int, vs = [.int i] ∧ Q (.bl false) H) ∨ ∃ z : Str, vs = [.str z] ∧ z.cps.size ≤ 1000 ∧ ∀ H', Same H H' → Q (.bl (isW z)) H'
theorem same_put {H H1 : Hp} {d : Addr} {o : HO} (s : Same H H1) (h : H d = none) : Same H (upd H1 d o) := fun b ob e => by
  rw [upd_ne (ne_of_none e h)]
  exact s b ob e
theorem a_cps : (Str.ofString "a").cps.toList = [97] := by decide +kernel
theorem z_cps : (Str.ofString "z").cps.toList = [122] := by decide +kernel
section
variable {P : Program} {w : World} {K : PySem.W.Frag} {mg : Str → Option Value} {base : Heap} {f : Addr} {fd : FuncData}
theorem ok_isNum (F : FnP K "is_number" "is_number" sIsNum f fd) (B : Bi mg) : FnOk P w K mg base CX0 1 f fd ["thing"] spIsNum := by
  refine F.ok scIsNum (fun vs H Q E h => ?_) (fun cdv A outer s H vs Q E hr h => ?_)
  · obtain ⟨i, rfl, _⟩ := h
    rfl
  · obtain ⟨i, rfl, k⟩ := h
    refine ⟨_, pss_one (ps_ret (pe_and (pe_callB call_isi (by rfl) B.inst (by decide +kernel) (pa_cons (pv 0) (pa_cons (pe_bltn (v := .ty "int") (by rfl) B.int (by decide +kernel) rfl) pa_nil)))
      (pe_one (pe_not (pe_callB call_isi (by rfl) B.inst (by decide +kernel) (pa_cons (pv 0) (pa_cons (pe_bltn (v := .ty "bool") (by rfl) B.bool (by decide +kernel) rfl) pa_nil))))))), ?_⟩
    refine ⟨_, rfl, _, _, _, _, true, rfl, .ty _, .base (.int i), kit_ty (by decide +kernel), true, rfl, ?_⟩
    exact ⟨_, rfl, _, _, _, _, false, rfl, .ty _, .base (.int i), kit_ty (by decide +kernel), false, rfl, k⟩
theorem ok_isWord (F : FnP K "is_word" "is_word" sIsWord f fd) (B : Bi mg) : FnOk P w K mg base CX0 1 f fd ["thing"] spIsWord := by
  refine F.ok scIsWord (fun vs H Q E h => ?_) (fun cdv A outer s H vs Q E hr h => ?_)
  · rcases h with ⟨i, rfl, _⟩ | ⟨i, rfl, _⟩ <;> rfl
  · obtain ⟨tml, ml⟩ := B.ml
    refine ⟨_, pss_cons (ps_if (PW.pt (pw_or (pt_not (pt_val (pe_callB call_isi (by rfl) B.inst (by decide +kernel) (pa_cons (pv 0) (pa_cons (pe_bltn (v := .ty "str") (by rfl) B.str (by decide +kernel) rfl) pa_nil)))))
        (pw_or1 (pt_not (pt_chain op_le op_le pe_int (pe_callB call_len_str (by rfl) B.len (by decide +kernel) (pa_cons (pv 0) pa_nil)) (pe_glob (v := .int 8) rfl ml ⟨_, rfl⟩))))))
        (pss_one (ps_ret pe_bl)) pss_nil)
      (pss_one (ps_ret (pe_callB (cr_all rfl) (by rfl) B.all (by decide +kernel) (pa_cons
        (pe_lc (own := [("sign", 1)]) (g := gName 1) (tt := tYes) rfl scIsWord.nd (pi_str (pv 0)) (blkOk_by (own := [("sign", 1)]) (N := ["thing", "sign"]) (sc := defScope sIsWord) (by decide +kernel)) (fun _ _ _ _ _ => pg_name (i := 1) scIsWord.nd rfl (Or.inl rfl)) (fun _ _ _ _ _ => pts_nil)
          (fun _ _ _ _ _ => pe_chain op_le_str op_le_str pe_str (pv 1) pe_str)) pa_nil)))), ?_⟩
    rcases h with ⟨i, rfl, k⟩ | ⟨z, rfl, hz, k⟩
    · refine ⟨_, rfl, _, _, _, _, false, rfl, .ty _, .base (.int i), kit_ty (by decide +kernel), false, rfl, ?_⟩
      exact k
    · refine ⟨_, rfl, _, _, _, _, true, rfl, .ty _, .base (.str z), kit_ty (by decide +kernel), true, rfl, ?_⟩
      have hz2 : z.length ≤ sizeLine := by
        rw [sizeLine_eq]
        show z.cps.size ≤ _
        omega
      refine iteF ⟨_, rfl, z, rfl, hz2, _, _, rfl, rfl, _, rfl, ?_⟩
      refine ite2 (fun h1 => ?_) (fun h1 => ?_)
      · refine ⟨_, _, rfl, rfl, _, rfl, ?_⟩
        refine ite2 (fun h2 => ?_) (fun h2 => ?_)
        · have e2 : ¬ z.cps.size ≤ 8 := by
            have h := h2
            rw [Bool.not_eq_true', decide_eq_false_iff_not] at h
            have e : z.length = z.cps.size := rfl
            omega
          have e1 : isW z = false := by
            unfold isW
            rw [decide_eq_false e2, Bool.and_false, Bool.false_and]
          have q := k H (Same.refl H)
          rw [e1] at q
          exact q
        · refine ⟨_, rfl, z, rfl, fun D hD => lc_it (walk_str (z := z)) (fun i H' => ∃ bs : List Bool, H' D = some (.lst (bs.map V.bl)) ∧ Same H H' ∧ bs = (z.cps.toList.take i).map fun c => (!decide ([c] < [97])) && (!decide ([122] < [c]))) ⟨[], upd_same, same_put (fun _ _ e => e) hD, rfl⟩ (fun _ _ _ _ => True.intro) ?_ ?_⟩
          · rintro i x H1 H2 hi ⟨bs, hb, sm, eb⟩ ⟨rfl, c, hc, rfl⟩
            have fin : ∀ b : Bool, b = ((!decide ([c] < [97])) && (!decide ([122] < [c]))) → ∃ acc, H2 D = some (.lst acc) ∧ acc.length < sizeLine ∧ ∃ bs : List Bool, upd H2 D (.lst (acc ++ [V.bl b])) D = some (.lst (bs.map V.bl)) ∧ Same H (upd H2 D (.lst (acc ++ [V.bl b]))) ∧ bs = (z.cps.toList.take (i + 1)).map fun c => (!decide ([c] < [97])) && (!decide ([122] < [c])) := fun b eq => by
              refine ⟨_, hb, ?_, bs ++ [b], ?_, same_put sm hD, ?_⟩
              · rw [eb, List.length_map, List.length_map, List.length_take, sizeLine_eq]
                omega
              · rw [upd_same, List.map_append]
                rfl
              · have hc2 : z.cps.toList[i]? = some c := by rw [Array.getElem?_toList]; exact hc
                rw [take_more hc2, List.map_append, eb, eq]
                rfl
            refine ⟨rfl, _, rfl, _, _, rfl, rfl, _, rfl, ?_⟩
            refine ite2 (fun h3 => ?_) (fun h3 => ?_)
            · refine ⟨_, _, rfl, rfl, fin _ ?_⟩
              rw [a_cps] at h3
              rw [z_cps]
              show (!decide ([122] < [c])) = _
              rw [show (!decide ([c] < [97])) = true from h3, Bool.true_and]
            · refine fin _ ?_
              rw [a_cps] at h3
              rw [show (!decide ([c] < [97])) = false from by simpa using h3, Bool.false_and]
          · rintro H1 ⟨bs, hb, sm, eb⟩
            refine ⟨D, bs, rfl, SqL.of hb, ?_⟩
            have e1 : isW z = bs.all id := by
              unfold isW
              have e3 : z.length = z.cps.size := rfl
              have e4 : 1 ≤ z.cps.size := by
                have h := h1
                rw [decide_eq_true_iff] at h
                omega
              have e5 : z.cps.size ≤ 8 := by
                have h := h2
                rw [Bool.not_eq_true', decide_eq_false_iff_not] at h
                omega
              rw [eb, List.take_of_length_le (by simp), decide_eq_true e4, decide_eq_true e5, Bool.true_and, Bool.true_and, List.all_map]
              rfl
            rw [← e1]
            exact k _ sm
      · refine ⟨false, rfl, ?_⟩
        have e1 : isW z = false := by
          unfold isW
          have e2 : ¬ 1 ≤ z.cps.size := by
            have h := h1
            rw [decide_eq_true_iff] at h
            have e3 : z.length = z.cps.size := rfl
            omega
          rw [decide_eq_false e2, Bool.false_and, Bool.false_and]
        have q := k H (Same.refl H)
        rw [e1] at q
        exact q
end
end K25

/-! K25: is_step. -/
namespace K25
open PySem PySem.Spec PyProof.Rows L2
def stpV (t : Stp) : List V := [.int t.s, .str t.k, .str t.w, .int t.g]
def OkW (z : Str) : Prop := (z = "" ∨ isW z = true) ∧ z.cps.size ≤ 1000
/-- a step that may be drawn for a machine of many states -/
structure OkS (many : Nat) (t : Stp) : Prop where
  s0 : 0 ≤ t.s
  s1 : t.s < many
  g0 : 0 ≤ t.g
  g1 : t.g < many
  k : OkW t.k
  w : OkW t.w
abbrev kE : Key := Sum.inr ("" : Str)
def spIsStep : Sp := fun vs H Q _ => ∃ (t d : Addr) (many : Nat) (st : Stp) (kvs : List (Key × V)), vs = [.ref t, .int many, .ref d] ∧ H t = some (.tup (stpV st)) ∧ OkS many st ∧ H d = some (.dK kvs) ∧ (valV kvs kE).isSome = true ∧ kvs.length ≤ 1000 ∧
  ∀ (H' : Hp) (kvs' : List (Key × V)), (∀ b o, b ≠ d → H b = some o → H' b = some o) → H' d = some (.dK kvs') → (valV kvs' kE).isSome = true → kvs'.length ≤ kvs.length + 2 → Q (.bl true) H'
theorem ifT {c : Bool} {A B : Prop} (hc : c = true) (h : A) : if c = true then A else B := by
  rw [if_pos hc]
  exact h
theorem ifF {c : Bool} {A B : Prop} (hc : c = false) (h : B) : if c = true then A else B := by
  rw [hc, if_neg Bool.false_ne_true]
  exact h
theorem dT {p : Prop} [Decidable p] (h : p) : (!decide p) = false := by rw [decide_eq_true h]; rfl
section
variable {P : Program} {w : World} {K : PySem.W.Frag} {mg : Str → Option Value} {base : Heap} {f fN fW : Addr} {fd fdN fdW : FuncData}
theorem ok_isStep (F : FnP K "is_step" "is_step" sIsStep f fd) (B : Bi mg) (GN : FnOk P w K mg base CX0 1 fN fdN ["thing"] spIsNum) (mN : mg "is_number" = some (.ref fN)) (kN : PySem.W.keepIn K (.ref fN) = true) (bN : Binds K fdN ["thing"] [])
    (GW : FnOk P w K mg base CX0 1 fW fdW ["thing"] spIsWord) (mW : mg "is_word" = some (.ref fW)) (kW : PySem.W.keepIn K (.ref fW) = true) (bW : Binds K fdW ["thing"] []) : FnOk P w K mg base CX0 2 f fd ["thing", "many", "known"] spIsStep := by
  refine F.ok scIsStep (fun vs H Q E h => ?_) (fun cdv A outer s H vs Q E hr h => ?_)
  · obtain ⟨t, d, many, st, kvs, rfl, _⟩ := h
    rfl
  · obtain ⟨t, d, many, st, kvs, rfl, ht, ok, hd, hE, hl, k⟩ := h
    have hu := hu_of hr
    have nd := scIsStep.nd
    refine ⟨_, PSs.nox (pss_cons (ps_if (PW.pt (pw_or (pt_not (pt_val (pe_callB call_isi (by rfl) B.inst (by decide +kernel) (pa_cons (pv 0) (pa_cons (pe_bltn (v := .ty "tuple") (by rfl) B.tuple (by decide +kernel) rfl) pa_nil)))))
        (pw_or1 (pt_cmpR op_ne (pe_callB call_len_seq (by rfl) B.len PySem.boot_len (pa_cons (pv 0) pa_nil)) pe_int (nomark _))))) pss_never pss_nil)
      (pss_cons (ps_asg (pv 0) (pg_tup (by rfl) (pgs_cons (pg_name (i := 3) nd rfl (Or.inl rfl)) (pgs_cons (pg_name (i := 4) nd rfl (Or.inl rfl)) (pgs_cons (pg_name (i := 5) nd rfl (Or.inl rfl)) (pgs_cons (pg_name (i := 6) nd rfl (Or.inl rfl)) pgs_nil))))))
      (pss_cons (ps_if (PW.pt (pw_or (pt_not (pt_val (pe_call GN hr rfl mN kN bN .nil pass0 (pa_cons (pv 3) pa_nil)))) (pw_or (pt_not (pt_val (pe_call GN hr rfl mN kN bN .nil pass0 (pa_cons (pv 6) pa_nil))))
        (pw_or (pt_not (pt_chain op_le op_lt pe_int (pv 3) (pv 1))) (pw_or1 (pt_not (pt_chain op_le op_lt pe_int (pv 6) (pv 1)))))))) pss_never pss_nil)
      (pss_cons (ps_for PassesOwn.never rfl (pi_tup (pe_tup (pa_cons (pv 4) (pa_cons (pv 5) pa_nil)))) (pg_name (i := 7) nd rfl (Or.inl rfl))
        (pss_cons (ps_if (PW.pt (pw_or (pt_not (pt_val (pe_callB call_isi (by rfl) B.inst (by decide +kernel) (pa_cons (pv 7) (pa_cons (pe_bltn (v := .ty "str") (by rfl) B.str (by decide +kernel) rfl) pa_nil)))))
          (pw_or1 (PW.pt (pw_and (pt_cmp (pc_dnotin hu (pv 7) (pv 2))) (pw_and1 (pt_not (pt_val (pe_call GW hr rfl mW kW bW .nil pass0 (pa_cons (pv 7) pa_nil)))))))))) pss_never pss_nil)
          (pss_one (ps_dput hu (pv 2) (pv 7) pe_bl rfl))))
      (pss_one (ps_ret pe_bl)))))), ?_⟩
    -- the first test
    refine ⟨_, rfl, _, _, _, _, true, rfl, .ty _, .base (.tup ht), kit_ty (by decide +kernel), true, rfl, ?_⟩
    refine iteF ⟨_, rfl, t, _, rfl, .inr (SqT.of ht), ?_⟩
    refine ⟨rfl, _, rfl, ?_⟩
    -- state, kind, seen, goal = thing
    refine ⟨_, rfl, t, _, rfl, SqT.of ht, rfl, _, _, rfl, _, _, rfl, _, _, rfl, _, _, rfl, rfl, ?_⟩
    -- the second test
    refine ⟨_, rfl, _, rfl, _, rfl, _, rfl, _, rfl, _, rfl, _, rfl, _, _, rfl, rfl, _, rfl, ?_⟩
    refine ifT (decide_eq_true ok.s0) ⟨_, rfl, _, _, rfl, rfl, _, rfl, ?_⟩
    refine ifF (dT ok.s1) ⟨_, rfl, _, _, rfl, rfl, _, rfl, ?_⟩
    refine ifT (decide_eq_true ok.g0) ⟨_, rfl, _, _, rfl, rfl, _, rfl, ?_⟩
    refine ifF (dT ok.g1) ?_
    -- for one in (kind, seen)
    refine ⟨_, rfl, _, rfl, (by show 2 ≤ sizeLine; decide), fun u hu1 => ⟨u, rfl, ⟨_, SqT.of upd_same⟩, for_tup (xs := [.str st.k, .str st.w]) (fun i σ H' => ∃ (kvs' : List (Key × V)) (v : Option V), σ = [some (.ref t), some (.int many), some (.ref d), some (.int st.s), some (.str st.k), some (.str st.w), some (.int st.g), v] ∧
        (∀ b o, b ≠ d → upd H u (.tup [.str st.k, .str st.w]) b = some o → H' b = some o) ∧ H' d = some (.dK kvs') ∧ (valV kvs' kE).isSome = true ∧ kvs'.length ≤ kvs.length + i) ?_ ?_ ?_ ?_⟩⟩
    · exact ⟨kvs, _, rfl, fun b o _ e => e, by rw [upd_ne (ne_of_none hd hu1)]; exact hd, hE, Nat.le_refl _⟩
    · rintro i σ H1 hi ⟨kvs', v, rfl, sm, _⟩
      exact SqT.of (sm u _ (ne_of_none hd hu1).symm upd_same)
    · rintro i x σ H1 hx ⟨kvs', v, rfl, sm, hd1, hE1, hl1⟩
      have hi : i < 2 := (List.getElem?_eq_some_iff.mp hx).1
      have hxz : ∃ z : Str, x = .str z ∧ OkW z := by
        rcases i with _ | _ | i
        · exact ⟨st.k, (Option.some.inj hx).symm, ok.k⟩
        · exact ⟨st.w, (Option.some.inj hx).symm, ok.w⟩
        · omega
      obtain ⟨z, rfl, oz, sz⟩ := hxz
      refine ⟨_, rfl, _, _, _, _, true, rfl, .ty _, .base (.str z), kit_ty (by decide +kernel), true, rfl, ?_⟩
      refine ⟨_, rfl, _, rfl, d, _, rfl, DGet.k (k := Sum.inr z) hd1, _, rfl, ?_⟩
      have fin : ∀ H2, Same H1 H2 → ∃ (kvs'' : List (Key × V)) (v : Option V), ([some (.ref t), some (.int many), some (.ref d), some (.int st.s), some (.str st.k), some (.str st.w), some (.int st.g), some (.str z)] : List (Option V)) = [some (.ref t), some (.int many), some (.ref d), some (.int st.s), some (.str st.k), some (.str st.w), some (.int st.g), v] ∧
          (∀ b o, b ≠ d → upd H u (.tup [.str st.k, .str st.w]) b = some o → upd H2 d (.dK (putK kvs' (Sum.inr z) (.bl true))) b = some o) ∧ upd H2 d (.dK (putK kvs' (Sum.inr z) (.bl true))) d = some (.dK kvs'') ∧ (valV kvs'' kE).isSome = true ∧ kvs''.length ≤ kvs.length + (i + 1) := fun H2 s2 => by
        refine ⟨_, _, rfl, fun b o nb e => ?_, upd_same, ?_, ?_⟩
        · rw [upd_ne nb]
          exact s2 _ _ (sm b o nb e)
        · rw [valV_put]
          by_cases q : kE = Sum.inr z
          · rw [if_pos q]; rfl
          · rw [if_neg q]; exact hE1
        · have := length_putK kvs' (Sum.inr z) (.bl true)
          omega
      have hsz : kvs'.length < sizeLine := by rw [sizeLine_eq]; omega
      by_cases hc : (valV kvs' (Sum.inr z)).isSome = true
      · refine ifF (by rw [hc]; rfl) ?_
        exact ⟨_, rfl, _, rfl, d, _, rfl, DPut.k (k := Sum.inr z) hd1 hsz, fin H1 (Same.refl _)⟩
      · have hw : isW z = true := by
          rcases oz with e | e
          · rw [e] at hc
            exact absurd hE1 hc
          · exact e
        refine ifT (by rw [Bool.eq_false_iff.mpr hc]; rfl) ?_
        refine ⟨_, rfl, .inr ⟨z, rfl, sz, fun H2 s2 => ⟨_, rfl, ?_⟩⟩⟩
        refine ifF (by rw [hw]; rfl) ?_
        exact ⟨_, rfl, _, rfl, d, _, rfl, DPut.k (k := Sum.inr z) (s2 _ _ hd1) hsz, fin H2 s2⟩
    · rintro σ H1 ⟨kvs', v, rfl, sm, hd1, hE1, hl1⟩
      refine k H1 kvs' (fun b o nb e => sm b o nb ?_) hd1 hE1 hl1
      rw [upd_ne (ne_of_none e hu1)]
      exact e
end
end K25

/-! K25: what stands in the heap; a dict of empty lists. -/
namespace K25
open PySem PySem.Spec PyProof.Rows L2
/-- a dict comprehension over a walk -/
theorem dc_it {J : It} {n : Nat} {G : Hp → Prop} {Y : Nat → Hp → V → Hp → Prop} (w : Walk J n G Y) {g : TG} {tt : TT} {tk tv : TE} {vs : List Nat} {σ : L2.St} {H1 : Hp} {D : Addr} {Qd : Hp → Prop} (Pv : Nat → Hp → Prop) (h0 : Pv 0 (upd H1 D (.dK []))) (hG : ∀ i H, i ≤ n → Pv i H → G H)
    (hs : ∀ i x H H', i < n → Pv i H → Y i H x H' → g x (wipe σ vs) H' fun σ2 H2 => wipe σ2 vs = wipe σ vs ∧ tt σ2 H2 fun b H3 =>
      if b = true then tk σ2 H3 fun y H4 => tv σ2 H4 fun z H5 => ∃ kvs k, y = kV k ∧ H5 D = some (.dK kvs) ∧ kvs.length < sizeLine ∧ Pv (i + 1) (upd H5 D (.dK (putK kvs k z))) else Pv (i + 1) H3) (hd : ∀ H, Pv n H → Qd H) :
    ∃ W : Nat → Nat → Hp → Prop, (∃ m, W 0 m (upd H1 D (.dK []))) ∧ ∀ i m H, W i m H →
      (J.stop i H ∧ Qd H) ∨ (J.go i H ∧ ∃ Nx : Hp → Prop, (∀ H', Nx H' → ∃ m', m' < m ∧ W (i + 1) m' H') ∧ ∀ x H', J.yld i H x H' → g x (wipe σ vs) H' fun σ2 H2 => wipe σ2 vs = wipe σ vs ∧ tt σ2 H2 fun b H3 =>
        if b = true then tk σ2 H3 fun y H4 => tv σ2 H4 fun z H5 => ∃ kvs k, y = kV k ∧ H5 D = some (.dK kvs) ∧ kvs.length < sizeLine ∧ Nx (upd H5 D (.dK (putK kvs k z))) else Nx H3) := by
  refine ⟨fun i m H => m = n - i ∧ i ≤ n ∧ Pv i H, ⟨n, by simp, Nat.zero_le _, h0⟩, ?_⟩
  rintro i m H ⟨rfl, hi, p⟩
  have q := hG i H hi p
  by_cases hlt : i < n
  · refine .inr ⟨w.goes i H hlt q, Pv (i + 1), fun H' p' => ⟨n - (i + 1), by omega, rfl, hlt, p'⟩, fun x H' y => hs i x H H' hlt p (w.yields i H x H' hlt q y)⟩
  · have e : i = n := by omega
    subst e
    exact .inl ⟨w.stops H q, hd H p⟩
/-! ### a dict of lists, by the number -/
/-- at D a dict whose n first keys hold the lists at L; all these lists stand apart -/
structure Lists (D : Addr) (n : Nat) (L : Nat → Addr) (H : Hp) : Prop where
  dict : ∃ kvs : List (Key × V), H D = some (.dK kvs) ∧ kvs.length ≤ n ∧ ∀ i, i < n → valV kvs (Sum.inl (i : Int)) = some (.ref (L i))
  inj : ∀ i j, i < n → j < n → L i = L j → i = j
/-- {state: [] for state in range(n)} -/
theorem dc_lists {H1 : Hp} {D : Addr} {n j : Nat} {vs : List Nat} {σ : L2.St} {Qd : Hp → Prop} (hn : n ≤ 1000) (hD : H1 D = none) (hj : j < (wipe σ vs).length) (hw : ∀ v, wipe ((wipe σ vs).set j v) vs = wipe σ vs)
    (hd : ∀ H L, Same H1 H → Lists D n L H → H1 D = none → (∀ i, i < n → H (L i) = some (.lst []) ∧ H1 (L i) = none) → Qd H) :
    ∃ W : Nat → Nat → Hp → Prop, (∃ m, W 0 m (upd H1 D (.dK []))) ∧ ∀ i m H, W i m H →
      ((Itr 0 n).stop i H ∧ Qd H) ∨ ((Itr 0 n).go i H ∧ ∃ Nx : Hp → Prop, (∀ H', Nx H' → ∃ m', m' < m ∧ W (i + 1) m' H') ∧ ∀ x H', (Itr 0 n).yld i H x H' → gName j x (wipe σ vs) H' fun σ2 H2 => wipe σ2 vs = wipe σ vs ∧ tYes σ2 H2 fun b H3 =>
        if b = true then tVar j σ2 H3 fun y H4 => tLst tNil σ2 H4 fun z H5 => ∃ kvs k, y = kV k ∧ H5 D = some (.dK kvs) ∧ kvs.length < sizeLine ∧ Nx (upd H5 D (.dK (putK kvs k z))) else Nx H3) := by
  refine dc_it (walk_range (lo := 0) (n := n)) (fun i H => ∃ L, Same H1 H ∧ Lists D i L H ∧ ∀ k, k < i → H (L k) = some (.lst []) ∧ H1 (L k) = none) ⟨fun _ => 0, same_put (Same.refl _) hD, ⟨⟨[], upd_same, Nat.le_refl _, fun i hi => absurd hi (Nat.not_lt_zero _)⟩, fun i j hi => absurd hi (Nat.not_lt_zero _)⟩, fun i hi => absurd hi (Nat.not_lt_zero _)⟩ (fun _ _ _ _ => True.intro) ?_ ?_
  · rintro i x H H' hi ⟨L, sm, ⟨⟨kvs, hk, hl, hv⟩, hinj⟩, hL⟩ ⟨rfl, rfl⟩
    refine ⟨hw _, ?_⟩
    refine ⟨.int (0 + (i : Nat)), ?_, ?_⟩
    · rw [List.getElem?_set]
      rw [if_pos rfl, if_pos hj]
    refine ⟨Nat.zero_le _, fun l hl0 => ?_⟩
    have nDl : D ≠ l := ne_of_none hk hl0
    refine ⟨kvs, Sum.inl (0 + (i : Nat)), rfl, by rw [upd_ne nDl]; exact hk, by rw [sizeLine_eq]; omega, fun k => if k = i then l else L k, ?_, ⟨⟨_, upd_same, ?_, ?_⟩, ?_⟩, ?_⟩
    · exact same_put (same_put sm (sm.free hl0)) hD
    · have := length_putK kvs (Sum.inl (0 + (i : Nat))) (.ref l)
      omega
    · intro k hk2
      rw [valV_put]
      by_cases e : k = i
      · subst e
        rw [if_pos (by rw [Int.zero_add]), if_pos rfl]
      · rw [if_neg (by rw [Int.zero_add]; intro q; exact e (Int.ofNat.inj (Sum.inl.inj q))), if_neg e]
        exact hv k (by omega)
    · intro a b ha hb e
      by_cases e1 : a = i
      · by_cases e2 : b = i
        · rw [e1, e2]
        · exfalso
          rw [if_pos e1, if_neg e2] at e
          exact ne_of_none (hL b (by omega)).1 hl0 e.symm
      · by_cases e2 : b = i
        · exfalso
          rw [if_neg e1, if_pos e2] at e
          exact ne_of_none (hL a (by omega)).1 hl0 e
        · rw [if_neg e1, if_neg e2] at e
          exact hinj a b (by omega) (by omega) e
    · intro k hk2
      show upd (upd H' l (HO.lst [])) D (HO.dK (putK kvs (Sum.inl (0 + (i : Int))) (V.ref l))) (if k = i then l else L k) = some (HO.lst []) ∧ H1 (if k = i then l else L k) = none
      by_cases e : k = i
      · rw [if_pos e, upd_ne nDl.symm, upd_same]
        exact ⟨rfl, sm.free hl0⟩
      · rw [if_neg e]
        obtain ⟨a1, a2⟩ := hL k (by omega)
        have n1 : L k ≠ D := ne_of a1 hk (fun z => nomatch z)
        have n2 : L k ≠ l := ne_of_none a1 hl0
        rw [upd_ne n1, upd_ne n2]
        exact ⟨a1, a2⟩
  · rintro H ⟨L, sm, ls, hL⟩
    exact hd H L sm ls hD hL
/-! ### machines and views -/
def machF (m a b c d : V) : List (Str × V) := [("many", m), ("steps", a), ("ways", b), ("kinds", c), ("words", d)]
def viewF (a b : V) : List (Str × V) := [("hidden", a), ("shown", b)]
abbrev refs {α : Type} (l : List (Addr × α)) : List V := l.map fun z => V.ref z.1
/-- at p a machine of many states with these steps -/
def MachAt (CM : Addr) (H : Hp) (p : Addr) (many : Nat) (ss : List Stp) : Prop :=
  ∃ (dx a b c d : Addr) (zs : List (Addr × Stp)) (L : Nat → Addr), H p = some (.ins CM dx (machF (.int many) (.ref a) (.ref b) (.ref c) (.ref d))) ∧
    H a = some (.tup (refs zs)) ∧ (∀ z ∈ zs, H z.1 = some (.tup (stpV z.2))) ∧ zs.map (·.2) = ss ∧
    Lists b many L H ∧ ∀ i, i < many → ∃ us : List (Addr × Stp), H (L i) = some (.lst (refs us)) ∧ (∀ z ∈ us, H z.1 = some (.tup (stpV z.2))) ∧ us.map (·.2) = ss.filter fun t => decide (t.s = (i : Int))
theorem Lists.same {D : Addr} {n : Nat} {L : Nat → Addr} {H H' : Hp} (x : Lists D n L H) (s : Same H H') : Lists D n L H' := by
  obtain ⟨⟨kvs, h1, h2, h3⟩, inj⟩ := x
  exact ⟨⟨kvs, s _ _ h1, h2, h3⟩, inj⟩
theorem MachAt.same {CM : Addr} {H H' : Hp} {p : Addr} {many : Nat} {ss : List Stp} (x : MachAt CM H p many ss) (s : Same H H') : MachAt CM H' p many ss := by
  obtain ⟨dx, a, b, c, d, zs, L, h1, h2, h3, h4, h5, h6⟩ := x
  exact ⟨dx, a, b, c, d, zs, L, s _ _ h1, s _ _ h2, fun z hz => s _ _ (h3 z hz), h4, h5.same s, fun i hi => by
    obtain ⟨us, u1, u2, u3⟩ := h6 i hi
    exact ⟨us, s _ _ u1, fun z hz => s _ _ (u2 z hz), u3⟩⟩
/-- the goals of the hidden steps from i, the words and goals of the shown ones -/
def hidL (fs : List Str) (ss : List Stp) (i : Int) : List Int := (ss.filter fun t => decide (t.s = i) && (decide (OkK fs t.k) && decide (t.w = ("" : Str)))).map (·.g)
def shoL (fs : List Str) (ss : List Stp) (i : Int) : List (Str × Int) := (ss.filter fun t => decide (t.s = i) && (decide (OkK fs t.k) && !decide (t.w = ("" : Str)))).map fun t => (t.w, t.g)
abbrev wgV (q : Str × Int) : List V := [.str q.1, .int q.2]
def ViewAt (CV : Addr) (H : Hp) (p : Addr) (many : Nat) (fs : List Str) (ss : List Stp) : Prop :=
  ∃ (dx a b : Addr) (L M : Nat → Addr), H p = some (.ins CV dx (viewF (.ref a) (.ref b))) ∧ Lists a many L H ∧ Lists b many M H ∧ (∀ i, i < many → H (L i) = some (.lst ((hidL fs ss i).map V.int))) ∧
    ∀ i, i < many → ∃ us : List (Addr × (Str × Int)), H (M i) = some (.lst (refs us)) ∧ (∀ z ∈ us, H z.1 = some (.tup (wgV z.2))) ∧ us.map (·.2) = shoL fs ss i
theorem ViewAt.same {CV : Addr} {H H' : Hp} {p : Addr} {many : Nat} {fs : List Str} {ss : List Stp} (x : ViewAt CV H p many fs ss) (s : Same H H') : ViewAt CV H' p many fs ss := by
  obtain ⟨dx, a, b, L, M, h1, h2, h3, h4, h5⟩ := x
  exact ⟨dx, a, b, L, M, s _ _ h1, h2.same s, h3.same s, fun i hi => s _ _ (h4 i hi), fun i hi => by
    obtain ⟨us, u1, u2, u3⟩ := h5 i hi
    exact ⟨us, s _ _ u1, fun z hz => s _ _ (u2 z hz), u3⟩⟩
theorem mem_hidL {fs : List Str} {ss : List Stp} {i g : Int} : g ∈ hidL fs ss i ↔ HS ss fs i g := by
  unfold hidL HS
  rw [List.mem_map]
  constructor
  · rintro ⟨t, ht, e⟩
    rw [List.mem_filter, Bool.and_eq_true, Bool.and_eq_true, decide_eq_true_iff, decide_eq_true_iff, decide_eq_true_iff] at ht
    exact ⟨t, ht.1, ht.2.1, ht.2.2.1, ht.2.2.2, e⟩
  · rintro ⟨t, h1, h2, h3, h4, h5⟩
    refine ⟨t, ?_, h5⟩
    rw [List.mem_filter, Bool.and_eq_true, Bool.and_eq_true, decide_eq_true_iff, decide_eq_true_iff, decide_eq_true_iff]
    exact ⟨h1, h2, h3, h4⟩
theorem mem_shoL {fs : List Str} {ss : List Stp} {i g : Int} {w : Str} (hw : w ≠ "") : (w, g) ∈ shoL fs ss i ↔ SS ss fs w i g := by
  unfold shoL SS
  rw [List.mem_map]
  constructor
  · rintro ⟨t, ht, e⟩
    rw [List.mem_filter, Bool.and_eq_true, Bool.and_eq_true, decide_eq_true_iff, decide_eq_true_iff] at ht
    obtain ⟨e1, e2⟩ := Prod.mk.inj e
    exact ⟨t, ht.1, ht.2.1, ht.2.2.1, e1, e2⟩
  · rintro ⟨t, h1, h2, h3, h4, h5⟩
    refine ⟨t, ?_, by rw [h4, h5]⟩
    rw [List.mem_filter, Bool.and_eq_true, Bool.and_eq_true, decide_eq_true_iff, decide_eq_true_iff]
    refine ⟨h1, h2, h3, ?_⟩
    rw [Bool.not_eq_true', decide_eq_false_iff_not, h4]
    exact hw
end K25

/-! K25: Machine.__init__. -/
namespace K25
open PySem PySem.Spec PyProof.Rows L2
structure TM (K : PySem.W.Frag) (CM : Addr) : Prop where
  cl : Cls K CM
  many : NoAttr K CM "many"
  steps : NoAttr K CM "steps"
  ways : NoAttr K CM "ways"
  kinds : NoAttr K CM "kinds"
  words : NoAttr K CM "words"
def spMInit (CM : Addr) : Sp := fun vs H Q _ => ∃ (p dx l : Addr) (many : Nat) (ts : List (Addr × Stp)), vs = [.ref p, .int many, .ref l] ∧ H p = some (.ins CM dx []) ∧ H l = some (.lst (refs ts)) ∧ (∀ z ∈ ts, H z.1 = some (.tup (stpV z.2)) ∧ OkS many z.2) ∧ ts.length ≤ 12 ∧ 1 ≤ many ∧ many ≤ 5 ∧
  ∀ (H' : Hp) (ss : List Stp), (∀ b o, b ≠ p → H b = some o → H' b = some o) → MachAt CM H' p many ss → OkM many ss → Q .non H'
theorem putK_true {κ : Type} [DecidableEq κ] (e : κ → Key) (he : ∀ a b, e a = e b → a = b) (ks : List κ) (k : κ) : putK (ks.map fun x => (e x, V.bl true)) (e k) (.bl true) = (if k ∈ ks then ks else ks ++ [k]).map fun x => (e x, V.bl true) := by
  unfold putK
  have e1 : ((ks.map fun x => (e x, V.bl true)).any fun kv => decide (kv.1 = e k)) = decide (k ∈ ks) := by
    induction ks with
    | nil => rfl
    | cons a l ih =>
      rw [List.map_cons, List.any_cons, ih]
      by_cases q : a = k
      · subst q
        simp
      · have q2 : ¬ e a = e k := fun z => q (he _ _ z)
        have q3 : ¬ k = a := fun z => q z.symm
        simp [q2, q3]
  rw [e1]
  by_cases hk : k ∈ ks
  · rw [if_pos (decide_eq_true hk), if_pos hk, List.map_map]
    refine List.map_congr_left fun x _ => ?_
    show (if e x = e k then (e x, V.bl true) else (e x, V.bl true)) = (e x, V.bl true)
    split <;> rfl
  · rw [if_neg (by rw [decide_eq_true_iff]; exact hk), if_neg hk, List.map_append]
    rfl
theorem valV_true {κ : Type} [DecidableEq κ] (e : κ → Key) (he : ∀ a b, e a = e b → a = b) (ks : List κ) (k : κ) : valV (ks.map fun x => (e x, V.bl true)) (e k) = if k ∈ ks then some (.bl true) else none := by
  induction ks with
  | nil => rfl
  | cons a l ih =>
    rw [List.map_cons]
    by_cases q : a = k
    · subst q
      rw [valV_pos rfl, if_pos (by simp)]
    · rw [valV_neg fun z => q (he _ _ z), ih]
      have q3 : ¬ k = a := fun z => q z.symm
      simp [q3]
abbrev tKeys (K : PySem.W.Frag) (j : Int) : TE := tOp (rIxT K) (tVar 5) (tC (.int j))
theorem dc_keys {K : PySem.W.Frag} {H1 : Hp} {D a : Addr} {zs : List (Addr × Stp)} {σ : L2.St} {j : Int} {Qd : Hp → Prop} (f : Stp → Str) (ha : H1 a = some (.tup (refs zs))) (hz : ∀ z ∈ zs, H1 z.1 = some (.tup (stpV z.2))) (hlen : zs.length ≤ 12) (hD : H1 D = none) (hj : ∀ z : Stp, atI (stpV z) j = some (.str (f z)))
    (h5 : 5 < (wipe σ [5]).length) (hw : ∀ v, wipe ((wipe σ [5]).set 5 v) [5] = wipe σ [5]) (hd : ∀ (H : Hp) (ks : List Str), Same H1 H → H D = some (.dK (ks.map fun k => (Sum.inr k, V.bl true))) → ks.length ≤ 12 → Qd H) :
    ∃ W : Nat → Nat → Hp → Prop, (∃ m, W 0 m (upd H1 D (.dK []))) ∧ ∀ i m H, W i m H →
      ((Itt K a).stop i H ∧ Qd H) ∨ ((Itt K a).go i H ∧ ∃ Nx : Hp → Prop, (∀ H', Nx H' → ∃ m', m' < m ∧ W (i + 1) m' H') ∧ ∀ x H', (Itt K a).yld i H x H' → gName 5 x (wipe σ [5]) H' fun σ2 H2 => wipe σ2 [5] = wipe σ [5] ∧ tTest (tOp rNe (tKeys K j) (tC (.str ""))) σ2 H2 fun b H3 =>
        if b = true then tKeys K j σ2 H3 fun y H4 => tC (.bl true) σ2 H4 fun z H5 => ∃ kvs k, y = kV k ∧ H5 D = some (.dK kvs) ∧ kvs.length < sizeLine ∧ Nx (upd H5 D (.dK (putK kvs k z))) else Nx H3) := by
  refine dc_tup (xs := refs zs) (fun i H => ∃ ks : List Str, H D = some (.dK (ks.map fun k => (Sum.inr k, V.bl true))) ∧ ks.length ≤ i ∧ Same H1 H) ⟨[], upd_same, Nat.le_refl _, same_put (Same.refl _) hD⟩ (fun i H _ ⟨ks, _, _, sm⟩ => SqT.of (sm _ _ ha)) ?_ ?_
  · rintro i x H hx ⟨ks, hk, hl, sm⟩
    have hi : i < 12 := by
      have := (List.getElem?_eq_some_iff.mp hx).1
      rw [List.length_map] at this
      omega
    rw [List.getElem?_map] at hx
    cases e : zs[i]? with
    | none => rw [e] at hx; cases hx
    | some z =>
      rw [e] at hx
      have ex : x = V.ref z.1 := (Option.some.inj hx).symm
      subst ex
      have hT := sm _ _ (hz z (List.mem_of_getElem? e))
      have g5 : ((wipe σ [5]).set 5 (some (V.ref z.1)))[5]? = some (some (V.ref z.1)) := by
        rw [List.getElem?_set, if_pos rfl, if_pos h5]
      refine ⟨hw _, ⟨_, g5, z.1, _, j, _, rfl, rfl, SqT.of hT, hj z.2, rfl, _, rfl, ?_⟩⟩
      refine ite2 (fun _ => ?_) (fun _ => ⟨ks, hk, by omega, sm⟩)
      refine ⟨_, g5, z.1, _, j, _, rfl, rfl, SqT.of hT, hj z.2, _, Sum.inr (f z.2), rfl, hk, by rw [List.length_map, sizeLine_eq]; omega, ?_⟩
      refine ⟨if f z.2 ∈ ks then ks else ks ++ [f z.2], ?_, ?_, same_put sm hD⟩
      · rw [upd_same, putK_true (fun k => Sum.inr k) (fun a b q => Sum.inr.inj q)]
      · split
        · omega
        · rw [List.length_append, List.length_singleton]
          omega
  · rintro H ⟨ks, hk, hl, sm⟩
    rw [List.length_map] at hl
    exact hd H ks sm hk (by omega)
/-- all but p stays -/
def KeepP (p : Addr) (H H1 : Hp) : Prop := ∀ b o, b ≠ p → H b = some o → H1 b = some o
theorem KeepP.put {p x : Addr} {H H1 : Hp} {ob : HO} (k : KeepP p H H1) (h : H1 x = none) : KeepP p H (upd H1 x ob) := fun b o nb e => by
  have q := k b o nb e
  rw [upd_ne (ne_of_none q h)]
  exact q
theorem KeepP.own {p : Addr} {H H1 : Hp} {ob : HO} (k : KeepP p H H1) : KeepP p H (upd H1 p ob) := fun b o nb e => by
  rw [upd_ne nb]
  exact k b o nb e
theorem KeepP.same {p : Addr} {H H1 H2 : Hp} (k : KeepP p H H1) (s : Same H1 H2) : KeepP p H H2 := fun b o nb e => s _ _ (k b o nb e)
theorem KeepP.trans {p : Addr} {H H1 H2 : Hp} (k : KeepP p H H1) (k' : KeepP p H1 H2) : KeepP p H H2 := fun b o nb e => k' b o nb (k b o nb e)
theorem Lists.keep {p D : Addr} {n : Nat} {L : Nat → Addr} {H H' : Hp} (x : Lists D n L H) (k : KeepP p H H') (h : D ≠ p) : Lists D n L H' := by
  obtain ⟨⟨kvs, h1, h2, h3⟩, inj⟩ := x
  exact ⟨⟨kvs, k _ _ h h1, h2, h3⟩, inj⟩
abbrev encE (z : Addr × Stp) : En := (stpV z.2, z.1)
theorem all_enc {α β : Type} {e : α → β} {ts : List α} : ∀ ys : List β, (∀ y ∈ ys, ∃ z ∈ ts, y = e z) → ∃ zs : List α, ys = zs.map e ∧ ∀ z ∈ zs, z ∈ ts
  | [], _ => ⟨[], rfl, fun z hz => absurd hz (by simp)⟩
  | y :: ys, h => by
    obtain ⟨z, hz, ey⟩ := h y (by simp)
    obtain ⟨zs, e1, e2⟩ := all_enc ys fun y hy => h y (List.mem_cons_of_mem _ hy)
    exact ⟨z :: zs, by rw [ey, e1]; rfl, fun u hu => (List.mem_cons.mp hu).elim (fun q => by rw [q]; exact hz) (e2 u)⟩
section
variable {P : Program} {w : World} {K : PySem.W.Frag} {mg : Str → Option Value} {base : Heap} {f fN fS CM : Addr} {fd fdN fdS : FuncData}
theorem ok_mInit (F : FnP K "__init__" "Machine.__init__" sMInit f fd) (B : Bi mg) (T : TM K CM) (GN : FnOk P w K mg base CX0 1 fN fdN ["thing"] spIsNum) (mN : mg "is_number" = some (.ref fN)) (kN : PySem.W.keepIn K (.ref fN) = true) (bN : Binds K fdN ["thing"] [])
    (GS : FnOk P w K mg base CX0 2 fS fdS ["thing", "many", "known"] spIsStep) (mS : mg "is_step" = some (.ref fS)) (kS : PySem.W.keepIn K (.ref fS) = true) (bS : Binds K fdS ["thing", "many", "known"] []) : FnOk P w K mg base CX0 3 f fd ["self", "many", "steps"] (spMInit CM) := by
  refine F.ok scMInit (fun vs H Q E h => ?_) (fun cdv A outer s H vs Q E hr h => ?_)
  · obtain ⟨p, dx, l, many, ts, rfl, _⟩ := h
    rfl
  · obtain ⟨p, dx, l, many, ts, rfl, hp, hl, hts, hlen, hm1, hm5, k⟩ := h
    have hu := hu_of hr
    have hr1 : Room 1 _ := hr.mono (by decide)
    have hu20 : (A.deeper (envOfC "Machine.__init__" (defScope sMInit) s.heap.objs.size f cdv)).units + 20 < cLine := by have := hr.un; omega
    have nd := scMInit.nd
    obtain ⟨tms, ms⟩ := B.ms
    refine ⟨_, PSs.nox (pss_cons (ps_if (PW.pt (pw_or (pt_not (pt_val (pe_call GN hr1 rfl mN kN bN .nil pass0 (pa_cons (pv 1) pa_nil)))) (pw_or (pt_not (pt_chain op_le op_le pe_int (pv 1) (pe_glob (v := .int 3000) rfl ms ⟨_, rfl⟩)))
        (pw_or1 (pt_not (pt_val (pe_callB call_isiT (by rfl) B.inst (by decide +kernel) (pa_cons (pv 2) (pa_cons (pe_tup (pa_cons (pe_bltn (v := .ty "list") (by rfl) B.list (by decide +kernel) rfl) (pa_cons (pe_bltn (v := .ty "tuple") (by rfl) B.tuple (by decide +kernel) rfl) pa_nil))) pa_nil))))))))) pss_never pss_nil)
      (pss_cons (ps_set (i := 3) nd rfl (Or.inl rfl) (pe_disp (pps_cons pe_str pe_bl pps_nil) (by rfl) (by rfl) (fun z => by cases z) (by decide)))
      (pss_cons (ps_for PassesOwn.never rfl (pi_enum (by rfl) B.enum (pa_cons (pv 2) pa_nil)) (pg_tup (by rfl) (pgs_cons (pg_name (i := 4) nd rfl (Or.inl rfl)) (pgs_cons (pg_name (i := 5) nd rfl (Or.inl rfl)) pgs_nil)))
        (pss_one (ps_if (pt_not (pt_val (pe_call GS hr rfl mS kS bS .nil pass0 (pa_cons (pv 5) (pa_cons (pv 1) (pa_cons (pv 3) pa_nil)))))) pss_never pss_nil)))
      (pss_cons (ps_fld (pv 0) (pv 1) rfl)
      (pss_cons (ps_fld (pv 0) (pe_callTy call_tuple_of (by rfl) B.tuple (by decide +kernel) (pa_cons (pe_callB (call_sortS rfl hu20) (by rfl) B.sorted (by decide +kernel) (pa_cons (pe_dcS rfl hu20 (pv 2) (by decide +kernel) (by decide +kernel) rfl (by decide +kernel) rfl (by decide +kernel)) pa_nil)) pa_nil)) rfl)
      (pss_cons (ps_fld (pv 0) (pe_dc (own := [("state", 6)]) (g := gName 6) (tt := tYes) rfl nd (pi_range1 rfl B.range (pa_cons (pv 1) pa_nil)) (blkOk_by (own := [("state", 6)]) (N := ["self", "many", "steps", "known", "place", "step", "state"]) (sc := defScope sMInit) (by decide +kernel)) (fun _ _ _ _ _ => pg_name (i := 6) nd rfl (Or.inl rfl)) (fun _ _ _ _ _ => pts_nil) (fun _ _ _ _ _ => pv 6) (fun _ _ _ _ _ => pe_lst pa_nil)) rfl)
      (pss_cons (ps_for PassesOwn.never rfl (pi_tup (pe_fld (pv 0) rfl)) (pg_name (i := 5) nd rfl (Or.inl rfl))
        (pss_one (ps_expr (pe_bm PySem.F.plainAttrs_list PySem.F.slot_list_append PySem.F.type_list_append mt_append (pe_dget hu (pe_fld (pv 0) rfl) (pe_ix (r := rIxT K) ix_tup (pv 5) pe_int (fun _ _ => rfl)) (fun _ _ => rfl)) (pa_cons (pv 5) pa_nil)))))
      (pss_cons (ps_fld (pv 0) (pe_callB (call_sortedD rfl) (by rfl) B.sorted (by decide +kernel) (pa_cons (pe_dc (own := [("step", 5)]) (g := gName 5) rfl nd (pi_tup (pe_fld (pv 0) rfl)) (blkOk_by (own := [("step", 5)]) (N := ["self", "many", "steps", "known", "place", "step", "state"]) (sc := defScope sMInit) (by decide +kernel)) (fun _ _ _ _ _ => pg_name (i := 5) nd rfl (Or.inl rfl))
          (fun _ _ _ _ _ => pts_one (pt_cmpR op_ne (pe_ix (r := rIxT K) ix_tup (pv 5) pe_int (fun _ _ => rfl)) pe_str (nomark _))) (fun _ _ _ _ _ => pe_ix (r := rIxT K) ix_tup (pv 5) pe_int (fun _ _ => rfl)) (fun _ _ _ _ _ => pe_bl)) pa_nil)) rfl)
      (pss_one (ps_fld (pv 0) (pe_callB (call_sortedD rfl) (by rfl) B.sorted (by decide +kernel) (pa_cons (pe_dc (own := [("step", 5)]) (g := gName 5) rfl nd (pi_tup (pe_fld (pv 0) rfl)) (blkOk_by (own := [("step", 5)]) (N := ["self", "many", "steps", "known", "place", "step", "state"]) (sc := defScope sMInit) (by decide +kernel)) (fun _ _ _ _ _ => pg_name (i := 5) nd rfl (Or.inl rfl))
          (fun _ _ _ _ _ => pts_one (pt_cmpR op_ne (pe_ix (r := rIxT K) ix_tup (pv 5) pe_int (fun _ _ => rfl)) pe_str (nomark _))) (fun _ _ _ _ _ => pe_ix (r := rIxT K) ix_tup (pv 5) pe_int (fun _ _ => rfl)) (fun _ _ _ _ _ => pe_bl)) pa_nil)) rfl)))))))))), ?_⟩
    -- the test
    refine ⟨_, rfl, _, rfl, _, rfl, _, rfl, _, _, rfl, rfl, _, rfl, ?_⟩
    refine ifT (decide_eq_true (by omega)) ⟨_, _, rfl, rfl, _, rfl, ?_⟩
    refine ifF (dT (by omega)) ⟨_, rfl, (by show 2 ≤ sizeLine; decide), fun tp htp => ?_⟩
    have hl1 : upd H tp (.tup [.ty "list", .ty "tuple"]) l = some (.lst (refs ts)) := by rw [upd_ne (ne_of_none hl htp)]; exact hl
    refine ⟨_, tp, _, _, [.type "list", .type "tuple"], true, rfl, upd_same, .cons (.ty _) (.cons (.ty _) .nil), .base (.lst hl1), kitAny_cons (b := true) (kit_ty (by decide +kernel)) (fun z => nomatch z) (fun _ => rfl), true, rfl, ?_⟩
    -- known = {'': True}
    refine fun d hd => ⟨upd_same, [(kE, .bl true)], rfl, by decide, ?_⟩
    obtain ⟨H2, eH2⟩ : ∃ H2, H2 = upd (upd (upd H tp (.tup [.ty "list", .ty "tuple"])) d (.dK [])) d (.dK (mergeK [] [(kE, V.bl true)])) := ⟨_, rfl⟩
    have hdH : H d = none := by
      have z : d ≠ tp := fun z => by rw [z, upd_same] at hd; cases hd
      rw [upd_ne z] at hd; exact hd
    have s2 : Same H H2 := by rw [eH2]; exact same_put (same_put (same_put (Same.refl H) htp) hdH) hdH
    have hd2 : H2 d = some (.dK [(kE, V.bl true)]) := by rw [eH2, upd_same]; rfl
    show tSeq _ _ _ _ (upd (upd (upd H tp (.tup [.ty "list", .ty "tuple"])) d (.dK [])) d (.dK (mergeK [] [(kE, V.bl true)])))
    rw [← eH2]
    -- for place, step in enumerate(steps)
    refine ⟨_, rfl, l, _, rfl, SqL.of (s2 _ _ hl), for_it (walk_enum (xs := refs ts)) (fun i σ H' => ∃ (kvs : List (Key × V)) (v4 v5 : Option V), σ = [some (.ref p), some (.int many), some (.ref l), some (.ref d), v4, v5, none] ∧
        (∀ b o, b ≠ d → H2 b = some o → H' b = some o) ∧ H' d = some (.dK kvs) ∧ (valV kvs kE).isSome = true ∧ kvs.length ≤ 1 + 2 * i) ?_ ?_ ?_ ?_⟩
    · exact ⟨_, _, _, rfl, fun _ _ _ e => e, hd2, rfl, Nat.le_refl _⟩
    · rintro i σ H' hi ⟨kvs, v4, v5, rfl, sm, _⟩
      exact SqL.of (sm l _ (ne_of (s2 _ _ hl) hd2 (fun z => nomatch z)) (s2 _ _ hl))
    · rintro i x σ H' H'' hi ⟨kvs, v4, v5, rfl, sm, hk, hE, hlk⟩ ⟨T, a, b, rfl, hT, rfl, ea, eb⟩
      rw [List.length_map] at hi
      have ea2 := Option.some.inj ea
      subst ea2
      have eb2 : (refs ts)[i]? = some b := eb
      rw [List.getElem?_map, List.getElem?_eq_getElem hi] at eb2
      have eb3 := Option.some.inj eb2
      subst eb3
      obtain ⟨hz1, hz2⟩ := hts ts[i] (List.getElem_mem hi)
      have nT : T ≠ d := fun z => by rw [z, hk] at hT; cases hT
      refine ⟨T, _, rfl, SqT.of upd_same, rfl, _, _, rfl, _, _, rfl, rfl, ?_⟩
      have ht1 : H' ts[i].1 = some (.tup (stpV ts[i].2)) := sm _ _ (ne_of (s2 _ _ hz1) hd2 (fun z => nomatch z)) (s2 _ _ hz1)
      refine ⟨_, rfl, _, rfl, _, rfl, ts[i].1, d, many, ts[i].2, kvs, rfl, by rw [upd_ne (ne_of_none ht1 hT)]; exact ht1, hz2, by rw [upd_ne nT.symm]; exact hk, hE, by omega, fun H3 kvs' sm3 hk3 hE3 hl3 => ⟨_, rfl, ?_⟩⟩
      refine ⟨kvs', _, _, rfl, fun b o nb e => sm3 b o nb ?_, hk3, hE3, by omega⟩
      have q := sm b o nb e
      rw [upd_ne (ne_of_none q hT)]
      exact q
    rintro σ H3 ⟨kvs, v4, v5, rfl, sm, hk, _, _⟩
    have s3 : Same H H3 := fun b o e => sm b o (ne_of_none e hdH) (s2 b o e)
    have hp3 := s3 _ _ hp
    -- self.many = many
    refine ⟨_, rfl, _, rfl, p, CM, dx, _, rfl, hp3, T.cl, T.many, (by show 0 < 1000; decide), ?_⟩
    obtain ⟨H4, eH4⟩ : ∃ H4, H4 = upd H3 p (.ins CM dx (putF "many" (.int many) [])) := ⟨_, rfl⟩
    rw [← eH4]
    have k4 : KeepP p H H4 := by rw [eH4]; exact KeepP.own fun b o _ e => s3 b o e
    have hp4 : H4 p = some (.ins CM dx [("many", .int many)]) := by rw [eH4, upd_same]; rfl
    have npl : l ≠ p := ne_of hl hp (fun z => nomatch z)
    have npt : ∀ z ∈ ts, z.1 ≠ p := fun z hz => ne_of (hts z hz).1 hp (fun z => nomatch z)
    -- self.steps = tuple(sorted({step: True for step in steps}))
    have ks4 : Keys H4 (ts.map encE) := fun e he => by
      obtain ⟨z, hz, ez⟩ := List.mem_map.mp he
      rw [← ez]
      exact ⟨k4 _ _ (npt z hz) (hts z hz).1, rfl⟩
    have er : ∀ us : List (Addr × Stp), (us.map encE).map (fun e : En => V.ref e.2) = refs us := fun us => by rw [List.map_map]; rfl
    refine ⟨_, rfl, l, ts.map encE, rfl, by rw [er]; exact SqL.of (k4 _ _ npl hl), ks4, by rw [List.length_map]; omega, fun D hD => ?_⟩
    have ks5 : Keys (upd H4 D (dsO P w D (putAll (ts.map encE)))) (putAll (ts.map encE)) := fun e he => by
      obtain ⟨q1, q2⟩ := ks4 e (putAll_mem he)
      exact ⟨by rw [upd_ne (ne_of_none q1 hD)]; exact q1, q2⟩
    have shp : ∀ e ∈ putAll (ts.map encE), ∃ z ∈ ts, e = encE z := fun e he => by
      obtain ⟨z, hz, ez⟩ := List.mem_map.mp (putAll_mem he)
      exact ⟨z, hz, ez.symm⟩
    have l5 : (putAll (ts.map encE)).length ≤ 12 := Nat.le_trans (putAll_len _) (by rw [List.length_map]; exact hlen)
    refine ⟨D, putAll (ts.map encE), rfl, .of upd_same ks5, fun e he => by obtain ⟨z, _, ez⟩ := shp e he; exact ⟨z.2.s, z.2.k, z.2.w, z.2.g, by rw [ez]; rfl⟩, by omega, fun ys q perm hq => ?_⟩
    obtain ⟨zs, ey, hzs⟩ := all_enc ys fun y hy => shp y (perm.mem_iff.mp hy)
    have lz : zs.length ≤ 12 := by
      have := perm.length_eq
      rw [ey, List.length_map] at this
      omega
    subst ey
    rw [er]
    refine ⟨q, _, rfl, .inl ⟨SqL.of upd_same, fun t ht => ?_⟩⟩
    have k5 : KeepP p H (upd (upd (upd H4 D (dsO P w D (putAll (ts.map encE)))) q (.lst (refs zs))) t (.tup (refs zs))) := ((k4.put hD).put hq).put ht
    have hp5 : (upd (upd (upd H4 D (dsO P w D (putAll (ts.map encE)))) q (.lst (refs zs))) t (.tup (refs zs))) p = some (.ins CM dx [("many", .int many)]) := by
      have a1 : upd H4 D (dsO P w D (putAll (ts.map encE))) p = some (.ins CM dx [("many", .int many)]) := by rw [upd_ne (ne_of_none hp4 hD)]; exact hp4
      have a2 : upd (upd H4 D (dsO P w D (putAll (ts.map encE)))) q (.lst (refs zs)) p = some (.ins CM dx [("many", .int many)]) := by rw [upd_ne (ne_of_none a1 hq)]; exact a1
      rw [upd_ne (ne_of_none a2 ht)]; exact a2
    refine ⟨_, rfl, p, CM, dx, _, rfl, hp5, T.cl, T.steps, (by show 1 < 1000; decide), ?_⟩
    obtain ⟨H5, eH5⟩ : ∃ H5, H5 = upd (upd (upd (upd H4 D (dsO P w D (putAll (ts.map encE)))) q (.lst (refs zs))) t (.tup (refs zs))) p (.ins CM dx (putF "steps" (.ref t) [("many", .int many)])) := ⟨_, rfl⟩
    show tSeq _ _ _ _ (upd (upd (upd (upd H4 D (dsO P w D (putAll (ts.map encE)))) q (.lst (refs zs))) t (.tup (refs zs))) p (.ins CM dx (putF "steps" (.ref t) [("many", .int many)])))
    rw [← eH5]
    have npt5 : t ≠ p := fun z => by
      rw [z, upd_ne (ne_of_none (show upd H4 D (dsO P w D (putAll (ts.map encE))) p = some _ from by rw [upd_ne (ne_of_none hp4 hD)]; exact hp4) hq), upd_ne (ne_of_none hp4 hD), hp4] at ht
      cases ht
    have h5t : H5 t = some (.tup (refs zs)) := by rw [eH5, upd_ne npt5, upd_same]
    have h5p : H5 p = some (.ins CM dx [("many", .int many), ("steps", .ref t)]) := by rw [eH5, upd_same]; rfl
    have k5' : KeepP p H H5 := by rw [eH5]; exact k5.own
    clear hp5 k5 eH5 ks5 ks4
    -- self.ways = {state: [] for state in range(many)}
    refine ⟨_, rfl, (many : Int), rfl, by omega, by omega, fun D6 hD6 => dc_lists (n := many) (j := 6) (vs := [6]) (by omega) hD6 (by show 6 < 7; decide) (fun _ => rfl) fun H6 L s6 ls hDn hL => ?_⟩
    refine ⟨_, rfl, p, CM, dx, _, rfl, s6 _ _ h5p, T.cl, T.ways, (by show 2 < 1000; decide), ?_⟩
    obtain ⟨H7, eH7⟩ : ∃ H7, H7 = upd H6 p (.ins CM dx (putF "ways" (.ref D6) [("many", .int many), ("steps", .ref t)])) := ⟨_, rfl⟩
    show tSeq _ _ _ _ (upd H6 p (.ins CM dx (putF "ways" (.ref D6) [("many", .int many), ("steps", .ref t)])))
    rw [← eH7]
    have h7p : H7 p = some (.ins CM dx [("many", .int many), ("steps", .ref t), ("ways", .ref D6)]) := by rw [eH7, upd_same]; rfl
    have k67 : KeepP p H6 H7 := by rw [eH7]; exact KeepP.own fun b o _ e => e
    have k57 : KeepP p H5 H7 := fun b o nb e => k67 b o nb (s6 b o e)
    have k7 : KeepP p H H7 := k5'.trans k57
    have h6p := s6 _ _ h5p
    obtain ⟨kv6, hk6, _, _⟩ := ls.dict
    have nDp : D6 ≠ p := ne_of hk6 h6p (fun z => nomatch z)
    have nLp : ∀ i, i < many → L i ≠ p := fun i hi => ne_of (hL i hi).1 h6p (fun z => nomatch z)
    have ls7 : Lists D6 many L H7 := ls.keep k67 nDp
    have h7t : H7 t = some (.tup (refs zs)) := k57 _ _ npt5 h5t
    have h7L : ∀ i, i < many → H7 (L i) = some (.lst []) := fun i hi => k67 _ _ (nLp i hi) (hL i hi).1
    have h7z : ∀ z ∈ zs, H7 z.1 = some (.tup (stpV z.2)) := fun z hz => k7 _ _ (npt z (hzs z hz)) (hts z (hzs z hz)).1
    -- for step in self.steps: self.ways[step[0]].append(step)
    refine ⟨_, rfl, p, CM, dx, _, _, rfl, h7p, T.cl, T.steps, rfl, t, rfl, ⟨_, SqT.of h7t⟩, for_tup (xs := refs zs) (fun j σ H' => ∃ v5 : Option V, σ = [some (.ref p), some (.int many), some (.ref l), some (.ref d), v4, v5, none] ∧
        (∀ b o, (∀ i, i < many → b ≠ L i) → H7 b = some o → H' b = some o) ∧ ∀ i, i < many → H' (L i) = some (.lst (refs ((zs.take j).filter fun z => decide (z.2.s = (i : Int)))))) ⟨v5, rfl, fun _ _ _ e => e, h7L⟩ ?_ ?_ ?_⟩
    · rintro j σ H' hj ⟨v5, rfl, sm, _⟩
      exact SqT.of (sm t _ (fun i hi => ne_of h7t (h7L i hi) (fun z => nomatch z)) h7t)
    · rintro j x σ H' hx ⟨v5, rfl, sm, hLs⟩
      rw [List.getElem?_map] at hx
      cases e : zs[j]? with
      | none => rw [e] at hx; cases hx
      | some z =>
        rw [e] at hx
        have ex : x = V.ref z.1 := (Option.some.inj hx).symm
        subst ex
        have hzm : z ∈ zs := List.mem_of_getElem? e
        have okz := (hts z (hzs z hzm)).2
        obtain ⟨n, hn⟩ : ∃ n : Nat, z.2.s = (n : Int) := ⟨z.2.s.toNat, by have := okz.s0; omega⟩
        have hnm : n < many := by have := okz.s1; omega
        have hz' : H' z.1 = some (.tup (stpV z.2)) := sm _ _ (fun i hi => ne_of (h7z z hzm) (h7L i hi) (fun q => nomatch q)) (h7z z hzm)
        have hp' := sm p _ (fun i hi => (nLp i hi).symm) h7p
        obtain ⟨kv7, hk7, _, hv7⟩ := ls7.dict
        have hk' := sm D6 _ (fun i hi => ne_of hk7 (h7L i hi) (fun q => nomatch q)) hk7
        have g : DGet H' D6 (.int z.2.s) (some (.ref (L n))) := by
          have q := DGet.k (k := Sum.inl z.2.s) hk'
          rw [hn, hv7 n hnm] at q
          rw [hn]
          exact q
        have hl' := hLs n hnm
        refine ⟨_, rfl, p, CM, dx, _, _, rfl, hp', T.cl, T.ways, rfl, _, rfl, z.1, _, 0, _, rfl, rfl, SqT.of hz', atI_nat (j := 0) rfl, D6, _, rfl, g, .inl ⟨rfl, _, SqL.of hl'⟩, _, rfl, L n, _, _, rfl, rfl, hl', ?_, ?_⟩
        · rw [List.length_map, sizeLine_eq]
          have q1 := List.length_filter_le (fun z : Addr × Stp => decide (z.2.s = (n : Int))) (zs.take j)
          have q2 : (zs.take j).length ≤ zs.length := by rw [List.length_take]; omega
          omega
        · refine ⟨_, rfl, fun b o nb eb => ?_, fun i hi => ?_⟩
          · rw [upd_ne (nb n hnm)]
            exact sm b o nb eb
          · rw [take_more e, List.filter_append]
            by_cases q : i = n
            · subst q
              rw [upd_same]
              have f1 : [z].filter (fun z : Addr × Stp => decide (z.2.s = (i : Int))) = [z] := by rw [List.filter_cons_of_pos (by rw [decide_eq_true_iff]; exact hn)]; rfl
              rw [f1]
              show _ = some (HO.lst (refs (_ ++ [z])))
              unfold refs
              rw [List.map_append]
              rfl
            · have f1 : [z].filter (fun z : Addr × Stp => decide (z.2.s = (i : Int))) = [] := by rw [List.filter_cons_of_neg (by rw [decide_eq_true_iff, hn]; intro w; exact q (Int.ofNat.inj w).symm)]; rfl
              rw [f1, List.append_nil, upd_ne fun w => q (ls7.inj _ _ hi hnm w)]
              exact hLs i hi
    rintro σ H8 ⟨v5', rfl, sm8, hL8⟩
    rw [List.length_map] at hL8
    have h8p := sm8 p _ (fun i hi => (nLp i hi).symm) h7p
    have h8t := sm8 t _ (fun i hi => ne_of h7t (h7L i hi) (fun z => nomatch z)) h7t
    have h8z : ∀ z ∈ zs, H8 z.1 = some (.tup (stpV z.2)) := fun z hz => sm8 _ _ (fun i hi => ne_of (h7z z hz) (h7L i hi) (fun q => nomatch q)) (h7z z hz)
    have ls8 : Lists D6 many L H8 := by
      obtain ⟨kv7, hk7, hl7, hv7⟩ := ls7.dict
      exact ⟨⟨kv7, sm8 D6 _ (fun i hi => ne_of hk7 (h7L i hi) (fun q => nomatch q)) hk7, hl7, hv7⟩, ls7.inj⟩
    have k8 : KeepP p H H8 := fun b o nb e => sm8 b o (fun i hi z => by
      have q := k5' b o nb e
      rw [z, (hL i hi).2] at q
      cases q) (k7 b o nb e)
    -- self.kinds = sorted(..)
    have tk : ∀ ks : List Str, (ks.map fun k => ((Sum.inr k : Key), V.bl true)).map (·.1) = ks.map Sum.inr := fun ks => by rw [List.map_map]; rfl
    refine ⟨_, rfl, p, CM, dx, _, _, rfl, h8p, T.cl, T.steps, rfl, t, rfl, ⟨_, SqT.of h8t⟩, fun D8 hD8 => dc_keys (zs := zs) (fun z => z.k) h8t h8z lz hD8 (fun z => atI_nat (j := 1) rfl) (by show 5 < 7; decide) (fun _ => rfl) fun H9 ks s9 hk9 hl9 => ⟨D8, _, ks, rfl, .inl hk9, tk ks, by omega, fun ys q9 _ _ hq9 => ?_⟩⟩
    have h9p : upd H9 q9 (.lst (ys.map V.str)) p = some (.ins CM dx [("many", .int many), ("steps", .ref t), ("ways", .ref D6)]) := by rw [upd_ne (ne_of_none (s9 _ _ h8p) hq9)]; exact s9 _ _ h8p
    refine ⟨_, rfl, p, CM, dx, _, rfl, h9p, T.cl, T.kinds, (by show 3 < 1000; decide), ?_⟩
    obtain ⟨H10, eH10⟩ : ∃ H10, H10 = upd (upd H9 q9 (.lst (ys.map V.str))) p (.ins CM dx (putF "kinds" (.ref q9) [("many", .int many), ("steps", .ref t), ("ways", .ref D6)])) := ⟨_, rfl⟩
    rw [← eH10]
    have h10p : H10 p = some (.ins CM dx [("many", .int many), ("steps", .ref t), ("ways", .ref D6), ("kinds", .ref q9)]) := by rw [eH10, upd_same]; rfl
    have k10 : KeepP p H8 H10 := by rw [eH10]; exact KeepP.own (KeepP.put (fun b o _ e => s9 b o e) hq9)
    have h10t := k10 _ _ npt5 h8t
    have nzp : ∀ z ∈ zs, z.1 ≠ p := fun z hz => npt z (hzs z hz)
    -- self.words = sorted(..)
    refine ⟨_, rfl, p, CM, dx, _, _, rfl, h10p, T.cl, T.steps, rfl, t, rfl, ⟨_, SqT.of h10t⟩, fun D10 hD10 => dc_keys (zs := zs) (fun z => z.w) h10t (fun z hz => k10 _ _ (nzp z hz) (h8z z hz)) lz hD10 (fun z => atI_nat (j := 2) rfl) (by show 5 < 7; decide) (fun _ => rfl) fun H11 ks s11 hk11 hl11 => ⟨D10, _, ks, rfl, .inl hk11, tk ks, by omega, fun ys q11 _ _ hq11 => ?_⟩⟩
    have h11p : upd H11 q11 (.lst (ys.map V.str)) p = some (.ins CM dx [("many", .int many), ("steps", .ref t), ("ways", .ref D6), ("kinds", .ref q9)]) := by rw [upd_ne (ne_of_none (s11 _ _ h10p) hq11)]; exact s11 _ _ h10p
    refine ⟨_, rfl, p, CM, dx, _, rfl, h11p, T.cl, T.words, (by show 4 < 1000; decide), ?_⟩
    have k12 : KeepP p H8 (upd (upd H11 q11 (.lst (ys.map V.str))) p (.ins CM dx (putF "words" (.ref q11) [("many", .int many), ("steps", .ref t), ("ways", .ref D6), ("kinds", .ref q9)]))) :=
      k10.trans (KeepP.own (KeepP.put (fun b o _ e => s11 b o e) hq11))
    refine k _ (zs.map (·.2)) (k8.trans k12) ⟨dx, t, D6, q9, q11, zs, L, upd_same, k12 _ _ npt5 h8t, fun z hz => k12 _ _ (nzp z hz) (h8z z hz), rfl, ls8.keep k12 nDp, fun i hi => ⟨zs.filter fun z => decide (z.2.s = (i : Int)), ?_, fun z hz => ?_, ?_⟩⟩ ⟨hm1, hm5, ?_, ?_⟩
    · have q := hL8 i hi
      rw [List.take_length] at q
      exact k12 _ _ (nLp i hi) q
    · have hz2 := (List.mem_filter.mp hz).1
      exact k12 _ _ (nzp z hz2) (h8z z hz2)
    · rw [List.filter_map]
      rfl
    · rw [List.length_map]; exact lz
    · intro st hst
      obtain ⟨z, hz, ez⟩ := List.mem_map.mp hst
      have okz := (hts z (hzs z hz)).2
      rw [← ez]
      exact ⟨okz.s0, okz.s1, okz.g0, okz.g1⟩
end
end K25

/-! K25: check_kinds. -/
namespace K25
open PySem PySem.Spec PyProof.Rows L2 RZ
theorem walk_zipT {K : PySem.W.Frag} {a b : Addr} {xs ys : List V} {n : Nat} (hn : n = min xs.length ys.length) : Walk (ItzT K a b) n (fun H => SqT K H a xs ∧ SqT K H b ys) (YPair (fun i => xs[i]?) (fun i => ys[i]?)) := by
  subst hn
  refine ⟨fun i _ hi q => ?_, fun _ q => ⟨xs, ys, q.1, q.2, by omega⟩, fun i H v H' _ q y => ?_⟩
  · have h1 : i < xs.length := by omega
    have h2 : i < ys.length := by omega
    exact ⟨xs, ys, xs[i], ys[i], q.1, q.2, by simp [h1], by simp [h2]⟩
  · obtain ⟨T, x, z, h1, h2, h3, h4, h5⟩ := y
    exact ⟨T, x, z, h1, h2, h3, h4 xs q.1, h5 ys q.2⟩
theorem same_seqT {K : PySem.W.Frag} {H H' : Hp} {a : Addr} {xs : List V} (s : Same H H') (h : SqT K H a xs) : SqT K H' a xs := by
  rcases h with (h | ⟨o, h⟩) | h
  · exact .inl (.inl (s _ _ h))
  · exact .inl (.inr ⟨o, s _ _ h⟩)
  · exact .inr h
abbrev stv (l : List Str) : List V := l.map V.str
theorem okF_word {fs : List Str} (h : OkF fs) : ∀ z ∈ fs, isW z = true ∧ z.cps.size ≤ 1000 := by
  rcases h with h | h | h
  · subst h
    intro z hz
    have e : z = ("x" : Str) := by simpa using hz
    subst e
    exact ⟨by decide +kernel, by decide +kernel⟩
  · subst h
    intro z hz
    have e : z = ("x" : Str) ∨ z = ("y" : Str) := by simpa using hz
    rcases e with e | e
    · subst e
      exact ⟨by decide +kernel, by decide +kernel⟩
    · subst e
      exact ⟨by decide +kernel, by decide +kernel⟩
  · subst h
    intro z hz
    exact absurd hz (by simp)
theorem okF_len {fs : List Str} (h : OkF fs) : fs.length ≤ 2 := by
  rcases h with h | h | h <;> subst h <;> decide
abbrev rLtS : R2 := fun x y H Q => ∃ i j : Str, x = V.str i ∧ y = V.str j ∧ Q (V.bl (decide (i.cps.toList < j.cps.toList))) H
theorem all_rep (n : Nat) : (!((List.replicate n true).all id)) = false := by
  have e : (List.replicate n true).all id = true := by simp
  rw [e]
  rfl
theorem rep_more (n : Nat) : (List.replicate n true).map V.bl ++ [V.bl true] = (List.replicate (n + 1) true).map V.bl := by
  rw [List.replicate_succ', List.map_append]
  rfl
def spCheckKinds : Sp := fun vs H Q _ => ∃ (a : Addr) (fs : List Str), vs = [.ref a] ∧ H a = some (.tup (stv fs)) ∧ OkF fs ∧ ∀ H', Same H H' → Q .non H'
section
variable {P : Program} {w : World} {K : PySem.W.Frag} {mg : Str → Option Value} {base : Heap} {f fW : Addr} {fd fdW : FuncData}
theorem ok_checkKinds (F : FnP K "check_kinds" "check_kinds" sCheckKinds f fd) (B : Bi mg) (GW : FnOk P w K mg base CX0 1 fW fdW ["thing"] spIsWord) (mW : mg "is_word" = some (.ref fW)) (kW : PySem.W.keepIn K (.ref fW) = true) (bW : Binds K fdW ["thing"] []) : FnOk P w K mg base CX0 3 f fd ["free"] spCheckKinds := by
  refine F.ok scCheckKinds (fun vs H Q E h => ?_) (fun cdv A outer s H vs Q E hr h => ?_)
  · obtain ⟨a, fs, rfl, _⟩ := h
    rfl
  · obtain ⟨a, fs, rfl, ha, hf, k⟩ := h
    have hr1 : Room 1 _ := hr.mono (by decide)
    have nd := scCheckKinds.nd
    refine ⟨_, PSs.nox (pss_cons (ps_if (PW.pt (pw_or (pt_not (pt_val (pe_callB call_isi (by rfl) B.inst (by decide +kernel) (pa_cons (pv 0) (pa_cons (pe_bltn (v := .ty "tuple") (by rfl) B.tuple (by decide +kernel) rfl) pa_nil)))))
        (pw_or1 (pt_not (pt_val (pe_callB (cr_all rfl) (by rfl) B.all (by decide +kernel) (pa_cons
          (pe_lc (own := [("kind", 1)]) (g := gName 1) (tt := tYes) rfl nd (pi_tup (pv 0)) (blkOk_by (own := [("kind", 1)]) (N := ["free", "kind", "one", "late"]) (sc := defScope sCheckKinds) (by decide +kernel)) (fun _ _ _ _ _ => pg_name (i := 1) nd rfl (Or.inl rfl)) (fun _ _ _ _ _ => pts_nil)
            (fun _ _ _ _ _ => pe_call (k := 1) (E := E0) GW hr1 rfl mW kW bW .nil pass0 (pa_cons (pv 1) pa_nil))) pa_nil))))))) pss_never pss_nil)
      (pss_one (ps_if (pt_not (pt_val (pe_callB (cr_all rfl) (by rfl) B.all (by decide +kernel) (pa_cons
          (pe_lc (own := [("one", 2), ("late", 3)]) (g := gTup K 2 (gCons (gName 2) (gCons (gName 3) gNil))) (tt := tYes) rfl nd (pi_zipA (by rfl) B.zip (pa_cons (pv 0) (pa_cons (pe_slice sl_tupA (pv 0) (po_some pe_int) po_none) pa_nil))) (blkOk_by (own := [("one", 2), ("late", 3)]) (N := ["free", "kind", "one", "late"]) (sc := defScope sCheckKinds) (by decide +kernel))
            (fun _ _ _ _ _ => pg_tup (by rfl) (pgs_cons (pg_name (i := 2) nd rfl (Or.inl rfl)) (pgs_cons (pg_name (i := 3) nd rfl (Or.inl rfl)) pgs_nil))) (fun _ _ _ _ _ => pts_nil)
            (fun _ _ _ _ _ => pe_cmpR op_lt_str (pv 2) (pv 3) (nomark _))) pa_nil)))) pss_never pss_nil))), ?_⟩
    refine ⟨_, rfl, _, _, _, _, true, rfl, .ty _, .base (.tup ha), kit_ty (by decide +kernel), true, rfl, ?_⟩
    have l2 := okF_len hf
    refine ⟨_, rfl, a, rfl, ⟨_, SqT.of ha⟩, fun D hD => lc_tup (xs := stv fs) (fun i H' => H' D = some (.lst ((List.replicate i true).map V.bl)) ∧ Same H H') ⟨upd_same, same_put (Same.refl _) hD⟩ (fun i H' _ p => SqT.of (p.2 _ _ ha)) ?_ ?_⟩
    · rintro i x H' hx ⟨hb, sm⟩
      have hi : i < fs.length := by
        have := (List.getElem?_eq_some_iff.mp hx).1
        rw [List.length_map] at this
        exact this
      rw [List.getElem?_map, List.getElem?_eq_getElem hi] at hx
      have ex := Option.some.inj hx
      subst ex
      obtain ⟨w1, w2⟩ := okF_word hf fs[i] (List.getElem_mem hi)
      refine ⟨rfl, _, rfl, .inr ⟨fs[i], rfl, w2, fun H3 s3 => ?_⟩⟩
      rw [w1]
      refine ⟨_, s3 _ _ hb, ?_, ?_, same_put (sm.trans s3) hD⟩
      · rw [List.length_map, List.length_replicate, sizeLine_eq]
        omega
      · rw [upd_same, rep_more]
    rintro H1 ⟨hb, s1⟩
    refine ⟨D, _, rfl, SqL.of hb, _, rfl, ?_⟩
    refine ifF (all_rep _) ?_
    have ha1 := s1 _ _ ha
    -- free[1:]
    have key : ∀ (b : Addr) (ys : List V) (H2 : Hp), Same H H2 → H2 b = some (.tup ys) → (∀ (i : Nat) (x y : V), (stv fs)[i]? = some x → ys[i]? = some y → ∃ u v : Str, x = V.str u ∧ y = V.str v ∧ decide (u.cps.toList < v.cps.toList) = true) →
        ∀ D, H2 D = none → ∃ W : Nat → Nat → Hp → Prop, (∃ m, W 0 m (upd H2 D (.lst []))) ∧ ∀ i m H, W i m H →
      ((ItzT K a b).stop i H ∧ (∃ (a : Addr) (bs : List Bool), [V.ref D] = [V.ref a] ∧ SqL K H a (bs.map V.bl) ∧ ∃ k, V.bl (bs.all id) = .bl k ∧ if (!k) = true then False else Q .non H)) ∨ ((ItzT K a b).go i H ∧ ∃ Nx : Hp → Prop, (∀ H', Nx H' → ∃ m', m' < m ∧ W (i + 1) m' H') ∧ ∀ x H', (ItzT K a b).yld i H x H' → gTup K 2 (gCons (gName 2) (gCons (gName 3) gNil)) x (wipe (L2.start ["free", "kind", "one", "late"] [.ref a]) [2, 3]) H' fun σ2 H2 => wipe σ2 [2, 3] = wipe (L2.start ["free", "kind", "one", "late"] [.ref a]) [2, 3] ∧ tYes σ2 H2 fun b H3 =>
        if b = true then tOp rLtS (tVar 2) (tVar 3) σ2 H3 fun y H4 => ∃ acc, H4 D = some (.lst acc) ∧ acc.length < sizeLine ∧ Nx (upd H4 D (.lst (acc ++ [y]))) else Nx H3) := by
      intro b ys H2 s2 hb2 hlt D hD
      refine lc_it (walk_zipT (xs := stv fs) (ys := ys) (n := min (stv fs).length ys.length) rfl) (fun i H' => H' D = some (.lst ((List.replicate i true).map V.bl)) ∧ Same H2 H') ⟨upd_same, same_put (Same.refl _) hD⟩ (fun i H' _ p => ⟨SqT.of (p.2 _ _ (s2 _ _ ha)), SqT.of (p.2 _ _ hb2)⟩) ?_ ?_
      · rintro i x H' H'' hi ⟨hb, sm⟩ ⟨T, x1, y1, rfl, hT, rfl, e1, e2⟩
        obtain ⟨u, v, rfl, rfl, hd⟩ := hlt i x1 y1 e1 e2
        have hi2 : i < 2 := by
          have := (List.getElem?_eq_some_iff.mp e1).1
          rw [List.length_map] at this
          omega
        refine ⟨T, _, rfl, SqT.of upd_same, rfl, _, _, rfl, _, _, rfl, rfl, rfl, ?_⟩
        refine ⟨_, rfl, _, rfl, u, v, rfl, rfl, ?_⟩
        rw [hd]
        refine ⟨_, by rw [upd_ne (ne_of_none hb hT)]; exact hb, ?_, ?_, same_put (same_put sm (sm.free hT)) hD⟩
        · rw [List.length_map, List.length_replicate, sizeLine_eq]
          omega
        · rw [upd_same, rep_more]
      · rintro H' ⟨hb, sm⟩
        exact ⟨D, _, rfl, SqL.of hb, _, rfl, ifF (all_rep _) (k _ (s2.trans sm))⟩
    rcases hf with e | e | e
    · subst e
      refine ⟨_, rfl, _, rfl, _, rfl, a, _, rfl, SqT.of ha1, fun q => absurd q.1 (by decide), fun _ p hp => ?_⟩
      refine ⟨a, p, _, _, rfl, .inr ⟨SqT.of (by rw [upd_ne (ne_of_none ha1 hp)]; exact ha1), SqT.of upd_same, fun D hD => ?_⟩⟩
      refine key p _ _ (same_put s1 (s1.free hp)) upd_same (fun i x y h1 h2 => ?_) D hD
      cases i <;> cases h2
    · subst e
      refine ⟨_, rfl, _, rfl, _, rfl, a, _, rfl, SqT.of ha1, fun q => absurd q.1 (by decide), fun _ p hp => ?_⟩
      refine ⟨a, p, _, _, rfl, .inr ⟨SqT.of (by rw [upd_ne (ne_of_none ha1 hp)]; exact ha1), SqT.of upd_same, fun D hD => ?_⟩⟩
      refine key p _ _ (same_put s1 (s1.free hp)) upd_same (fun i x y h1 h2 => ?_) D hD
      cases i with
      | zero =>
        cases h1
        cases h2
        exact ⟨_, _, rfl, rfl, by decide +kernel⟩
      | succ i => cases i <;> cases h2
    · subst e
      refine ⟨_, rfl, _, rfl, _, rfl, a, _, rfl, SqT.of ha1, fun _ => ?_, fun q => absurd (by decide) q⟩
      exact ⟨a, a, _, _, rfl, .inr ⟨SqT.of ha1, SqT.of ha1, fun D hD => key a _ _ s1 ha1 (fun i x y h1 h2 => by cases i <;> cases h2) D hD⟩⟩
end
end K25

/-! K25: View.__init__. -/
namespace K25
open PySem PySem.Spec PyProof.Rows L2
structure TV (K : PySem.W.Frag) (CV : Addr) : Prop where
  cl : Cls K CV
  hidden : NoAttr K CV "hidden"
  shown : NoAttr K CV "shown"
theorem inV_str (k : Str) : ∀ fs : List Str, inV (.str k) (stv fs) = decide (k ∈ fs)
  | [] => rfl
  | a :: fs => by
    have ih := inV_str k fs
    unfold inV at *
    show (eqV (V.str a) (V.str k) || (List.map V.str fs).any fun y => eqV y (V.str k)) = _
    rw [ih]
    have e : eqV (V.str a) (V.str k) = decide (a = k) := rfl
    rw [e]
    by_cases q : a = k
    · subst q
      simp
    · have q2 : ¬ k = a := fun z => q z.symm
      simp [q, q2]
theorem flat_str : ∀ fs : List Str, (stv fs).all flatV = true
  | [] => rfl
  | a :: fs => by
    show (flatV (V.str a) && (stv fs).all flatV) = true
    rw [flat_str fs]
    rfl
theorem dec_str {a b : Str} : decide (V.str a = V.str b) = decide (a = b) := by
  by_cases h : a = b
  · subst h
    rw [decide_eq_true rfl, decide_eq_true rfl]
  · rw [decide_eq_false h, decide_eq_false fun z => h (by injection z)]
theorem flt1 {α β : Type} {p : α → Bool} {f : α → β} {t : α} : ([t].filter p).map f = if p t = true then [f t] else [] := by
  by_cases h : p t = true
  · rw [if_pos h, List.filter_cons_of_pos h]; rfl
  · rw [if_neg h, List.filter_cons_of_neg h]; rfl
theorem str_inj {a b : Str} (h : decide (V.str a = V.str b) = true) : a = b := by
  have := of_decide_eq_true h
  injection this
theorem hidL_more {fs : List Str} {ss : List Stp} {j : Nat} {t : Stp} {i : Int} (h : ss[j]? = some t) : hidL fs (ss.take (j + 1)) i = hidL fs (ss.take j) i ++ if (decide (t.s = i) && (decide (OkK fs t.k) && decide (t.w = ("" : Str)))) = true then [t.g] else [] := by
  unfold hidL
  rw [take_more h, List.filter_append, List.map_append, flt1]
theorem shoL_more {fs : List Str} {ss : List Stp} {j : Nat} {t : Stp} {i : Int} (h : ss[j]? = some t) : shoL fs (ss.take (j + 1)) i = shoL fs (ss.take j) i ++ if (decide (t.s = i) && (decide (OkK fs t.k) && !decide (t.w = ("" : Str)))) = true then [(t.w, t.g)] else [] := by
  unfold shoL
  rw [take_more h, List.filter_append, List.map_append, flt1]
theorem hidL_len {fs : List Str} {ss : List Stp} {i : Int} : (hidL fs ss i).length ≤ ss.length := by
  unfold hidL
  rw [List.length_map]
  exact List.length_filter_le _ _
theorem shoL_len {fs : List Str} {ss : List Stp} {i : Int} : (shoL fs ss i).length ≤ ss.length := by
  unfold shoL
  rw [List.length_map]
  exact List.length_filter_le _ _
def spVInit (CM CV : Addr) : Sp := fun vs H Q _ => ∃ (p dx m fr : Addr) (many : Nat) (ss : List Stp) (fs : List Str), vs = [.ref p, .ref m, .ref fr] ∧ H p = some (.ins CV dx []) ∧ MachAt CM H m many ss ∧ OkM many ss ∧ H fr = some (.tup (stv fs)) ∧
  ∀ H', KeepP p H H' → ViewAt CV H' p many fs ss → Q .non H'
section
variable {P : Program} {w : World} {K : PySem.W.Frag} {mg : Str → Option Value} {base : Heap} {f CM CV : Addr} {fd : FuncData}
theorem ok_vInit (F : FnP K "__init__" "View.__init__" sVInit f fd) (B : Bi mg) (TMm : TM K CM) (T : TV K CV) : FnOk P w K mg base CX0 1 f fd ["self", "machine", "free"] (spVInit CM CV) := by
  refine F.ok scVInit (fun vs H Q E h => ?_) (fun cdv A outer s H vs Q E hr h => ?_)
  · obtain ⟨p, dx, m, fr, many, ss, fs, rfl, _⟩ := h
    rfl
  · obtain ⟨p, dx, m, fr, many, ss, fs, rfl, hp, hm, okm, hf, k⟩ := h
    have hu := hu_of hr
    have nd := scVInit.nd
    refine ⟨_, PSs.nox (pss_cons (ps_fld (pv 0) (pe_dc (own := [("state", 3)]) (g := gName 3) (tt := tYes) rfl nd (pi_range1 rfl B.range (pa_cons (pe_fld (pv 1) rfl) pa_nil)) (blkOk_by (own := [("state", 3)]) (N := ["self", "machine", "free", "state", "kind", "seen", "goal"]) (sc := defScope sVInit) (by decide +kernel)) (fun _ _ _ _ _ => pg_name (i := 3) nd rfl (Or.inl rfl)) (fun _ _ _ _ _ => pts_nil) (fun _ _ _ _ _ => pv 3) (fun _ _ _ _ _ => pe_lst pa_nil)) rfl)
      (pss_cons (ps_fld (pv 0) (pe_dc (own := [("state", 3)]) (g := gName 3) (tt := tYes) rfl nd (pi_range1 rfl B.range (pa_cons (pe_fld (pv 1) rfl) pa_nil)) (blkOk_by (own := [("state", 3)]) (N := ["self", "machine", "free", "state", "kind", "seen", "goal"]) (sc := defScope sVInit) (by decide +kernel)) (fun _ _ _ _ _ => pg_name (i := 3) nd rfl (Or.inl rfl)) (fun _ _ _ _ _ => pts_nil) (fun _ _ _ _ _ => pv 3) (fun _ _ _ _ _ => pe_lst pa_nil)) rfl)
      (pss_one (ps_for PassesOwn.never rfl (pi_tup (pe_fld (pv 1) rfl)) (pg_tup (by rfl) (pgs_cons (pg_name (i := 3) nd rfl (Or.inl rfl)) (pgs_cons (pg_name (i := 4) nd rfl (Or.inl rfl)) (pgs_cons (pg_name (i := 5) nd rfl (Or.inl rfl)) (pgs_cons (pg_name (i := 6) nd rfl (Or.inl rfl)) pgs_nil)))))
        (pss_one (ps_if (PW.pt (pw_or (pt_cmpR op_eq (pv 4) pe_str (nomark _)) (pw_or1 (pt_cmpR op_in_seq (pv 4) (pv 2) (by rfl)))))
          (pss_one (ps_if (pt_cmpR op_eq (pv 5) pe_str (nomark _))
            (pss_one (ps_expr (pe_bm PySem.F.plainAttrs_list PySem.F.slot_list_append PySem.F.type_list_append mt_append (pe_dget hu (pe_fld (pv 0) rfl) (pv 3) (fun _ _ => rfl)) (pa_cons (pv 6) pa_nil))))
            (pss_one (ps_expr (pe_bm PySem.F.plainAttrs_list PySem.F.slot_list_append PySem.F.type_list_append mt_append (pe_dget hu (pe_fld (pv 0) rfl) (pv 3) (fun _ _ => rfl)) (pa_cons (pe_tup (pa_cons (pv 5) (pa_cons (pv 6) pa_nil))) pa_nil))))))
          pss_nil)))))), ?_⟩
    obtain ⟨mx, a0, b0, c0, d0, zs, L0, hm1, hm2, hm3, hm4, hm5, hm6⟩ := id hm
    -- self.hidden
    refine ⟨_, rfl, m, CM, mx, _, _, rfl, hm1, TMm.cl, TMm.many, rfl, (many : Int), rfl, by omega, by have := okm.hi; omega, fun D1 hD1 => dc_lists (n := many) (j := 3) (vs := [3]) (by have := okm.hi; omega) hD1 (by show 3 < 7; decide) (fun _ => rfl) fun H1 L s1 ls1 _ hL => ?_⟩
    refine ⟨_, rfl, p, CV, dx, _, rfl, s1 _ _ hp, T.cl, T.hidden, (by show 0 < 1000; decide), ?_⟩
    obtain ⟨H2, eH2⟩ : ∃ H2, H2 = upd H1 p (.ins CV dx (putF "hidden" (.ref D1) [])) := ⟨_, rfl⟩
    rw [← eH2]
    have h2p : H2 p = some (.ins CV dx [("hidden", .ref D1)]) := by rw [eH2, upd_same]; rfl
    have k12 : KeepP p H1 H2 := by rw [eH2]; exact KeepP.own fun b o _ e => e
    have k2 : KeepP p H H2 := fun b o nb e => k12 b o nb (s1 b o e)
    have nmp : m ≠ p := ne_of hm1 hp (fun z => by injection z with _ _ z; cases z)
    have nfp : fr ≠ p := ne_of hf hp (fun z => nomatch z)
    have h2m := k2 _ _ nmp hm1
    -- self.shown
    refine ⟨_, rfl, m, CM, mx, _, _, rfl, h2m, TMm.cl, TMm.many, rfl, (many : Int), rfl, by omega, by have := okm.hi; omega, fun D3 hD3 => dc_lists (n := many) (j := 3) (vs := [3]) (by have := okm.hi; omega) hD3 (by show 3 < 7; decide) (fun _ => rfl) fun H3 M s3 ls3 _ hM => ?_⟩
    refine ⟨_, rfl, p, CV, dx, _, rfl, s3 _ _ h2p, T.cl, T.shown, (by show 1 < 1000; decide), ?_⟩
    obtain ⟨H4, eH4⟩ : ∃ H4, H4 = upd H3 p (.ins CV dx (putF "shown" (.ref D3) [("hidden", .ref D1)])) := ⟨_, rfl⟩
    rw [← eH4]
    have h4p : H4 p = some (.ins CV dx [("hidden", .ref D1), ("shown", .ref D3)]) := by rw [eH4, upd_same]; rfl
    have k34 : KeepP p H3 H4 := by rw [eH4]; exact KeepP.own fun b o _ e => e
    have k24 : KeepP p H2 H4 := fun b o nb e => k34 b o nb (s3 b o e)
    have k14 : KeepP p H1 H4 := k12.trans k24
    have k4 : KeepP p H H4 := k2.trans k24
    have h1p := s1 _ _ hp
    have h3p := s3 _ _ h2p
    obtain ⟨kv1, hk1, hl1, hv1⟩ := ls1.dict
    obtain ⟨kv3, hk3, hl3, hv3⟩ := ls3.dict
    have nD1 : D1 ≠ p := ne_of hk1 h1p (fun z => nomatch z)
    have nD3 : D3 ≠ p := ne_of hk3 h3p (fun z => nomatch z)
    have nL : ∀ i, i < many → L i ≠ p := fun i hi => ne_of (hL i hi).1 h1p (fun z => nomatch z)
    have nM : ∀ i, i < many → M i ≠ p := fun i hi => ne_of (hM i hi).1 h3p (fun z => nomatch z)
    have h4L : ∀ i, i < many → H4 (L i) = some (.lst []) := fun i hi => k14 _ _ (nL i hi) (hL i hi).1
    have h4M : ∀ i, i < many → H4 (M i) = some (.lst []) := fun i hi => k34 _ _ (nM i hi) (hM i hi).1
    have nLM : ∀ i j, i < many → j < many → L i ≠ M j := fun i j hi hj => ne_of_none (k12 _ _ (nL i hi) (hL i hi).1) (hM j hj).2
    have h4D1 := k14 _ _ nD1 hk1
    have h4D3 := k34 _ _ nD3 hk3
    have h4m := k4 _ _ nmp hm1
    have na0 : a0 ≠ p := ne_of hm2 hp (fun z => nomatch z)
    have h4a := k4 _ _ na0 hm2
    have h4f := k4 _ _ nfp hf
    have h4z : ∀ z ∈ zs, H4 z.1 = some (.tup (stpV z.2)) := fun z hz => k4 _ _ (ne_of (hm3 z hz) hp (fun z => nomatch z)) (hm3 z hz)
    have apart : ∀ b o, H4 b = some o → (∀ xs, o ≠ .lst xs) → ∀ i, i < many → b ≠ L i ∧ b ≠ M i := fun b o e n i hi => ⟨ne_of e (h4L i hi) (n _), ne_of e (h4M i hi) (n _)⟩
    -- for state, kind, seen, goal in machine.steps
    refine ⟨_, rfl, m, CM, mx, _, _, rfl, h4m, TMm.cl, TMm.steps, rfl, a0, rfl, ⟨_, SqT.of h4a⟩, for_tup (xs := refs zs) (fun j σ H' => ∃ v3 v4 v5 v6 : Option V, σ = [some (.ref p), some (.ref m), some (.ref fr), v3, v4, v5, v6] ∧
        (∀ b o, (∀ i, i < many → b ≠ L i ∧ b ≠ M i) → H4 b = some o → H' b = some o) ∧ (∀ i, i < many → H' (L i) = some (.lst ((hidL fs (ss.take j) i).map V.int))) ∧
        ∀ i, i < many → ∃ us : List (Addr × (Str × Int)), H' (M i) = some (.lst (refs us)) ∧ (∀ z ∈ us, H' z.1 = some (.tup (wgV z.2))) ∧ us.map (·.2) = shoL fs (ss.take j) i) ?_ ?_ ?_ ?_⟩
    · exact ⟨_, _, _, _, rfl, fun _ _ _ e => e, h4L, fun i hi => ⟨[], h4M i hi, fun z hz => absurd hz (by simp), rfl⟩⟩
    · rintro j σ H' hj ⟨v3, v4, v5, v6, rfl, sm, _, _⟩
      exact SqT.of (sm a0 _ (apart _ _ h4a (fun _ z => nomatch z)) h4a)
    · rintro j x σ H' hx ⟨v3, v4, v5, v6, rfl, sm, hh, hs⟩
      rw [List.getElem?_map] at hx
      cases e : zs[j]? with
      | none => rw [e] at hx; cases hx
      | some z =>
        rw [e] at hx
        have ex : x = V.ref z.1 := (Option.some.inj hx).symm
        subst ex
        have hzm : z ∈ zs := List.mem_of_getElem? e
        have est : ss[j]? = some z.2 := by rw [← hm4, List.getElem?_map, e]; rfl
        have okz := okm.st z.2 (List.mem_of_getElem? est)
        obtain ⟨n, hn⟩ : ∃ n : Nat, z.2.s = (n : Int) := ⟨z.2.s.toNat, by omega⟩
        have hnm : n < many := by omega
        have jlt : j < 12 := by
          have := (List.getElem?_eq_some_iff.mp est).1
          have := okm.len
          omega
        have hz' : H' z.1 = some (.tup (stpV z.2)) := sm z.1 _ (apart _ _ (h4z z hzm) (fun _ z => nomatch z)) (h4z z hzm)
        have hp' := sm p _ (apart _ _ h4p (fun _ z => nomatch z)) h4p
        have hf' := sm fr _ (apart _ _ h4f (fun _ z => nomatch z)) h4f
        have hD1' := sm D1 _ (apart _ _ h4D1 (fun _ z => nomatch z)) h4D1
        have hD3' := sm D3 _ (apart _ _ h4D3 (fun _ z => nomatch z)) h4D3
        have g1 : DGet H' D1 (.int z.2.s) (some (.ref (L n))) := by
          have q := DGet.k (k := Sum.inl z.2.s) hD1'
          rw [hn, hv1 n hnm] at q
          rw [hn]
          exact q
        have g3 : DGet H' D3 (.int z.2.s) (some (.ref (M n))) := by
          have q := DGet.k (k := Sum.inl z.2.s) hD3'
          rw [hn, hv3 n hnm] at q
          rw [hn]
          exact q
        have skip : ¬ OkK fs z.2.k → ∃ v3 v4 v5 v6 : Option V, ([some (.ref p), some (.ref m), some (.ref fr), some (.int z.2.s), some (.str z.2.k), some (.str z.2.w), some (.int z.2.g)] : List (Option V)) = [some (.ref p), some (.ref m), some (.ref fr), v3, v4, v5, v6] ∧
            (∀ b o, (∀ i, i < many → b ≠ L i ∧ b ≠ M i) → H4 b = some o → H' b = some o) ∧ (∀ i, i < many → H' (L i) = some (.lst ((hidL fs (ss.take (j + 1)) i).map V.int))) ∧
            ∀ i, i < many → ∃ us : List (Addr × (Str × Int)), H' (M i) = some (.lst (refs us)) ∧ (∀ z ∈ us, H' z.1 = some (.tup (wgV z.2))) ∧ us.map (·.2) = shoL fs (ss.take (j + 1)) i := fun no => by
          refine ⟨_, _, _, _, rfl, sm, fun i hi => ?_, fun i hi => ?_⟩
          · rw [hidL_more est, if_neg (by rw [Bool.and_eq_true, Bool.and_eq_true, decide_eq_true_iff, decide_eq_true_iff]; exact fun q => no q.2.1), List.append_nil]
            exact hh i hi
          · rw [shoL_more est, if_neg (by rw [Bool.and_eq_true, Bool.and_eq_true, decide_eq_true_iff, decide_eq_true_iff]; exact fun q => no q.2.1), List.append_nil]
            exact hs i hi
        refine ⟨z.1, _, rfl, SqT.of hz', rfl, _, _, rfl, _, _, rfl, _, _, rfl, _, _, rfl, rfl, ?_⟩
        refine ⟨_, rfl, rfl, _, rfl, ite2 (fun h1 => ?_) (fun h1 => ⟨_, rfl, _, rfl, fr, _, rfl, .inr (SqT.of hf'), rfl, flat_str fs, _, rfl, ite2 (fun h2 => ?_) (fun h2 => skip ?_)⟩)⟩
        rotate_left 2
        · rintro (q | q)
          · exact h1 (by rw [dec_str]; exact decide_eq_true q)
          · exact h2 (by show inV _ _ = true; rw [inV_str]; exact decide_eq_true q)
        all_goals have ok : OkK fs z.2.k := (by first | exact .inl (str_inj h1) | exact .inr (of_decide_eq_true ((inV_str _ _).symm.trans h2)))
        all_goals refine ⟨_, rfl, rfl, _, rfl, ite2 (fun h3 => ?_) (fun h3 => ?_)⟩
        any_goals
          (have ew : z.2.w = ("" : Str) := str_inj h3
           refine ⟨_, rfl, p, CV, dx, _, _, rfl, hp', T.cl, T.hidden, rfl, _, rfl, D1, _, rfl, g1, .inl ⟨rfl, _, SqL.of (hh n hnm)⟩, _, rfl, L n, _, _, rfl, rfl, hh n hnm, ?_, ?_⟩
           · rw [List.length_map, sizeLine_eq]
             have := @hidL_len fs (ss.take j) n
             have : (ss.take j).length ≤ j := by rw [List.length_take]; omega
             omega
           · refine ⟨_, _, _, _, rfl, fun b o nb eb => ?_, fun i hi => ?_, fun i hi => ?_⟩
             · rw [upd_ne (nb n hnm).1]
               exact sm b o nb eb
             · rw [hidL_more est]
               by_cases q : i = n
               · subst q
                 rw [upd_same, if_pos (by rw [decide_eq_true hn, decide_eq_true ok, decide_eq_true ew]; rfl), List.map_append]
                 rfl
               · rw [if_neg (by rw [Bool.and_eq_true, decide_eq_true_iff, hn]; exact fun w => q (Int.ofNat.inj w.1).symm), List.append_nil, upd_ne fun w => q (ls1.inj _ _ hi hnm w)]
                 exact hh i hi
             · rw [shoL_more est, if_neg (by rw [Bool.and_eq_true, Bool.and_eq_true, decide_eq_true ew]; exact fun w => Bool.noConfusion w.2.2), List.append_nil]
               obtain ⟨us, u1, u2, u3⟩ := hs i hi
               refine ⟨us, ?_, fun y hy => ?_, u3⟩
               · rw [upd_ne (nLM n i hnm hi).symm]
                 exact u1
               · rw [upd_ne (ne_of (u2 y hy) (hh n hnm) (fun z => nomatch z))]
                 exact u2 y hy)
        all_goals
          (have ew : ¬ z.2.w = ("" : Str) := fun q => h3 (by rw [dec_str]; exact decide_eq_true q)
           obtain ⟨us, u1, u2, u3⟩ := hs n hnm
           refine ⟨_, rfl, p, CV, dx, _, _, rfl, hp', T.cl, T.shown, rfl, _, rfl, D3, _, rfl, g3, .inl ⟨rfl, _, SqL.of u1⟩, _, rfl, _, rfl, (by show 2 ≤ sizeLine; decide), fun y hy => ?_⟩
           have nMy : M n ≠ y := ne_of_none u1 hy
           have u1' : upd H' y (.tup [.str z.2.w, .int z.2.g]) (M n) = some (.lst (refs us)) := by rw [upd_ne nMy]; exact u1
           refine ⟨M n, _, _, rfl, rfl, u1', ?_, ?_⟩
           · rw [List.length_map, sizeLine_eq]
             have e1 : us.length = (shoL fs (ss.take j) n).length := by rw [← u3, List.length_map]
             have := @shoL_len fs (ss.take j) n
             have : (ss.take j).length ≤ j := by rw [List.length_take]; omega
             omega
           · refine ⟨_, _, _, _, rfl, fun b o nb eb => ?_, fun i hi => ?_, fun i hi => ?_⟩
             · rw [upd_ne (nb n hnm).2, upd_ne (ne_of_none (sm b o nb eb) hy)]
               exact sm b o nb eb
             · rw [hidL_more est, if_neg (by rw [Bool.and_eq_true, Bool.and_eq_true, decide_eq_false ew]; exact fun w => Bool.noConfusion w.2.2), List.append_nil, upd_ne (nLM i n hi hnm), upd_ne (ne_of_none (hh i hi) hy)]
               exact hh i hi
             · rw [shoL_more est]
               by_cases q : i = n
               · subst q
                 rw [if_pos (by rw [decide_eq_true hn, decide_eq_true ok, decide_eq_false ew]; rfl)]
                 refine ⟨us ++ [(y, (z.2.w, z.2.g))], ?_, fun v hv => ?_, ?_⟩
                 · rw [upd_same]
                   unfold refs
                   rw [List.map_append]
                   rfl
                 · rcases List.mem_append.mp hv with k1 | k1
                   · have q := u2 v k1
                     rw [upd_ne (ne_of q u1 (fun z => nomatch z)), upd_ne (ne_of_none q hy)]
                     exact q
                   · have e1 : v = (y, (z.2.w, z.2.g)) := by simpa using k1
                     rw [e1, upd_ne nMy.symm, upd_same]
                 · rw [List.map_append, u3]
                   rfl
               · rw [if_neg (by rw [Bool.and_eq_true, decide_eq_true_iff, hn]; exact fun w => q (Int.ofNat.inj w.1).symm), List.append_nil]
                 obtain ⟨us2, w1, w2, w3⟩ := hs i hi
                 refine ⟨us2, ?_, fun v hv => ?_, w3⟩
                 · rw [upd_ne (fun w => q (ls3.inj _ _ hi hnm w)), upd_ne (ne_of_none w1 hy)]
                   exact w1
                 · have q2 := w2 v hv
                   rw [upd_ne (ne_of q2 u1 (fun z => nomatch z)), upd_ne (ne_of_none q2 hy)]
                   exact q2)
    · rintro σ H' ⟨v3, v4, v5, v6, rfl, sm, hh, hs⟩
      have ez : (refs zs).length = ss.length := by rw [← hm4, List.length_map, List.length_map]
      rw [ez, List.take_length] at hh hs
      refine k H' (fun b o nb e => ?_) ⟨dx, D1, D3, L, M, sm p _ (apart _ _ h4p (fun _ z => nomatch z)) h4p, ⟨⟨kv1, sm D1 _ (apart _ _ h4D1 (fun _ z => nomatch z)) h4D1, hl1, hv1⟩, ls1.inj⟩, ⟨⟨kv3, sm D3 _ (apart _ _ h4D3 (fun _ z => nomatch z)) h4D3, hl3, hv3⟩, ls3.inj⟩, hh, hs⟩
      refine sm b o (fun i hi => ⟨?_, ?_⟩) (k4 b o nb e)
      · exact ne_of_none e (hL i hi).2
      · exact ne_of_none (k2 b o nb e) (hM i hi).2
end
end K25

/-! K25: data compared; View.closed. -/
namespace K25
open PySem PySem.Spec PyProof.Rows L2
/-! ### x = {k: v for ..}, x a local name -/
section
variable {X : Cx}
theorem ps_setDc {i : Nat} {y : Str} {py : Pos} {kx vx tg iter : Expr} {ifs : List Expr} {scope : Scope} {own : List (Str × Nat)} {pos spos : Pos} {wi : TI} {g : TG} {tt : TT} {tk tv : TE} (hc : X.calm = true) (hN : X.N.Nodup) (hy : X.N[i]? = some y) (hyl : X.env.scope.names.lookup y = some .local)
    (hsw : swapsWith (.DictComp kx vx [⟨tg, iter, ifs, 0⟩] scope pos) (some (.Name y py)) spos.line X.env = pure true) (hi : PI X tg iter wi) (ok : BlkOk X.N X.env.scope scope own)
    (hg : ∀ (s : Shared) (H : Hp) (C : Addr) (cl : List (Str × Addr)) (fp : List Addr), PG (X.blk s H scope (compEnvC scope cl C X.env) fp) tg g) (ht : ∀ (s : Shared) (H : Hp) (C : Addr) (cl : List (Str × Addr)) (fp : List Addr), PTs (X.blk s H scope (compEnvC scope cl C X.env) fp) ifs tt)
    (hk : ∀ (s : Shared) (H : Hp) (C : Addr) (cl : List (Str × Addr)) (fp : List Addr), PE (X.blk s H scope (compEnvC scope cl C X.env) fp) kx tk)
    (he : ∀ (s : Shared) (H : Hp) (C : Addr) (cl : List (Str × Addr)) (fp : List Addr), PE (X.blk s H scope (compEnvC scope cl C X.env) fp) vx tv) (hs : ∀ x, foldedSetIterable iter X.env x = pure x := by intro _; rfl) :
    PS X (.Assign [.Name y py] (.DictComp kx vx [⟨tg, iter, ifs, 0⟩] scope pos) spos) (tAsg (tDc wi g tt tk tv (own.map (·.2))) (gName i)) := by
  refine ⟨fun pins s σ H D I h => ?_⟩
  rw [exec_Assign_Name_used _ _ _ _ hsw]
  refine wpAny_bind (wpAny_standAt (wpAny_bind ?_))
  show wpAny _ X.A (do let _ ← comprehension (.DictComp kx vx [⟨tg, iter, ifs, 0⟩] scope pos) scope X.env (firstIterPos [⟨tg, iter, ifs, 0⟩] pos) newDict false (eval iter X.env) (some (assign (.Name y py) X.env))) _ _ s
  have h : tDc wi g tt tk tv (own.map (·.2)) σ H (fun x H1 => gName i x σ H1 D.nx) := h
  refine wpAny_bind (thn (dc_core (Qf := fun _ s' => SP X pins D .next s') hc hN I hi ok hg ht hk he hs h fun L C s' m H' I' q hn f => ?_) fun _ s' hq => wpAny_pure (wpAny_pure hq))
  show wpAny _ _ (assign (.Name y py) X.env (.ref L)) _ _ _
  refine wpAny_assign_Name (store_ok2 (v := V.ref L) I' hN hy (.inl hyl) rfl (fun s2 I2 ⟨a, sb, ha⟩ => ?_) (.inr hyl))
  obtain ⟨f0, f1, f2, f3, f4, f5⟩ := f
  have haC : C ≠ a := by
    rcases ha with z | z
    · rw [z]; exact f1
    · exact fun e => f4 y a z e.symm
  refine ⟨m, hn.sameBut sb haC, fun h3 sb3 => ?_⟩
  exact ⟨_, H', I2.turned (t' := s2.toks) (fun b o hb e => (sb3.2 b hb).trans e) f0 f1 f3 f4 f5, q⟩
theorem swD_true {kx vx : Expr} {gs : List Comprehension} {scope : Scope} {pos py : Pos} {y : Str} {l : Nat} {env : Env} (hk : env.scope.kind = .function) (hy : env.scope.names.lookup y = some .local) (hl : (py.line == pos.line) = true)
    (ha : (scope.names.any fun (n, k) => n == y && (k == .local || k == .cell)) = false) : swapsWith (.DictComp kx vx gs scope pos) (some (.Name y py)) l env = pure true := by
  have ky : env.kindOf y = some .local := hy
  have hb : env.blockKind = .function := by unfold Env.blockKind; rw [hk]; rfl
  unfold swapsWith
  simp only [hb, ky, ha, Expr.pos, hl]
  rfl
end
/-! ### data -/
def okD : V → Bool
  | .non => true
  | .bl _ => true
  | .int _ => true
  | .str x => PyData.strOk x
  | _ => false
def dV : V → PyData
  | .bl b => .bool b
  | .int i => .int i
  | .str x => .str x
  | _ => .none
theorem dp_of {K : PySem.W.Frag} {H : Hp} : ∀ x : V, okD x = true → Dp K H x (dV x)
  | .non, _ => .non
  | .bl b, _ => .bl b
  | .int i, _ => .int i
  | .str x, _ => .str x
  | .byt _, h => nomatch (show false = true from h)
  | .flt _, h => nomatch (show false = true from h)
  | .ref _, h => nomatch (show false = true from h)
  | .ty _, h => nomatch (show false = true from h)
theorem lay_of : ∀ x : V, okD x = true → (dV x).canLay0 = true ∧ (dV x).depth = 0
  | .non, _ => ⟨rfl, rfl⟩
  | .bl b, _ => ⟨rfl, rfl⟩
  | .int i, _ => ⟨rfl, rfl⟩
  | .str x, h => ⟨h, rfl⟩
  | .byt _, h => nomatch (show false = true from h)
  | .flt _, h => nomatch (show false = true from h)
  | .ref _, h => nomatch (show false = true from h)
  | .ty _, h => nomatch (show false = true from h)
/-- items that are told as data -/
structure DL (K : PySem.W.Frag) (H : Hp) (xs : List V) (ds : List PyData) : Prop where
  dp : DpAll K H xs ds
  lay : PyData.canLayAll0 ds = true
  dep : PyData.depthAll ds ≤ 5
theorem DL.flat {K : PySem.W.Frag} {H : Hp} : ∀ xs : List V, xs.all okD = true → DL K H xs (xs.map dV)
  | [], _ => ⟨.nil, rfl, Nat.zero_le _⟩
  | x :: xs, h => by
    rw [List.all_cons, Bool.and_eq_true] at h
    obtain ⟨a, b, c⟩ := DL.flat (K := K) (H := H) xs h.2
    obtain ⟨l1, l2⟩ := lay_of x h.1
    refine ⟨.cons (dp_of x h.1) a, ?_, ?_⟩
    · show (PyData.canLay0 (dV x) && PyData.canLayAll0 (xs.map dV)) = true
      rw [l1, b]
      rfl
    · show max (PyData.depth (dV x)) (PyData.depthAll (xs.map dV)) ≤ 5
      omega
theorem DL.shL {K : PySem.W.Frag} {H : Hp} {xs : List V} {ds : List PyData} (d : DL K H xs ds) : SeqAt.shaped (.list ds) = true := by
  unfold SeqAt.shaped
  have e : (PyData.list ds).depth = PyData.depthAll ds + 1 := rfl
  have e2 : (PyData.list ds).canLay0 = PyData.canLayAll0 ds := rfl
  rw [e, e2, d.lay, decide_eq_true (by have := d.dep; omega)]
  rfl
theorem DL.shT {K : PySem.W.Frag} {H : Hp} {xs : List V} {ds : List PyData} (d : DL K H xs ds) : SeqAt.shaped (.tuple ds) = true := by
  unfold SeqAt.shaped
  have e : (PyData.tuple ds).depth = PyData.depthAll ds + 1 := rfl
  have e2 : (PyData.tuple ds).canLay0 = PyData.canLayAll0 ds := rfl
  rw [e, e2, d.lay, decide_eq_true (by have := d.dep; omega)]
  rfl
theorem neL_empty {K : PySem.W.Frag} {H : Hp} {a b : Addr} {xs : List V} {ds : List PyData} {Q : VK} (h1 : SqL K H a xs) (h2 : SqL K H b []) (d : DL K H xs ds) (h : Q (.bl (!xs.isEmpty)) H) : rNeD K (.ref a) (.ref b) H Q := by
  refine ⟨.list ds, .list [], .lst h1 d.dp, .lst h2 .nil, d.shL, by decide +kernel, ?_⟩
  have e : PyData.eqv (.list ds) (.list []) = xs.isEmpty := by
    cases d.dp with
    | nil => rfl
    | cons => rfl
  rw [e]
  exact h
theorem neT_empty {K : PySem.W.Frag} {H : Hp} {a b : Addr} {xs : List V} {ds : List PyData} {Q : VK} (h1 : SqT K H a xs) (h2 : SqT K H b []) (d : DL K H xs ds) (h : Q (.bl (!xs.isEmpty)) H) : rNeD K (.ref a) (.ref b) H Q := by
  refine ⟨.tuple ds, .tuple [], .tup h1 d.dp, .tup h2 .nil, d.shT, by decide +kernel, ?_⟩
  have e : PyData.eqv (.tuple ds) (.tuple []) = xs.isEmpty := by
    cases d.dp with
    | nil => rfl
    | cons => rfl
  rw [e]
  exact h
theorem ok_ints (ns : List Int) : (ns.map V.int).all okD = true := by
  rw [List.all_map]
  exact List.all_eq_true.mpr fun _ _ => rfl
/-! ### View.closed -/
abbrev eI (i : Int) : Key := Sum.inl i
theorem eI_inj (a b : Int) (h : eI a = eI b) : a = b := Sum.inl.inj h
abbrev setI (l : List Int) : List (Key × V) := l.map fun x => (eI x, V.bl true)
def spVClosed (CV : Addr) : Sp := fun vs H Q _ => ∃ (v l : Addr) (many : Nat) (ss : List Stp) (fs : List Str) (ns : List Int), vs = [.ref v, .ref l] ∧ ViewAt CV H v many fs ss ∧ OkM many ss ∧ H l = some (.lst (ns.map V.int)) ∧ ns.length ≤ 1000 ∧ (∀ x ∈ ns, 0 ≤ x ∧ x < many) ∧
  ∀ (H' : Hp) (t : Addr) (ms : List Int), Same H H' → H' t = some (.tup (ms.map V.int)) → (∀ x, x ∈ ms ↔ Clo (HS ss fs) (· ∈ ns) x) → ms.Nodup → (∀ x ∈ ms, 0 ≤ x ∧ x < many) → Q (.ref t) H'
theorem mem_range_le {many : Nat} {l : List Int} (nd : l.Nodup) (h : ∀ x ∈ l, 0 ≤ x ∧ x < many) : l.length ≤ many := by
  have := nodup_len l (allS many) nd fun x hx => mem_allS (h x hx).1 (h x hx).2
  rw [allS_len] at this
  exact this
theorem HS_goal {ss : List Stp} {fs : List Str} {many : Nat} (okm : OkM many ss) {a b : Int} (h : HS ss fs a b) : 0 ≤ b ∧ b < many := by
  obtain ⟨t, ht, _, _, _, e⟩ := h
  have := okm.st t ht
  rw [← e]
  exact ⟨this.2.2.1, this.2.2.2⟩
theorem SS_goal {ss : List Stp} {fs : List Str} {many : Nat} (okm : OkM many ss) {w : Str} {a b : Int} (h : SS ss fs w a b) : 0 ≤ b ∧ b < many := by
  obtain ⟨t, ht, _, _, _, e⟩ := h
  have := okm.st t ht
  rw [← e]
  exact ⟨this.2.2.1, this.2.2.2⟩
def lenL (H : Hp) (a : Addr) : Nat := match H a with
  | some (.lst xs) => xs.length
  | _ => 0
def lenK (H : Hp) (a : Addr) : Nat := match H a with
  | some (.dK kvs) => kvs.length
  | _ => 0
section
variable {P : Program} {w : World} {K : PySem.W.Frag} {mg : Str → Option Value} {base : Heap} {f CV : Addr} {fd : FuncData}
theorem ok_vClosed (F : FnP K "closed" "View.closed" sVClosed f fd) (B : Bi mg) (T : TV K CV) : FnOk P w K mg base CX0 1 f fd ["self", "states"] (spVClosed CV) := by
  refine F.ok scVClosed (fun vs H Q E h => ?_) (fun cdv A outer s H vs Q E hr h => ?_)
  · obtain ⟨v, l, many, ss, fs, ns, rfl, _⟩ := h
    rfl
  · obtain ⟨v, l, many, ss, fs, ns, rfl, hv, okm, hl, hlen, hns, k⟩ := h
    have hu := hu_of hr
    have hu64 : (A.deeper (envOfC "View.closed" (defScope sVClosed) s.heap.objs.size f cdv)).units + 64 < cLine := by have := hr.un; omega
    have nd := scVClosed.nd
    refine ⟨_, PSs.nox (pss_cons (ps_setDc (i := 2) (own := [("state", 5)]) (g := gName 5) (tt := tYes) rfl nd rfl rfl (swD_true rfl rfl rfl (by decide +kernel)) (pi_list (pv 1)) (blkOk_by (own := [("state", 5)]) (N := ["self", "states", "found", "rest", "goal", "state"]) (sc := defScope sVClosed) (by decide +kernel)) (fun _ _ _ _ _ => pg_name (i := 5) nd rfl (Or.inl rfl)) (fun _ _ _ _ _ => pts_nil) (fun _ _ _ _ _ => pv 5) (fun _ _ _ _ _ => pe_bl))
      (pss_cons (ps_set (i := 3) nd rfl (Or.inl rfl) (pe_callTy call_list_of (by rfl) B.list (by decide +kernel) (pa_cons (pv 1) pa_nil)))
      (pss_cons (ps_while PassesOwn.never (pt_cmpR (op_neD hu64) (pv 3) (pe_lst pa_nil) (nomark _))
        (pss_one (ps_for PassesOwn.never rfl (pi_list (pe_dget hu (pe_fld (pv 0) rfl) (pe_bm0 PySem.F.plainAttrs_list PySem.F.slot_list_pop PySem.F.type_list_pop mt_pop (pv 3)) (fun _ _ => rfl))) (pg_name (i := 4) nd rfl (Or.inl rfl))
          (pss_one (ps_if (pt_cmp (pc_dnotin hu (pv 4) (pv 2)))
            (pss_cons (ps_dput hu (pv 2) (pv 4) pe_bl rfl) (pss_one (ps_expr (pe_bm PySem.F.plainAttrs_list PySem.F.slot_list_append PySem.F.type_list_append mt_append (pv 3) (pa_cons (pv 4) pa_nil))))) pss_nil)))))
      (pss_one (ps_ret (pe_callTy call_tuple_of (by rfl) B.tuple (by decide +kernel) (pa_cons (pe_callB (call_sortedDI rfl) (by rfl) B.sorted (by decide +kernel) (pa_cons (pv 2) pa_nil)) pa_nil))))))), ?_⟩
    -- found = {state: True for state in states}
    refine ⟨_, rfl, l, rfl, ⟨_, SqL.of hl⟩, fun D hD => dc_it (walk_list (xs := ns.map V.int)) (fun i H' => ∃ ks : List Int, H' D = some (.dK (setI ks)) ∧ (∀ x, x ∈ ks ↔ x ∈ ns.take i) ∧ ks.Nodup ∧ ks.length ≤ i ∧ Same H H') ⟨[], upd_same, fun x => by simp, List.nodup_nil, Nat.le_refl _, same_put (Same.refl _) hD⟩ (fun i H' _ ⟨_, _, _, _, _, sm⟩ => SqL.of (sm _ _ hl)) ?_ ?_⟩
    · rintro i x H' H'' hi ⟨ks, hk, hmem, hnd, hle, sm⟩ ⟨rfl, hx⟩
      rw [List.length_map] at hi
      rw [List.getElem?_map, List.getElem?_eq_getElem hi] at hx
      have ex := Option.some.inj hx
      subst ex
      refine ⟨rfl, _, rfl, setI ks, eI ns[i], rfl, hk, by rw [List.length_map, sizeLine_eq]; omega, if ns[i] ∈ ks then ks else ks ++ [ns[i]], ?_, fun x => ?_, ?_, ?_, same_put sm hD⟩
      · rw [upd_same]
        show some (HO.dK (putK (setI ks) (eI ns[i]) (V.bl true))) = _
        rw [putK_true eI eI_inj]
      · rw [take_more (List.getElem?_eq_getElem hi), List.mem_append, List.mem_singleton]
        split
        · rename_i q
          rw [hmem x]
          exact ⟨.inl, fun z => z.elim id fun e => by rw [e]; exact (hmem _).mp q⟩
        · rw [List.mem_append, List.mem_singleton, hmem x]
      · split
        · exact hnd
        · rename_i q
          rw [List.nodup_append]
          refine ⟨hnd, by simp, fun a ha b hb e => q ?_⟩
          have e2 : b = ns[i] := by simpa using hb
          rw [← e2, ← e]
          exact ha
      · split
        · omega
        · rw [List.length_append, List.length_singleton]; omega
    rintro H1 ⟨ks, hk, hmem, hnd, _, s1⟩
    rw [List.length_map, List.take_length] at hmem
    -- rest = list(states)
    refine ⟨_, rfl, l, _, rfl, .inl (SqL.of (s1 _ _ hl)), fun R hR => ?_⟩
    have nDR : D ≠ R := ne_of_none hk hR
    have hkn : ∀ x ∈ ks, 0 ≤ x ∧ x < many := fun x hx => hns x ((hmem x).mp hx)
    -- while rest != []
    refine while_by (fun σ H' => ∃ (found rest : List Int) (v4 : Option V), σ = [some (.ref v), some (.ref l), some (.ref D), some (.ref R), v4, none] ∧ H' D = some (.dK (setI found)) ∧ H' R = some (.lst (rest.map V.int)) ∧ Same H H' ∧ Work (HS ss fs) (· ∈ ns) found rest ∧ (∀ x ∈ found, 0 ≤ x ∧ x < many) ∧ 2 * (many - found.length) + rest.length ≤ 2 * many + 1000)
      (fun σ H' => 2 * (many - lenK H' D) + lenL H' R) ⟨ks, ns, _, rfl, by rw [upd_ne nDR]; exact hk, upd_same, same_put s1 (s1.free hR), ⟨fun x hx => .base ((hmem x).mp hx), fun x hx => (hmem x).mpr hx, fun x hx => .inl ((hmem x).mp hx), fun x hx => (hmem x).mpr hx, hnd⟩, hkn, by omega⟩ ?_ ?_
    · rintro σ H2 ⟨found, rest, v4, rfl, h2D, h2R, s2, wk, hr2, hbd⟩
      refine ⟨_, rfl, Nat.zero_le _, fun z hz => neL_empty (SqL.of (by rw [upd_ne (ne_of_none h2R hz)]; exact h2R)) (SqL.of upd_same) (DL.flat _ (ok_ints rest)) ⟨_, rfl, ?_⟩⟩
      have s3 : Same H2 (upd H2 z (.lst [])) := same_put (Same.refl _) hz
      have h3D := s3 _ _ h2D
      have h3R := s3 _ _ h2R
      have sH3 : Same H (upd H2 z (.lst [])) := s2.trans s3
      revert h3D h3R sH3
      generalize upd H2 z (.lst []) = H3
      intro h3D h3R sH3
      refine ite2 (fun hne => ?_) (fun hne => ?_)
      · have hne2 : rest ≠ [] := fun z => by rw [z] at hne; exact Bool.noConfusion hne
        obtain ⟨r0, x, er⟩ : ∃ r0 x, rest = r0 ++ [x] := ⟨rest.dropLast, rest.getLast hne2, (List.dropLast_concat_getLast hne2).symm⟩
        subst er
        have hxf := wk.sub x (by simp)
        obtain ⟨hx0, hx1⟩ := hr2 x hxf
        obtain ⟨n, hn⟩ : ∃ n : Nat, x = (n : Int) := ⟨x.toNat, by omega⟩
        have hnm : n < many := by omega
        obtain ⟨dx, a, b, L, M, v1, v2, v3, v5, _⟩ := id hv
        obtain ⟨kva, va1, va2, va3⟩ := v2.dict
        have hRn : H R = none := s1.free hR
        have fix : ∀ c o, H c = some o → upd H3 R (.lst (r0.map V.int)) c = some o := fun c o e => by
          rw [upd_ne (ne_of_none e hRn)]
          exact sH3 _ _ e
        have g1 : DGet (upd H3 R (.lst (r0.map V.int))) a (.int x) (some (.ref (L n))) := by
          have q := DGet.k (k := Sum.inl x) (fix _ _ va1)
          rw [hn, va3 n hnm] at q
          rw [hn]
          exact q
        have lenf : found.length ≤ many := mem_range_le wk.nd hr2
        have em : (r0 ++ [x]).map V.int = r0.map V.int ++ [V.int x] := by rw [List.map_append]; rfl
        have e1 : ((r0 ++ [x]).map V.int)[((r0 ++ [x]).map V.int).length - 1]? = some (V.int x) := by
          rw [em, List.length_append, List.length_singleton, Nat.add_sub_cancel, List.getElem?_append_right (Nat.le_refl _), Nat.sub_self]
          rfl
        have e2 : ((r0 ++ [x]).map V.int).dropLast = r0.map V.int := by rw [em, List.dropLast_concat]
        refine ⟨_, rfl, v, CV, dx, _, _, rfl, sH3 _ _ v1, T.cl, T.hidden, rfl, _, rfl, .inl ⟨rfl, _, SqL.of h3R⟩, R, _, _, rfl, rfl, h3R, e1, ?_⟩
        rw [e2]
        refine ⟨a, _, rfl, g1, L n, rfl, ⟨_, SqL.of (fix _ _ (v5 n hnm))⟩, for_list (xs := (hidL fs ss n).map V.int) (fun j σ H' => ∃ (found' rest' : List Int) (v4 : Option V), σ = [some (.ref v), some (.ref l), some (.ref D), some (.ref R), v4, none] ∧ H' D = some (.dK (setI found')) ∧ H' R = some (.lst (rest'.map V.int)) ∧ Same H H' ∧
            Half (HS ss fs) (· ∈ ns) x (fun y => ∃ i, i < j ∧ (hidL fs ss n)[i]? = some y) found' rest' ∧ (∀ x ∈ found', 0 ≤ x ∧ x < many) ∧ 2 * (many - found'.length) + rest'.length + 1 ≤ 2 * (many - found.length) + (r0 ++ [x]).length ∧ rest'.length ≤ (r0 ++ [x]).length + j) ?_ ?_ ?_ ?_⟩
        · refine ⟨found, r0, v4, rfl, ?_, upd_same, fix, wk.pop.skip fun y hy => ?_, hr2, ?_, ?_⟩
          · rw [upd_ne nDR]; exact h3D
          · obtain ⟨i, hi, _⟩ := hy
            omega
          · rw [List.length_append, List.length_singleton]; omega
          · rw [List.length_append, List.length_singleton]; omega
        · rintro j σ H' hj ⟨_, _, _, _, _, _, sm, _⟩
          exact SqL.of (sm _ _ (v5 n hnm))
        · rintro j y σ H' hy ⟨found', rest', v4', rfl, hD', hR', sm, hf, hrg, hmu, hrl⟩
          rw [List.getElem?_map] at hy
          cases e : (hidL fs ss n)[j]? with
          | none => rw [e] at hy; cases hy
          | some g =>
            rw [e] at hy
            have ey := Option.some.inj hy
            subst ey
            have hstep : HS ss fs x g := by rw [hn]; exact mem_hidL.mp (List.mem_of_getElem? e)
            have lenf' : found'.length ≤ many := mem_range_le hf.nd hrg
            refine ⟨_, rfl, _, rfl, D, _, rfl, DGet.k (k := eI g) hD', _, rfl, ?_⟩
            rw [valV_true eI eI_inj]
            have hdone : ∀ z, (∃ i, i < j + 1 ∧ (hidL fs ss n)[i]? = some z) → (∃ i, i < j ∧ (hidL fs ss n)[i]? = some z) ∨ z = g := fun z ⟨i, hi, ei⟩ => by
              by_cases q : i = j
              · rw [q, e] at ei
                exact .inr (Option.some.inj ei).symm
              · exact .inl ⟨i, by omega, ei⟩
            by_cases hg : g ∈ found'
            · rw [if_pos hg]
              refine ifF rfl ?_
              exact ⟨found', rest', _, rfl, hD', hR', sm, hf.skip fun z hz => (hdone z hz).elim .inl fun q => .inr (by rw [q]; exact hg), hrg, hmu, by omega⟩
            · rw [if_neg hg]
              refine ifT rfl ?_
              have eput : putK (setI found') (eI g) (V.bl true) = setI (found' ++ [g]) := by rw [putK_true eI eI_inj, if_neg hg]
              have hrg' : ∀ x ∈ found' ++ [g], 0 ≤ x ∧ x < many := fun z hz => by
                rcases List.mem_append.mp hz with q | q
                · exact hrg z q
                · have e9 : z = g := by simpa using q
                  rw [e9]
                  exact HS_goal okm hstep
              have hf' := hf.add hstep hg hdone
              have lenf2 : (found' ++ [g]).length ≤ many := mem_range_le hf'.nd hrg'
              rw [List.length_append, List.length_singleton] at lenf2
              have jb : j < 12 := by
                have h1 := (List.getElem?_eq_some_iff.mp e).1
                have h2 := @hidL_len fs ss n
                have := okm.len
                omega
              refine ⟨_, rfl, _, rfl, D, _, rfl, DPut.k (k := eI g) hD' (by rw [List.length_map, sizeLine_eq]; have := okm.hi; omega), ?_⟩
              have hR2 : upd H' D (.dK (putK (setI found') (eI g) (.bl true))) R = some (.lst (rest'.map V.int)) := by rw [upd_ne nDR.symm]; exact hR'
              refine ⟨_, rfl, .inl ⟨rfl, _, SqL.of hR2⟩, _, rfl, R, _, _, rfl, rfl, hR2, ?_, ?_⟩
              · rw [List.length_map, sizeLine_eq]
                have := okm.hi
                have h5 : rest'.length ≤ 2 * many + (r0 ++ [x]).length := by omega
                have h6 : (r0 ++ [x]).length ≤ 1000 + 2 * many := by omega
                omega
              · refine ⟨found' ++ [g], rest' ++ [g], _, rfl, ?_, ?_, fun c o ec => ?_, hf', hrg', ?_, ?_⟩
                · rw [upd_ne nDR, upd_same, eput]
                · rw [upd_same, List.map_append]; rfl
                · rw [upd_ne (ne_of_none ec hRn), upd_ne (ne_of_none ec hD)]
                  exact sm c o ec
                · rw [List.length_append, List.length_append, List.length_singleton]; omega
                · rw [List.length_append, List.length_singleton]; omega
        · rintro σ H' ⟨found', rest', v4', rfl, hD', hR', sm, hf, hrg, hmu, _⟩
          rw [List.length_map] at hf
          refine ⟨⟨found', rest', v4', rfl, hD', hR', sm, hf.done fun y hy => ?_, ?_, ?_⟩, ?_⟩
          · rw [hn] at hy
            obtain ⟨i, hi, ei⟩ := List.mem_iff_getElem.mp (mem_hidL.mpr hy)
            exact ⟨i, hi, by rw [List.getElem?_eq_getElem hi, ei]⟩
          · exact hrg
          · omega
          · show 2 * (many - lenK H' D) + lenL H' R < 2 * (many - lenK H2 D) + lenL H2 R
            unfold lenK lenL
            rw [hD', hR', h2D, h2R]
            show 2 * (many - (setI found').length) + (rest'.map V.int).length < 2 * (many - (setI found).length) + ((r0 ++ [x]).map V.int).length
            rw [List.length_map, List.length_map, List.length_map, List.length_map]
            omega
      · have he : rest = [] := by
          cases rest with
          | nil => rfl
          | cons c r => exact absurd rfl hne
        subst he
        have lenf : found.length ≤ many := mem_range_le wk.nd hr2
        refine ⟨_, rfl, D, setI found, found, rfl, .inl h3D, by rw [List.map_map]; rfl, by have := okm.hi; omega, fun ys q perm _ hq => ⟨q, _, rfl, .inl ⟨SqL.of upd_same, fun t ht => ?_⟩⟩⟩
        refine k _ t ys (same_put (same_put sH3 (sH3.free hq)) ?_) upd_same (fun x => by rw [perm.mem_iff]; exact wk.done x) (perm.nodup_iff.mpr wk.nd) fun x hx => hr2 x (perm.mem_iff.mp hx)
        have nq : t ≠ q := fun z => by rw [z, upd_same] at ht; cases ht
        rw [upd_ne nq] at ht
        exact sH3.free ht
    · rintro σ H Q Q' hq ⟨x, e, h1, h2⟩
      exact ⟨x, e, h1, fun p hp => let ⟨d, e', a1, a2, a3, a4, k, ek, q⟩ := h2 p hp; ⟨d, e', a1, a2, a3, a4, k, ek, hq _ _ q⟩⟩
end
end K25

/-! K25: View.start, View.behind. -/
namespace K25
open PySem PySem.Spec PyProof.Rows L2
/-- the second clause's loop -/
theorem in_it {J : It} {n : Nat} {G : Hp → Prop} {Y : Nat → Hp → V → Hp → Prop} (w : Walk J n G Y) {g : TG} {tt : TT} {te : TE} {vs : List Nat} {σ : L2.St} {H1 : Hp} {D : Addr} {N : Hp → Prop} (Pv : Nat → Hp → Prop) (h0 : Pv 0 H1) (hG : ∀ i H, i ≤ n → Pv i H → G H)
    (hs : ∀ i x H H', i < n → Pv i H → Y i H x H' → g x (wipe σ vs) H' fun σ2 H2 => wipe σ2 vs = wipe σ vs ∧ tt σ2 H2 fun b H3 =>
      if b = true then te σ2 H3 fun y H4 => ∃ acc, H4 D = some (.lst acc) ∧ acc.length < sizeLine ∧ Pv (i + 1) (upd H4 D (.lst (acc ++ [y]))) else Pv (i + 1) H3) (hd : ∀ H, Pv n H → N H) :
    ∃ W : Nat → Nat → Hp → Prop, (∃ m, W 0 m H1) ∧ ∀ i m H, W i m H →
      (J.stop i H ∧ N H) ∨ (J.go i H ∧ ∃ Nx : Hp → Prop, (∀ H', Nx H' → ∃ m', m' < m ∧ W (i + 1) m' H') ∧ ∀ x H', J.yld i H x H' → g x (wipe σ vs) H' fun σ2 H2 => wipe σ2 vs = wipe σ vs ∧ tt σ2 H2 fun b H3 =>
        if b = true then te σ2 H3 fun y H4 => ∃ acc, H4 D = some (.lst acc) ∧ acc.length < sizeLine ∧ Nx (upd H4 D (.lst (acc ++ [y]))) else Nx H3) := by
  refine ⟨fun i m H => m = n - i ∧ i ≤ n ∧ Pv i H, ⟨n, by simp, Nat.zero_le _, h0⟩, ?_⟩
  rintro i m H ⟨rfl, hi, p⟩
  have q := hG i H hi p
  by_cases hlt : i < n
  · refine .inr ⟨w.goes i H hlt q, Pv (i + 1), fun H' p' => ⟨n - (i + 1), by omega, rfl, hlt, p'⟩, fun x H' y => hs i x H H' hlt p (w.yields i H x H' hlt q y)⟩
  · have e : i = n := by omega
    subst e
    exact .inl ⟨w.stops H q, hd H p⟩
/-- the first clause's loop -/
theorem out_it {J : It} {n : Nat} {G : Hp → Prop} {Y : Nat → Hp → V → Hp → Prop} (w : Walk J n G Y) {R : (Hp → Prop) → V → Hp → Prop} {H1 : Hp} {Qd : Hp → Prop} (Pv : Nat → Hp → Prop) (h0 : Pv 0 H1) (hG : ∀ i H, i ≤ n → Pv i H → G H)
    (hs : ∀ i x H H', i < n → Pv i H → Y i H x H' → R (Pv (i + 1)) x H') (hd : ∀ H, Pv n H → Qd H) :
    ∃ W : Nat → Nat → Hp → Prop, (∃ m, W 0 m H1) ∧ ∀ i m H, W i m H →
      (J.stop i H ∧ Qd H) ∨ (J.go i H ∧ ∃ Nx : Hp → Prop, (∀ H', Nx H' → ∃ m', m' < m ∧ W (i + 1) m' H') ∧ ∀ x H', J.yld i H x H' → R Nx x H') := by
  refine ⟨fun i m H => m = n - i ∧ i ≤ n ∧ Pv i H, ⟨n, by simp, Nat.zero_le _, h0⟩, ?_⟩
  rintro i m H ⟨rfl, hi, p⟩
  have q := hG i H hi p
  by_cases hlt : i < n
  · refine .inr ⟨w.goes i H hlt q, Pv (i + 1), fun H' p' => ⟨n - (i + 1), by omega, rfl, hlt, p'⟩, fun x H' y => hs i x H H' hlt p (w.yields i H x H' hlt q y)⟩
  · have e : i = n := by omega
    subst e
    exact .inl ⟨w.stops H q, hd H p⟩
def spVStart (CV : Addr) : Sp := fun vs H Q _ => ∃ (v : Addr) (many : Nat) (ss : List Stp) (fs : List Str), vs = [.ref v] ∧ ViewAt CV H v many fs ss ∧ OkM many ss ∧
  ∀ (H' : Hp) (t : Addr) (ms : List Int), Same H H' → H' t = some (.tup (ms.map V.int)) → (∀ x, x ∈ ms ↔ run0 ss fs x) → ms.Nodup → (∀ x ∈ ms, 0 ≤ x ∧ x < many) → Q (.ref t) H'
def spVBehind (CV : Addr) : Sp := fun vs H Q _ => ∃ (v t : Addr) (z : Str) (many : Nat) (ss : List Stp) (fs : List Str) (ms : List Int), vs = [.ref v, .ref t, .str z] ∧ ViewAt CV H v many fs ss ∧ OkM many ss ∧ H t = some (.tup (ms.map V.int)) ∧ ms.Nodup ∧ (∀ x ∈ ms, 0 ≤ x ∧ x < many) ∧ z ≠ "" ∧
  ∀ (H' : Hp) (t' : Addr) (ms' : List Int), Same H H' → H' t' = some (.tup (ms'.map V.int)) → (∀ x, x ∈ ms' ↔ nxt ss fs z (· ∈ ms) x) → ms'.Nodup → (∀ x ∈ ms', 0 ≤ x ∧ x < many) → Q (.ref t') H'
section
variable {P : Program} {w : World} {K : PySem.W.Frag} {mg : Str → Option Value} {base : Heap} {f fC CV : Addr} {fd fdC : FuncData}
theorem ok_vStart (F : FnP K "start" "View.start" sVStart f fd) (T : TV K CV) (GC : FnOk P w K mg base CX0 1 fC fdC ["self", "states"] (spVClosed CV)) (mC : Meth K CV "closed" fC) (bC : Binds K fdC ["self", "states"] []) : FnOk P w K mg base CX0 2 f fd ["self"] (spVStart CV) := by
  refine F.ok scVStart (fun vs H Q E h => ?_) (fun cdv A outer s H vs Q E hr h => ?_)
  · obtain ⟨v, many, ss, fs, rfl, _⟩ := h
    rfl
  · obtain ⟨v, many, ss, fs, rfl, hv, okm, k⟩ := h
    refine ⟨_, pss_one (ps_ret (pe_meth (pv 0) T.cl mC GC hr bC .nil pass0 (pa_cons (pe_lst (pa_cons pe_int pa_nil)) pa_nil))), ?_⟩
    obtain ⟨dx, a, b, L, M, v1, v2⟩ := id hv
    refine ⟨_, rfl, v, dx, _, rfl, v1, rfl, (by show 1 ≤ sizeLine; decide), fun l hl => ?_⟩
    refine ⟨v, l, many, ss, fs, [0], rfl, hv.same (same_put (Same.refl _) hl), okm, upd_same, by decide, fun x hx => ?_, fun H' t ms sm ht hm nd rg => k H' t ms ((same_put (Same.refl _) hl).trans sm) ht (fun x => (hm x).trans (Clo.congr (fun a => by simp) x)) nd rg⟩
    have e : x = 0 := by simpa using hx
    have := okm.lo
    omega
theorem ok_vBehind (F : FnP K "behind" "View.behind" sVBehind f fd) (T : TV K CV) (GC : FnOk P w K mg base CX0 1 fC fdC ["self", "states"] (spVClosed CV)) (mC : Meth K CV "closed" fC) (bC : Binds K fdC ["self", "states"] []) : FnOk P w K mg base CX0 2 f fd ["self", "states", "word"] (spVBehind CV) := by
  refine F.ok scVBehind (fun vs H Q E h => ?_) (fun cdv A outer s H vs Q E hr h => ?_)
  · obtain ⟨v, t, z, many, ss, fs, ms, rfl, _⟩ := h
    rfl
  · obtain ⟨v, t, z, many, ss, fs, ms, rfl, hv, okm, ht, hnd, hrg, hz, k⟩ := h
    have hu := hu_of hr
    have nd := scVBehind.nd
    refine ⟨_, PSs.nox (pss_one (ps_ret (pe_meth (pv 0) T.cl mC GC hr bC .nil pass0 (pa_cons (pe_lc2 (own := [("state", 3), ("seen", 4), ("goal", 5)]) (vs1 := [4, 5]) (g := gName 3) (tt := tYes) (wi1 := iList K (tDGet (tFld K (tVar 0) "shown") (tVar 3))) (g1 := gTup K 2 (gCons (gName 4) (gCons (gName 5) gNil))) rfl nd (pi_tup (pv 1)) (blkOk_by (own := [("state", 3), ("seen", 4), ("goal", 5)]) (N := ["self", "states", "word", "state", "seen", "goal"]) (sc := defScope sVBehind) (by decide +kernel)) (by decide)
      (fun _ _ _ _ _ => pg_name (i := 3) nd rfl (Or.inl rfl)) (fun _ _ _ _ _ => pts_nil) (fun _ _ _ _ _ => pi_list (pe_dget hu (pe_fld (pv 0) rfl) (pv 3) (fun _ _ => rfl))) (fun _ _ _ _ _ => pg_tup (by rfl) (pgs_cons (pg_name (i := 4) nd rfl (Or.inl rfl)) (pgs_cons (pg_name (i := 5) nd rfl (Or.inl rfl)) pgs_nil)))
      (fun _ _ _ _ _ => pts_one (pt_cmpR op_eq (pv 4) (pv 2) (nomark _))) (fun _ _ _ _ _ => pv 5)) pa_nil)))), ?_⟩
    obtain ⟨dx, a, b, L, M, v1, v2, v3, v4, v5⟩ := id hv
    have lm : ms.length ≤ many := mem_range_le hnd hrg
    obtain ⟨kvb, vb1, vb2, vb3⟩ := v3.dict
    refine ⟨_, rfl, v, dx, _, rfl, v1, rfl, _, rfl, t, rfl, ⟨_, SqT.of ht⟩, fun D hD => out_it (walk_tup (xs := ms.map V.int)) (fun i H' => ∃ acc : List Int, H' D = some (.lst (acc.map V.int)) ∧ Same H H' ∧ (∀ y, y ∈ acc ↔ ∃ m, m ∈ ms.take i ∧ SS ss fs z m y) ∧ acc.length ≤ 12 * i) ⟨[], upd_same, same_put (Same.refl _) hD, fun y => by simp, Nat.le_refl _⟩ (fun i H' _ ⟨_, _, sm, _⟩ => SqT.of (sm _ _ ht)) ?_ ?_⟩
    · rintro i x H1 H2 hi ⟨acc, hA, sm, hmem, hl⟩ ⟨rfl, hx⟩
      rw [List.length_map] at hi
      rw [List.getElem?_map, List.getElem?_eq_getElem hi] at hx
      have ex := Option.some.inj hx
      subst ex
      have hmi := hrg ms[i] (List.getElem_mem hi)
      obtain ⟨n, hn⟩ : ∃ n : Nat, ms[i] = (n : Int) := ⟨ms[i].toNat, by omega⟩
      have hnm : n < many := by omega
      obtain ⟨us, u1, u2, u3⟩ := v5 n hnm
      have hlu : us.length ≤ 12 := by
        have h1 := @shoL_len fs ss n
        have h2 := okm.len
        rw [← u3, List.length_map] at h1
        omega
      have g1 : DGet H2 b (.int ms[i]) (some (.ref (M n))) := by
        have q := DGet.k (k := Sum.inl ms[i]) (sm _ _ vb1)
        rw [hn, vb3 n hnm] at q
        rw [hn]
        exact q
      refine ⟨rfl, _, rfl, v, CV, dx, _, _, rfl, sm _ _ v1, T.cl, T.shown, rfl, _, rfl, b, _, rfl, g1, M n, rfl, ⟨_, SqL.of (sm _ _ u1)⟩, in_it (walk_list (xs := refs us)) (fun j H' => ∃ acc' : List Int, H' D = some (.lst (acc'.map V.int)) ∧ Same H H' ∧ (∀ y, y ∈ acc' ↔ y ∈ acc ∨ ∃ k, k < j ∧ (shoL fs ss n)[k]? = some (z, y)) ∧ acc'.length ≤ acc.length + j) ⟨acc, hA, sm, fun y => ⟨.inl, fun h => h.elim id fun ⟨k, hk, _⟩ => by omega⟩, Nat.le_refl _⟩ (fun j H' _ ⟨_, _, sm, _⟩ => SqL.of (sm _ _ u1)) ?_ ?_⟩
      · rintro j x H3 H4 hj ⟨acc', hA', sm', hmem', hl'⟩ ⟨rfl, hx⟩
        rw [List.length_map] at hj
        rw [List.getElem?_map, List.getElem?_eq_getElem hj] at hx
        have ex := Option.some.inj hx
        subst ex
        obtain ⟨u, e⟩ : ∃ u, us[j] = u := ⟨_, rfl⟩
        obtain ⟨p, wd, g⟩ := u
        have e' : (shoL fs ss n)[j]? = some (wd, g) := by rw [← u3, List.getElem?_map, List.getElem?_eq_getElem hj, e]; rfl
        have hT := sm' _ _ (u2 us[j] (List.getElem_mem hj))
        rw [e] at hT
        have step : ∀ y, (y ∈ acc ∨ ∃ k, k < j + 1 ∧ (shoL fs ss n)[k]? = some (z, y)) ↔ y ∈ acc' ∨ (wd = z ∧ g = y) := fun y => by
          rw [hmem' y]
          constructor
          · rintro (q | ⟨k, hk, ek⟩)
            · exact .inl (.inl q)
            · by_cases c : k = j
              · rw [c, e'] at ek
                have := Option.some.inj ek
                exact .inr ⟨congrArg Prod.fst this, congrArg Prod.snd this⟩
              · exact .inl (.inr ⟨k, by omega, ek⟩)
          · rintro ((q | ⟨k, hk, ek⟩) | ⟨q1, q2⟩)
            · exact .inl q
            · exact .inr ⟨k, by omega, ek⟩
            · exact .inr ⟨j, by omega, by rw [e', q1, q2]⟩
        refine ⟨p, _, by rw [e], SqT.of hT, rfl, _, _, rfl, _, _, rfl, rfl, rfl, _, rfl, _, rfl, rfl, _, rfl, ?_⟩
        refine ite2 (fun hw => ?_) (fun hw => ?_)
        · have ew : wd = z := str_inj hw
          refine ⟨_, rfl, _, hA', ?_, acc' ++ [g], ?_, same_put sm' hD, fun y => ?_, ?_⟩
          · rw [List.length_map, sizeLine_eq]
            have := okm.hi
            omega
          · rw [upd_same, List.map_append]; rfl
          · rw [step y, List.mem_append, List.mem_singleton]
            exact ⟨fun q => q.elim .inl fun e => .inr ⟨ew, e.symm⟩, fun q => q.elim .inl fun e => .inr e.2.symm⟩
          · rw [List.length_append, List.length_singleton]; omega
        · refine ⟨acc', hA', sm', fun y => ?_, by omega⟩
          rw [step y]
          exact ⟨.inl, fun q => q.elim id fun e => absurd (by rw [e.1]; exact decide_eq_true rfl) hw⟩
      · rintro H3 ⟨acc', hA', sm', hmem', hl'⟩
        rw [List.length_map] at hmem' hl'
        refine ⟨acc', hA', sm', fun y => ?_, by omega⟩
        rw [hmem' y, hmem y, take_more (List.getElem?_eq_getElem hi)]
        have hS : (∃ k, k < us.length ∧ (shoL fs ss n)[k]? = some (z, y)) ↔ SS ss fs z ms[i] y := by
          rw [hn, ← mem_shoL hz]
          constructor
          · rintro ⟨k, _, ek⟩
            exact List.mem_of_getElem? ek
          · intro q
            obtain ⟨k, hk, ek⟩ := List.mem_iff_getElem.mp q
            refine ⟨k, ?_, by rw [List.getElem?_eq_getElem hk, ek]⟩
            rw [← u3, List.length_map] at hk
            exact hk
        rw [hS]
        constructor
        · rintro (⟨m, hm, q⟩ | q)
          · exact ⟨m, List.mem_append_left _ hm, q⟩
          · exact ⟨ms[i], List.mem_append_right _ (by simp), q⟩
        · rintro ⟨m, hm, q⟩
          rcases List.mem_append.mp hm with c | c
          · exact .inl ⟨m, c, q⟩
          · have ec : m = ms[i] := by simpa using c
            rw [ec] at q
            exact .inr q
    · rintro H1 ⟨acc, hA, sm, hmem, hl⟩
      rw [List.length_map] at hmem hl
      rw [List.take_length] at hmem
      refine ⟨v, D, many, ss, fs, acc, rfl, hv.same sm, okm, hA, by have := okm.hi; omega, fun x hx => ?_, fun H' t' ms' sm' ht' hm' nd' rg' => k H' t' ms' (sm.trans sm') ht' (fun x => (hm' x).trans (Clo.congr (fun y => hmem y) x)) nd' rg'⟩
      obtain ⟨m, _, q⟩ := (hmem x).mp hx
      exact SS_goal okm q
end
end K25

/-! K25: View.has, is_trace, check_asked. -/
namespace K25
open PySem PySem.Spec PyProof.Rows L2
/-- a trace: a list or a tuple of words -/
def Tr (H : Hp) (a : Addr) (ws : List Str) : Prop := H a = some (.lst (stv ws)) ∨ H a = some (.tup (stv ws))
theorem Tr.same {H H' : Hp} {a : Addr} {ws : List Str} (t : Tr H a ws) (s : Same H H') : Tr H' a ws := t.elim (fun h => .inl (s _ _ h)) fun h => .inr (s _ _ h)
theorem nxt_congr {ss : List Stp} {fs : List Str} {z : Str} {S S' : Int → Prop} (h : ∀ x, S x ↔ S' x) (x : Int) : nxt ss fs z S x ↔ nxt ss fs z S' x :=
  Clo.congr (fun b => ⟨fun ⟨a, ha, q⟩ => ⟨a, (h a).mp ha, q⟩, fun ⟨a, ha, q⟩ => ⟨a, (h a).mpr ha, q⟩⟩) x
def spVHas (CV : Addr) : Sp := fun vs H Q _ => ∃ (v tr : Addr) (many : Nat) (ss : List Stp) (fs ws : List Str), vs = [.ref v, .ref tr] ∧ ViewAt CV H v many fs ss ∧ OkM many ss ∧ Tr H tr ws ∧ (∀ z ∈ ws, z ≠ "") ∧
  ∀ (H' : Hp) (b : Bool), Same H H' → (b = true ↔ Has ss fs ws) → Q (.bl b) H'
section
variable {P : Program} {w : World} {K : PySem.W.Frag} {mg : Str → Option Value} {base : Heap} {f fS fB CV : Addr} {fd fdS fdB : FuncData}
theorem ok_vHas (F : FnP K "has" "View.has" sVHas f fd) (T : TV K CV) (GS : FnOk P w K mg base CX0 2 fS fdS ["self"] (spVStart CV)) (mS : Meth K CV "start" fS) (bS : Binds K fdS ["self"] [])
    (GB : FnOk P w K mg base CX0 2 fB fdB ["self", "states", "word"] (spVBehind CV)) (mB : Meth K CV "behind" fB) (bB : Binds K fdB ["self", "states", "word"] []) : FnOk P w K mg base CX0 3 f fd ["self", "trace"] (spVHas CV) := by
  refine F.ok scVHas (fun vs H Q E h => ?_) (fun cdv A outer s H vs Q E hr h => ?_)
  · obtain ⟨v, tr, many, ss, fs, ws, rfl, _⟩ := h
    rfl
  · obtain ⟨v, tr, many, ss, fs, ws, rfl, hv, okm, htr, hws, k⟩ := h
    have hu64 : (A.deeper (envOfC "View.has" (defScope sVHas) s.heap.objs.size f cdv)).units + 64 < cLine := by have := hr.un; omega
    have nd := scVHas.nd
    obtain ⟨dx, a, b, L, M, v1, v2⟩ := id hv
    rcases htr with htr | htr
    · refine ⟨_, PSs.nox (pss_cons (ps_set (i := 2) nd rfl (Or.inl rfl) (pe_meth0 (pv 0) T.cl mS GS hr bS .nil pass0))
        (pss_cons (ps_for PassesOwn.never rfl (pi_list (pv 1)) (pg_name (i := 3) nd rfl (Or.inl rfl)) (pss_one (ps_set (i := 2) nd rfl (Or.inl rfl) (pe_meth (pv 0) T.cl mB GB hr bB .nil pass0 (pa_cons (pv 2) (pa_cons (pv 3) pa_nil))))))
        (pss_one (ps_ret (pe_cmpR (op_neD hu64) (pv 2) (pe_tup pa_nil) (nomark _)))))), ?_⟩
      refine ⟨_, rfl, v, dx, _, rfl, v1, rfl, v, many, ss, fs, rfl, hv, okm, fun H1 t0 ms0 s1 ht0 hm0 nd0 rg0 => ?_⟩
      refine ⟨_, rfl, tr, rfl, ⟨_, SqL.of (s1 _ _ htr)⟩, for_list (xs := stv ws) (fun i σ H' => ∃ (t : Addr) (ms : List Int) (v3 : Option V), σ = [some (.ref v), some (.ref tr), some (.ref t), v3] ∧ Same H H' ∧ H' t = some (.tup (ms.map V.int)) ∧ (∀ x, x ∈ ms ↔ runs ss fs (ws.take i) (run0 ss fs) x) ∧ ms.Nodup ∧ ∀ x ∈ ms, 0 ≤ x ∧ x < many) ?_ ?_ ?_ ?_⟩
      · exact ⟨t0, ms0, _, rfl, s1, ht0, hm0, nd0, rg0⟩
      · rintro i σ H' hi ⟨t, ms, v3, rfl, sm, _⟩
        exact SqL.of (sm _ _ htr)
      · rintro i x σ H' hx ⟨t, ms, v3, rfl, sm, ht, hm, nd', rg⟩
        rw [List.getElem?_map] at hx
        cases e : ws[i]? with
        | none => rw [e] at hx; cases hx
        | some z =>
          rw [e] at hx
          have ex : x = V.str z := (Option.some.inj hx).symm
          subst ex
          refine ⟨_, rfl, v, dx, _, rfl, sm _ _ v1, rfl, _, rfl, _, rfl, v, t, z, many, ss, fs, ms, rfl, hv.same sm, okm, ht, nd', rg, hws z (List.mem_of_getElem? e), fun H2 t2 ms2 s2 ht2 hm2 nd2 rg2 => ?_⟩
          refine ⟨t2, ms2, _, rfl, sm.trans s2, ht2, fun x => ?_, nd2, rg2⟩
          rw [runs_more _ e]
          exact (hm2 x).trans (nxt_congr hm x)
      · rintro σ H' ⟨t, ms, v3, rfl, sm, ht, hm, nd', rg⟩
        rw [List.length_map, List.take_length] at hm
        refine ⟨_, rfl, Nat.zero_le _, fun y hy => neT_empty (SqT.of (by rw [upd_ne (ne_of_none ht hy)]; exact ht)) (SqT.of upd_same) (DL.flat _ (ok_ints ms)) (k _ _ (same_put sm (sm.free hy)) ?_)⟩
        constructor
        · intro hne
          cases ms with
          | nil => exact Bool.noConfusion hne
          | cons c r => exact ⟨c, (hm c).mp (by simp)⟩
        · rintro ⟨g, hg⟩
          have := (hm g).mpr hg
          cases ms with
          | nil => exact absurd this (by simp)
          | cons c r => rfl
    · refine ⟨_, PSs.nox (pss_cons (ps_set (i := 2) nd rfl (Or.inl rfl) (pe_meth0 (pv 0) T.cl mS GS hr bS .nil pass0))
        (pss_cons (ps_for PassesOwn.never rfl (pi_tup (pv 1)) (pg_name (i := 3) nd rfl (Or.inl rfl)) (pss_one (ps_set (i := 2) nd rfl (Or.inl rfl) (pe_meth (pv 0) T.cl mB GB hr bB .nil pass0 (pa_cons (pv 2) (pa_cons (pv 3) pa_nil))))))
        (pss_one (ps_ret (pe_cmpR (op_neD hu64) (pv 2) (pe_tup pa_nil) (nomark _)))))), ?_⟩
      refine ⟨_, rfl, v, dx, _, rfl, v1, rfl, v, many, ss, fs, rfl, hv, okm, fun H1 t0 ms0 s1 ht0 hm0 nd0 rg0 => ?_⟩
      refine ⟨_, rfl, tr, rfl, ⟨_, SqT.of (s1 _ _ htr)⟩, for_tup (xs := stv ws) (fun i σ H' => ∃ (t : Addr) (ms : List Int) (v3 : Option V), σ = [some (.ref v), some (.ref tr), some (.ref t), v3] ∧ Same H H' ∧ H' t = some (.tup (ms.map V.int)) ∧ (∀ x, x ∈ ms ↔ runs ss fs (ws.take i) (run0 ss fs) x) ∧ ms.Nodup ∧ ∀ x ∈ ms, 0 ≤ x ∧ x < many) ?_ ?_ ?_ ?_⟩
      · exact ⟨t0, ms0, _, rfl, s1, ht0, hm0, nd0, rg0⟩
      · rintro i σ H' hi ⟨t, ms, v3, rfl, sm, _⟩
        exact SqT.of (sm _ _ htr)
      · rintro i x σ H' hx ⟨t, ms, v3, rfl, sm, ht, hm, nd', rg⟩
        rw [List.getElem?_map] at hx
        cases e : ws[i]? with
        | none => rw [e] at hx; cases hx
        | some z =>
          rw [e] at hx
          have ex : x = V.str z := (Option.some.inj hx).symm
          subst ex
          refine ⟨_, rfl, v, dx, _, rfl, sm _ _ v1, rfl, _, rfl, _, rfl, v, t, z, many, ss, fs, ms, rfl, hv.same sm, okm, ht, nd', rg, hws z (List.mem_of_getElem? e), fun H2 t2 ms2 s2 ht2 hm2 nd2 rg2 => ?_⟩
          refine ⟨t2, ms2, _, rfl, sm.trans s2, ht2, fun x => ?_, nd2, rg2⟩
          rw [runs_more _ e]
          exact (hm2 x).trans (nxt_congr hm x)
      · rintro σ H' ⟨t, ms, v3, rfl, sm, ht, hm, nd', rg⟩
        rw [List.length_map, List.take_length] at hm
        refine ⟨_, rfl, Nat.zero_le _, fun y hy => neT_empty (SqT.of (by rw [upd_ne (ne_of_none ht hy)]; exact ht)) (SqT.of upd_same) (DL.flat _ (ok_ints ms)) (k _ _ (same_put sm (sm.free hy)) ?_)⟩
        constructor
        · intro hne
          cases ms with
          | nil => exact Bool.noConfusion hne
          | cons c r => exact ⟨c, (hm c).mp (by simp)⟩
        · rintro ⟨g, hg⟩
          have := (hm g).mpr hg
          cases ms with
          | nil => exact absurd this (by simp)
          | cons c r => rfl
end
def spIsTrace (CM : Addr) : Sp := fun vs H Q _ => ∃ (m tr fr : Addr) (many : Nat) (ss : List Stp) (fs ws : List Str), vs = [.ref m, .ref tr, .ref fr] ∧ MachAt CM H m many ss ∧ OkM many ss ∧ Tr H tr ws ∧ (∀ z ∈ ws, z ≠ "") ∧ H fr = some (.tup (stv fs)) ∧ OkF fs ∧
  ∀ (H' : Hp) (b : Bool), Same H H' → (b = true ↔ Has ss fs ws) → Q (.bl b) H'
theorem keep_made {x dx C : Addr} {H H2 : Hp} (nx : H x = none) (ndx : H dx = none) (k : KeepP x (upd (upd H dx (.own x)) x (.ins C dx [])) H2) : Same H H2 := fun b o e => by
  have n1 : b ≠ x := ne_of_none e nx
  have n2 : b ≠ dx := ne_of_none e ndx
  refine k b o n1 ?_
  rw [upd_ne n1, upd_ne n2]
  exact e
theorem same_made {x dx C : Addr} {H : Hp} (nx : H x = none) (ndx : H dx = none) : Same H (upd (upd H dx (.own x)) x (.ins C dx [])) := fun b o e => by
  rw [upd_ne (ne_of_none e nx), upd_ne (ne_of_none e ndx)]
  exact e
/-- check_kinds, View and its has: what the calls of watch and is_trace lean on -/
structure VCalls (P : Program) (w : World) (K : PySem.W.Frag) (mg : Str → Option Value) (base : Heap) (CM CV fK fI fH : Addr) (fdK fdI fdH : FuncData) : Prop where
  T : TV K CV
  GK : FnOk P w K mg base CX0 3 fK fdK ["free"] spCheckKinds
  mK : mg "check_kinds" = some (.ref fK)
  kK : PySem.W.keepIn K (.ref fK) = true
  bK : Binds K fdK ["free"] []
  M : Mk K CV fI
  GI : FnOk P w K mg base CX0 1 fI fdI ["self", "machine", "free"] (spVInit CM CV)
  mV : mg "View" = some (.ref CV)
  bI : Binds K fdI ["self", "machine", "free"] []
  GH : FnOk P w K mg base CX0 3 fH fdH ["self", "trace"] (spVHas CV)
  mH : Meth K CV "has" fH
  bH : Binds K fdH ["self", "trace"] []
section
variable {P : Program} {w : World} {K : PySem.W.Frag} {mg : Str → Option Value} {base : Heap} {f CM CV fK fI fH fW : Addr} {fd fdK fdI fdH fdW : FuncData}
theorem ok_isTrace (F : FnP K "is_trace" "is_trace" sIsTrace f fd) (C : VCalls P w K mg base CM CV fK fI fH fdK fdI fdH) : FnOk P w K mg base CX0 4 f fd ["machine", "trace", "free"] (spIsTrace CM) := by
  refine F.ok scIsTrace (fun vs H Q E h => ?_) (fun cdv A outer s H vs Q E hr h => ?_)
  · obtain ⟨m, tr, fr, many, ss, fs, ws, rfl, _⟩ := h
    rfl
  · obtain ⟨m, tr, fr, many, ss, fs, ws, rfl, hm, okm, htr, hws, hf, okf, k⟩ := h
    have hr2 : Room 2 _ := hr.mono (by decide)
    refine ⟨_, PSs.nox (pss_cons (ps_expr (pe_call C.GK hr rfl C.mK C.kK C.bK .nil pass0 (pa_cons (pv 2) pa_nil)))
      (pss_one (ps_ret (pe_meth (pe_make C.M C.GI hr2 rfl C.mV C.bI .nil pass0 (pa_cons (pv 0) (pa_cons (pv 2) pa_nil))) C.T.cl C.mH C.GH hr C.bH .nil pass0 (pa_cons (pv 1) pa_nil))))), ?_⟩
    refine ⟨_, rfl, fr, fs, rfl, hf, okf, fun H1 s1 => ?_⟩
    refine ⟨_, rfl, _, rfl, fun x dx nx ndx ne => ⟨x, dx, m, fr, many, ss, fs, rfl, upd_same, (hm.same s1).same (same_made nx ndx), okm, same_made nx ndx _ _ (s1 _ _ hf), fun H2 k2 hv2 => ⟨rfl, ?_⟩⟩⟩
    have s2 : Same H H2 := s1.trans (keep_made nx ndx k2)
    obtain ⟨dv, a, b, L, M, v1, v2⟩ := id hv2
    exact ⟨x, dv, _, rfl, v1, rfl, _, rfl, x, tr, many, ss, fs, ws, rfl, hv2, okm, htr.same s2, hws, fun H3 r s3 hr3 => k H3 r (s2.trans s3) hr3⟩
/-- check_asked: nothing, or an error of the class at CB -/
def spCheckAsked (CB : Addr) : Sp := fun vs H Q E => ∃ (v : V) (fr : Addr) (fs : List Str), vs = [v, .ref fr] ∧ ((∃ i : Int, v = .int i) ∨ ∃ z : Str, v = .str z ∧ z.cps.size ≤ 1000) ∧ H fr = some (.tup (stv fs)) ∧ OkF fs ∧
  ((∃ z : Str, v = .str z ∧ z ∈ fs) → ∀ H', Same H H' → Q .non H') ∧ ((¬ ∃ z : Str, v = .str z ∧ z ∈ fs) → ∀ H', Same H H' → E (.ref CB) none H')
/-- an own error without a body -/
structure ExcT (K : PySem.W.Frag) (mg : Str → Option Value) (nm : Str) (C : Addr) : Prop where
  g : mg nm = some (.ref C)
  x : PySem.W.excIn K C [.type "ValueError", .type "Exception", .type "BaseException", .type "object"] "ValueError.__new__" = true
  k : PySem.W.keepIn K (.ref C) = true
  b : PySem.W.subIn K (.ref C) (.type "BaseException") = some true
  t : PySem.W.typeIn K (.ref C) = some (.type "type")
theorem ok_checkAsked {CB : Addr} (F : FnP K "check_asked" "check_asked" sCheckAsked f fd) (X : ExcT K mg "BadKinds" CB) (GK : FnOk P w K mg base CX0 3 fK fdK ["free"] spCheckKinds) (mK : mg "check_kinds" = some (.ref fK)) (kK : PySem.W.keepIn K (.ref fK) = true) (bK : Binds K fdK ["free"] [])
    (GW : FnOk P w K mg base CX0 1 fW fdW ["thing"] spIsWord) (mW : mg "is_word" = some (.ref fW)) (kW : PySem.W.keepIn K (.ref fW) = true) (bW : Binds K fdW ["thing"] []) : FnOk P w K mg base (L2.CX P w) 4 f fd ["kind", "free"] (spCheckAsked CB) := by
  refine F.ok scCheckAsked (fun vs H Q E h => ?_) (fun cdv A outer s H vs Q E hr h => ?_)
  · obtain ⟨v, fr, fs, rfl, _⟩ := h
    rfl
  · obtain ⟨v, fr, fs, rfl, hv, hf, okf, k1, k2⟩ := h
    have hr1 : Room 1 _ := hr.mono (by decide)
    refine ⟨_, pss_cons (ps_expr (pe_call GK hr rfl mK kK bK .nil pass0 (pa_cons (pv 1) pa_nil)))
      (pss_one (ps_if (PW.pt (pw_or (pt_not (pt_val (pe_call GW hr1 rfl mW kW bW .nil pass0 (pa_cons (pv 0) pa_nil)))) (pw_or1 (pt_cmpR op_notIn_seq (pv 0) (pv 1) (by rfl)))))
        (pss_one (ps_raise rfl (takes_of rfl rfl rfl rfl) (pmk_own PySem.F.excBase_ValueError X.x X.g X.k (raises_own X.b X.t) rfl))) pss_nil)), ?_⟩
    refine ⟨_, rfl, fr, fs, rfl, hf, okf, fun H1 s1 => ?_⟩
    have okl := okF_len okf
    rcases hv with ⟨i, rfl⟩ | ⟨z, rfl, hz⟩
    · refine ⟨_, rfl, .inl ⟨i, rfl, _, rfl, ?_⟩⟩
      exact k2 (fun ⟨z, e, _⟩ => by cases e) H1 s1
    · refine ⟨_, rfl, .inr ⟨z, rfl, hz, fun H2 s2 => ⟨_, rfl, ?_⟩⟩⟩
      by_cases hw : isW z = true
      · refine ifF (by rw [hw]; rfl) ?_
        refine ⟨_, rfl, _, rfl, fr, _, rfl, .inr (SqT.of (s2 _ _ (s1 _ _ hf))), rfl, flat_str fs, _, rfl, ?_⟩
        show if (!inV (V.str z) (stv fs)) = true then _ else _
        rw [inV_str]
        by_cases hm : z ∈ fs
        · refine ifF (by rw [decide_eq_true hm]; rfl) ?_
          exact k1 ⟨z, rfl, hm⟩ H2 (s1.trans s2)
        · refine ifT (by rw [decide_eq_false hm]; rfl) ?_
          exact k2 (fun ⟨y, e, hy⟩ => hm (by injection e with e; rw [e]; exact hy)) H2 (s1.trans s2)
      · refine ifT (by rw [Bool.eq_false_iff.mpr hw]; rfl) ?_
        refine k2 (fun ⟨y, e, hy⟩ => hw ?_) H2 (s1.trans s2)
        injection e with e
        rw [e]
        exact (okF_word okf y hy).1
end
end K25

/-! K25: closed. -/
namespace K25
open PySem PySem.Spec PyProof.Rows L2
theorem while_m {c : TT} {tb : TS} {D : Ends} {σ : L2.St} {H : Hp} {m0 : Nat} (Pv : Nat → L2.St → Hp → Prop) (h0 : Pv m0 σ H)
    (hs : ∀ m σ H, Pv m σ H → c σ H fun b H1 => if b = true then tb { D with nx := fun σ' H' => ∃ m', m' < m ∧ Pv m' σ' H', ct := fun σ' H' => ∃ m', m' < m ∧ Pv m' σ' H', bk := D.nx } σ H1 else D.nx σ H1)
    (mono : ∀ σ H Q Q', (∀ b H1, Q b H1 → Q' b H1) → c σ H Q → c σ H Q') : tWhile c tb D σ H := by
  refine ⟨Pv, ⟨_, h0⟩, ?_⟩
  rintro m σ H p
  refine mono σ H _ _ (fun b H1 q => ?_) (hs m σ H p)
  cases b with
  | true => exact ⟨_, fun σ' H' h => h, q⟩
  | false => exact q
/-! ### pairs -/
abbrev pV (p : Pr) : List V := [.int p.1, .bl p.2]
abbrev encP (q : Addr × Pr) : En := (pV q.2, q.1)
def At2 (H : Hp) (ps : List (Addr × Pr)) : Prop := ∀ q ∈ ps, H q.1 = some (.tup (pV q.2))
theorem At2.same {H H' : Hp} {ps : List (Addr × Pr)} (a : At2 H ps) (s : Same H H') : At2 H' ps := fun q hq => s _ _ (a q hq)
theorem At2.keys {H : Hp} {ps : List (Addr × Pr)} (a : At2 H ps) : Keys H (ps.map encP) := fun e he => by
  obtain ⟨q, hq, eq⟩ := List.mem_map.mp he
  rw [← eq]
  exact ⟨a q hq, rfl⟩
theorem nk_pair {p q : Pr} (h : nkT (pV p) = nkT (pV q)) : p = q := by
  obtain ⟨a, b⟩ := p
  obtain ⟨c, d⟩ := q
  have h1 : NestedKey.tup [.num a, .num (if b = true then 1 else 0)] = NestedKey.tup [.num c, .num (if d = true then 1 else 0)] := h
  injection h1 with h2
  injection h2 with h3 h4
  injection h3 with h5
  injection h4 with h6 _
  injection h6 with h7
  have e : b = d := by
    cases b <;> cases d <;> first | rfl | (exact absurd h7 (by decide))
  rw [h5, e]
theorem has_pair (p : Pr) : ∀ ps : List (Addr × Pr), hasE (ps.map encP) (pV p) = decide (p ∈ ps.map (·.2))
  | [] => rfl
  | q :: ps => by
    have ih := has_pair p ps
    unfold hasE at *
    rw [List.map_cons, List.any_cons, ih, List.map_cons]
    by_cases e : q.2 = p
    · have e1 : decide (nkT (encP q).1 = nkT (pV p)) = true := decide_eq_true (by show nkT (pV q.2) = _; rw [e])
      rw [e1, e]
      simp
    · have e1 : decide (nkT (encP q).1 = nkT (pV p)) = false := decide_eq_false fun z => e (nk_pair z)
      have e2 : ¬ p = q.2 := fun z => e z.symm
      rw [e1]
      simp [e2]
theorem put_pair {ps : List (Addr × Pr)} {p : Pr} {b : Addr} (h : p ∉ ps.map (·.2)) : putE (ps.map encP) (pV p) b = (ps ++ [(b, p)]).map encP := by
  unfold putE
  rw [has_pair, decide_eq_false h, if_neg Bool.false_ne_true, List.map_append]
  rfl
theorem put_old {ps : List (Addr × Pr)} {p : Pr} {b : Addr} (h : p ∈ ps.map (·.2)) : putE (ps.map encP) (pV p) b = ps.map encP := by
  unfold putE
  rw [has_pair, decide_eq_true h, if_pos rfl]
def hP (p : Pr) : Int := reduceHash (Builtin.Tuple.tupleHashOf [hashInt p.1, hashInt (if p.2 = true then 1 else 0)])
theorem inj_map {α β : Type} {f : α → β} : ∀ l : List α, (l.map f).Nodup → ∀ a ∈ l, ∀ b ∈ l, f a = f b → a = b
  | [], _, a, ha, _, _, _ => absurd ha (by simp)
  | c :: l, nd, a, ha, b, hb, e => by
    rw [List.map_cons, List.nodup_cons] at nd
    rcases List.mem_cons.mp ha with h1 | h1 <;> rcases List.mem_cons.mp hb with h2 | h2
    · rw [h1, h2]
    · exact absurd (List.mem_map.mpr ⟨b, h2, by rw [← e, h1]⟩) nd.1
    · exact absurd (List.mem_map.mpr ⟨a, h1, by rw [e, h2]⟩) nd.1
    · exact inj_map l nd.2 a h1 b h2 e
theorem hP_list : (allP 5).map hP = [-8458139203682520985, -1950498447580522560, -5164621852614943976, 8389048192121911274, 4685526799349444076, 6794810172467074373, 2248468952609198383, 8756109708711196808, -6348126469135965181, 159514286966033244] := by kernel_rfl
theorem hP_inj : ∀ p ∈ allP 5, ∀ q ∈ allP 5, hP p = hP q → p = q := inj_map _ (by rw [hP_list]; decide +kernel)
theorem hash_is (w : World) (p : Pr) : (nkT (pV p)).hash w = hP p := by
  have e : nkT (pV p) = .tup [.num p.1, .num (if p.2 = true then 1 else 0)] := rfl
  rw [e]
  unfold hP
  simp only [NestedKey.hash, NestedKey.hashes]
theorem nodup_on {α β : Type} {f : α → β} : ∀ l : List α, l.Nodup → (∀ a ∈ l, ∀ b ∈ l, f a = f b → a = b) → (l.map f).Nodup
  | [], _, _ => List.nodup_nil
  | a :: l, nd, h => by
    rw [List.nodup_cons] at nd
    rw [List.map_cons, List.nodup_cons]
    refine ⟨fun z => ?_, nodup_on l nd.2 fun a ha b hb => h a (List.mem_cons_of_mem _ ha) b (List.mem_cons_of_mem _ hb)⟩
    obtain ⟨b, hb, e⟩ := List.mem_map.mp z
    have := h b (List.mem_cons_of_mem _ hb) a (by simp) e
    exact nd.1 (by rw [← this]; exact hb)
/-- pairs of states below many -/
def InR (many : Nat) (l : List Pr) : Prop := ∀ p ∈ l, 0 ≤ p.1 ∧ p.1 < many
theorem map_hash (w : World) : ∀ ps : List (Addr × Pr), (((ps.map encP).map enX).map fun x => x.1.hash w) = (ps.map (·.2)).map hP
  | [] => rfl
  | q :: ps => by
    have e : (enX (encP q)).1 = nkT (pV q.2) := rfl
    rw [List.map_cons, List.map_cons, List.map_cons, List.map_cons, List.map_cons, map_hash w ps, e, hash_is]
theorem hash_nodup {w : World} {many : Nat} {ps : List (Addr × Pr)} (hm : many ≤ 5) (nd : (ps.map (·.2)).Nodup) (r : InR many (ps.map (·.2))) : (((ps.map encP).map enX).map fun x => x.1.hash w).Nodup := by
  rw [map_hash]
  refine nodup_on _ nd fun a ha b hb h => hP_inj a ?_ b ?_ h
  · have := r a ha
    exact mem_allP this.1 (by omega)
  · have := r b hb
    exact mem_allP this.1 (by omega)
theorem pairs_len {many : Nat} {l : List Pr} (nd : l.Nodup) (r : InR many l) : l.length ≤ 2 * many := by
  have := nodup_len l (allP many) nd fun p hp => mem_allP (r p hp).1 (r p hp).2
  rw [allP_len] at this
  exact this
theorem DL.pairs {K : PySem.W.Frag} {H : Hp} : ∀ rs : List (Addr × Pr), At2 H rs → DL K H (refs rs) (rs.map fun q => .tuple [.int q.2.1, .bool q.2.2])
  | [], _ => ⟨.nil, rfl, Nat.zero_le _⟩
  | q :: rs, h => by
    obtain ⟨a, b, c⟩ := DL.pairs (K := K) rs fun x hx => h x (List.mem_cons_of_mem _ hx)
    refine ⟨.cons (.tup (SqT.of (h q (by simp))) (.cons (.int _) (.cons (.bl _) .nil))) a, ?_, ?_⟩
    · show (PyData.canLay0 (.tuple [.int q.2.1, .bool q.2.2]) && PyData.canLayAll0 (rs.map fun q => .tuple [.int q.2.1, .bool q.2.2])) = true
      rw [b]
      rfl
    · show max (PyData.depth (.tuple [.int q.2.1, .bool q.2.2])) (PyData.depthAll (rs.map fun q => .tuple [.int q.2.1, .bool q.2.2])) ≤ 5
      have e : PyData.depth (.tuple [.int q.2.1, .bool q.2.2]) = 1 := rfl
      omega
/-- is_fallen or fall == kind -/
theorem or_read {i j k : Nat} {σ : L2.St} {H : Hp} {Q : VK} {b : Bool} {x y : Str} (h1 : σ[i]? = some (some (.bl b))) (h2 : σ[j]? = some (some (.str x))) (h3 : σ[k]? = some (some (.str y))) (h : Q (.bl (b || decide (x = y))) H) : tOrV (tVar i) (tOp rEq (tVar j) (tVar k)) σ H Q := by
  refine ⟨_, h1, b, rfl, ?_⟩
  cases b with
  | true => exact h
  | false =>
    refine ⟨_, h2, _, h3, rfl, ?_⟩
    rw [dec_str]
    exact h
theorem PHid_goal {ss : List Stp} {fs : List Str} {kd : Str} {many : Nat} (okm : OkM many ss) {a b : Pr} (h : PHid ss fs kd a b) : 0 ≤ b.1 ∧ b.1 < many := by
  obtain ⟨t, ht, _, _, _, e, _⟩ := h
  have := okm.st t ht
  rw [← e]
  exact ⟨this.2.2.1, this.2.2.2⟩
theorem refs_snoc {α : Type} (l : List (Addr × α)) (q : Addr × α) : refs (l ++ [q]) = refs l ++ [V.ref q.1] := by
  unfold refs
  rw [List.map_append]
  rfl
theorem rest_last {α : Type} (l : List (Addr × α)) (q : Addr × α) : (refs (l ++ [q]))[(refs (l ++ [q])).length - 1]? = some (V.ref q.1) ∧ (refs (l ++ [q])).dropLast = refs l := by
  rw [refs_snoc]
  refine ⟨?_, List.dropLast_concat⟩
  rw [List.length_append, List.length_singleton, Nat.add_sub_cancel, List.getElem?_append_right (Nat.le_refl _), Nat.sub_self]
  rfl
def spClosed (P : Program) (w : World) (CM : Addr) : Sp := fun vs H Q _ => ∃ (m fr d : Addr) (kd : Str) (many : Nat) (ss : List Stp) (fs : List Str) (ps : List (Addr × Pr)), vs = [.ref m, .ref fr, .str kd, .ref d] ∧ MachAt CM H m many ss ∧ OkM many ss ∧ H fr = some (.tup (stv fs)) ∧
  H d = some (dsO P w d (ps.map encP)) ∧ At2 H ps ∧ (ps.map (·.2)).Nodup ∧ InR many (ps.map (·.2)) ∧
  ∀ (H' : Hp) (d' : Addr) (ps' : List (Addr × Pr)), Same H H' → H' d' = some (dsO P w d' (ps'.map encP)) → At2 H' ps' → (∀ p, p ∈ ps'.map (·.2) ↔ Clo (PHid ss fs kd) (· ∈ ps.map (·.2)) p) → (ps'.map (·.2)).Nodup → InR many (ps'.map (·.2)) → H d' = none → Q (.ref d') H'
section
variable {P : Program} {w : World} {K : PySem.W.Frag} {mg : Str → Option Value} {base : Heap} {f CM : Addr} {fd : FuncData}
theorem ok_closed (F : FnP K "closed" "closed" sClosed f fd) (B : Bi mg) (T : TM K CM) : FnOk P w K mg base CX0 1 f fd ["machine", "free", "kind", "states"] (spClosed P w CM) := by
  refine F.ok scClosed (fun vs H Q E h => ?_) (fun cdv A outer s H vs Q E hr h => ?_)
  · obtain ⟨m, fr, d, kd, many, ss, fs, ps, rfl, _⟩ := h
    rfl
  · obtain ⟨m, fr, d, kd, many, ss, fs, ps, rfl, hm, okm, hf, hd, hps, hnd, hrg, k⟩ := h
    have hu := hu_of hr
    have hu20 : (A.deeper (envOfC "closed" (defScope sClosed) s.heap.objs.size f cdv)).units + 20 < cLine := by have := hr.un; omega
    have hu64 : (A.deeper (envOfC "closed" (defScope sClosed) s.heap.objs.size f cdv)).units + 64 < cLine := by have := hr.un; omega
    have nd := scClosed.nd
    refine ⟨_, PSs.nox (pss_cons (ps_set (i := 4) nd rfl (Or.inl rfl) (pe_callTy (call_dictS hu20) (by rfl) B.dict (by decide +kernel) (pa_cons (pv 3) pa_nil)))
      (pss_cons (ps_set (i := 5) nd rfl (Or.inl rfl) (pe_callTy (call_listS rfl) (by rfl) B.list (by decide +kernel) (pa_cons (pv 3) pa_nil)))
      (pss_cons (ps_while PassesOwn.never (pt_cmpR (op_neD hu64) (pv 5) (pe_lst pa_nil) (nomark _))
        (pss_cons (ps_asg (pe_bm0 PySem.F.plainAttrs_list PySem.F.slot_list_pop PySem.F.type_list_pop mt_pop (pv 5)) (pg_tup (by rfl) (pgs_cons (pg_name (i := 6) nd rfl (Or.inl rfl)) (pgs_cons (pg_name (i := 7) nd rfl (Or.inl rfl)) pgs_nil))))
        (pss_one (ps_for PassesOwn.never rfl (pi_list (pe_dget hu (pe_fld (pv 0) rfl) (pv 6) (fun _ _ => rfl))) (pg_tup (by rfl) (pgs_cons (pg_name (i := 8) nd rfl (Or.inl rfl)) (pgs_cons (pg_name (i := 9) nd rfl (Or.inl rfl)) (pgs_cons (pg_name (i := 10) nd rfl (Or.inl rfl)) (pgs_cons (pg_name (i := 11) nd rfl (Or.inl rfl)) pgs_nil)))))
          (pss_cons (ps_set (i := 12) nd rfl (Or.inl rfl) (pe_tup (pa_cons (pv 11) (pa_cons (pe_or (pv 7) (pe_one (pe_cmpR op_eq (pv 9) (pv 2) (nomark _)))) pa_nil))))
          (pss_one (ps_if (PW.pt (pw_and (pt_cmpR op_eq (pv 10) pe_str (nomark _)) (pw_and (PW.pt (pw_or (pt_cmpR op_eq (pv 9) pe_str (nomark _)) (pw_or1 (pt_cmpR op_in_seq (pv 9) (pv 1) (by rfl))))) (pw_and1 (pt_cmpR (op_notinS hu20) (pv 12) (pv 4) (by rfl))))))
            (pss_cons (ps_asg pe_bl (pg_sub (pv 4) (pv 12) (set_ds hu20))) (pss_one (ps_expr (pe_bm PySem.F.plainAttrs_list PySem.F.slot_list_append PySem.F.type_list_append mt_append (pv 5) (pa_cons (pv 12) pa_nil))))) pss_nil)))))))
      (pss_one (ps_ret (pv 4)))))), ?_⟩
    have lps : ps.length ≤ 10 := by
      have := pairs_len hnd hrg
      rw [List.length_map] at this
      have := okm.hi
      omega
    -- found = dict(states)
    refine ⟨_, rfl, d, ps.map encP, rfl, .of hd hps.keys, by rw [List.length_map]; omega, hash_nodup okm.hi hnd hrg, fun D hD => ?_⟩
    have sD : Same H (upd H D (dsO P w D (ps.map encP))) := same_put (Same.refl _) hD
    -- rest = list(states)
    refine ⟨_, rfl, d, ps.map encP, rfl, .of (sD _ _ hd) (hps.same sD).keys, by rw [List.length_map]; omega, fun R hR => ?_⟩
    have er : (ps.map encP).map (fun e : En => V.ref e.2) = refs ps := by rw [List.map_map]; rfl
    rw [er]
    have nDR : D ≠ R := fun z => by rw [← z, upd_same] at hR; cases hR
    have hRn : H R = none := sD.free hR
    have sR : Same H (upd (upd H D (dsO P w D (ps.map encP))) R (.lst (refs ps))) := same_put sD hRn
    have hmany := okm.hi
    -- while rest != []
    refine while_m (m0 := 2 * (2 * many - ps.length) + ps.length) (fun mu σ H' => ∃ (fo re : List (Addr × Pr)) (v6 v7 v8 v9 v10 v11 v12 : Option V), σ = [some (.ref m), some (.ref fr), some (.str kd), some (.ref d), some (.ref D), some (.ref R), v6, v7, v8, v9, v10, v11, v12] ∧ H' D = some (dsO P w D (fo.map encP)) ∧ H' R = some (.lst (refs re)) ∧ Same H H' ∧
        At2 H' fo ∧ At2 H' re ∧ Work (PHid ss fs kd) (· ∈ ps.map (·.2)) (fo.map (·.2)) (re.map (·.2)) ∧ InR many (fo.map (·.2)) ∧ mu = 2 * (2 * many - fo.length) + re.length ∧ mu ≤ 40)
      ⟨ps, ps, _, _, _, _, _, _, _, rfl, by rw [upd_ne nDR, upd_same] <;> rfl, upd_same, sR, hps.same sR, hps.same sR, Work.start (fun _ => Iff.rfl) hnd, hrg, rfl, by omega⟩ ?_ ?_
    · rintro mu σ H2 ⟨fo, re, v6, v7, v8, v9, v10, v11, v12, rfl, h2D, h2R, s2, a2, b2, wk, r2, emu, hmu⟩
      refine ⟨_, rfl, Nat.zero_le _, fun z hz => ?_⟩
      have s3 : Same H2 (upd H2 z (.lst [])) := same_put (Same.refl _) hz
      refine neL_empty (SqL.of (s3 _ _ h2R)) (SqL.of upd_same) (DL.pairs re (b2.same s3)) ⟨_, rfl, ?_⟩
      have h3D := s3 _ _ h2D
      have h3R := s3 _ _ h2R
      have sH3 : Same H (upd H2 z (.lst [])) := s2.trans s3
      have a3 := a2.same s3
      have b3 := b2.same s3
      revert h3D h3R sH3 a3 b3
      generalize upd H2 z (.lst []) = H3
      intro h3D h3R sH3 a3 b3
      have lfo : fo.length ≤ 2 * many := by
        have := pairs_len wk.nd r2
        rw [List.length_map] at this
        exact this
      refine ite2 (fun hne => ?_) (fun hne => ?_)
      · have hne2 : re ≠ [] := fun z => by rw [z] at hne; exact Bool.noConfusion hne
        obtain ⟨r0, x, ere⟩ : ∃ r0 x, re = r0 ++ [x] := ⟨re.dropLast, re.getLast hne2, (List.dropLast_concat_getLast hne2).symm⟩
        subst ere
        obtain ⟨xa, x1, x2⟩ := x
        have hxf : (x1, x2) ∈ fo.map (·.2) := wk.sub _ (by simp)
        obtain ⟨hx0, hx1⟩ := r2 _ hxf
        obtain ⟨n, hn⟩ : ∃ n : Nat, x1 = (n : Int) := ⟨x1.toNat, by simp at hx0; omega⟩
        have hnm : n < many := by simp at hx1; omega
        obtain ⟨mx, a0, b0, c0, d0, zs, L, m1, m2, m3, m4, m5, m6⟩ := id hm
        obtain ⟨kvb, vb1, vb2, vb3⟩ := m5.dict
        obtain ⟨us, u1, u2, u3⟩ := m6 n hnm
        obtain ⟨e1, e2⟩ := rest_last r0 (xa, x1, x2)
        have hxa : H3 xa = some (.tup [.int x1, .bl x2]) := b3 (xa, x1, x2) (by simp)
        refine ⟨_, rfl, .inl ⟨rfl, _, SqL.of h3R⟩, R, _, _, rfl, rfl, h3R, e1, ?_⟩
        rw [e2]
        have fix : ∀ c o, H c = some o → upd H3 R (.lst (refs r0)) c = some o := fun c o e => by
          rw [upd_ne (ne_of_none e hRn)]
          exact sH3 _ _ e
        have nR : ∀ c ys, H3 c = some (.tup ys) → c ≠ R := fun c ys e => ne_of e h3R (fun z => nomatch z)
        have g1 : DGet (upd H3 R (.lst (refs r0))) b0 (.int x1) (some (.ref (L n))) := by
          have q := DGet.k (k := Sum.inl x1) (fix _ _ vb1)
          rw [hn, vb3 n hnm] at q
          rw [hn]
          exact q
        refine ⟨xa, _, rfl, SqT.of (by rw [upd_ne (nR _ _ hxa)]; exact hxa), rfl, _, _, rfl, _, _, rfl, rfl, ?_⟩
        have lus : us.length ≤ 12 := by
          have h1 : us.length = (ss.filter fun t => decide (t.s = (n : Int))).length := by rw [← u3, List.length_map]
          have h2 := List.length_filter_le (fun t : Stp => decide (t.s = (n : Int))) ss
          have := okm.len
          omega
        refine ⟨_, rfl, m, CM, mx, _, _, rfl, fix _ _ m1, T.cl, T.ways, rfl, _, rfl, b0, _, rfl, g1, L n, rfl, ⟨_, SqL.of (fix _ _ u1)⟩, for_list (xs := refs us) (fun j σ H' => ∃ (fo' re' : List (Addr × Pr)) (v8 v9 v10 v11 v12 : Option V), σ = [some (.ref m), some (.ref fr), some (.str kd), some (.ref d), some (.ref D), some (.ref R), some (.int x1), some (.bl x2), v8, v9, v10, v11, v12] ∧ H' D = some (dsO P w D (fo'.map encP)) ∧ H' R = some (.lst (refs re')) ∧ Same H H' ∧
            At2 H' fo' ∧ At2 H' re' ∧ Half (PHid ss fs kd) (· ∈ ps.map (·.2)) (x1, x2) (fun y => ∃ i t, i < j ∧ (us.map (·.2))[i]? = some t ∧ OkK fs t.k ∧ t.w = "" ∧ y = (t.g, x2 || decide (t.k = kd))) (fo'.map (·.2)) (re'.map (·.2)) ∧ InR many (fo'.map (·.2)) ∧ 2 * (2 * many - fo'.length) + re'.length + 1 ≤ mu) ?_ ?_ ?_ ?_⟩
        · refine ⟨fo, r0, _, _, _, _, _, rfl, ?_, upd_same, fix, fun q hq => ?_, fun q hq => ?_, ?_, r2, ?_⟩
          · rw [upd_ne nDR]; exact h3D
          · rw [upd_ne (nR _ _ (a3 q hq))]; exact a3 q hq
          · have := b3 q (List.mem_append_left _ hq)
            rw [upd_ne (nR _ _ this)]; exact this
          · have w2 : Work (PHid ss fs kd) (· ∈ ps.map (·.2)) (fo.map (·.2)) (r0.map (·.2) ++ [(x1, x2)]) := by
              have := wk
              rw [List.map_append] at this
              exact this
            exact w2.pop.skip fun y hy => by obtain ⟨i, _, hi, _⟩ := hy; omega
          · rw [emu, List.length_append, List.length_singleton]; omega
        · rintro j σ H' hj ⟨fo', re', _, _, _, _, _, _, _, _, sm, _⟩
          exact SqL.of (sm _ _ u1)
        · rintro j y σ H' hy ⟨fo', re', v8', v9', v10', v11', v12', rfl, hD', hR', sm, aF, aR, hf', hr', hmu'⟩
          rw [List.getElem?_map] at hy
          cases e : us[j]? with
          | none => rw [e] at hy; cases hy
          | some z =>
            rw [e] at hy
            have ey := Option.some.inj hy
            subst ey
            have hzm := List.mem_of_getElem? e
            have hT : H' z.1 = some (.tup (stpV z.2)) := sm _ _ (u2 z hzm)
            have ets : (us.map (·.2))[j]? = some z.2 := by rw [List.getElem?_map, e]; rfl
            have hts : z.2 ∈ ss ∧ z.2.s = (n : Int) := by
              have q := List.mem_of_getElem? ets
              rw [u3, List.mem_filter] at q
              exact ⟨q.1, of_decide_eq_true q.2⟩
            have hdone : ∀ y, (∃ i t, i < j + 1 ∧ (us.map (·.2))[i]? = some t ∧ OkK fs t.k ∧ t.w = "" ∧ y = (t.g, x2 || decide (t.k = kd))) → (∃ i t, i < j ∧ (us.map (·.2))[i]? = some t ∧ OkK fs t.k ∧ t.w = "" ∧ y = (t.g, x2 || decide (t.k = kd))) ∨ (OkK fs z.2.k ∧ z.2.w = "" ∧ y = (z.2.g, x2 || decide (z.2.k = kd))) := fun y ⟨i, t, hi, et, r1, r2, r3⟩ => by
              by_cases q : i = j
              · rw [q, ets] at et
                have et2 := Option.some.inj et
                subst et2
                exact .inr ⟨r1, r2, r3⟩
              · exact .inl ⟨i, t, by omega, et, r1, r2, r3⟩
            refine ⟨z.1, _, rfl, SqT.of hT, rfl, _, _, rfl, _, _, rfl, _, _, rfl, _, _, rfl, rfl, ?_⟩
            -- late
            refine ⟨_, rfl, or_read (b := x2) (x := z.2.k) (y := kd) rfl rfl rfl ?_⟩
            refine ⟨(by show 2 ≤ sizeLine; decide), fun y hy0 => ?_⟩
            have sy : Same H' (upd H' y (.tup [.int z.2.g, .bl (x2 || decide (z.2.k = kd))])) := same_put (Same.refl _) hy0
            have skip : (OkK fs z.2.k → z.2.w = "" → (z.2.g, x2 || decide (z.2.k = kd)) ∈ fo'.map (·.2)) → ∃ (fo'' re'' : List (Addr × Pr)) (v8 v9 v10 v11 v12 : Option V), ([some (.ref m), some (.ref fr), some (.str kd), some (.ref d), some (.ref D), some (.ref R), some (.int x1), some (.bl x2), some (.int z.2.s), some (.str z.2.k), some (.str z.2.w), some (.int z.2.g), some (.ref y)] : List (Option V)) = [some (.ref m), some (.ref fr), some (.str kd), some (.ref d), some (.ref D), some (.ref R), some (.int x1), some (.bl x2), v8, v9, v10, v11, v12] ∧ upd H' y (.tup [.int z.2.g, .bl (x2 || decide (z.2.k = kd))]) D = some (dsO P w D (fo''.map encP)) ∧ upd H' y (.tup [.int z.2.g, .bl (x2 || decide (z.2.k = kd))]) R = some (.lst (refs re'')) ∧ Same H (upd H' y (.tup [.int z.2.g, .bl (x2 || decide (z.2.k = kd))])) ∧
                At2 (upd H' y (.tup [.int z.2.g, .bl (x2 || decide (z.2.k = kd))])) fo'' ∧ At2 (upd H' y (.tup [.int z.2.g, .bl (x2 || decide (z.2.k = kd))])) re'' ∧ Half (PHid ss fs kd) (· ∈ ps.map (·.2)) (x1, x2) (fun y => ∃ i t, i < j + 1 ∧ (us.map (·.2))[i]? = some t ∧ OkK fs t.k ∧ t.w = "" ∧ y = (t.g, x2 || decide (t.k = kd))) (fo''.map (·.2)) (re''.map (·.2)) ∧ InR many (fo''.map (·.2)) ∧ 2 * (2 * many - fo''.length) + re''.length + 1 ≤ mu := fun hs =>
              ⟨fo', re', _, _, _, _, _, rfl, sy _ _ hD', sy _ _ hR', sm.trans sy, aF.same sy, aR.same sy, hf'.skip fun u hu => (hdone u hu).elim .inl fun q => .inr (by rw [q.2.2]; exact hs q.1 q.2.1), hr', hmu'⟩
            have hyD := sy _ _ hD'
            have hyR := sy _ _ hR'
            have hyy : (upd H' y (.tup [.int z.2.g, .bl (x2 || decide (z.2.k = kd))])) y = some (.tup (pV (z.2.g, x2 || decide (z.2.k = kd)))) := upd_same
            have hyf := sy _ _ (sm _ _ hf)
            have aFy := aF.same sy
            have aRy := aR.same sy
            have smy := sm.trans sy
            revert skip hyD hyR hyy hyf aFy aRy smy
            generalize upd H' y (.tup [.int z.2.g, .bl (x2 || decide (z.2.k = kd))]) = H5
            intro skip hyD hyR hyy hyf aFy aRy smy
            -- seen == ''
            refine ⟨_, rfl, rfl, _, rfl, ite2 (fun h1 => ?_) (fun h1 => skip fun _ q => absurd (by rw [dec_str]; exact decide_eq_true q) h1)⟩
            have ew : z.2.w = ("" : Str) := str_inj h1
            refine ⟨_, rfl, rfl, _, rfl, ite2 (fun h2 => ?_) (fun h2 => ⟨_, rfl, _, rfl, fr, _, rfl, .inr (SqT.of hyf), rfl, flat_str fs, _, rfl, ite2 (fun h3 => ?_) (fun h3 => skip fun ok _ => ?_)⟩)⟩
            rotate_left 2
            · rcases ok with q | q
              · exact absurd (by rw [dec_str]; exact decide_eq_true q) h2
              · exact absurd (by show inV _ _ = true; rw [inV_str]; exact decide_eq_true q) h3
            all_goals have ok : OkK fs z.2.k := (by first | exact .inl (str_inj h2) | exact .inr (of_decide_eq_true ((inV_str _ _).symm.trans h3)))
            all_goals
              (have hstep : PHid ss fs kd (x1, x2) (z.2.g, x2 || decide (z.2.k = kd)) := ⟨z.2, hts.1, hts.2.trans hn.symm, ok, ew, rfl, rfl⟩
               refine ⟨_, rfl, _, rfl, D, y, _, _, rfl, rfl, .of hyD aFy.keys, hyy, rfl, _, rfl, ?_⟩
               rw [has_pair]
               by_cases hg : (z.2.g, x2 || decide (z.2.k = kd)) ∈ fo'.map (·.2)
               · refine ifF (by rw [decide_eq_true hg]; rfl) ?_
                 exact skip fun _ _ => hg
               · refine ifT (by rw [decide_eq_false hg]; rfl) ?_
                 have hf2 := hf'.add hstep hg (fun u hu => (hdone u hu).imp id fun q => q.2.2)
                 have hr2 : InR many ((fo' ++ [(y, (z.2.g, x2 || decide (z.2.k = kd)))]).map (·.2)) := fun p hp => by
                   rw [List.map_append] at hp
                   rcases List.mem_append.mp hp with q | q
                   · exact hr' p q
                   · have e9 : p = (z.2.g, x2 || decide (z.2.k = kd)) := by simpa using q
                     rw [e9]
                     exact PHid_goal okm hstep
                 have lf : fo'.length + 1 ≤ 2 * many := by
                   have q := pairs_len (l := (fo' ++ [(y, (z.2.g, x2 || decide (z.2.k = kd)))]).map (·.2)) (by rw [List.map_append]; exact hf2.nd) hr2
                   rw [List.length_map, List.length_append, List.length_singleton] at q
                   exact q
                 refine ⟨_, rfl, _, rfl, D, y, _, _, rfl, rfl, rfl, hyD, aFy.keys, hyy, rfl, by rw [List.length_map]; omega, ?_⟩
                 have hR6 : upd H5 D (dsO P w D (putE (fo'.map encP) (pV (z.2.g, x2 || decide (z.2.k = kd))) y)) R = some (.lst (refs re')) := by rw [upd_ne nDR.symm]; exact hyR
                 have nDT : ∀ c ys, H5 c = some (.tup ys) → c ≠ D ∧ c ≠ R := fun c ys e => ⟨ne_of e hyD (fun z => nomatch z), ne_of e hyR (fun z => nomatch z)⟩
                 refine ⟨_, rfl, .inl ⟨rfl, _, SqL.of hR6⟩, _, rfl, R, _, _, rfl, rfl, hR6, by rw [List.length_map, sizeLine_eq]; omega, ?_⟩
                 have at3 : ∀ l : List (Addr × Pr), At2 H5 l → At2 (upd (upd H5 D (dsO P w D (putE (fo'.map encP) (pV (z.2.g, x2 || decide (z.2.k = kd))) y))) R (.lst (refs re' ++ [V.ref y]))) (l ++ [(y, (z.2.g, x2 || decide (z.2.k = kd)))]) := fun l hl q hq => by
                   have base : H5 q.1 = some (.tup (pV q.2)) := by
                     rcases List.mem_append.mp hq with c | c
                     · exact hl q c
                     · have e9 : q = (y, (z.2.g, x2 || decide (z.2.k = kd))) := by simpa using c
                       rw [e9]
                       exact hyy
                   obtain ⟨n1, n2⟩ := nDT _ _ base
                   rw [upd_ne n2, upd_ne n1]
                   exact base
                 refine ⟨fo' ++ [(y, (z.2.g, x2 || decide (z.2.k = kd)))], re' ++ [(y, (z.2.g, x2 || decide (z.2.k = kd)))], _, _, _, _, _, rfl, ?_, ?_, fun c o ec => ?_, at3 fo' aFy, at3 re' aRy, ?_, hr2, ?_⟩
                 · rw [upd_ne nDR, upd_same, put_pair hg]
                   rfl
                 · rw [upd_same, refs_snoc]
                 · have q := smy c o ec
                   rw [upd_ne (ne_of_none ec hRn), upd_ne (ne_of_none ec hD)]
                   exact q
                 · rw [List.map_append, List.map_append]
                   exact hf2
                 · rw [List.length_append, List.length_append, List.length_singleton]; omega)
        · rintro σ H' ⟨fo', re', v8', v9', v10', v11', v12', rfl, hD', hR', sm, aF, aR, hf', hr', hmu'⟩
          rw [List.length_map] at hf'
          refine ⟨2 * (2 * many - fo'.length) + re'.length, by omega, fo', re', _, _, _, _, _, _, _, rfl, hD', hR', sm, aF, aR, hf'.done fun y hy => ?_, hr', rfl, by omega⟩
          obtain ⟨t, ht, e3, e4, e5, e6, e7⟩ := hy
          have hmem : t ∈ us.map (·.2) := by
            rw [u3, List.mem_filter]
            exact ⟨ht, decide_eq_true (e3.trans hn)⟩
          obtain ⟨i, hi, ei⟩ := List.mem_iff_getElem.mp hmem
          refine ⟨i, t, ?_, by rw [List.getElem?_eq_getElem hi, ei], e4, e5, ?_⟩
          · rw [List.length_map] at hi; exact hi
          · exact Prod.ext e6.symm e7
      · have he : re = [] := by
          cases re with
          | nil => rfl
          | cons c r => exact absurd rfl hne
        subst he
        refine ⟨_, rfl, ?_⟩
        exact k H3 D fo sH3 h3D a3 (fun p => wk.done p) wk.nd r2 hD
    · rintro σ H Q Q' hq ⟨x, e, h1, h2⟩
      exact ⟨x, e, h1, fun p hp => let ⟨d, e', a1, a2, a3, a4, k, ek, q⟩ := h2 p hp; ⟨d, e', a1, a2, a3, a4, k, ek, hq _ _ q⟩⟩
end
end K25

/-! K25: watch, its loop over the states. -/
namespace K25
open PySem PySem.Spec PyProof.Rows L2
def forB : Stmt → List Stmt
  | .For _ _ b _ _ => b
  | _ => []
abbrev noS : Stmt := .Pass ⟨0, 0, 0, 0⟩
abbrev sKind : Stmt := (defBody sWatch).getD 3 noS
abbrev sWord : Stmt := (forB sKind).getD 1 noS
abbrev sState : Stmt := (forB sWord).getD 1 noS
theorem PS_imp {X : Cx} {st : Stmt} {t t' : TS} (h : L2.PS X st t) (i : ∀ D σ H, t' D σ H → t D σ H) : L2.PS X st t' := ⟨fun pins s σ H D I q => h.run pins s σ H D I (i _ _ _ q)⟩
theorem PE_imp {X : Cx} {e : Expr} {t t' : TE} (h : PE X e t) (i : ∀ σ H Q, t' σ H Q → t σ H Q) : PE X e t' := ⟨fun pins s σ H Q I q => h.run pins s σ H Q I (i _ _ _ q)⟩
abbrev nW : List Str := ["machine", "trace", "free", "found", "kind", "states", "word", "late", "state", "is_fallen", "first", "fall", "seen", "goal", "told"]
abbrev XW (CXt : CXT) (P : Program) (w : World) (K : PySem.W.Frag) (mg : Str → Option Value) (base : Heap) (f : Addr) (cdv : Value) (A : Around) (outer : List Env) (s : Shared) (H : Hp) (E : XK) : Cx :=
  (cxOf CXt P w K mg base nW "watch" (defScope sWatch) f cdv A outer s H E).nox
/-- the slots of watch -/
abbrev slW (m tr fr fd : Addr) (kd : Option V) (st : Option V) (wd lt v8 v9 v10 v11 v12 v13 v14 : Option V) : L2.St := [some (.ref m), some (.ref tr), some (.ref fr), some (.ref fd), kd, st, wd, lt, v8, v9, v10, v11, v12, v13, v14]
def tA (P : Program) (w : World) (CM : Addr) : TS := fun D σ H => ∃ (m tr fr fd st lt : Addr) (kd wd : Str) (many : Nat) (ss : List Stp) (fs : List Str) (ps : List (Addr × Pr)) (v8 v9 v10 v11 v12 v13 v14 : Option V), σ = slW m tr fr fd (some (.str kd)) (some (.ref st)) (some (.str wd)) (some (.ref lt)) v8 v9 v10 v11 v12 v13 v14 ∧
  MachAt CM H m many ss ∧ OkM many ss ∧ H fr = some (.tup (stv fs)) ∧ H st = some (dsO P w st (ps.map encP)) ∧ At2 H ps ∧ (ps.map (·.2)).Nodup ∧ InR many (ps.map (·.2)) ∧ H lt = some (dsO P w lt []) ∧ st ≠ lt ∧
  ∀ (H' : Hp) (ps' : List (Addr × Pr)) (u8 u9 u10 u11 u12 u13 u14 : Option V), KeepP lt H H' → H' lt = some (dsO P w lt (ps'.map encP)) → At2 H' ps' → (∀ y, y ∈ ps'.map (·.2) ↔ ∃ a, a ∈ ps.map (·.2) ∧ PShow ss fs kd wd a y) → (ps'.map (·.2)).Nodup → InR many (ps'.map (·.2)) →
    D.nx (slW m tr fr fd (some (.str kd)) (some (.ref st)) (some (.str wd)) (some (.ref lt)) u8 u9 u10 u11 u12 u13 u14) H'
theorem PShow_goal {ss : List Stp} {fs : List Str} {kd wd : Str} {many : Nat} (okm : OkM many ss) {a b : Pr} (h : PShow ss fs kd wd a b) : 0 ≤ b.1 ∧ b.1 < many := by
  obtain ⟨t, ht, _, _, _, e, _⟩ := h
  have := okm.st t ht
  rw [← e]
  exact ⟨this.2.2.1, this.2.2.2⟩
/-- a machine over objects that stay -/
theorem MachAt.by {CM : Addr} {H H' : Hp} {p : Addr} {many : Nat} {ss : List Stp} (x : MachAt CM H p many ss) (s : ∀ b o, H b = some o → (∀ φ, o ≠ .ext φ) → H' b = some o) : MachAt CM H' p many ss := by
  obtain ⟨dx, a, b, c, d, zs, L, h1, h2, h3, h4, ⟨⟨kvs, k1, k2, k3⟩, inj⟩, h6⟩ := x
  refine ⟨dx, a, b, c, d, zs, L, s _ _ h1 (fun _ z => nomatch z), s _ _ h2 (fun _ z => nomatch z), fun z hz => s _ _ (h3 z hz) (fun _ z => nomatch z), h4, ⟨⟨kvs, s _ _ k1 (fun _ z => nomatch z), k2, k3⟩, inj⟩, fun i hi => ?_⟩
  obtain ⟨us, u1, u2, u3⟩ := h6 i hi
  exact ⟨us, s _ _ u1 (fun _ z => nomatch z), fun z hz => s _ _ (u2 z hz) (fun _ z => nomatch z), u3⟩
section
variable {CXt : CXT} {P : Program} {w : World} {K : PySem.W.Frag} {mg : Str → Option Value} {base : Heap} {f CM : Addr} {cdv : Value} {A : Around} {outer : List Env} {s : Shared} {H0 : Hp} {E : XK}
theorem watch_states (T : TM K CM) (hr : Room 3 (A.deeper (envOfC "watch" (defScope sWatch) s.heap.objs.size f cdv))) : L2.PS (XW CXt P w K mg base f cdv A outer s H0 E) sState (tA P w CM) := by
  have hu : (A.deeper (envOfC "watch" (defScope sWatch) s.heap.objs.size f cdv)).units + 1 < cLine := by have := hr.un; omega
  have hu20 : (A.deeper (envOfC "watch" (defScope sWatch) s.heap.objs.size f cdv)).units + 20 < cLine := by have := hr.un; omega
  have nd := scWatch.nd
  refine PS_imp (ps_lock (ps_for PassesOwn.never rfl (pi_keysS (pv 5)) (pg_tup (by rfl) (pgs_cons (pg_name (i := 8) nd rfl (Or.inl rfl)) (pgs_cons (pg_name (i := 9) nd rfl (Or.inl rfl)) pgs_nil)))
    (pss_one (ps_for PassesOwn.never rfl (pi_list (pe_dget hu (pe_fld (pv 0) rfl) (pv 8) (fun _ _ => rfl))) (pg_tup (by rfl) (pgs_cons (pg_name (i := 10) nd rfl (Or.inl rfl)) (pgs_cons (pg_name (i := 11) nd rfl (Or.inl rfl)) (pgs_cons (pg_name (i := 12) nd rfl (Or.inl rfl)) (pgs_cons (pg_name (i := 13) nd rfl (Or.inl rfl)) pgs_nil)))))
      (pss_one (ps_if (PW.pt (pw_and (pt_cmpR op_eq (pv 12) (pv 6) (nomark _)) (pw_and1 (PW.pt (pw_or (pt_cmpR op_eq (pv 11) pe_str (nomark _)) (pw_or1 (pt_cmpR op_in_seq (pv 11) (pv 2) (by rfl))))))))
        (pss_one (ps_asg pe_bl (pg_sub (pv 7) (pe_tup (pa_cons (pv 13) (pa_cons (pe_or (pv 9) (pe_one (pe_cmpR op_eq (pv 11) (pv 4) (nomark _)))) pa_nil))) (set_ds hu20)))) pss_nil)))))) ?_
  rintro D σ H ⟨m, tr, fr, fd, st, lt, kd, wd, many, ss, fs, ps, v8, v9, v10, v11, v12, v13, v14, rfl, hm, okm, hf, hst, hps, hnd, hrg, hlt, hne, k⟩
  have hmany := okm.hi
  have lps : ps.length ≤ 10 := by
    have := pairs_len hnd hrg
    rw [List.length_map] at this
    omega
  refine ⟨st, dsO P w st (ps.map encP), hst, trivial, fun od => ⟨_, rfl, st, od, ps.map encP, rfl, upd_same, ?_⟩⟩
  have old : ∀ b o, H b = some o → (∀ φ, o ≠ .ext φ) → upd H st (.frz od (dsO P w st (ps.map encP))) b = some o := fun b o e n => by
    rw [upd_ne (ne_of e hst (n _))]
    exact e
  have nl : ∀ b o, H b = some o → (∀ φ, o ≠ .ext φ) → b ≠ lt := fun b o e n => ne_of e hlt (n _)
  have hlt1 : upd H st (.frz od (dsO P w st (ps.map encP))) lt = some (dsO P w lt []) := by rw [upd_ne hne.symm]; exact hlt
  have hst1 : upd H st (.frz od (dsO P w st (ps.map encP))) st = some (.frz od (dsO P w st (ps.map encP))) := upd_same
  have hps1 : At2 (upd H st (.frz od (dsO P w st (ps.map encP)))) ps := fun q hq => old _ _ (hps q hq) (fun _ z => nomatch z)
  have fin : ∀ H', KeepP lt (upd H st (.frz od (dsO P w st (ps.map encP)))) H' → H' st = some (.frz od (dsO P w st (ps.map encP))) ∧ KeepP lt H (upd H' st (dsO P w st (ps.map encP))) := fun H' kp => by
    refine ⟨kp _ _ hne upd_same, fun b o nb e => ?_⟩
    by_cases q : b = st
    · subst q
      rw [upd_same, ← e, hst]
    · rw [upd_ne q]
      exact kp b o nb (by rw [upd_ne q]; exact e)
  revert old hlt1 hst1 hps1 fin
  generalize upd H st (.frz od (dsO P w st (ps.map encP))) = Hl
  intro old hlt1 hst1 hps1 fin
  refine for_keysS (xs := ps.map encP) (fun i σ H' => ∃ (ps' : List (Addr × Pr)) (u8 u9 u10 u11 u12 u13 u14 : Option V), σ = slW m tr fr fd (some (.str kd)) (some (.ref st)) (some (.str wd)) (some (.ref lt)) u8 u9 u10 u11 u12 u13 u14 ∧ KeepP lt Hl H' ∧ H' lt = some (dsO P w lt (ps'.map encP)) ∧ At2 H' ps' ∧
      (∀ y, y ∈ ps'.map (·.2) ↔ ∃ a, a ∈ (ps.map (·.2)).take i ∧ PShow ss fs kd wd a y) ∧ (ps'.map (·.2)).Nodup ∧ InR many (ps'.map (·.2))) ⟨[], _, _, _, _, _, _, _, rfl, fun _ _ _ e => e, hlt1, fun q hq => absurd hq (by simp), fun y => by simp, List.nodup_nil, fun p hp => absurd hp (by simp)⟩ ?_ ?_ ?_
  · rintro i σ H' ⟨ps', _, _, _, _, _, _, _, _, kp, _⟩
    exact kp _ _ hne hst1
  · rintro i e σ H' hi ⟨ps', u8, u9, u10, u11, u12, u13, u14, rfl, kp, hl', at', mem', nd', rg'⟩
    rw [List.getElem?_map] at hi
    cases eq : ps[i]? with
    | none => rw [eq] at hi; cases hi
    | some q =>
      rw [eq] at hi
      have ee := Option.some.inj hi
      subst ee
      have hqm := List.mem_of_getElem? eq
      have fix : ∀ b o, H b = some o → (∀ φ, o ≠ .ext φ) → H' b = some o := fun b o e n => kp b o (nl b o e n) (old b o e n)
      have hqi := hrg q.2 (List.mem_map.mpr ⟨q, hqm, rfl⟩)
      obtain ⟨n, hn⟩ : ∃ n : Nat, q.2.1 = (n : Int) := ⟨q.2.1.toNat, by omega⟩
      have hnm : n < many := by omega
      obtain ⟨mx, a0, b0, c0, d0, zs, L, m1, m2, m3, m4, m5, m6⟩ := hm.by fix
      obtain ⟨kvb, vb1, vb2, vb3⟩ := m5.dict
      obtain ⟨us, u1, u2, u3⟩ := m6 n hnm
      have g1 : DGet H' b0 (.int q.2.1) (some (.ref (L n))) := by
        have g := DGet.k (k := Sum.inl q.2.1) vb1
        rw [hn, vb3 n hnm] at g
        rw [hn]
        exact g
      have hT : H' q.1 = some (.tup (pV q.2)) := fix _ _ (hps q hqm) (fun _ z => nomatch z)
      have eqs : (ps.map (·.2))[i]? = some q.2 := by rw [List.getElem?_map, eq]; rfl
      have nlu : L n ≠ lt := ne_of u1 hl' (fun z => nomatch z)
      have lus : us.length ≤ 12 := by
        have h1 : us.length = (ss.filter fun t => decide (t.s = (n : Int))).length := by rw [← u3, List.length_map]
        have h2 := List.length_filter_le (fun t : Stp => decide (t.s = (n : Int))) ss
        have := okm.len
        omega
      refine ⟨q.1, _, rfl, SqT.of hT, rfl, _, _, rfl, _, _, rfl, rfl, ?_⟩
      refine ⟨_, rfl, m, CM, mx, _, _, rfl, m1, T.cl, T.ways, rfl, _, rfl, b0, _, rfl, g1, L n, rfl, ⟨_, SqL.of u1⟩, for_list (xs := refs us) (fun j σ H'' => ∃ (ps'' : List (Addr × Pr)) (w10 w11 w12 w13 : Option V), σ = slW m tr fr fd (some (.str kd)) (some (.ref st)) (some (.str wd)) (some (.ref lt)) (some (.int q.2.1)) (some (.bl q.2.2)) w10 w11 w12 w13 u14 ∧ KeepP lt H' H'' ∧ H'' lt = some (dsO P w lt (ps''.map encP)) ∧ At2 H'' ps'' ∧
          (∀ y, y ∈ ps''.map (·.2) ↔ y ∈ ps'.map (·.2) ∨ ∃ k t, k < j ∧ (us.map (·.2))[k]? = some t ∧ t.w = wd ∧ OkK fs t.k ∧ y = (t.g, q.2.2 || decide (t.k = kd))) ∧ (ps''.map (·.2)).Nodup ∧ InR many (ps''.map (·.2))) ?_ ?_ ?_ ?_⟩
      · exact ⟨ps', _, _, _, _, rfl, fun _ _ _ e => e, hl', at', fun y => ⟨.inl, fun h => h.elim id fun ⟨k, t, hk, _⟩ => by omega⟩, nd', rg'⟩
      · rintro j σ H'' hj ⟨ps'', _, _, _, _, _, kp', _⟩
        exact SqL.of (kp' _ _ nlu u1)
      · rintro j x σ H'' hx ⟨ps'', w10, w11, w12, w13, rfl, kp', hl'', at'', mem'', nd'', rg''⟩
        rw [List.getElem?_map] at hx
        cases ez : us[j]? with
        | none => rw [ez] at hx; cases hx
        | some z =>
          rw [ez] at hx
          have ex := Option.some.inj hx
          subst ex
          have hzm := List.mem_of_getElem? ez
          have hz1 := u2 z hzm
          have hz2 : H'' z.1 = some (.tup (stpV z.2)) := kp' _ _ (ne_of hz1 hl' (fun z => nomatch z)) hz1
          have ets : (us.map (·.2))[j]? = some z.2 := by rw [List.getElem?_map, ez]; rfl
          have hts : z.2 ∈ ss ∧ z.2.s = (n : Int) := by
            have g := List.mem_of_getElem? ets
            rw [u3, List.mem_filter] at g
            exact ⟨g.1, of_decide_eq_true g.2⟩
          have step : ∀ y, (y ∈ ps'.map (·.2) ∨ ∃ k t, k < j + 1 ∧ (us.map (·.2))[k]? = some t ∧ t.w = wd ∧ OkK fs t.k ∧ y = (t.g, q.2.2 || decide (t.k = kd))) ↔ y ∈ ps''.map (·.2) ∨ (z.2.w = wd ∧ OkK fs z.2.k ∧ y = (z.2.g, q.2.2 || decide (z.2.k = kd))) := fun y => by
            rw [mem'' y]
            constructor
            · rintro (h | ⟨k, t, hk, et, r⟩)
              · exact .inl (.inl h)
              · by_cases c : k = j
                · rw [c, ets] at et
                  have et2 := Option.some.inj et
                  subst et2
                  exact .inr r
                · exact .inl (.inr ⟨k, t, by omega, et, r⟩)
            · rintro ((h | ⟨k, t, hk, et, r⟩) | r)
              · exact .inl h
              · exact .inr ⟨k, t, by omega, et, r⟩
              · exact .inr ⟨j, z.2, by omega, ets, r⟩
          have hf'' : H'' fr = some (.tup (stv fs)) := kp' _ _ (nl _ _ hf (fun _ z => nomatch z)) (fix _ _ hf (fun _ z => nomatch z))
          refine ⟨z.1, _, rfl, SqT.of hz2, rfl, _, _, rfl, _, _, rfl, _, _, rfl, _, _, rfl, rfl, ?_⟩
          have skip : ¬ (z.2.w = wd ∧ OkK fs z.2.k) → ∃ (ps3 : List (Addr × Pr)) (w10 w11 w12 w13 : Option V), slW m tr fr fd (some (.str kd)) (some (.ref st)) (some (.str wd)) (some (.ref lt)) (some (.int q.2.1)) (some (.bl q.2.2)) (some (.int z.2.s)) (some (.str z.2.k)) (some (.str z.2.w)) (some (.int z.2.g)) u14 = slW m tr fr fd (some (.str kd)) (some (.ref st)) (some (.str wd)) (some (.ref lt)) (some (.int q.2.1)) (some (.bl q.2.2)) w10 w11 w12 w13 u14 ∧ KeepP lt H' H'' ∧ H'' lt = some (dsO P w lt (ps3.map encP)) ∧ At2 H'' ps3 ∧
              (∀ y, y ∈ ps3.map (·.2) ↔ y ∈ ps'.map (·.2) ∨ ∃ k t, k < j + 1 ∧ (us.map (·.2))[k]? = some t ∧ t.w = wd ∧ OkK fs t.k ∧ y = (t.g, q.2.2 || decide (t.k = kd))) ∧ (ps3.map (·.2)).Nodup ∧ InR many (ps3.map (·.2)) := fun no =>
            ⟨ps'', _, _, _, _, rfl, kp', hl'', at'', fun y => by rw [step y]; exact ⟨.inl, fun h => h.elim id fun r => absurd ⟨r.1, r.2.1⟩ no⟩, nd'', rg''⟩
          refine ⟨_, rfl, _, rfl, rfl, _, rfl, ite2 (fun h1 => ?_) (fun h1 => skip fun r => h1 (by rw [dec_str]; exact decide_eq_true r.1))⟩
          have ew := str_inj h1
          refine ⟨_, rfl, rfl, _, rfl, ite2 (fun h2 => ?_) (fun h2 => ⟨_, rfl, _, rfl, fr, _, rfl, .inr (SqT.of hf''), rfl, flat_str fs, _, rfl, ite2 (fun h3 => ?_) (fun h3 => skip ?_)⟩)⟩
          rotate_left 2
          · rintro ⟨_, r | r⟩
            · exact h2 (by rw [dec_str]; exact decide_eq_true r)
            · exact h3 (by show inV _ _ = true; rw [inV_str]; exact decide_eq_true r)
          all_goals have ok : OkK fs z.2.k := (by first | exact .inl (str_inj h2) | exact .inr (of_decide_eq_true ((inV_str _ _).symm.trans h3)))
          all_goals
            (have hstep : PShow ss fs kd wd q.2 (z.2.g, q.2.2 || decide (z.2.k = kd)) := ⟨z.2, hts.1, hts.2.trans hn.symm, ok, ew, rfl, rfl⟩
             refine ⟨_, rfl, _, rfl, or_read (b := q.2.2) (x := z.2.k) (y := kd) rfl rfl rfl ⟨(by show 2 ≤ sizeLine; decide), fun y hy => ?_⟩⟩
             have l'' : ps''.length ≤ 10 := by
               have := pairs_len nd'' rg''
               rw [List.length_map] at this
               omega
             have nly : lt ≠ y := ne_of_none hl'' hy
             have at6 : At2 (upd H'' y (.tup [.int z.2.g, .bl (q.2.2 || decide (z.2.k = kd))])) ps'' := fun p hp => by
               rw [upd_ne (ne_of_none (at'' p hp) hy)]
               exact at'' p hp
             have hl6 : upd H'' y (.tup [.int z.2.g, .bl (q.2.2 || decide (z.2.k = kd))]) lt = some (dsO P w lt (ps''.map encP)) := by rw [upd_ne nly]; exact hl''
             refine ⟨lt, y, pV (z.2.g, q.2.2 || decide (z.2.k = kd)), ps''.map encP, rfl, rfl, rfl, hl6, at6.keys, upd_same, rfl, by rw [List.length_map]; omega, ?_⟩
             have kp6 : ∀ o, KeepP lt H' (upd (upd H'' y (.tup [.int z.2.g, .bl (q.2.2 || decide (z.2.k = kd))])) lt o) := fun o => KeepP.own (KeepP.put kp' hy)
             by_cases hg : (z.2.g, q.2.2 || decide (z.2.k = kd)) ∈ ps''.map (·.2)
             · refine ⟨ps'', _, _, _, _, rfl, kp6 _, ?_, fun p hp => ?_, fun u => ?_, nd'', rg''⟩
               · rw [upd_same, put_old hg] <;> rfl
               · rw [upd_ne (ne_of (at6 p hp) hl6 (fun z => nomatch z))]
                 exact at6 p hp
               · rw [step u]
                 exact ⟨.inl, fun h => h.elim id fun r => by rw [r.2.2]; exact hg⟩
             · refine ⟨ps'' ++ [(y, (z.2.g, q.2.2 || decide (z.2.k = kd)))], _, _, _, _, rfl, kp6 _, ?_, fun p hp => ?_, fun u => ?_, ?_, fun p hp => ?_⟩
               · rw [upd_same, put_pair hg] <;> rfl
               · rcases List.mem_append.mp hp with c | c
                 · rw [upd_ne (ne_of (at6 p c) hl6 (fun z => nomatch z))]
                   exact at6 p c
                 · have e9 : p = (y, (z.2.g, q.2.2 || decide (z.2.k = kd))) := by simpa using c
                   rw [e9, upd_ne nly.symm, upd_same]
               · rw [step u, List.map_append, List.mem_append]
                 exact ⟨fun h => h.imp id fun r => ⟨ew, ok, by simpa using r⟩, fun h => h.imp id fun r => by simpa using r.2.2⟩
               · rw [List.map_append, List.nodup_append]
                 refine ⟨nd'', by simp, fun a ha b hb e => hg ?_⟩
                 have e9 : b = (z.2.g, q.2.2 || decide (z.2.k = kd)) := by simpa using hb
                 rw [← e9, ← e]
                 exact ha
               · rw [List.map_append] at hp
                 rcases List.mem_append.mp hp with c | c
                 · exact rg'' p c
                 · have e9 : p = (z.2.g, q.2.2 || decide (z.2.k = kd)) := by simpa using c
                   rw [e9]
                   exact PShow_goal okm hstep)
      · rintro σ H'' ⟨ps'', w10, w11, w12, w13, rfl, kp', hl'', at'', mem'', nd'', rg''⟩
        rw [List.length_map] at mem''
        refine ⟨ps'', _, _, _, _, _, _, _, rfl, kp.trans kp', hl'', at'', fun y => ?_, nd'', rg''⟩
        rw [mem'' y, mem' y, take_more eqs]
        have hS : (∃ k t, k < us.length ∧ (us.map (·.2))[k]? = some t ∧ t.w = wd ∧ OkK fs t.k ∧ y = (t.g, q.2.2 || decide (t.k = kd))) ↔ PShow ss fs kd wd q.2 y := by
          constructor
          · rintro ⟨k, t, _, et, r1, r2, r3⟩
            have g := List.mem_of_getElem? et
            rw [u3, List.mem_filter] at g
            exact ⟨t, g.1, (of_decide_eq_true g.2).trans hn.symm, r2, r1, by rw [r3], by rw [r3]⟩
          · rintro ⟨t, ht, r1, r2, r3, r4, r5⟩
            have g : t ∈ us.map (·.2) := by
              rw [u3, List.mem_filter]
              exact ⟨ht, decide_eq_true (r1.trans hn)⟩
            obtain ⟨k, hk, ek⟩ := List.mem_iff_getElem.mp g
            refine ⟨k, t, ?_, by rw [List.getElem?_eq_getElem hk, ek], r3, r2, Prod.ext r4.symm r5⟩
            rw [List.length_map] at hk
            exact hk
        rw [hS]
        constructor
        · rintro (⟨a, ha, r⟩ | r)
          · exact ⟨a, List.mem_append_left _ ha, r⟩
          · exact ⟨q.2, List.mem_append_right _ (by simp), r⟩
        · rintro ⟨a, ha, r⟩
          rcases List.mem_append.mp ha with c | c
          · exact .inl ⟨a, c, r⟩
          · have ec : a = q.2 := by simpa using c
            rw [ec] at r
            exact .inr r
  · rintro σ H' ⟨ps', u8, u9, u10, u11, u12, u13, u14, rfl, kp, hl', at', mem', nd', rg'⟩
    obtain ⟨f1, f2⟩ := fin H' kp
    have nls : lt ≠ st := hne.symm
    refine ⟨f1, k _ ps' _ _ _ _ _ _ _ f2 (by rw [upd_ne nls]; exact hl') (fun q hq => ?_) (fun y => ?_) nd' rg'⟩
    · have h := at' q hq
      rw [upd_ne (ne_of h f1 (fun z => nomatch z))]
      exact h
    · rw [mem' y, List.length_map, ← List.length_map (f := fun x : Addr × Pr => x.2) (as := ps), List.take_length]
end
end K25

/-! K25: watch, its loop over the words. -/
namespace K25
open PySem PySem.Spec PyProof.Rows L2
theorem keep_new {p : Addr} {H H1 : Hp} {o : HO} (hp : H p = none) (k : KeepP p (upd H p o) H1) : Same H H1 := fun b ob e => by
  have n := ne_of_none e hp
  exact k b ob n (by rw [upd_ne n]; exact e)
def tB (P : Program) (w : World) (CM : Addr) (SQ : Hp → Addr → List V → Prop) : TS := fun D σ H => ∃ (m tr fr fd st : Addr) (kd : Str) (many : Nat) (ss : List Stp) (fs ws : List Str) (ps : List (Addr × Pr)) (v6 v7 v8 v9 v10 v11 v12 v13 v14 : Option V), σ = slW m tr fr fd (some (.str kd)) (some (.ref st)) v6 v7 v8 v9 v10 v11 v12 v13 v14 ∧
  MachAt CM H m many ss ∧ OkM many ss ∧ H fr = some (.tup (stv fs)) ∧ SQ H tr (stv ws) ∧ H st = some (dsO P w st (ps.map encP)) ∧ At2 H ps ∧ (ps.map (·.2)).Nodup ∧ InR many (ps.map (·.2)) ∧
  ∀ (H' : Hp) (st' : Addr) (ps' : List (Addr × Pr)) (u6 u7 u8 u9 u10 u11 u12 u13 u14 : Option V), Same H H' → H' st' = some (dsO P w st' (ps'.map encP)) → At2 H' ps' → (∀ p, p ∈ ps'.map (·.2) ↔ pruns ss fs kd ws (· ∈ ps.map (·.2)) p) → (ps'.map (·.2)).Nodup → InR many (ps'.map (·.2)) →
    D.nx (slW m tr fr fd (some (.str kd)) (some (.ref st')) u6 u7 u8 u9 u10 u11 u12 u13 u14) H'
abbrev isL : Hp → Addr → List V → Prop := fun H a xs => H a = some (.lst xs)
abbrev isT : Hp → Addr → List V → Prop := fun H a xs => H a = some (.tup xs)
theorem pnxt_congr {ss : List Stp} {fs : List Str} {kd z : Str} {S S' : Pr → Prop} (h : ∀ x, S x ↔ S' x) (x : Pr) : pnxt ss fs kd z S x ↔ pnxt ss fs kd z S' x :=
  Clo.congr (fun b => ⟨fun ⟨a, ha, q⟩ => ⟨a, (h a).mp ha, q⟩, fun ⟨a, ha, q⟩ => ⟨a, (h a).mpr ha, q⟩⟩) x
section
variable {CXt : CXT} {P : Program} {w : World} {K : PySem.W.Frag} {mg : Str → Option Value} {base : Heap} {f fC CM : Addr} {fdC : FuncData} {cdv : Value} {A : Around} {outer : List Env} {s : Shared} {H0 : Hp} {E : XK}
theorem watch_wordsL (T : TM K CM) (hr : Room 3 (A.deeper (envOfC "watch" (defScope sWatch) s.heap.objs.size f cdv))) (GC : FnOk P w K mg base CX0 1 fC fdC ["machine", "free", "kind", "states"] (spClosed P w CM)) (mC : mg "closed" = some (.ref fC)) (kC : PySem.W.keepIn K (.ref fC) = true) (bC : Binds K fdC ["machine", "free", "kind", "states"] []) :
    L2.PS (XW CXt P w K mg base f cdv A outer s H0 E) sWord (tB P w CM isL) := by
  have hr1 : Room 1 (A.deeper (envOfC "watch" (defScope sWatch) s.heap.objs.size f cdv)) := hr.mono (by decide)
  have nd := scWatch.nd
  refine PS_imp (ps_for PassesOwn.never rfl (pi_list (pv 1)) (pg_name (i := 6) nd rfl (Or.inl rfl))
    (pss_cons (ps_set (i := 7) nd rfl (Or.inl rfl) pe_dnewS) (pss_cons (watch_states T hr) (pss_one (ps_set (i := 5) nd rfl (Or.inl rfl) (pe_call GC hr1 rfl mC kC bC .nil pass0 (pa_cons (pv 0) (pa_cons (pv 2) (pa_cons (pv 4) (pa_cons (pv 7) pa_nil)))))))))) ?_
  rintro D σ H ⟨m, tr, fr, fd, st, kd, many, ss, fs, ws, ps, v6, v7, v8, v9, v10, v11, v12, v13, v14, rfl, hm, okm, hf, htr, hst, hps, hnd, hrg, k⟩
  have htr : H tr = some (.lst (stv ws)) := htr
  refine ⟨_, rfl, tr, rfl, ⟨_, SqL.of htr⟩, for_list (xs := stv ws) (fun i σ H' => ∃ (st' : Addr) (ps' : List (Addr × Pr)) (u6 u7 u8 u9 u10 u11 u12 u13 u14 : Option V), σ = slW m tr fr fd (some (.str kd)) (some (.ref st')) u6 u7 u8 u9 u10 u11 u12 u13 u14 ∧ Same H H' ∧ H' st' = some (dsO P w st' (ps'.map encP)) ∧ At2 H' ps' ∧
      (∀ p, p ∈ ps'.map (·.2) ↔ pruns ss fs kd (ws.take i) (· ∈ ps.map (·.2)) p) ∧ (ps'.map (·.2)).Nodup ∧ InR many (ps'.map (·.2))) ?_ ?_ ?_ ?_⟩
  · exact ⟨st, ps, _, _, _, _, _, _, _, _, _, rfl, Same.refl _, hst, hps, fun p => Iff.rfl, hnd, hrg⟩
  · rintro i σ H' hi ⟨_, _, _, _, _, _, _, _, _, _, _, _, sm, _⟩
    exact SqL.of (sm _ _ htr)
  · rintro i x σ H' hx ⟨st', ps', u6, u7, u8, u9, u10, u11, u12, u13, u14, rfl, sm, hst', at', mem', nd', rg'⟩
    rw [List.getElem?_map] at hx
    cases e : ws[i]? with
    | none => rw [e] at hx; cases hx
    | some z =>
      rw [e] at hx
      have ex : x = V.str z := (Option.some.inj hx).symm
      subst ex
      intro lt hlt
      have s1 : Same H' (upd H' lt (dsO P w lt [])) := same_put (Same.refl _) hlt
      refine ⟨m, tr, fr, fd, st', lt, kd, z, many, ss, fs, ps', _, _, _, _, _, _, _, rfl, (hm.same sm).same s1, okm, s1 _ _ (sm _ _ hf), s1 _ _ hst', at'.same s1, nd', rg', upd_same, ne_of_none hst' hlt, fun H2 ps2 y8 y9 y10 y11 y12 y13 y14 kp hl2 at2 mem2 nd2 rg2 => ?_⟩
      have s2 : Same H' H2 := keep_new hlt kp
      refine ⟨_, rfl, _, rfl, _, rfl, _, rfl, m, fr, lt, kd, many, ss, fs, ps2, rfl, (hm.same sm).same s2, okm, s2 _ _ (sm _ _ hf), hl2, at2, nd2, rg2, fun H3 d3 ps3 s3 hd3 at3 mem3 nd3 rg3 _ => ?_⟩
      refine ⟨d3, ps3, _, _, _, _, _, _, _, _, _, rfl, (sm.trans s2).trans s3, hd3, at3, fun p => ?_, nd3, rg3⟩
      rw [pruns_more _ e]
      refine (mem3 p).trans (Iff.trans ?_ (pnxt_congr mem' p))
      exact Clo.congr (fun y => mem2 y) p
  · rintro σ H' ⟨st', ps', u6, u7, u8, u9, u10, u11, u12, u13, u14, rfl, sm, hst', at', mem', nd', rg'⟩
    rw [List.length_map, List.take_length] at mem'
    exact k H' st' ps' _ _ _ _ _ _ _ _ _ sm hst' at' mem' nd' rg'
theorem watch_wordsT (T : TM K CM) (hr : Room 3 (A.deeper (envOfC "watch" (defScope sWatch) s.heap.objs.size f cdv))) (GC : FnOk P w K mg base CX0 1 fC fdC ["machine", "free", "kind", "states"] (spClosed P w CM)) (mC : mg "closed" = some (.ref fC)) (kC : PySem.W.keepIn K (.ref fC) = true) (bC : Binds K fdC ["machine", "free", "kind", "states"] []) :
    L2.PS (XW CXt P w K mg base f cdv A outer s H0 E) sWord (tB P w CM isT) := by
  have hr1 : Room 1 (A.deeper (envOfC "watch" (defScope sWatch) s.heap.objs.size f cdv)) := hr.mono (by decide)
  have nd := scWatch.nd
  refine PS_imp (ps_for PassesOwn.never rfl (pi_tup (pv 1)) (pg_name (i := 6) nd rfl (Or.inl rfl))
    (pss_cons (ps_set (i := 7) nd rfl (Or.inl rfl) pe_dnewS) (pss_cons (watch_states T hr) (pss_one (ps_set (i := 5) nd rfl (Or.inl rfl) (pe_call GC hr1 rfl mC kC bC .nil pass0 (pa_cons (pv 0) (pa_cons (pv 2) (pa_cons (pv 4) (pa_cons (pv 7) pa_nil)))))))))) ?_
  rintro D σ H ⟨m, tr, fr, fd, st, kd, many, ss, fs, ws, ps, v6, v7, v8, v9, v10, v11, v12, v13, v14, rfl, hm, okm, hf, htr, hst, hps, hnd, hrg, k⟩
  have htr : H tr = some (.tup (stv ws)) := htr
  refine ⟨_, rfl, tr, rfl, ⟨_, SqT.of htr⟩, for_tup (xs := stv ws) (fun i σ H' => ∃ (st' : Addr) (ps' : List (Addr × Pr)) (u6 u7 u8 u9 u10 u11 u12 u13 u14 : Option V), σ = slW m tr fr fd (some (.str kd)) (some (.ref st')) u6 u7 u8 u9 u10 u11 u12 u13 u14 ∧ Same H H' ∧ H' st' = some (dsO P w st' (ps'.map encP)) ∧ At2 H' ps' ∧
      (∀ p, p ∈ ps'.map (·.2) ↔ pruns ss fs kd (ws.take i) (· ∈ ps.map (·.2)) p) ∧ (ps'.map (·.2)).Nodup ∧ InR many (ps'.map (·.2))) ?_ ?_ ?_ ?_⟩
  · exact ⟨st, ps, _, _, _, _, _, _, _, _, _, rfl, Same.refl _, hst, hps, fun p => Iff.rfl, hnd, hrg⟩
  · rintro i σ H' hi ⟨_, _, _, _, _, _, _, _, _, _, _, _, sm, _⟩
    exact SqT.of (sm _ _ htr)
  · rintro i x σ H' hx ⟨st', ps', u6, u7, u8, u9, u10, u11, u12, u13, u14, rfl, sm, hst', at', mem', nd', rg'⟩
    rw [List.getElem?_map] at hx
    cases e : ws[i]? with
    | none => rw [e] at hx; cases hx
    | some z =>
      rw [e] at hx
      have ex : x = V.str z := (Option.some.inj hx).symm
      subst ex
      intro lt hlt
      have s1 : Same H' (upd H' lt (dsO P w lt [])) := same_put (Same.refl _) hlt
      refine ⟨m, tr, fr, fd, st', lt, kd, z, many, ss, fs, ps', _, _, _, _, _, _, _, rfl, (hm.same sm).same s1, okm, s1 _ _ (sm _ _ hf), s1 _ _ hst', at'.same s1, nd', rg', upd_same, ne_of_none hst' hlt, fun H2 ps2 y8 y9 y10 y11 y12 y13 y14 kp hl2 at2 mem2 nd2 rg2 => ?_⟩
      have s2 : Same H' H2 := keep_new hlt kp
      refine ⟨_, rfl, _, rfl, _, rfl, _, rfl, m, fr, lt, kd, many, ss, fs, ps2, rfl, (hm.same sm).same s2, okm, s2 _ _ (sm _ _ hf), hl2, at2, nd2, rg2, fun H3 d3 ps3 s3 hd3 at3 mem3 nd3 rg3 _ => ?_⟩
      refine ⟨d3, ps3, _, _, _, _, _, _, _, _, _, rfl, (sm.trans s2).trans s3, hd3, at3, fun p => ?_, nd3, rg3⟩
      rw [pruns_more _ e]
      refine (mem3 p).trans (Iff.trans ?_ (pnxt_congr mem' p))
      exact Clo.congr (fun y => mem2 y) p
  · rintro σ H' ⟨st', ps', u6, u7, u8, u9, u10, u11, u12, u13, u14, rfl, sm, hst', at', mem', nd', rg'⟩
    rw [List.length_map, List.take_length] at mem'
    exact k H' st' ps' _ _ _ _ _ _ _ _ _ sm hst' at' mem' nd' rg'
end
end K25

/-! K25: watch. -/
namespace K25
open PySem PySem.Spec PyProof.Rows L2
abbrev sTold : Stmt := (forB sKind).getD 2 noS
/-- told = [..] -/
def tT (P : Program) (w : World) : TS := fun D σ H => ∃ (m tr fr fd st : Addr) (kd : Str) (ps : List (Addr × Pr)) (v6 v7 v8 v9 v10 v11 v12 v13 v14 : Option V), σ = slW m tr fr fd (some (.str kd)) (some (.ref st)) v6 v7 v8 v9 v10 v11 v12 v13 v14 ∧
  H st = some (dsO P w st (ps.map encP)) ∧ At2 H ps ∧ ps.length ≤ 1000 ∧ ∀ (H' : Hp) (t : Addr), Same H H' → H' t = some (.lst ((ps.map fun q => q.2.2).map V.bl)) → D.nx (slW m tr fr fd (some (.str kd)) (some (.ref st)) v6 v7 v8 v9 v10 v11 v12 v13 (some (.ref t))) H'
abbrev esK (es : List (Str × Str)) : List (Key × V) := es.map fun e => ((Sum.inr e.1 : Key), V.str e.2)
theorem esK_none : ∀ (es : List (Str × Str)) (k : Str), k ∉ es.map (·.1) → valV (esK es) (Sum.inr k) = none
  | [], _, _ => rfl
  | e :: es, k, h => by
    have h1 : ¬ k = e.1 := fun z => h (by rw [z]; simp)
    show valV ((Sum.inr e.1, V.str e.2) :: esK es) (Sum.inr k) = none
    rw [valV_neg fun z => h1 (Sum.inr.inj z).symm]
    exact esK_none es k fun z => h (List.mem_cons_of_mem _ z)
theorem okF_nodup {fs : List Str} (h : OkF fs) : fs.Nodup := by
  rcases h with h | h | h <;> subst h <;> decide +kernel
section
variable {CXt : CXT} {P : Program} {w : World} {K : PySem.W.Frag} {mg : Str → Option Value} {base : Heap} {f : Addr} {cdv : Value} {A : Around} {outer : List Env} {s : Shared} {H0 : Hp} {E : XK}
theorem watch_told : L2.PS (XW CXt P w K mg base f cdv A outer s H0 E) sTold (tT P w) := by
  have nd := scWatch.nd
  refine PS_imp (ps_lock (ps_setLc (i := 14) (own := [("state", 8), ("is_fallen", 9)]) (g := gTup K 2 (gCons (gName 8) (gCons (gName 9) gNil))) (tt := tYes) rfl nd rfl rfl (sw_true rfl rfl rfl (by decide +kernel)) (pi_keysS (pv 5)) (blkOk_by (own := [("state", 8), ("is_fallen", 9)]) (N := nW) (sc := defScope sWatch) (by decide +kernel))
    (fun _ _ _ _ _ => pg_tup (by rfl) (pgs_cons (pg_name (i := 8) nd rfl (Or.inl rfl)) (pgs_cons (pg_name (i := 9) nd rfl (Or.inl rfl)) pgs_nil))) (fun _ _ _ _ _ => pts_nil) (fun _ _ _ _ _ => pv 9))) ?_
  rintro D σ H ⟨m, tr, fr, fd, st, kd, ps, v6, v7, v8, v9, v10, v11, v12, v13, v14, rfl, hst, hps, hl, k⟩
  refine ⟨st, dsO P w st (ps.map encP), hst, trivial, fun od => ⟨_, rfl, st, od, ps.map encP, rfl, upd_same, fun t ht => ?_⟩⟩
  have hst1 : upd H st (.frz od (dsO P w st (ps.map encP))) st = some (.frz od (dsO P w st (ps.map encP))) := upd_same
  have nts : t ≠ st := fun z => by rw [z, upd_same] at ht; cases ht
  have htH : H t = none := by rw [upd_ne nts] at ht; exact ht
  refine lc_keysS (xs := ps.map encP) (fun i H' => H' t = some (.lst (((ps.take i).map fun q => q.2.2).map V.bl)) ∧ Same (upd H st (.frz od (dsO P w st (ps.map encP)))) H') ⟨upd_same, same_put (Same.refl _) ht⟩ (fun i H' p => p.2 _ _ hst1) ?_ ?_
  · rintro i e H' hi ⟨hb, sm⟩
    rw [List.getElem?_map] at hi
    cases eq : ps[i]? with
    | none => rw [eq] at hi; cases hi
    | some q =>
      rw [eq] at hi
      have ee := Option.some.inj hi
      subst ee
      have hq := hps q (List.mem_of_getElem? eq)
      have hT : H' q.1 = some (.tup (pV q.2)) := sm _ _ (by rw [upd_ne (ne_of hq hst (fun z => nomatch z))]; exact hq)
      have hi2 := (List.getElem?_eq_some_iff.mp eq).1
      refine ⟨q.1, _, rfl, SqT.of hT, rfl, _, _, rfl, _, _, rfl, rfl, rfl, ?_⟩
      refine ⟨_, rfl, _, hb, ?_, ?_, same_put sm ht⟩
      · rw [List.length_map, List.length_map, List.length_take, sizeLine_eq]; omega
      · rw [upd_same, take_more eq, List.map_append, List.map_append]
        rfl
  · rintro H' ⟨hb, sm⟩
    rw [List.length_map, List.take_length] at hb
    refine ⟨sm _ _ hst1, k _ t (fun b o e => ?_) (by rw [upd_ne nts]; exact hb)⟩
    by_cases q : b = st
    · subst q
      rw [upd_same, ← e, hst]
    · rw [upd_ne q]
      exact sm b o (by rw [upd_ne q]; exact e)
end
theorem pruns_congr {ss : List Stp} {fs : List Str} {kd : Str} : ∀ (ws : List Str) {S S' : Pr → Prop}, (∀ x, S x ↔ S' x) → ∀ x, pruns ss fs kd ws S x ↔ pruns ss fs kd ws S' x
  | [], _, _, h, x => h x
  | z :: ws, _, _, h, x => pruns_congr ws (fun y => pnxt_congr h y) x
theorem tells_of {ss : List Stp} {fs ws : List Str} {kd : Str} {l : List Pr} (h : ∀ p, p ∈ l ↔ pruns ss fs kd ws (prun0 ss fs kd) p) :
    ((l.map (·.2)).all id = true → Tells ss fs ws kd "certain") ∧ ((l.map (·.2)).all id = false → (l.map (·.2)).any id = true → Tells ss fs ws kd "possible") ∧ ((l.map (·.2)).all id = false → (l.map (·.2)).any id = false → Tells ss fs ws kd "out") := by
  have ha : (l.map (·.2)).all id = true ↔ ∀ p, pruns ss fs kd ws (prun0 ss fs kd) p → p.2 = true := by
    rw [List.all_map, List.all_eq_true]
    exact ⟨fun q p hp => q p ((h p).mpr hp), fun q p hp => q p ((h p).mp hp)⟩
  have hb : (l.map (·.2)).any id = true ↔ ∃ p, pruns ss fs kd ws (prun0 ss fs kd) p ∧ p.2 = true := by
    rw [List.any_map, List.any_eq_true]
    exact ⟨fun ⟨p, hp, q⟩ => ⟨p, (h p).mp hp, q⟩, fun ⟨p, hp, q⟩ => ⟨p, (h p).mpr hp, q⟩⟩
  refine ⟨fun q => .inl ⟨ha.mp q, rfl⟩, fun q r => .inr (.inl ⟨fun z => ?_, hb.mp r, rfl⟩), fun q r => .inr (.inr ⟨fun z => ?_, fun z => ?_, rfl⟩)⟩
  · rw [ha.mpr z] at q
    cases q
  · rw [ha.mpr z] at q
    cases q
  · rw [hb.mpr z] at r
    cases r
def spWatch (CM CN : Addr) : Sp := fun vs H Q E => ∃ (m tr fr : Addr) (many : Nat) (ss : List Stp) (fs ws : List Str), vs = [.ref m, .ref tr, .ref fr] ∧ MachAt CM H m many ss ∧ OkM many ss ∧ Tr H tr ws ∧ (∀ z ∈ ws, z ≠ "") ∧ H fr = some (.tup (stv fs)) ∧ OkF fs ∧
  (Has ss fs ws → ∀ (H' : Hp) (d : Addr) (es : List (Str × Str)), Same H H' → H' d = some (.dK (esK es)) → es.map (·.1) = fs → (∀ e ∈ es, Tells ss fs ws e.1 e.2) → Q (.ref d) H') ∧ (¬ Has ss fs ws → ∀ H', Same H H' → E (.ref CN) none H')
section
variable {P : Program} {w : World} {K : PySem.W.Frag} {mg : Str → Option Value} {base : Heap} {f CM CV CN fK fI fH fC : Addr} {fd fdK fdI fdH fdC : FuncData}
theorem ok_watch (F : FnP K "watch" "watch" sWatch f fd) (B : Bi mg) (T : TM K CM) (C : VCalls P w K mg base CM CV fK fI fH fdK fdI fdH) (X : ExcT K mg "NotSeen" CN) (GC : FnOk P w K mg base CX0 1 fC fdC ["machine", "free", "kind", "states"] (spClosed P w CM)) (mC : mg "closed" = some (.ref fC)) (kC : PySem.W.keepIn K (.ref fC) = true) (bC : Binds K fdC ["machine", "free", "kind", "states"] []) :
    FnOk P w K mg base (L2.CX P w) 4 f fd ["machine", "trace", "free"] (spWatch CM CN) := by
  refine F.ok scWatch (fun vs H Q E h => ?_) (fun cdv A outer s H vs Q E hr h => ?_)
  · obtain ⟨m, tr, fr, many, ss, fs, ws, rfl, _⟩ := h
    rfl
  · obtain ⟨m, tr, fr, many, ss, fs, ws, rfl, hm, okm, htr, hws, hf, okf, k1, k2⟩ := h
    have hr1 : Room 1 _ := hr.mono (by decide)
    have hr2 : Room 2 _ := hr.mono (by decide)
    have hu := hu_of hr
    have hu20 : (A.deeper (envOfC "watch" (defScope sWatch) s.heap.objs.size f cdv)).units + 20 < cLine := by have := hr.un; omega
    have nd := scWatch.nd
    rcases htr with htr | htr
    · refine ⟨_, pss_cons (ps_expr (pe_call C.GK hr rfl C.mK C.kK C.bK .nil pass0 (pa_cons (pv 2) pa_nil)))
        (pss_cons (ps_if (pt_not (pt_val (pe_meth (pe_make C.M C.GI hr2 rfl C.mV C.bI .nil pass0 (pa_cons (pv 0) (pa_cons (pv 2) pa_nil))) C.T.cl C.mH C.GH hr C.bH .nil pass0 (pa_cons (pv 1) pa_nil)))) (pss_one (ps_raise rfl (takes_of rfl rfl rfl rfl) (pmk_own PySem.F.excBase_ValueError X.x X.g X.k (raises_own X.b X.t) rfl))) pss_nil)
        (PSs.nox (pss_cons (ps_set (i := 3) nd rfl (Or.inl rfl) pe_dnewK)
        (pss_cons (ps_for PassesOwn.never rfl (pi_tup (pv 2)) (pg_name (i := 4) nd rfl (Or.inl rfl))
          (pss_cons (ps_set (i := 5) nd rfl (Or.inl rfl) (pe_call GC hr1 rfl mC kC bC .nil pass0 (pa_cons (pv 0) (pa_cons (pv 2) (pa_cons (pv 4) (pa_cons (pe_disp1 hu20 (pe_tup (pa_cons pe_int (pa_cons pe_bl pa_nil))) pe_bl) pa_nil))))))
          (pss_cons (watch_wordsL T hr GC mC kC bC)
          (pss_cons watch_told
          (pss_one (ps_dput hu (pv 3) (pv 4) (pe_ifExp (pt_val (pe_callB (cr_all rfl) (by rfl) B.all (by decide +kernel) (pa_cons (pv 14) pa_nil))) pe_str (pe_ifExp (pt_val (pe_callB (cr_any rfl) (by rfl) B.any (by decide +kernel) (pa_cons (pv 14) pa_nil))) pe_str pe_str)) rfl))))))
        (pss_one (ps_ret (pv 3))))))), ?_⟩
      refine ⟨_, rfl, fr, fs, rfl, hf, okf, fun H1 s1 => ?_⟩
      refine ⟨_, rfl, _, rfl, fun x dx nx ndx ne => ⟨x, dx, m, fr, many, ss, fs, rfl, upd_same, (hm.same s1).same (same_made nx ndx), okm, same_made nx ndx _ _ (s1 _ _ hf), fun H2 kp2 hv2 => ⟨rfl, ?_⟩⟩⟩
      have s2 : Same H H2 := s1.trans (keep_made nx ndx kp2)
      obtain ⟨dv, a, b, L, M, v1, v2⟩ := id hv2
      refine ⟨x, dv, _, rfl, v1, rfl, _, rfl, x, tr, many, ss, fs, ws, rfl, hv2, okm, .inl (s2 _ _ htr), hws, fun H3 r s3 hr3 => ⟨_, rfl, ?_⟩⟩
      have sH3 := s2.trans s3
      cases r with
      | false => exact k2 (fun hh => Bool.noConfusion (hr3.mpr hh)) H3 sH3
      | true =>
        have has := hr3.mp rfl
        intro fd' hfd
        have hfdH : H fd' = none := sH3.free hfd
        refine ⟨_, rfl, fr, rfl, ⟨_, SqT.of (by rw [upd_ne (ne_of_none (sH3 _ _ hf) hfd)]; exact sH3 _ _ hf)⟩, for_tup (xs := stv fs) (fun i σ H' => ∃ (es : List (Str × Str)) (v4 v5 v6 v7 v8 v9 v10 v11 v12 v13 v14 : Option V), σ = slW m tr fr fd' v4 v5 v6 v7 v8 v9 v10 v11 v12 v13 v14 ∧ Same H H' ∧ H' fd' = some (.dK (esK es)) ∧ es.map (·.1) = fs.take i ∧ ∀ e ∈ es, Tells ss fs ws e.1 e.2) ?_ ?_ ?_ ?_⟩
        · exact ⟨[], _, _, _, _, _, _, _, _, _, _, _, rfl, same_put sH3 hfdH, upd_same, rfl, fun e he => absurd he (by simp)⟩
        · rintro i σ H' hi ⟨es, _, _, _, _, _, _, _, _, _, _, _, rfl, sm, _⟩
          exact SqT.of (sm _ _ hf)
        · rintro i y σ H' hy ⟨es, v4, v5, v6, v7, v8, v9, v10, v11, v12, v13, v14, rfl, sm, hd, hes, hte⟩
          rw [List.getElem?_map] at hy
          cases e : fs[i]? with
          | none => rw [e] at hy; cases hy
          | some kd =>
            rw [e] at hy
            have ey := Option.some.inj hy
            subst ey
            -- states = closed(machine, free, kind, {(0, False): True})
            refine ⟨_, rfl, _, rfl, _, rfl, fun p hp => ⟨(by show 2 ≤ sizeLine; decide), fun q hq => ?_⟩⟩
            have npq : p ≠ q := fun z => by rw [← z, upd_same] at hq; cases hq
            have hqH : H' q = none := by rw [upd_ne npq.symm] at hq; exact hq
            refine ⟨q, pV (0, false), rfl, by rw [upd_ne npq, upd_same] <;> rfl, upd_same, rfl, ?_⟩
            obtain ⟨H4, e4⟩ : ∃ H4, H4 = upd (upd (upd H' p (dsO P w p [])) q (.tup [.int 0, .bl false])) p (dsO P w p [(pV (0, false), q)]) := ⟨_, rfl⟩
            have s4 : Same H' H4 := by rw [e4]; exact same_put (same_put (same_put (Same.refl _) hp) hqH) hp
            have h4p : H4 p = some (dsO P w p ([(q, ((0 : Int), false))].map encP)) := by rw [e4, upd_same]; rfl
            have h4q : H4 q = some (.tup (pV (0, false))) := by rw [e4, upd_ne npq.symm, upd_same]
            have at4 : At2 H4 [(q, ((0 : Int), false))] := fun c hc => by
              have ec : c = (q, ((0 : Int), false)) := by simpa using hc
              rw [ec]
              exact h4q
            subst e4
            refine ⟨m, fr, p, kd, many, ss, fs, [(q, ((0 : Int), false))], rfl, (hm.same sm).same s4, okm, s4 _ _ (sm _ _ hf), h4p, at4, by simp, fun c hc => ?_, fun H5 d5 ps5 s5 hd5 at5 mem5 nd5 rg5 _ => ?_⟩
            · have ec : c = ((0 : Int), false) := by simpa using hc
              rw [ec]
              have := okm.lo
              exact ⟨Int.le_refl _, by show (0 : Int) < many; omega⟩
            have sm5 : Same H H5 := (sm.trans s4).trans s5
            refine ⟨m, tr, fr, fd', d5, kd, many, ss, fs, ws, ps5, _, _, _, _, _, _, _, _, _, rfl, hm.same sm5, okm, sm5 _ _ hf, sm5 _ _ htr, hd5, at5, nd5, rg5, fun H6 st6 ps6 u6 u7 u8 u9 u10 u11 u12 u13 u14 s6 hst6 at6 mem6 nd6 rg6 => ?_⟩
            have l6 : ps6.length ≤ 10 := by
              have := pairs_len nd6 rg6
              rw [List.length_map] at this
              have := okm.hi
              omega
            refine ⟨m, tr, fr, fd', st6, kd, ps6, _, _, _, _, _, _, _, _, _, rfl, hst6, at6, by omega, fun H7 t7 s7 ht7 => ?_⟩
            have s47 : Same H' H7 := ((s4.trans s5).trans s6).trans s7
            have hd7 := s47 _ _ hd
            have hnk : kd ∉ es.map (·.1) := by
              rw [hes]
              intro hk
              have nd' := okF_nodup okf
              obtain ⟨j, hj, ej⟩ := List.mem_iff_getElem.mp hk
              rw [List.length_take] at hj
              rw [List.getElem_take] at ej
              have hi3 := (List.getElem?_eq_some_iff.mp e)
              have : j = i := (List.getElem_inj (h₀ := by omega) (h₁ := hi3.1) nd').mp (ej.trans hi3.2.symm)
              omega
            have lfs := okF_len okf
            have les : es.length ≤ 2 := by
              have h1 : es.length = (fs.take i).length := by rw [← hes, List.length_map]
              rw [List.length_take] at h1
              omega
            have fin : ∀ z : Str, Tells ss fs ws kd z → ∃ (es' : List (Str × Str)) (v4 v5 v6 v7 v8 v9 v10 v11 v12 v13 v14 : Option V), slW m tr fr fd' (some (.str kd)) (some (.ref st6)) u6 u7 u8 u9 u10 u11 u12 u13 (some (.ref t7)) = slW m tr fr fd' v4 v5 v6 v7 v8 v9 v10 v11 v12 v13 v14 ∧ Same H (upd H7 fd' (.dK (putK (esK es) (Sum.inr kd) (.str z)))) ∧ upd H7 fd' (.dK (putK (esK es) (Sum.inr kd) (.str z))) fd' = some (.dK (esK es')) ∧ es'.map (·.1) = fs.take (i + 1) ∧ ∀ e ∈ es', Tells ss fs ws e.1 e.2 := fun z hz => by
              refine ⟨es ++ [(kd, z)], _, _, _, _, _, _, _, _, _, _, _, rfl, same_put (sm.trans s47) hfdH, ?_, ?_, fun c hc => ?_⟩
              · rw [upd_same, putK_new _ (esK_none es kd hnk)]
                unfold esK
                rw [List.map_append]
                rfl
              · rw [take_more e, List.map_append, hes]
                rfl
              · rcases List.mem_append.mp hc with q | q
                · exact hte c q
                · have ec : c = (kd, z) := by simpa using q
                  rw [ec]
                  exact hz
            have hT := tells_of (ss := ss) (fs := fs) (ws := ws) (kd := kd) (l := ps6.map (·.2)) (fun p => (mem6 p).trans (pruns_congr ws (fun y => (mem5 y).trans (Clo.congr (fun c => by simp) y)) p))
            have eb : (ps6.map (·.2)).map (·.2) = ps6.map fun q => q.2.2 := by rw [List.map_map]; rfl
            rw [eb] at hT
            have hsz : (esK es).length < sizeLine := by rw [List.length_map, sizeLine_eq]; omega
            refine ⟨_, rfl, t7, _, rfl, SqL.of ht7, _, rfl, ite2 (fun ha => ?_) (fun ha => ⟨_, rfl, t7, _, rfl, SqL.of ht7, _, rfl, ite2 (fun hb => ?_) (fun hb => ?_)⟩)⟩
            · exact ⟨_, rfl, _, rfl, fd', _, rfl, DPut.k (k := Sum.inr kd) hd7 hsz, fin _ (hT.1 ha)⟩
            · exact ⟨_, rfl, _, rfl, fd', _, rfl, DPut.k (k := Sum.inr kd) hd7 hsz, fin _ (hT.2.1 (Bool.eq_false_iff.mpr ha) hb)⟩
            · exact ⟨_, rfl, _, rfl, fd', _, rfl, DPut.k (k := Sum.inr kd) hd7 hsz, fin _ (hT.2.2 (Bool.eq_false_iff.mpr ha) (Bool.eq_false_iff.mpr hb))⟩
        · rintro σ H' ⟨es, v4, v5, v6, v7, v8, v9, v10, v11, v12, v13, v14, rfl, sm, hd, hes, hte⟩
          rw [List.length_map, List.take_length] at hes
          exact ⟨_, rfl, k1 has H' fd' es sm hd hes hte⟩
    · refine ⟨_, pss_cons (ps_expr (pe_call C.GK hr rfl C.mK C.kK C.bK .nil pass0 (pa_cons (pv 2) pa_nil)))
        (pss_cons (ps_if (pt_not (pt_val (pe_meth (pe_make C.M C.GI hr2 rfl C.mV C.bI .nil pass0 (pa_cons (pv 0) (pa_cons (pv 2) pa_nil))) C.T.cl C.mH C.GH hr C.bH .nil pass0 (pa_cons (pv 1) pa_nil)))) (pss_one (ps_raise rfl (takes_of rfl rfl rfl rfl) (pmk_own PySem.F.excBase_ValueError X.x X.g X.k (raises_own X.b X.t) rfl))) pss_nil)
        (PSs.nox (pss_cons (ps_set (i := 3) nd rfl (Or.inl rfl) pe_dnewK)
        (pss_cons (ps_for PassesOwn.never rfl (pi_tup (pv 2)) (pg_name (i := 4) nd rfl (Or.inl rfl))
          (pss_cons (ps_set (i := 5) nd rfl (Or.inl rfl) (pe_call GC hr1 rfl mC kC bC .nil pass0 (pa_cons (pv 0) (pa_cons (pv 2) (pa_cons (pv 4) (pa_cons (pe_disp1 hu20 (pe_tup (pa_cons pe_int (pa_cons pe_bl pa_nil))) pe_bl) pa_nil))))))
          (pss_cons (watch_wordsT T hr GC mC kC bC)
          (pss_cons watch_told
          (pss_one (ps_dput hu (pv 3) (pv 4) (pe_ifExp (pt_val (pe_callB (cr_all rfl) (by rfl) B.all (by decide +kernel) (pa_cons (pv 14) pa_nil))) pe_str (pe_ifExp (pt_val (pe_callB (cr_any rfl) (by rfl) B.any (by decide +kernel) (pa_cons (pv 14) pa_nil))) pe_str pe_str)) rfl))))))
        (pss_one (ps_ret (pv 3))))))), ?_⟩
      refine ⟨_, rfl, fr, fs, rfl, hf, okf, fun H1 s1 => ?_⟩
      refine ⟨_, rfl, _, rfl, fun x dx nx ndx ne => ⟨x, dx, m, fr, many, ss, fs, rfl, upd_same, (hm.same s1).same (same_made nx ndx), okm, same_made nx ndx _ _ (s1 _ _ hf), fun H2 kp2 hv2 => ⟨rfl, ?_⟩⟩⟩
      have s2 : Same H H2 := s1.trans (keep_made nx ndx kp2)
      obtain ⟨dv, a, b, L, M, v1, v2⟩ := id hv2
      refine ⟨x, dv, _, rfl, v1, rfl, _, rfl, x, tr, many, ss, fs, ws, rfl, hv2, okm, .inr (s2 _ _ htr), hws, fun H3 r s3 hr3 => ⟨_, rfl, ?_⟩⟩
      have sH3 := s2.trans s3
      cases r with
      | false => exact k2 (fun hh => Bool.noConfusion (hr3.mpr hh)) H3 sH3
      | true =>
        have has := hr3.mp rfl
        intro fd' hfd
        have hfdH : H fd' = none := sH3.free hfd
        refine ⟨_, rfl, fr, rfl, ⟨_, SqT.of (by rw [upd_ne (ne_of_none (sH3 _ _ hf) hfd)]; exact sH3 _ _ hf)⟩, for_tup (xs := stv fs) (fun i σ H' => ∃ (es : List (Str × Str)) (v4 v5 v6 v7 v8 v9 v10 v11 v12 v13 v14 : Option V), σ = slW m tr fr fd' v4 v5 v6 v7 v8 v9 v10 v11 v12 v13 v14 ∧ Same H H' ∧ H' fd' = some (.dK (esK es)) ∧ es.map (·.1) = fs.take i ∧ ∀ e ∈ es, Tells ss fs ws e.1 e.2) ?_ ?_ ?_ ?_⟩
        · exact ⟨[], _, _, _, _, _, _, _, _, _, _, _, rfl, same_put sH3 hfdH, upd_same, rfl, fun e he => absurd he (by simp)⟩
        · rintro i σ H' hi ⟨es, _, _, _, _, _, _, _, _, _, _, _, rfl, sm, _⟩
          exact SqT.of (sm _ _ hf)
        · rintro i y σ H' hy ⟨es, v4, v5, v6, v7, v8, v9, v10, v11, v12, v13, v14, rfl, sm, hd, hes, hte⟩
          rw [List.getElem?_map] at hy
          cases e : fs[i]? with
          | none => rw [e] at hy; cases hy
          | some kd =>
            rw [e] at hy
            have ey := Option.some.inj hy
            subst ey
            -- states = closed(machine, free, kind, {(0, False): True})
            refine ⟨_, rfl, _, rfl, _, rfl, fun p hp => ⟨(by show 2 ≤ sizeLine; decide), fun q hq => ?_⟩⟩
            have npq : p ≠ q := fun z => by rw [← z, upd_same] at hq; cases hq
            have hqH : H' q = none := by rw [upd_ne npq.symm] at hq; exact hq
            refine ⟨q, pV (0, false), rfl, by rw [upd_ne npq, upd_same] <;> rfl, upd_same, rfl, ?_⟩
            obtain ⟨H4, e4⟩ : ∃ H4, H4 = upd (upd (upd H' p (dsO P w p [])) q (.tup [.int 0, .bl false])) p (dsO P w p [(pV (0, false), q)]) := ⟨_, rfl⟩
            have s4 : Same H' H4 := by rw [e4]; exact same_put (same_put (same_put (Same.refl _) hp) hqH) hp
            have h4p : H4 p = some (dsO P w p ([(q, ((0 : Int), false))].map encP)) := by rw [e4, upd_same]; rfl
            have h4q : H4 q = some (.tup (pV (0, false))) := by rw [e4, upd_ne npq.symm, upd_same]
            have at4 : At2 H4 [(q, ((0 : Int), false))] := fun c hc => by
              have ec : c = (q, ((0 : Int), false)) := by simpa using hc
              rw [ec]
              exact h4q
            subst e4
            refine ⟨m, fr, p, kd, many, ss, fs, [(q, ((0 : Int), false))], rfl, (hm.same sm).same s4, okm, s4 _ _ (sm _ _ hf), h4p, at4, by simp, fun c hc => ?_, fun H5 d5 ps5 s5 hd5 at5 mem5 nd5 rg5 _ => ?_⟩
            · have ec : c = ((0 : Int), false) := by simpa using hc
              rw [ec]
              have := okm.lo
              exact ⟨Int.le_refl _, by show (0 : Int) < many; omega⟩
            have sm5 : Same H H5 := (sm.trans s4).trans s5
            refine ⟨m, tr, fr, fd', d5, kd, many, ss, fs, ws, ps5, _, _, _, _, _, _, _, _, _, rfl, hm.same sm5, okm, sm5 _ _ hf, sm5 _ _ htr, hd5, at5, nd5, rg5, fun H6 st6 ps6 u6 u7 u8 u9 u10 u11 u12 u13 u14 s6 hst6 at6 mem6 nd6 rg6 => ?_⟩
            have l6 : ps6.length ≤ 10 := by
              have := pairs_len nd6 rg6
              rw [List.length_map] at this
              have := okm.hi
              omega
            refine ⟨m, tr, fr, fd', st6, kd, ps6, _, _, _, _, _, _, _, _, _, rfl, hst6, at6, by omega, fun H7 t7 s7 ht7 => ?_⟩
            have s47 : Same H' H7 := ((s4.trans s5).trans s6).trans s7
            have hd7 := s47 _ _ hd
            have hnk : kd ∉ es.map (·.1) := by
              rw [hes]
              intro hk
              have nd' := okF_nodup okf
              obtain ⟨j, hj, ej⟩ := List.mem_iff_getElem.mp hk
              rw [List.length_take] at hj
              rw [List.getElem_take] at ej
              have hi3 := (List.getElem?_eq_some_iff.mp e)
              have : j = i := (List.getElem_inj (h₀ := by omega) (h₁ := hi3.1) nd').mp (ej.trans hi3.2.symm)
              omega
            have lfs := okF_len okf
            have les : es.length ≤ 2 := by
              have h1 : es.length = (fs.take i).length := by rw [← hes, List.length_map]
              rw [List.length_take] at h1
              omega
            have fin : ∀ z : Str, Tells ss fs ws kd z → ∃ (es' : List (Str × Str)) (v4 v5 v6 v7 v8 v9 v10 v11 v12 v13 v14 : Option V), slW m tr fr fd' (some (.str kd)) (some (.ref st6)) u6 u7 u8 u9 u10 u11 u12 u13 (some (.ref t7)) = slW m tr fr fd' v4 v5 v6 v7 v8 v9 v10 v11 v12 v13 v14 ∧ Same H (upd H7 fd' (.dK (putK (esK es) (Sum.inr kd) (.str z)))) ∧ upd H7 fd' (.dK (putK (esK es) (Sum.inr kd) (.str z))) fd' = some (.dK (esK es')) ∧ es'.map (·.1) = fs.take (i + 1) ∧ ∀ e ∈ es', Tells ss fs ws e.1 e.2 := fun z hz => by
              refine ⟨es ++ [(kd, z)], _, _, _, _, _, _, _, _, _, _, _, rfl, same_put (sm.trans s47) hfdH, ?_, ?_, fun c hc => ?_⟩
              · rw [upd_same, putK_new _ (esK_none es kd hnk)]
                unfold esK
                rw [List.map_append]
                rfl
              · rw [take_more e, List.map_append, hes]
                rfl
              · rcases List.mem_append.mp hc with q | q
                · exact hte c q
                · have ec : c = (kd, z) := by simpa using q
                  rw [ec]
                  exact hz
            have hT := tells_of (ss := ss) (fs := fs) (ws := ws) (kd := kd) (l := ps6.map (·.2)) (fun p => (mem6 p).trans (pruns_congr ws (fun y => (mem5 y).trans (Clo.congr (fun c => by simp) y)) p))
            have eb : (ps6.map (·.2)).map (·.2) = ps6.map fun q => q.2.2 := by rw [List.map_map]; rfl
            rw [eb] at hT
            have hsz : (esK es).length < sizeLine := by rw [List.length_map, sizeLine_eq]; omega
            refine ⟨_, rfl, t7, _, rfl, SqL.of ht7, _, rfl, ite2 (fun ha => ?_) (fun ha => ⟨_, rfl, t7, _, rfl, SqL.of ht7, _, rfl, ite2 (fun hb => ?_) (fun hb => ?_)⟩)⟩
            · exact ⟨_, rfl, _, rfl, fd', _, rfl, DPut.k (k := Sum.inr kd) hd7 hsz, fin _ (hT.1 ha)⟩
            · exact ⟨_, rfl, _, rfl, fd', _, rfl, DPut.k (k := Sum.inr kd) hd7 hsz, fin _ (hT.2.1 (Bool.eq_false_iff.mpr ha) hb)⟩
            · exact ⟨_, rfl, _, rfl, fd', _, rfl, DPut.k (k := Sum.inr kd) hd7 hsz, fin _ (hT.2.2 (Bool.eq_false_iff.mpr ha) (Bool.eq_false_iff.mpr hb))⟩
        · rintro σ H' ⟨es, v4, v5, v6, v7, v8, v9, v10, v11, v12, v13, v14, rfl, sm, hd, hes, hte⟩
          rw [List.length_map, List.take_length] at hes
          exact ⟨_, rfl, k1 has H' fd' es sm hd hes hte⟩
end
end K25

/-! K25: the watcher. -/
namespace K25
open PySem PySem.Spec PyProof.Rows L2
structure TW (K : PySem.W.Frag) (CW : Addr) : Prop where
  cl : Cls K CW
  machine : NoAttr K CW "machine"
  free : NoAttr K CW "free"
  seen : NoAttr K CW "seen"
  asked : NoAttr K CW "asked"
def wF (m f s a : V) : List (Str × V) := [("machine", m), ("free", f), ("seen", s), ("asked", a)]
/-- a watcher's parts; its own object stands by itself -/
structure WParts (CM : Addr) (H : Hp) (m fr sn : Addr) (many : Nat) (ss : List Stp) (fs ws : List Str) : Prop where
  mach : MachAt CM H m many ss
  okm : OkM many ss
  free : H fr = some (.tup (stv fs))
  okf : OkF fs
  seen : H sn = some (.tup (stv ws))
  words : ∀ z ∈ ws, z ≠ ""
theorem WParts.same {CM : Addr} {H H' : Hp} {m fr sn : Addr} {many : Nat} {ss : List Stp} {fs ws : List Str} (x : WParts CM H m fr sn many ss fs ws) (s : Same H H') : WParts CM H' m fr sn many ss fs ws :=
  ⟨x.mach.same s, x.okm, s _ _ x.free, x.okf, s _ _ x.seen, x.words⟩
/-- over all objects but an instance of another class -/
theorem WParts.keep {CM CW : Addr} {H H' : Hp} {p dx m fr sn : Addr} {many : Nat} {ss : List Stp} {fs ws : List Str} {m0 f0 s0 a0 : V} (x : WParts CM H m fr sn many ss fs ws) (hp : H p = some (.ins CW dx (wF m0 f0 s0 a0))) (k : KeepP p H H') : WParts CM H' m fr sn many ss fs ws := by
  have nt : ∀ a xs, H a = some (.tup xs) → a ≠ p := fun a xs e => ne_of e hp (fun z => nomatch z)
  refine ⟨?_, x.okm, k _ _ (nt _ _ x.free) x.free, x.okf, k _ _ (nt _ _ x.seen) x.seen, x.words⟩
  obtain ⟨mx, a, b, c, d, zs, L, h1, h2, h3, h4, h5, h6⟩ := x.mach
  obtain ⟨⟨kvs, k1, k2, k3⟩, inj⟩ := h5
  refine ⟨mx, a, b, c, d, zs, L, k _ _ (ne_of h1 hp (fun z => by injection z with _ _ z; cases z)) h1, k _ _ (nt _ _ h2) h2, fun z hz => k _ _ (nt _ _ (h3 z hz)) (h3 z hz), h4, ⟨⟨kvs, k _ _ (ne_of k1 hp (fun z => nomatch z)) k1, k2, k3⟩, inj⟩, fun i hi => ?_⟩
  obtain ⟨us, u1, u2, u3⟩ := h6 i hi
  exact ⟨us, k _ _ (ne_of u1 hp (fun z => nomatch z)) u1, fun z hz => k _ _ (nt _ _ (u2 z hz)) (u2 z hz), u3⟩
def spGetter (CW : Addr) : Sp := fun vs H Q _ => ∃ (p dx : Addr) (m f s a : V), vs = [.ref p] ∧ H p = some (.ins CW dx (wF m f s a)) ∧ Q a H
/-- may about be asked -/
def OkA (fs : List Str) (v : V) : Prop := v = .non ∨ ∃ z : Str, v = .str z ∧ z ∈ fs
def spWSet (CM CW CB : Addr) : Sp := fun vs H Q E => ∃ (p dx m fr sn : Addr) (v av : V) (many : Nat) (ss : List Stp) (fs ws : List Str), vs = [.ref p, v] ∧ H p = some (.ins CW dx (wF (.ref m) (.ref fr) (.ref sn) av)) ∧ WParts CM H m fr sn many ss fs ws ∧
  (v = .non ∨ (∃ i : Int, v = .int i) ∨ ∃ z : Str, v = .str z ∧ z.cps.size ≤ 1000) ∧
  (OkA fs v → ∀ H', KeepP p H H' → H' p = some (.ins CW dx (wF (.ref m) (.ref fr) (.ref sn) v)) → Q .non H') ∧ (¬ OkA fs v → ∀ H', Same H H' → E (.ref CB) none H')
section
variable {P : Program} {w : World} {K : PySem.W.Frag} {mg : Str → Option Value} {base : Heap} {f CM CW CB CN fA fS fT : Addr} {fd fdA fdS fdT : FuncData}
theorem ok_getter (F : FnP K "about" "Watcher.about" sWAbout f fd) (T : TW K CW) : FnC P w K mg base CX0 1 f fd ["self"] (spGetter CW) := by
  refine fnC_ok F scWAbout (fun vs H Q E h => ?_) (fun cdv A outer s H vs Q E hr h => ?_)
  · obtain ⟨p, dx, m, f, s, a, rfl, _⟩ := h
    rfl
  · obtain ⟨p, dx, m, f, s, a, rfl, hp, k⟩ := h
    refine ⟨_, pss_one (ps_ret (pe_fld (pv 0) rfl)), ?_⟩
    exact ⟨_, rfl, p, CW, dx, _, _, rfl, hp, T.cl, T.asked, rfl, k⟩
theorem ok_wset (F : FnP K "about" "Watcher.about" sWSet f fd) (T : TW K CW) (GA : FnOk P w K mg base (L2.CX P w) 4 fA fdA ["kind", "free"] (spCheckAsked CB)) (mA : mg "check_asked" = some (.ref fA)) (kA : PySem.W.keepIn K (.ref fA) = true) (bA : Binds K fdA ["kind", "free"] []) : FnOk P w K mg base (L2.CX P w) 5 f fd ["self", "about"] (spWSet CM CW CB) := by
  refine F.ok scWSet (fun vs H Q E h => ?_) (fun cdv A outer s H vs Q E hr h => ?_)
  · obtain ⟨p, dx, m, fr, sn, v, av, many, ss, fs, ws, rfl, _⟩ := h
    rfl
  · obtain ⟨p, dx, m, fr, sn, v, av, many, ss, fs, ws, rfl, hp, hw, hv, k1, k2⟩ := h
    refine ⟨_, pss_cons (ps_if (pt_cmpR op_notN (pv 1) pe_non (nomark _)) (pss_one (ps_expr (pe_callS GA hr rfl mA kA bA (fun σ => passAt (takes_of rfl rfl rfl rfl) σ) (pa_cons (pv 1) (pa_cons (pe_fld (pv 0) rfl) pa_nil))))) pss_nil)
      (pss_one (ps_fld (pv 0) (pv 1) rfl)), ?_⟩
    refine ⟨_, rfl, rfl, _, rfl, ?_⟩
    by_cases hn : v = .non
    · refine ifF (by rw [decide_eq_true hn]; rfl) ?_
      refine ⟨_, rfl, _, rfl, p, CW, dx, _, rfl, hp, T.cl, T.asked, (by show 4 < 1000; decide), ?_⟩
      exact k1 (.inl hn) _ (KeepP.own fun b o _ e => e) upd_same
    · refine ifT (by rw [decide_eq_false hn]; rfl) ?_
      refine ⟨_, rfl, _, rfl, p, CW, dx, _, _, rfl, hp, T.cl, T.free, rfl, v, fr, fs, rfl, hv.resolve_left hn, hw.free, hw.okf, fun hz H1 s1 => ?_, fun hz H1 s1 => ?_⟩
      · refine ⟨_, rfl, _, rfl, p, CW, dx, _, rfl, s1 _ _ hp, T.cl, T.asked, (by show 4 < 1000; decide), ?_⟩
        exact k1 (.inr hz) _ (KeepP.own fun b o _ e => s1 b o e) upd_same
      · exact k2 (fun q => q.elim hn hz) H1 s1
theorem ok_ask (F : FnP K "ask" "Watcher.ask" sWAsk f fd) (T : TW K CW) {pp : Addr} (pS : PropSet K CW "about" pp fS) (GS : FnOk P w K mg base (L2.CX P w) 5 fS fdS ["self", "about"] (spWSet CM CW CB)) (bS : Binds K fdS ["self", "about"] []) : FnOk P w K mg base (L2.CX P w) 8 f fd ["self", "about"] (spWSet CM CW CB) := by
  refine F.ok scWAsk (fun vs H Q E h => ?_) (fun cdv A outer s H vs Q E hr h => ?_)
  · obtain ⟨p, dx, m, fr, sn, v, av, many, ss, fs, ws, rfl, _⟩ := h
    rfl
  · obtain ⟨p, dx, m, fr, sn, v, av, many, ss, fs, ws, rfl, hp, hw, hv, k1, k2⟩ := h
    refine ⟨_, pss_one (ps_pset (pv 0) (pv 1) T.cl pS (GS.raw bS .nil) hr (fun σ => passAt (takes_of rfl rfl rfl rfl) σ)), ?_⟩
    refine ⟨_, rfl, _, rfl, p, dx, _, rfl, hp, ?_⟩
    exact ⟨p, dx, m, fr, sn, v, av, many, ss, fs, ws, rfl, hp, hw, hv, k1, k2⟩
end
end K25

/-! K25: the watcher's see. -/
namespace K25
open PySem PySem.Spec PyProof.Rows L2
/-- what get(asked) gives of what is told behind ws -/
def TellV (ss : List Stp) (fs ws : List Str) (av o : V) : Prop := (av = .non ∧ o = .non) ∨ ∃ z y : Str, av = .str z ∧ o = .str y ∧ Tells ss fs ws z y
theorem TellV.inj {ss : List Stp} {fs ws : List Str} {av o o' : V} (h : TellV ss fs ws av o) (h' : TellV ss fs ws av o') : o = o' := by
  rcases h with ⟨a, b⟩ | ⟨z, y, a, b, c⟩ <;> rcases h' with ⟨a', b'⟩ | ⟨z', y', a', b', c'⟩
  · rw [b, b']
  · rw [a] at a'; cases a'
  · rw [a] at a'; cases a'
  · rw [a] at a'
    injection a' with e
    subst e
    rw [b, b', Tells.inj ss fs c c']
theorem esK_some : ∀ (es : List (Str × Str)) (z : Str), z ∈ es.map (·.1) → ∃ y, (z, y) ∈ es ∧ valV (esK es) (Sum.inr z) = some (.str y)
  | [], _, h => absurd h (by simp)
  | e :: es, z, h => by
    by_cases q : e.1 = z
    · refine ⟨e.2, by rw [← q]; simp, ?_⟩
      show valV ((Sum.inr e.1, V.str e.2) :: esK es) (Sum.inr z) = _
      rw [valV_pos (by rw [q])]
    · have hm : z ∈ es.map (·.1) := by
        rcases List.mem_cons.mp h with c | c
        · exact absurd c.symm q
        · exact c
      obtain ⟨y, h1, h2⟩ := esK_some es z hm
      refine ⟨y, List.mem_cons_of_mem _ h1, ?_⟩
      show valV ((Sum.inr e.1, V.str e.2) :: esK es) (Sum.inr z) = _
      rw [valV_neg fun c => q (Sum.inr.inj c)]
      exact h2
def SeeOk (ss : List Stp) (fs ws more : List Str) (av : V) (outs : List V) : Prop := outs.length = more.length ∧ ∀ j, j < more.length → ∃ o, outs[j]? = some o ∧ TellV ss fs (ws ++ more.take (j + 1)) av o
/-- see, its words in a tuple -/
def spSeeB (CM CW CN : Addr) : Sp := fun vs H Q E => ∃ (p dx m fr sn tw : Addr) (av : V) (many : Nat) (ss : List Stp) (fs ws more : List Str), vs = [.ref p, .ref tw] ∧ H p = some (.ins CW dx (wF (.ref m) (.ref fr) (.ref sn) av)) ∧ WParts CM H m fr sn many ss fs ws ∧ OkA fs av ∧
  H tw = some (.tup (stv more)) ∧ (∀ z ∈ more, z ≠ "") ∧ more ≠ [] ∧ (ws ++ more).length ≤ 1000 ∧
  (Has ss fs (ws ++ more) → ∀ (H' : Hp) (l sn' : Addr) (outs : List V), KeepP p H H' → H' p = some (.ins CW dx (wF (.ref m) (.ref fr) (.ref sn') av)) → H' sn' = some (.tup (stv (ws ++ more))) → H' l = some (.lst outs) → SeeOk ss fs ws more av outs → Q (.ref l) H') ∧
  (¬ Has ss fs (ws ++ more) → ∀ H', Same H H' → E (.ref CN) none H')
def spSee (CM CW CN : Addr) : Sp := fun vs H Q E => ∃ (p dx m fr sn : Addr) (av : V) (many : Nat) (ss : List Stp) (fs ws more : List Str), vs = .ref p :: stv more ∧ H p = some (.ins CW dx (wF (.ref m) (.ref fr) (.ref sn) av)) ∧ WParts CM H m fr sn many ss fs ws ∧ OkA fs av ∧
  (∀ z ∈ more, z ≠ "") ∧ more ≠ [] ∧ (ws ++ more).length ≤ 1000 ∧
  (Has ss fs (ws ++ more) → ∀ (H' : Hp) (l sn' : Addr) (outs : List V), KeepP p H H' → H' p = some (.ins CW dx (wF (.ref m) (.ref fr) (.ref sn') av)) → H' sn' = some (.tup (stv (ws ++ more))) → H' l = some (.lst outs) → SeeOk ss fs ws more av outs → Q (.ref l) H') ∧
  (¬ Has ss fs (ws ++ more) → ∀ H', Same H H' → E (.ref CN) none H')
section
variable {P : Program} {w : World} {K : PySem.W.Frag} {mg : Str → Option Value} {base : Heap} {f CM CW CB CN fA fS fT : Addr} {fd fdA fdS fdT : FuncData}
theorem ok_see (F : FnP K "see" "Watcher.see" sWSee f fd) (B : Bi mg) (T : TW K CW) (GT : FnOk P w K mg base (L2.CX P w) 4 fT fdT ["machine", "trace", "free"] (spWatch CM CN)) (mT : mg "watch" = some (.ref fT)) (kT : PySem.W.keepIn K (.ref fT) = true) (bT : Binds K fdT ["machine", "trace", "free"] []) :
    FnR P w K mg base (L2.CX P w) 5 f (spSee CM CW CN) := by
  obtain ⟨oc, od, dV, kV, doc, pm, an, cdv, ct, osl, rfl, lk, hcd, hD, hK⟩ := F.ex
  rcases hD with ⟨_, rfl⟩ | ⟨e, _⟩
  rotate_left
  · exact absurd rfl e
  refine FnR.imp (StX.fn_star (N := ["self", "words", "found", "seen", "word", "told"]) (ps := ["self"]) (pv := "words") (k := 4) (sp := spSeeB CM CW CN) lk hcd scWSee StX.cxUp (StX.bind_star1 (B := fun xs => bindArgs (PySem.W.fnOf "see" "Watcher.see" (defArgs sWSee) (defBody sWSee) (defScope sWSee) .none kV doc pm an cdv ct) ⟨xs, []⟩) (p1 := "self") (pv := "words") (fun _ => rfl) (fun _ _ _ => rfl)) (fun A outer s H vs Q E hr h => ?_)) (fun vs H Q E h => ?_)
  · obtain ⟨p, dx, m, fr, sn, tw, av, many, ss, fs, ws, more, rfl, hp, hw, hA, htw, hmw, hne, hlen, k1, k2⟩ := h
    have hu := hu_of hr
    have nd := scWSee.nd
    refine ⟨_, pss_cons (ps_par (i := 2) (j := 3) (by rfl) nd rfl rfl (by decide) rfl rfl (pa_cons (pe_lst pa_nil) (pa_cons (pe_fld (pv 0) rfl) pa_nil)) (by rfl))
      (pss_cons (ps_for (passes_of rfl) rfl (pi_tup (pv 1)) (pg_name (i := 4) nd rfl (Or.inl rfl))
        (pss_cons (ps_set (i := 3) nd rfl (Or.inl rfl) (pe_tup (StX.pa_star (pv 3) (pa_cons (pv 4) pa_nil))))
        (pss_cons (ps_set (i := 5) nd rfl (Or.inl rfl) (pe_callS GT hr rfl mT kT bT (fun σ => passAt (takes_of rfl rfl rfl rfl) σ) (pa_cons (pe_fld (pv 0) rfl) (pa_cons (pv 3) (pa_cons (pe_fld (pv 0) rfl) pa_nil)))))
        (pss_one (ps_expr (pe_bm PySem.F.plainAttrs_list PySem.F.slot_list_append PySem.F.type_list_append mt_append (pv 2) (pa_cons (pe_dgetN hu (pv 5) (pe_fld (pv 0) rfl) ⟨rfl, rfl, rfl, rfl⟩) pa_nil)))))))
      (pss_cons (ps_fld (pv 0) (pv 3) rfl) (pss_one (ps_ret (pv 2))))), ?_⟩
    refine ⟨Nat.zero_le _, fun fl hfl => ?_⟩
    have s0 : Same H (upd H fl (.lst [])) := same_put (Same.refl _) hfl
    refine ⟨_, rfl, p, CW, dx, _, _, rfl, s0 _ _ hp, T.cl, T.seen, rfl, _, _, rfl, ?_⟩
    refine ⟨_, rfl, tw, rfl, ⟨_, SqT.of (s0 _ _ htw)⟩, for_tup (xs := stv more) (fun i σ H' => ∃ (si : Addr) (v4 v5 : Option V) (outs : List V), σ = [some (.ref p), some (.ref tw), some (.ref fl), some (.ref si), v4, v5] ∧ Same H H' ∧ H' fl = some (.lst outs) ∧ H' si = some (.tup (stv (ws ++ more.take i))) ∧ outs.length = i ∧
        (∀ j, j < i → ∃ o, outs[j]? = some o ∧ TellV ss fs (ws ++ more.take (j + 1)) av o) ∧ (i = 0 ∨ Has ss fs (ws ++ more.take i))) ?_ ?_ ?_ ?_⟩
    · refine ⟨sn, _, _, [], rfl, s0, upd_same, ?_, rfl, fun j hj => absurd hj (Nat.not_lt_zero _), .inl rfl⟩
      rw [List.take_zero, List.append_nil]
      exact s0 _ _ hw.seen
    · rintro i σ H' hi ⟨_, _, _, _, _, sm, _⟩
      exact SqT.of (sm _ _ htw)
    · rintro i y σ H' hy ⟨si, v4, v5, outs, rfl, sm, hl', hs', hol, hot, hhas⟩
      rw [List.getElem?_map] at hy
      cases e : more[i]? with
      | none => rw [e] at hy; cases hy
      | some z =>
        rw [e] at hy
        have ey := Option.some.inj hy
        subst ey
        have hi := (List.getElem?_eq_some_iff.mp e).1
        have hlen2 : ws.length + more.length ≤ 1000 := by rw [List.length_append] at hlen; exact hlen
        refine ⟨_, rfl, si, _, rfl, .inl (SqT.of hs'), _, rfl, ?_⟩
        refine ⟨?_, fun t ht => ?_⟩
        · rw [List.length_append, List.length_map, List.length_append, List.length_take, List.length_singleton, sizeLine_eq]
          omega
        have s1 : Same H' (upd H' t (.tup (stv (ws ++ more.take i) ++ [V.str z]))) := same_put (Same.refl _) ht
        have et : stv (ws ++ more.take i) ++ [V.str z] = stv (ws ++ more.take (i + 1)) := by
          rw [take_more e, ← List.append_assoc]
          unfold stv
          rw [List.map_append (l₁ := ws ++ List.take i more)]
          rfl
        have h1t : upd H' t (.tup (stv (ws ++ more.take i) ++ [V.str z])) t = some (.tup (stv (ws ++ more.take (i + 1)))) := by rw [upd_same, et]
        have hwd : ∀ y ∈ ws ++ more.take (i + 1), y ≠ "" := fun y hy => by
          rcases List.mem_append.mp hy with q | q
          · exact hw.words y q
          · exact hmw y (List.mem_of_mem_take q)
        have pre : Has ss fs (ws ++ more) → Has ss fs (ws ++ more.take (i + 1)) := fun q => by
          have e2 : ws ++ more = (ws ++ more.take (i + 1)) ++ more.drop (i + 1) := by rw [List.append_assoc, List.take_append_drop]
          rw [e2] at q
          exact q.left
        refine ⟨_, rfl, p, CW, dx, _, _, rfl, s1 _ _ (sm _ _ hp), T.cl, T.machine, rfl, _, rfl, _, rfl, p, CW, dx, _, _, rfl, s1 _ _ (sm _ _ hp), T.cl, T.free, rfl, m, t, fr, many, ss, fs, ws ++ more.take (i + 1), rfl, (hw.mach.same sm).same s1, hw.okm, .inr h1t, hwd, s1 _ _ (sm _ _ hw.free), hw.okf, fun hh H2 d es s2 hd hes hte => ?_, fun hh H2 s2 => ?_⟩
        · have hl2 := s2 _ _ (s1 _ _ hl')
          have hp2 := s2 _ _ (s1 _ _ (sm _ _ hp))
          have sm2 := (sm.trans s1).trans s2
          have nfl : t ≠ fl := (ne_of_none hl' ht).symm
          have fin : ∀ o : V, TellV ss fs (ws ++ more.take (i + 1)) av o → ∃ (si : Addr) (v4 v5 : Option V) (outs' : List V), ([some (.ref p), some (.ref tw), some (.ref fl), some (.ref t), some (.str z), some (.ref d)] : List (Option V)) = [some (.ref p), some (.ref tw), some (.ref fl), some (.ref si), v4, v5] ∧ Same H (upd H2 fl (.lst (outs ++ [o]))) ∧ upd H2 fl (.lst (outs ++ [o])) fl = some (.lst outs') ∧ upd H2 fl (.lst (outs ++ [o])) si = some (.tup (stv (ws ++ more.take (i + 1)))) ∧ outs'.length = i + 1 ∧
              (∀ j, j < i + 1 → ∃ o, outs'[j]? = some o ∧ TellV ss fs (ws ++ more.take (j + 1)) av o) ∧ (i + 1 = 0 ∨ Has ss fs (ws ++ more.take (i + 1))) := fun o ho => by
            refine ⟨t, _, _, outs ++ [o], rfl, same_put sm2 hfl, upd_same, by rw [upd_ne nfl]; exact s2 _ _ h1t, by rw [List.length_append, hol]; rfl, fun j hj => ?_, .inr hh⟩
            by_cases c : j = i
            · subst c
              exact ⟨o, by rw [List.getElem?_append_right (by omega), hol, Nat.sub_self]; rfl, ho⟩
            · obtain ⟨o', e1, e2⟩ := hot j (by omega)
              exact ⟨o', by rw [List.getElem?_append_left (by omega)]; exact e1, e2⟩
          have hos : outs.length < sizeLine := by rw [hol, sizeLine_eq]; omega
          refine ⟨_, rfl, .inl ⟨rfl, _, SqL.of hl2⟩, _, rfl, d, rfl, .inl ⟨_, .inl hd⟩, _, rfl, p, CW, dx, _, _, rfl, hp2, T.cl, T.asked, rfl, ?_⟩
          rcases hA with ea | ⟨u, ea, hu'⟩
          · exact .inl ⟨ea, ⟨_, .inl hd⟩, fl, _, _, rfl, rfl, hl2, hos, fin _ (.inl ⟨ea, rfl⟩)⟩
          · obtain ⟨y, hy1, hy2⟩ := esK_some es u (by rw [hes]; exact hu')
            have g : DGet H2 d av (some (.str y)) := by
              have q := DGet.k (k := Sum.inr u) hd
              rw [hy2] at q
              rw [ea]
              exact q
            exact .inr ⟨_, g, fl, _, _, rfl, rfl, hl2, hos, fin _ (.inr ⟨u, y, ea, rfl, hte (u, y) hy1⟩)⟩
        · exact k2 (fun q => hh (pre q)) H2 ((sm.trans s1).trans s2)
    · rintro σ H' ⟨si, v4, v5, outs, rfl, sm, hl', hs', hol, hot, hhas⟩
      rw [List.length_map] at hs' hol hot hhas
      rw [List.take_length] at hs' hhas
      have hh : Has ss fs (ws ++ more) := hhas.resolve_left fun q => hne (List.length_eq_zero_iff.mp q)
      refine ⟨_, rfl, _, rfl, p, CW, dx, _, rfl, sm _ _ hp, T.cl, T.seen, (by show 4 < 1000; decide), ?_⟩
      have hp' := sm _ _ hp
      refine ⟨_, rfl, k1 hh _ fl si outs (KeepP.own fun b o _ e => sm b o e) upd_same ?_ ?_ ⟨hol, hot⟩⟩
      · rw [upd_ne (ne_of hs' hp' (fun z => nomatch z))]
        exact hs'
      · rw [upd_ne (ne_of hl' hp' (fun z => nomatch z))]
        exact hl'
  · obtain ⟨p, dx, m, fr, sn, av, many, ss, fs, ws, more, rfl, hp, hw, hA, hmw, hne, hlen, k1, k2⟩ := h
    refine ⟨[.ref p], stv more, rfl, rfl, ?_, fun tw htw => ?_⟩
    · rw [List.length_append] at hlen
      rw [List.length_map, sizeLine_eq]
      omega
    have s1 : Same H (upd H tw (.tup (stv more))) := same_put (Same.refl _) htw
    exact ⟨p, dx, m, fr, sn, tw, av, many, ss, fs, ws, more, rfl, s1 _ _ hp, hw.same s1, hA, upd_same, hmw, hne, hlen, fun hh H' l sn' outs kp => k1 hh H' l sn' outs fun b o nb e => kp b o nb (s1 _ _ e), fun hh H' sm => k2 hh H' (s1.trans sm)⟩
end
end K25

/-! K25: the watcher's call, known, length, walk, making. -/
namespace K25
open PySem PySem.Spec PyProof.Rows L2
def spWCall (CM CW CN : Addr) : Sp := fun vs H Q E => ∃ (p dx m fr sn : Addr) (z : Str) (av : V) (many : Nat) (ss : List Stp) (fs ws : List Str), vs = [.ref p, .str z] ∧ H p = some (.ins CW dx (wF (.ref m) (.ref fr) (.ref sn) av)) ∧ WParts CM H m fr sn many ss fs ws ∧ OkA fs av ∧
  z ≠ "" ∧ ws.length ≤ 900 ∧
  (Has ss fs (ws ++ [z]) → ∀ (H' : Hp) (sn' : Addr) (o : V), KeepP p H H' → H' p = some (.ins CW dx (wF (.ref m) (.ref fr) (.ref sn') av)) → H' sn' = some (.tup (stv (ws ++ [z]))) → TellV ss fs (ws ++ [z]) av o → Q o H') ∧
  (¬ Has ss fs (ws ++ [z]) → ∀ H', Same H H' → E (.ref CN) none H')
def spKnown (CM CW : Addr) : Sp := fun vs H Q _ => ∃ (p dx m fr sn : Addr) (av : V) (many : Nat) (ss : List Stp) (fs ws : List Str), vs = [.ref p] ∧ H p = some (.ins CW dx (wF (.ref m) (.ref fr) (.ref sn) av)) ∧ WParts CM H m fr sn many ss fs ws ∧ Has ss fs ws ∧
  ∀ (H' : Hp) (d : Addr) (es : List (Str × Str)), Same H H' → H' d = some (.dK (esK es)) → es.map (·.1) = fs → (∀ e ∈ es, Tells ss fs ws e.1 e.2) → Q (.ref d) H'
/-- what is asked at first -/
def IniA (fs : List Str) (v a : V) : Prop := (v = .non ∧ fs = [] ∧ a = .non) ∨ (∃ z r, v = .non ∧ fs = z :: r ∧ a = .str z) ∨ ∃ z : Str, v = .str z ∧ a = .str z ∧ z.cps.size ≤ 1000
def spWInit (CM CW CB : Addr) : Sp := fun vs H Q E => ∃ (p dx m fr : Addr) (v a : V) (many : Nat) (ss : List Stp) (fs : List Str), vs = [.ref p, .ref m, .ref fr, v] ∧ H p = some (.ins CW dx []) ∧ MachAt CM H m many ss ∧ OkM many ss ∧ H fr = some (.tup (stv fs)) ∧ OkF fs ∧ IniA fs v a ∧
  (OkA fs a → ∀ (H' : Hp) (sn : Addr), KeepP p H H' → H' p = some (.ins CW dx (wF (.ref m) (.ref fr) (.ref sn) a)) → H' sn = some (.tup []) → Q .non H') ∧ (¬ OkA fs a → ∀ H', KeepP p H H' → E (.ref CB) none H')
theorem okF_str {fs : List Str} (h : OkF fs) : (stv fs).all okD = true := by
  rcases h with h | h | h <;> subst h <;> decide +kernel
section
variable {P : Program} {w : World} {K : PySem.W.Frag} {mg : Str → Option Value} {base : Heap} {f CM CW CB CN fA fS fT fK : Addr} {fd fdA fdS fdT fdK : FuncData}
theorem ok_wcall (F : FnP K "__call__" "Watcher.__call__" sWCall f fd) (T : TW K CW) (mS : Meth K CW "see" fS) (GS : FnR P w K mg base (L2.CX P w) 5 fS (spSee CM CW CN)) : FnOk P w K mg base (L2.CX P w) 6 f fd ["self", "word"] (spWCall CM CW CN) := by
  refine F.ok scWCall (fun vs H Q E h => ?_) (fun cdv A outer s H vs Q E hr h => ?_)
  · obtain ⟨p, dx, m, fr, sn, z, av, many, ss, fs, ws, rfl, _⟩ := h
    rfl
  · obtain ⟨p, dx, m, fr, sn, z, av, many, ss, fs, ws, rfl, hp, hw, hA, hz, hl, k1, k2⟩ := h
    refine ⟨_, pss_one (ps_ret (pe_ix ix_list (pe_methE (pv 0) T.cl mS GS hr (fun σ => passAt (takes_of rfl rfl rfl rfl) σ) (pa_cons (pv 1) pa_nil)) pe_int (fun _ _ => rfl))), ?_⟩
    refine ⟨_, rfl, p, dx, _, rfl, hp, rfl, _, rfl, p, dx, m, fr, sn, av, many, ss, fs, ws, [z], rfl, hp, hw, hA, fun y hy => by rw [show y = z by simpa using hy]; exact hz, by simp, by rw [List.length_append]; show ws.length + 1 ≤ 1000; omega, fun hh H' l sn' outs kp hp' hs' hl' so => ?_, k2⟩
    obtain ⟨o, e1, e2⟩ := so.2 0 (Nat.zero_lt_succ 0)
    exact ⟨l, outs, 0, o, rfl, rfl, SqL.of hl', atI_nat (j := 0) e1, k1 hh H' sn' o kp hp' hs' e2⟩
theorem ok_known (F : FnP K "known" "Watcher.known" sWKnown f fd) (T : TW K CW) (GT : FnOk P w K mg base (L2.CX P w) 4 fT fdT ["machine", "trace", "free"] (spWatch CM CN)) (mT : mg "watch" = some (.ref fT)) (kT : PySem.W.keepIn K (.ref fT) = true) (bT : Binds K fdT ["machine", "trace", "free"] []) : FnOk P w K mg base (L2.CX P w) 5 f fd ["self"] (spKnown CM CW) := by
  refine F.ok scWKnown (fun vs H Q E h => ?_) (fun cdv A outer s H vs Q E hr h => ?_)
  · obtain ⟨p, dx, m, fr, sn, av, many, ss, fs, ws, rfl, _⟩ := h
    rfl
  · obtain ⟨p, dx, m, fr, sn, av, many, ss, fs, ws, rfl, hp, hw, hh, k⟩ := h
    refine ⟨_, pss_one (ps_ret (pe_callS GT hr rfl mT kT bT (fun σ => passAt (takes_of rfl rfl rfl rfl) σ) (pa_cons (pe_fld (pv 0) rfl) (pa_cons (pe_fld (pv 0) rfl) (pa_cons (pe_fld (pv 0) rfl) pa_nil))))), ?_⟩
    exact ⟨_, rfl, p, CW, dx, _, _, rfl, hp, T.cl, T.machine, rfl, _, rfl, p, CW, dx, _, _, rfl, hp, T.cl, T.seen, rfl, _, rfl, p, CW, dx, _, _, rfl, hp, T.cl, T.free, rfl, m, sn, fr, many, ss, fs, ws, rfl, hw.mach, hw.okm, .inr hw.seen, hw.words, hw.free, hw.okf, fun _ => k, fun no => absurd hh no⟩
theorem ok_wlen (F : FnP K "__len__" "Watcher.__len__" sWLen f fd) (B : Bi mg) (T : TW K CW) : FnOk P w K mg base CX0 1 f fd ["self"] (spLenF CW "seen") := by
  refine F.ok scWLen (fun vs H Q E h => ?_) (fun cdv A outer s H vs Q E hr h => ?_)
  · obtain ⟨a, dx, fs, t, xs, rfl, _⟩ := h
    rfl
  · obtain ⟨a, dx, fs, t, xs, rfl, ha, hf, ht, k⟩ := h
    refine ⟨_, pss_one (ps_ret (pe_callB call_len_seq (by rfl) B.len PySem.boot_len (pa_cons (pe_fld (pv 0) rfl) pa_nil))), ?_⟩
    exact ⟨_, rfl, a, CW, dx, _, _, rfl, ha, T.cl, T.seen, hf, t, xs, rfl, .inr (SqT.of ht), k⟩
theorem ok_witer (F : FnP K "__iter__" "Watcher.__iter__" sWIter f fd) (B : Bi mg) (T : TW K CW) : FnOk P w K mg base CX0 1 f fd ["self"] (spIterF CW "seen") := by
  refine F.ok scWIter (fun vs H Q E h => ?_) (fun cdv A outer s H vs Q E hr h => ?_)
  · obtain ⟨a, dx, fs, t, xs, rfl, _⟩ := h
    rfl
  · obtain ⟨a, dx, fs, t, xs, rfl, ha, hf, ht, k⟩ := h
    refine ⟨_, pss_one (ps_ret (pe_callB call_iterT (by rfl) B.iter (by decide +kernel) (pa_cons (pe_fld (pv 0) rfl) pa_nil))), ?_⟩
    exact ⟨_, rfl, a, CW, dx, _, _, rfl, ha, T.cl, T.seen, hf, t, xs, rfl, SqT.of ht, k⟩
theorem ok_winit (F : FunD K "__init__" "Watcher.__init__" (defArgs sWInit) (defBody sWInit) (defScope sWInit) [] [("about", .non)] f fd) (T : TW K CW) {pp : Addr} (pS : PropSet K CW "about" pp fS) (GS : FnOk P w K mg base (L2.CX P w) 5 fS fdS ["self", "about"] (spWSet CM CW CB)) (bS : Binds K fdS ["self", "about"] [])
    (GK : FnOk P w K mg base CX0 3 fK fdK ["free"] spCheckKinds) (mK : mg "check_kinds" = some (.ref fK)) (kK : PySem.W.keepIn K (.ref fK) = true) (bK : Binds K fdK ["free"] []) : FnOk P w K mg base (L2.CX P w) 8 f fd ["self", "machine", "free", "about"] (spWInit CM CW CB) := by
  refine F.ok scWInit (fun vs H Q E h => ?_) (fun cdv A outer s H vs Q E hr h => ?_)
  · obtain ⟨p, dx, m, fr, v, a, many, ss, fs, rfl, _⟩ := h
    rfl
  · obtain ⟨p, dx, m, fr, v, a, many, ss, fs, rfl, hp, hm, okm, hf, okf, ia, k1, k2⟩ := h
    have hr3 : Room 3 _ := hr.mono (by decide)
    have hu64 : (A.deeper (envOfC "Watcher.__init__" (defScope sWInit) s.heap.objs.size f cdv)).units + 64 < cLine := by have := hr.un; omega
    refine ⟨_, pss_cons (ps_expr (pe_call GK hr3 rfl mK kK bK .nil pass0 (pa_cons (pv 2) pa_nil)))
      (pss_cons (ps_fld (pv 0) (pv 1) rfl) (pss_cons (ps_fld (pv 0) (pv 2) rfl) (pss_cons (ps_fld (pv 0) (pe_tup pa_nil) rfl) (pss_cons (ps_fld (pv 0) pe_non rfl)
      (pss_one (ps_pset (pv 0) (pe_ifExp (PW.pt (pw_and (pt_cmpR op_isN (pv 3) pe_non (nomark _)) (pw_and1 (pt_cmpR (op_neD hu64) (pv 2) (pe_tup pa_nil) (nomark _))))) (pe_ix ix_tup (pv 2) pe_int (fun _ _ => rfl)) (pv 3)) T.cl pS (GS.raw bS .nil) hr (fun σ => passAt (takes_of rfl rfl rfl rfl) σ))))))), ?_⟩
    refine ⟨_, rfl, fr, fs, rfl, hf, okf, fun H1 s1 => ?_⟩
    refine ⟨_, rfl, _, rfl, p, CW, dx, _, rfl, s1 _ _ hp, T.cl, T.machine, (by show 0 < 1000; decide), ?_⟩
    refine ⟨_, rfl, _, rfl, p, CW, dx, _, rfl, upd_same, T.cl, T.free, (by show 1 < 1000; decide), ?_⟩
    refine ⟨Nat.zero_le _, fun sn hsn => ?_⟩
    refine ⟨_, rfl, p, CW, dx, _, rfl, (by rw [upd_ne (ne_of_none upd_same hsn)]; exact upd_same), T.cl, T.seen, (by show 2 < 1000; decide), ?_⟩
    refine ⟨_, rfl, p, CW, dx, _, rfl, upd_same, T.cl, T.asked, (by show 3 < 1000; decide), ?_⟩
    have nps : sn ≠ p := fun z => by rw [z, upd_same] at hsn; cases hsn
    obtain ⟨H5, e5⟩ : ∃ H5, H5 = upd (upd (upd (upd (upd H1 p (.ins CW dx (putF "machine" (.ref m) []))) p (.ins CW dx (putF "free" (.ref fr) (putF "machine" (.ref m) [])))) sn (.tup [])) p (.ins CW dx (putF "seen" (.ref sn) (putF "free" (.ref fr) (putF "machine" (.ref m) []))))) p (.ins CW dx (putF "asked" .non (putF "seen" (.ref sn) (putF "free" (.ref fr) (putF "machine" (.ref m) []))))) := ⟨_, rfl⟩
    rw [← e5]
    have h5p : H5 p = some (.ins CW dx (wF (.ref m) (.ref fr) (.ref sn) .non)) := by rw [e5, upd_same]; rfl
    have h5s : H5 sn = some (.tup []) := by rw [e5, upd_ne nps, upd_ne nps, upd_same]
    have k5 : KeepP p H H5 := by
      rw [e5]
      exact KeepP.own (KeepP.own (KeepP.put (KeepP.own (KeepP.own fun b o _ e => s1 b o e)) hsn))
    clear e5
    have nfp : fr ≠ p := ne_of hf hp (fun z => nomatch z)
    have h5f := k5 _ _ nfp hf
    have hw5 : WParts CM H5 m fr sn many ss fs [] := by
      refine ⟨?_, okm, h5f, okf, h5s, fun z hz => absurd hz (by simp)⟩
      obtain ⟨mx, a0, b0, c0, d0, zs, L, g1, g2, g3, g4, g5, g6⟩ := hm
      obtain ⟨⟨kvs, q1, q2, q3⟩, inj⟩ := g5
      have nt : ∀ c xs, H c = some (.tup xs) → c ≠ p := fun c xs e => ne_of e hp (fun z => nomatch z)
      refine ⟨mx, a0, b0, c0, d0, zs, L, k5 _ _ (ne_of g1 hp (fun z => by injection z with _ _ z; cases z)) g1, k5 _ _ (nt _ _ g2) g2, fun z hz => k5 _ _ (nt _ _ (g3 z hz)) (g3 z hz), g4, ⟨⟨kvs, k5 _ _ (ne_of q1 hp (fun z => nomatch z)) q1, q2, q3⟩, inj⟩, fun i hi => ?_⟩
      obtain ⟨us, u1, u2, u3⟩ := g6 i hi
      exact ⟨us, k5 _ _ (ne_of u1 hp (fun z => nomatch z)) u1, fun z hz => k5 _ _ (nt _ _ (u2 z hz)) (u2 z hz), u3⟩
    have fin : ∀ H6, Same H5 H6 → (a = .non ∨ (∃ i : Int, a = .int i) ∨ ∃ z : Str, a = .str z ∧ z.cps.size ≤ 1000) → spWSet CM CW CB [.ref p, a] H6 (fun _ H3 => Q .non H3) E := fun H6 s6 ha =>
      ⟨p, dx, m, fr, sn, a, .non, many, ss, fs, [], rfl, s6 _ _ h5p, hw5.same s6, ha, fun ok H' kp hp' => k1 ok H' sn (fun b o nb e => kp b o nb (s6 b o (k5 b o nb e))) hp' (kp _ _ nps (s6 _ _ h5s)), fun no H' sm => k2 no H' fun b o nb e => sm _ _ (s6 b o (k5 b o nb e))⟩
    rcases ia with ⟨rfl, rfl, rfl⟩ | ⟨z, r, rfl, rfl, rfl⟩ | ⟨z, rfl, rfl, hz⟩
    · refine ⟨_, rfl, rfl, _, rfl, ?_⟩
      refine ⟨_, rfl, Nat.zero_le _, fun y hy => neT_empty (SqT.of (by rw [upd_ne (ne_of_none h5f hy)]; exact h5f)) (SqT.of upd_same) (DL.flat _ (okF_str okf)) ⟨_, rfl, ?_⟩⟩
      have s6 : Same H5 (upd H5 y (.tup [])) := same_put (Same.refl _) hy
      exact ⟨_, rfl, _, rfl, p, dx, _, rfl, s6 _ _ h5p, fin _ s6 (.inl rfl)⟩
    · refine ⟨_, rfl, rfl, _, rfl, ?_⟩
      refine ⟨_, rfl, Nat.zero_le _, fun y hy => neT_empty (SqT.of (by rw [upd_ne (ne_of_none h5f hy)]; exact h5f)) (SqT.of upd_same) (DL.flat _ (okF_str okf)) ⟨_, rfl, ?_⟩⟩
      have s6 : Same H5 (upd H5 y (.tup [])) := same_put (Same.refl _) hy
      exact ⟨_, rfl, fr, _, 0, _, rfl, rfl, SqT.of (s6 _ _ h5f), atI_nat (j := 0) rfl, _, rfl, p, dx, _, rfl, s6 _ _ h5p, fin _ s6 (.inr (.inr ⟨z, rfl, (okF_word okf z (by simp)).2⟩))⟩
    · refine ⟨_, rfl, rfl, _, rfl, ?_⟩
      exact ⟨_, rfl, _, rfl, p, dx, _, rfl, h5p, fin _ (Same.refl _) (.inr (.inr ⟨z, rfl, hz⟩))⟩
end
end K25

/-! K25: the draws. -/
namespace K25
open PySem PySem.Spec PyProof.Rows L2
def spDraw (K : PySem.W.Frag) : Sp := fun vs H Q _ => ∃ (a : Addr) (at_ many : Int) (ns : List Int), vs = [.ref a, .int at_, .int many] ∧ SqL K H a (ns.map V.int) ∧ ns.length ≤ 63 ∧ 0 ≤ at_ ∧ at_ ≤ 10000 ∧ 0 < many ∧ many ≤ 1000 ∧ ∀ (H' : Hp) (r : Int), Same H H' → 0 ≤ r → r < many → Q (.int r) H'
/-- the row of numbers that is drawn from -/
def tRow (K : PySem.W.Frag) : TE := fun σ H Q => ∃ (a : Addr) (ns : List Int), σ[0]? = some (some (.ref a)) ∧ SqL K H a (ns.map V.int) ∧ ns.length ≤ 63 ∧ ∀ (H' : Hp) (R : Addr) (rs : List Int), Same H H' → H' R = some (.lst (rs.map V.int)) → rs ≠ [] → rs.length ≤ 63 → Q (.ref R) H'
theorem cut60 (ns : List Int) : cutV (ns.map V.int) none (some 60) = (ns.take 60).map V.int := by
  unfold cutV
  have e1 : HT.sIx (ns.map V.int).length 0 none = 0 := rfl
  have e2 : HT.sIx (ns.map V.int).length (ns.map V.int).length (some 60) = min 60 ns.length := by
    rw [show (60 : Int) = ((60 : Nat) : Int) from rfl, HT.sIx_nat, List.length_map]
  rw [e1, e2, List.drop_zero, Nat.sub_zero, ← List.map_take]
  congr 1
  by_cases h : ns.length ≤ 60
  · rw [Nat.min_eq_right h, List.take_length, List.take_of_length_le h]
  · rw [Nat.min_eq_left (by omega)]
theorem pow97 : (97 : Int) ^ (40 : Int).toNat ≠ 0 := by decide +kernel
theorem fm (a : Int) {b : Int} (h : 0 < b) : 0 ≤ a.fmod b ∧ a.fmod b < b := ⟨Int.fmod_nonneg_of_pos a h, Int.fmod_lt_of_pos a h⟩
section
variable {P : Program} {w : World} {K : PySem.W.Frag} {mg : Str → Option Value} {base : Heap} {f : Addr} {fd : FuncData}
theorem ok_draw (F : FnP K "_law_draw" "_law_draw" sDraw f fd) (B : Bi mg) : FnOk P w K mg base CX0 1 f fd ["_law_script", "_law_at", "_law_many"] (spDraw K) := by
  refine F.ok scDraw (fun vs H Q E h => ?_) (fun cdv A outer s H vs Q E hr h => ?_)
  · obtain ⟨a, at_, many, ns, rfl, _⟩ := h
    rfl
  · obtain ⟨a, at_, many, ns, rfl, ha, hl, h0, h1, hm0, hm1, k⟩ := h
    have hu64 : (A.deeper (envOfC "_law_draw" (defScope sDraw) s.heap.objs.size f cdv)).units + 64 < cLine := by have := hr.un; omega
    have nd := scDraw.nd
    refine ⟨_, PSs.nox (pss_cons (ps_set (i := 3) nd rfl (Or.inl rfl) (PE_imp (t' := tRow K) (pe_ifExp (pt_cmpR (op_neD hu64) (pv 0) (pe_lst pa_nil) (nomark _)) (pe_slice sl_list (pv 0) po_none (po_some pe_int)) (pe_lst (pa_cons pe_int pa_nil))) (fun σ H Q hq => by
        obtain ⟨a, ns, e0, ha, hl, k⟩ := hq
        refine ⟨_, e0, Nat.zero_le _, fun z hz => neL_empty ((same_put (Same.refl H) hz).seq ha) (SqL.of upd_same) (DL.flat _ (ok_ints ns)) ⟨_, rfl, ?_⟩⟩
        have s1 : Same H (upd H z (.lst [])) := same_put (Same.refl _) hz
        refine ite2 (fun h => ?_) (fun h => ?_)
        · refine ⟨_, e0, 60, rfl, a, _, rfl, s1.seq ha, fun p hp => ?_⟩
          refine k _ p (ns.take 60) (same_put s1 (s1.free hp)) (by rw [upd_same, cut60]) (fun z => ?_) (by rw [List.length_take]; omega)
          cases ns with
          | nil => exact Bool.noConfusion h
          | cons c r => cases z
        · exact ⟨(by show 1 ≤ sizeLine; decide), fun p hp => k _ p [7] (same_put s1 (s1.free hp)) upd_same (by simp) (by decide)⟩)))
      (pss_cons (ps_par (i := 4) (j := 5) (by rfl) nd rfl rfl (by decide) rfl rfl (pa_cons (pe_ix ix_list (pv 3) (pe_op op_modN (pv 1) (pe_callB call_len_seq (by rfl) B.len PySem.boot_len (pa_cons (pv 3) pa_nil))) (fun _ _ => rfl)) (pa_cons (pe_op op_fdivN (pv 1) (pe_callB call_len_seq (by rfl) B.len PySem.boot_len (pa_cons (pv 3) pa_nil))) pa_nil)) (by rfl))
      (pss_cons (ps_if (pt_cmpR op_ge (pv 4) (pe_op op_pow pe_int pe_int) (nomark _))
        (pss_cons (ps_set (i := 4) nd rfl (Or.inl rfl) (pe_op op_modN (pe_callTy call_int1 (by rfl) B.int (by decide +kernel) (pa_cons (pv 4) pa_nil)) (pe_op op_pow pe_int pe_int)))
        (pss_cons (ps_for PassesOwn.never rfl (pi_range1 rfl B.range (pa_cons (pe_op op_modN (pv 5) pe_int) pa_nil)) (pg_name (i := 6) nd rfl (Or.inl rfl)) (pss_one (ps_set (i := 4) nd rfl (Or.inl rfl) (pe_op op_fdivN (pv 4) pe_int))))
        (pss_one (ps_ret (pe_op op_modN (pe_op op_modN (pe_callTy call_int1 (by rfl) B.int (by decide +kernel) (pa_cons (pv 4) pa_nil)) pe_int) (pv 2)))))) pss_nil)
      (pss_cons (ps_set (i := 7) nd rfl (Or.inl rfl) (pe_op op_add (pe_op op_mul (pe_op op_add (pe_op op_add (pe_op op_modN (pe_callTy call_int1 (by rfl) B.int (by decide +kernel) (pa_cons (pe_op op_add (pv 4) (pe_op op_mul pe_int (pv 5))) pa_nil)) pe_int) (pe_op op_mul pe_int (pv 1))) pe_int) pe_int)
        (pe_op op_modN (pe_callTy call_int1 (by rfl) B.int (by decide +kernel) (pa_cons (pe_op op_fdivN (pv 4) pe_int) pa_nil)) pe_int)))
      (pss_one (ps_ret (pe_op op_modN (pe_callTy call_int1 (by rfl) B.int (by decide +kernel) (pa_cons (pe_op op_modN (pe_op op_mul (pe_op op_modN (pv 7) pe_int) pe_int) pe_int) pa_nil)) (pv 2)))))))), ?_⟩
    refine ⟨a, ns, rfl, ha, hl, fun H1 R rs s1 hR hne hrl => ?_⟩
    have hpos : 0 < rs.length := List.length_pos_iff.mpr hne
    have hn0 : ((rs.map V.int).length : Int) ≠ 0 := by rw [List.length_map]; omega
    have hn1 : ((rs.map V.int).length : Int).natAbs < 1073741824 := by rw [List.length_map]; omega
    obtain ⟨g0, g1⟩ := fm at_ (b := ((rs.map V.int).length : Int)) (by rw [List.length_map]; omega)
    obtain ⟨n, hn⟩ : ∃ n : Nat, at_.fmod ((rs.map V.int).length : Int) = (n : Int) := ⟨(at_.fmod ((rs.map V.int).length : Int)).toNat, by omega⟩
    have hnl : n < rs.length := by rw [hn, List.length_map] at g1; omega
    have hat : atI (rs.map V.int) (at_.fmod ((rs.map V.int).length : Int)) = some (V.int rs[n]) := by
      rw [hn]
      exact atI_nat (by rw [List.getElem?_map, List.getElem?_eq_getElem hnl]; rfl)
    refine ⟨_, rfl, _, rfl, _, rfl, R, _, rfl, .inl (SqL.of hR), _, _, rfl, rfl, hn0, R, _, _, _, rfl, rfl, SqL.of hR, hat, _, rfl, _, rfl, R, _, rfl, .inl (SqL.of hR), _, _, rfl, rfl, ⟨hn0, hn1⟩, _, _, rfl, ?_⟩
    generalize rs[n] = c
    refine ⟨_, rfl, _, _, rfl, rfl, ⟨by decide, by decide, by decide⟩, _, _, rfl, rfl, _, rfl, ?_⟩
    refine ite2 (fun hc => ?_) (fun hc => ?_)
    · refine ⟨_, rfl, .inl ⟨_, rfl, _, _, rfl, rfl, ⟨by decide, by decide, by decide⟩, _, _, rfl, rfl, pow97, ?_⟩⟩
      obtain ⟨q0, q1⟩ := fm (at_.fdiv ((rs.map V.int).length : Int)) (b := 40) (by decide)
      refine ⟨_, rfl, _, _, rfl, rfl, (by show (40 : Int) ≠ 0; decide), _, rfl, by omega, by omega, for_range (lo := 0) (n := ((at_.fdiv ((rs.map V.int).length : Int)).fmod 40).toNat) (fun i σ H' => ∃ (c2 : Int) (v6 : Option V), σ = [some (.ref a), some (.int at_), some (.int many), some (.ref R), some (.int c2), some (.int (at_.fdiv ((rs.map V.int).length : Int))), v6, none] ∧ Same H H') ⟨_, _, rfl, s1⟩ ?_ ?_⟩
      · rintro i σ H' hi ⟨c2, v6, rfl, sm⟩
        exact ⟨_, rfl, _, _, rfl, rfl, ⟨by decide, by decide⟩, _, _, rfl, sm⟩
      · rintro σ H' ⟨c2, v6, rfl, sm⟩
        refine ⟨_, rfl, .inl ⟨_, rfl, _, _, rfl, rfl, (by show (97 : Int) ≠ 0; decide), _, rfl, _, _, rfl, rfl, by omega, ?_⟩⟩
        obtain ⟨r0, r1⟩ := fm (c2.fmod 97) hm0
        exact k _ _ sm r0 r1
    · obtain ⟨t0, t1⟩ := fm (c + 31 * (at_.fdiv ((rs.map V.int).length : Int))) (b := 1000003) (by decide)
      refine ⟨_, rfl, _, rfl, _, _, rfl, rfl, .inl ⟨by decide, by decide⟩, _, _, rfl, rfl, .inl ⟨_, rfl, _, _, rfl, rfl, (by show (1000003 : Int) ≠ 0; decide), _, rfl, _, _, rfl, rfl, .inl ⟨by decide, by decide⟩, _, _, rfl, rfl, _, _, rfl, rfl, _, _, rfl, rfl, .inl ⟨by omega, by omega⟩, ?_⟩⟩
      refine ⟨_, rfl, _, _, rfl, rfl, ⟨by decide, by decide⟩, .inl ⟨_, rfl, _, _, rfl, rfl, (by show (999983 : Int) ≠ 0; decide), _, _, rfl, rfl, ?_⟩⟩
      obtain ⟨u0, u1⟩ := fm (((c + 31 * (at_.fdiv ((rs.map V.int).length : Int))).fmod 1000003 + 977 * at_ + 13) * 48271 + (c.fdiv 1000003).fmod 999983) (b := 2147483647) (by decide)
      refine ⟨_, rfl, _, _, rfl, rfl, (by show (2147483647 : Int) ≠ 0; decide), _, _, rfl, rfl, .inl ⟨by omega, by omega⟩, _, _, rfl, rfl, (by show (4294967291 : Int) ≠ 0; decide), .inl ⟨_, rfl, _, rfl, _, _, rfl, rfl, by omega, ?_⟩⟩
      obtain ⟨r0, r1⟩ := fm (((((c + 31 * (at_.fdiv ((rs.map V.int).length : Int))).fmod 1000003 + 977 * at_ + 13) * 48271 + (c.fdiv 1000003).fmod 999983).fmod 2147483647 * 65537).fmod 4294967291) hm0
      exact k _ _ s1 r0 r1
end
end K25

/-! K25: _law_machine. -/
namespace K25
open PySem PySem.Spec PyProof.Rows L2
def kinds5 : List Str := ["", "", "", "x", "y"]
def words3 : List Str := ["", "a", "b"]
theorem kinds_ok : ∀ k ∈ kinds5, OkW k := by
  intro k hk
  have e : k = ("" : Str) ∨ k = ("x" : Str) ∨ k = ("y" : Str) := by
    unfold kinds5 at hk
    simpa using hk
  rcases e with e | e | e <;> subst e
  · exact ⟨.inl rfl, by decide +kernel⟩
  · exact ⟨.inr (by decide +kernel), by decide +kernel⟩
  · exact ⟨.inr (by decide +kernel), by decide +kernel⟩
theorem words_ok : ∀ k ∈ words3, OkW k := by
  intro k hk
  have e : k = ("" : Str) ∨ k = ("a" : Str) ∨ k = ("b" : Str) := by
    unfold words3 at hk
    simpa using hk
  rcases e with e | e | e <;> subst e
  · exact ⟨.inl rfl, by decide +kernel⟩
  · exact ⟨.inr (by decide +kernel), by decide +kernel⟩
  · exact ⟨.inr (by decide +kernel), by decide +kernel⟩
theorem at_draw {l : List Str} {r : Int} (h0 : 0 ≤ r) (h1 : r < (stv l).length) : ∃ k, k ∈ l ∧ atI (stv l) r = some (.str k) := by
  obtain ⟨n, hn⟩ : ∃ n : Nat, r = (n : Int) := ⟨r.toNat, by omega⟩
  have hl : n < l.length := by rw [List.length_map] at h1; omega
  refine ⟨l[n], List.getElem_mem hl, ?_⟩
  rw [hn]
  exact atI_nat (by rw [List.getElem?_map, List.getElem?_eq_getElem hl]; rfl)
/-- where a step starts -/
def tFirst (K : PySem.W.Frag) : TE := fun σ H Q => ∃ (a : Addr) (i spot many : Int) (ns : List Int), σ[0]? = some (some (.ref a)) ∧ σ[7]? = some (some (.int i)) ∧ σ[8]? = some (some (.int spot)) ∧ σ[5]? = some (some (.int many)) ∧ SqL K H a (ns.map V.int) ∧ ns.length ≤ 63 ∧ 0 ≤ i ∧ 0 ≤ spot ∧ spot ≤ 9000 ∧ 0 < many ∧ many ≤ 1000 ∧
  ∀ (H' : Hp) (g : Int), Same H H' → 0 ≤ g → g < many → Q (.int g) H'
def spMachine (K : PySem.W.Frag) : Sp := fun vs H Q _ => ∃ (a kt wt : Addr) (ns : List Int), vs = [.ref a, .int 0, .int 4, .ref kt, .ref wt] ∧ SqL K H a (ns.map V.int) ∧ ns.length ≤ 63 ∧ H kt = some (.tup (stv kinds5)) ∧ H wt = some (.tup (stv words3)) ∧
  ∀ (H' : Hp) (t l : Addr) (many : Nat) (ts : List (Addr × Stp)), Same H H' → H' t = some (.tup [.int many, .ref l]) → H' l = some (.lst (refs ts)) → (∀ z ∈ ts, H' z.1 = some (.tup (stpV z.2)) ∧ OkS many z.2) → ts.length ≤ 12 → 1 ≤ many → many ≤ 5 → Q (.ref t) H'
section
variable {P : Program} {w : World} {K : PySem.W.Frag} {mg : Str → Option Value} {base : Heap} {f fD : Addr} {fd fdD : FuncData}
theorem ok_machine (F : FnP K "_law_machine" "_law_machine" sMachine f fd) (B : Bi mg) (GD : FnOk P w K mg base CX0 1 fD fdD ["_law_script", "_law_at", "_law_many"] (spDraw K)) (mD : mg "_law_draw" = some (.ref fD)) (kD : PySem.W.keepIn K (.ref fD) = true) (bD : Binds K fdD ["_law_script", "_law_at", "_law_many"] []) :
    FnOk P w K mg base CX0 2 f fd ["_law_script", "_law_at", "_law_most", "_law_kinds", "_law_words"] (spMachine K) := by
  refine F.ok scMachine (fun vs H Q E h => ?_) (fun cdv A outer s H vs Q E hr h => ?_)
  · obtain ⟨a, kt, wt, ns, rfl, _⟩ := h
    rfl
  · obtain ⟨a, kt, wt, ns, rfl, ha, hl, hk, hw, k⟩ := h
    have nd := scMachine.nd
    refine ⟨_, PSs.nox (pss_cons (ps_set (i := 5) nd rfl (Or.inl rfl) (pe_op op_add pe_int (pe_call GD hr rfl mD kD bD .nil pass0 (pa_cons (pv 0) (pa_cons (pv 1) (pa_cons (pe_op op_sub (pv 2) pe_int) pa_nil))))))
      (pss_cons (ps_set (i := 6) nd rfl (Or.inl rfl) (pe_lst pa_nil))
      (pss_cons (ps_for PassesOwn.never rfl (pi_range1 rfl B.range (pa_cons (pe_op op_add (pv 5) (pe_call GD hr rfl mD kD bD .nil pass0 (pa_cons (pv 0) (pa_cons (pe_op op_add (pv 1) pe_int) (pa_cons (pe_op op_add (pv 5) pe_int) pa_nil))))) pa_nil)) (pg_name (i := 7) nd rfl (Or.inl rfl))
        (pss_cons (ps_set (i := 8) nd rfl (Or.inl rfl) (pe_op op_add (pe_op op_add (pv 1) (pe_op op_mul pe_int (pv 7))) pe_int))
        (pss_cons (ps_par (i := 9) (j := 10) (by rfl) nd rfl rfl (by decide) rfl rfl (pa_cons (pe_ix ix_tup (pv 3) (pe_call GD hr rfl mD kD bD .nil pass0 (pa_cons (pv 0) (pa_cons (pe_op op_add (pv 8) pe_int) (pa_cons (pe_callB call_len_seq (by rfl) B.len PySem.boot_len (pa_cons (pv 3) pa_nil)) pa_nil)))) (fun _ _ => rfl))
          (pa_cons (pe_ix ix_tup (pv 4) (pe_call GD hr rfl mD kD bD .nil pass0 (pa_cons (pv 0) (pa_cons (pe_op op_add (pv 8) pe_int) (pa_cons (pe_callB call_len_seq (by rfl) B.len PySem.boot_len (pa_cons (pv 4) pa_nil)) pa_nil)))) (fun _ _ => rfl)) pa_nil)) (by rfl))
        (pss_cons (ps_set (i := 11) nd rfl (Or.inl rfl) (PE_imp (t' := tFirst K) (pe_ifExp (PW.pt (pw_and (pt_cmpR op_lt (pe_op op_add (pv 7) pe_int) (pv 5) (nomark _)) (pw_and1 (pt_cmpR op_eq (pe_call GD hr rfl mD kD bD .nil pass0 (pa_cons (pv 0) (pa_cons (pv 8) (pa_cons pe_int pa_nil)))) pe_int (nomark _))))) (pv 7)
          (pe_call GD hr rfl mD kD bD .nil pass0 (pa_cons (pv 0) (pa_cons (pe_op op_add (pv 8) pe_int) (pa_cons (pv 5) pa_nil))))) (fun σ H Q hq => by
          obtain ⟨a, i, spot, many, ns, e0, e7, e8, e5, ha, hl, i0, p0, p1, m0, m1, k⟩ := hq
          refine ⟨_, e7, _, _, rfl, rfl, _, e5, _, _, rfl, rfl, _, rfl, ite2 (fun h1 => ?_) (fun h1 => ?_)⟩
          · refine ⟨_, e0, _, e8, a, spot, 2, ns, rfl, ha, hl, p0, by omega, by decide, by decide, fun H1 r s1 r0 r1 => ⟨rfl, _, rfl, ite2 (fun h2 => ?_) (fun h2 => ?_)⟩⟩
            · have h3 := of_decide_eq_true h1
              exact ⟨_, e7, k H1 _ s1 i0 (by omega)⟩
            · exact ⟨_, e0, _, e8, _, _, rfl, rfl, _, e5, a, spot + 3, many, ns, rfl, s1.seq ha, hl, by omega, by omega, m0, m1, fun H2 g s2 g0 g1 => k H2 g (s1.trans s2) g0 g1⟩
          · exact ⟨_, e0, _, e8, _, _, rfl, rfl, _, e5, a, spot + 3, many, ns, rfl, ha, hl, by omega, by omega, m0, m1, fun H2 g s2 g0 g1 => k H2 g s2 g0 g1⟩)))
        (pss_one (ps_expr (pe_bm PySem.F.plainAttrs_list PySem.F.slot_list_append PySem.F.type_list_append mt_append (pv 6) (pa_cons (pe_tup (pa_cons (pv 11) (pa_cons (pv 9) (pa_cons (pv 10) (pa_cons (pe_call GD hr rfl mD kD bD .nil pass0 (pa_cons (pv 0) (pa_cons (pe_op op_add (pv 8) pe_int) (pa_cons (pv 5) pa_nil)))) pa_nil))))) pa_nil))))))))
      (pss_one (ps_ret (pe_tup (pa_cons (pv 5) (pa_cons (pv 6) pa_nil)))))))), ?_⟩
    refine ⟨_, rfl, _, rfl, _, rfl, _, _, rfl, rfl, a, 0, 3, ns, rfl, ha, hl, by decide, by decide, by decide, by decide, fun H1 r1 s1 r0 r3 => ?_⟩
    refine ⟨_, _, rfl, rfl, ?_⟩
    obtain ⟨many, hmany⟩ : ∃ many : Nat, (2 : Int) + r1 = (many : Int) := ⟨(2 + r1).toNat, by omega⟩
    have hm1 : 2 ≤ many := by omega
    have hm5 : many ≤ 4 := by omega
    refine ⟨Nat.zero_le _, fun l hlN => ?_⟩
    have s2 : Same H1 (upd H1 l (.lst [])) := same_put (Same.refl _) hlN
    have sH2 := s1.trans s2
    have hlH : H l = none := s1.free hlN
    refine ⟨_, rfl, _, rfl, _, rfl, _, _, rfl, rfl, _, rfl, _, _, rfl, rfl, a, 0 + 1, 2 + r1 + 3, ns, rfl, sH2.seq ha, hl, by decide, by decide, by omega, by omega, fun H3 r2 s3 q0 q1 => ?_⟩
    refine ⟨_, _, rfl, rfl, _, rfl, by omega, by omega, for_range (lo := 0) (n := (2 + r1 + r2).toNat) (fun i σ H' => ∃ (ts : List (Addr × Stp)) (v7 v8 v9 v10 v11 : Option V), σ = [some (.ref a), some (.int 0), some (.int 4), some (.ref kt), some (.ref wt), some (.int (2 + r1)), some (.ref l), v7, v8, v9, v10, v11] ∧ Same H H' ∧ H' l = some (.lst (refs ts)) ∧
        (∀ z ∈ ts, H' z.1 = some (.tup (stpV z.2)) ∧ OkS many z.2) ∧ ts.length ≤ i) ⟨[], _, _, _, _, _, rfl, sH2.trans s3, s3 _ _ upd_same, fun z hz => absurd hz (by simp), Nat.le_refl _⟩ ?_ ?_⟩
    · rintro i σ H' hi ⟨ts, v7, v8, v9, v10, v11, rfl, sm, hL, hts, hln⟩
      have hi2 : i < 10 := by omega
      -- spot
      refine ⟨_, rfl, _, rfl, _, _, rfl, rfl, .inl ⟨by decide, by decide⟩, _, _, rfl, rfl, _, _, rfl, rfl, ?_⟩
      -- kind, seen
      refine ⟨_, rfl, _, rfl, _, rfl, _, _, rfl, rfl, _, rfl, kt, _, rfl, .inr (SqT.of (sm _ _ hk)), a, _, _, ns, rfl, sm.seq ha, hl, by omega, by omega, by decide, by decide, fun H4 d4 s4 u0 u1 => ?_⟩
      obtain ⟨kd, hkd, ekd⟩ := at_draw (l := kinds5) u0 u1
      have sm4 := sm.trans s4
      refine ⟨kt, _, _, _, rfl, rfl, SqT.of (sm4 _ _ hk), ekd, ?_⟩
      refine ⟨_, rfl, _, rfl, _, rfl, _, _, rfl, rfl, _, rfl, wt, _, rfl, .inr (SqT.of (sm4 _ _ hw)), a, _, _, ns, rfl, sm4.seq ha, hl, by omega, by omega, by decide, by decide, fun H5 d5 s5 x0 x1 => ?_⟩
      obtain ⟨wd, hwd, ewd⟩ := at_draw (l := words3) x0 x1
      have sm5 := sm4.trans s5
      refine ⟨wt, _, _, _, rfl, rfl, SqT.of (sm5 _ _ hw), ewd, _, _, rfl, ?_⟩
      -- first
      refine ⟨a, _, _, _, ns, rfl, rfl, rfl, rfl, sm5.seq ha, hl, by omega, by omega, by omega, by omega, by omega, fun H6 g s6 g0 g1 => ?_⟩
      have sm6 := sm5.trans s6
      have s46 := (s4.trans s5).trans s6
      have hL6 := s46 _ _ hL
      refine ⟨_, rfl, .inl ⟨rfl, _, SqL.of hL6⟩, _, rfl, _, rfl, _, rfl, _, rfl, _, rfl, _, _, rfl, rfl, _, rfl, a, _, _, ns, rfl, sm6.seq ha, hl, by omega, by omega, by omega, by omega, fun H7 e s7 e0 e1 => ⟨(by show 4 ≤ sizeLine; decide), fun b hb => ?_⟩⟩
      have hL7 := s7 _ _ hL6
      have s8 : Same H7 (upd H7 b (.tup [.int g, .str kd, .str wd, .int e])) := same_put (Same.refl _) hb
      have hL8 := s8 _ _ hL7
      refine ⟨l, _, _, rfl, rfl, hL8, by rw [List.length_map, sizeLine_eq]; omega, ?_⟩
      refine ⟨ts ++ [(b, ⟨g, kd, wd, e⟩)], _, _, _, _, _, rfl, same_put ((sm6.trans s7).trans s8) hlH, ?_, fun z hz => ?_, ?_⟩
      · rw [upd_same, refs_snoc]
      · rcases List.mem_append.mp hz with q | q
        · have h1 := s8 _ _ (s7 _ _ (s46 _ _ (hts z q).1))
          rw [upd_ne (ne_of h1 hL8 (fun z => nomatch z))]
          exact ⟨h1, (hts z q).2⟩
        · have ez : z = (b, ⟨g, kd, wd, e⟩) := by simpa using q
          rw [ez, upd_ne (ne_of_none hL7 hb).symm, upd_same]
          exact ⟨rfl, ⟨g0, by show g < many; omega, e0, by show e < many; omega, kinds_ok kd hkd, words_ok wd hwd⟩⟩
      · rw [List.length_append, List.length_singleton]; omega
    · rintro σ H' ⟨ts, v7, v8, v9, v10, v11, rfl, sm, hL, hts, hln⟩
      refine ⟨_, rfl, _, rfl, (by show 2 ≤ sizeLine; decide), fun t ht => ?_⟩
      refine k _ t l many ts (same_put sm (sm.free ht)) (by rw [upd_same, hmany]) (by rw [upd_ne (ne_of_none hL ht)]; exact hL) (fun z hz => ⟨?_, (hts z hz).2⟩) (by omega) (by omega) (by omega)
      have q := (hts z hz).1
      rw [upd_ne (ne_of_none q ht)]
      exact q
end
end K25

/-! K25: what the law leans on; its first statements. -/
namespace K25
open PySem PySem.Spec PyProof.Rows L2
/-- all that the law calls -/
structure LT (P : Program) (w : World) (K : PySem.W.Frag) (mg : Str → Option Value) (base : Heap) (CM CW CB CN pp fD fMa fMI fWI fG fA fIT fT fSe fCa fKn fLe fIt : Addr) (dD dMa dMI dWI dG dA dIT dT dCa dKn dLe dIt : FuncData) : Prop where
  B : Bi mg
  TM : TM K CM
  TW : TW K CW
  GD : FnOk P w K mg base CX0 1 fD dD ["_law_script", "_law_at", "_law_many"] (spDraw K)
  mD : mg "_law_draw" = some (.ref fD)
  kD : PySem.W.keepIn K (.ref fD) = true
  bD : Binds K dD ["_law_script", "_law_at", "_law_many"] []
  GMa : FnOk P w K mg base CX0 2 fMa dMa ["_law_script", "_law_at", "_law_most", "_law_kinds", "_law_words"] (spMachine K)
  mMa : mg "_law_machine" = some (.ref fMa)
  kMa : PySem.W.keepIn K (.ref fMa) = true
  bMa : Binds K dMa ["_law_script", "_law_at", "_law_most", "_law_kinds", "_law_words"] []
  MM : Mk K CM fMI
  GMI : FnOk P w K mg base CX0 3 fMI dMI ["self", "many", "steps"] (spMInit CM)
  mM : mg "Machine" = some (.ref CM)
  bMI : Binds K dMI ["self", "many", "steps"] []
  MW : Mk K CW fWI
  GWI : FnOk P w K mg base (L2.CX P w) 8 fWI dWI ["self", "machine", "free", "about"] (spWInit CM CW CB)
  mW : mg "Watcher" = some (.ref CW)
  bWI : ∃ ds, Vals [V.non] ds ∧ Binds K dWI ["self", "machine", "free", "about"] ds
  kWI : KBn K dWI ["self", "machine", "free", "about"] (2 + 1) ["about"] (fun us ws => us ++ ws) (fun vs zs => vs ++ zs)
  pG : PropOf K CW "about" pp fG
  GG : FnC P w K mg base CX0 1 fG dG ["self"] (spGetter CW)
  bG : Binds K dG ["self"] []
  GA : FnOk P w K mg base (L2.CX P w) 8 fA dA ["self", "about"] (spWSet CM CW CB)
  mA : Meth K CW "ask" fA
  bA : Binds K dA ["self", "about"] []
  GIT : FnOk P w K mg base CX0 4 fIT dIT ["machine", "trace", "free"] (spIsTrace CM)
  mIT : mg "is_trace" = some (.ref fIT)
  kIT : PySem.W.keepIn K (.ref fIT) = true
  bIT : Binds K dIT ["machine", "trace", "free"] []
  GT : FnOk P w K mg base (L2.CX P w) 4 fT dT ["machine", "trace", "free"] (spWatch CM CN)
  mT : mg "watch" = some (.ref fT)
  kT : PySem.W.keepIn K (.ref fT) = true
  bT : Binds K dT ["machine", "trace", "free"] []
  GSe : FnR P w K mg base (L2.CX P w) 5 fSe (spSee CM CW CN)
  mSe : Meth K CW "see" fSe
  GCa : FnOk P w K mg base (L2.CX P w) 6 fCa dCa ["self", "word"] (spWCall CM CW CN)
  cCa : StX.CallO K CW fCa
  bCa : Binds K dCa ["self", "word"] []
  GKn : FnOk P w K mg base (L2.CX P w) 5 fKn dKn ["self"] (spKnown CM CW)
  mKn : Meth K CW "known" fKn
  bKn : Binds K dKn ["self"] []
  LL : LenC K CW fLe
  GLe : FnOk P w K mg base CX0 1 fLe dLe ["self"] (spLenF CW "seen")
  bLe : Binds K dLe ["self"] []
  LI : IterC K CW fIt
  GIt : FnOk P w K mg base CX0 1 fIt dIt ["self"] (spIterF CW "seen")
  bIt : Binds K dIt ["self"] []
  mB : mg "BadKinds" = some (.ref CB)
  mN : mg "NotSeen" = some (.ref CN)
  eB : PySem.W.exmOne K (.ref CB) (.ref CB) = some true
  eN : PySem.W.exmOne K (.ref CN) (.ref CN) = some true
abbrev nL : List Str := ["_law_script", "_law_many", "_law_steps", "_law_machine_here", "_law_free", "_law_watcher", "_law_words", "_law_turn", "_law_more", "_law_is_fine", "_law_told", "_law_due", "_law_bad", "_law_before", "_law_spot", "_law_size"]
abbrev XL (P : Program) (w : World) (K : PySem.W.Frag) (mg : Str → Option Value) (base : Heap) (f : Addr) (cdv : Value) (A : Around) (outer : List Env) (s : Shared) (H : Hp) (E : XK) : Cx :=
  (cxOf CX0 P w K mg base nL "law" (defScope sLaw) f cdv A outer s H E).nox
abbrev lawS (i : Nat) : Stmt := (defBody sLaw).getD i noS
/-- what stays the same all through the law -/
structure Dt where
  a : Addr
  wt : Addr
  dx : Addr
  m : Addr
  fr : Addr
  many : Nat
  ss : List Stp
  fs : List Str
  ns : List Int
/-- the law's heap -/
structure J (K : PySem.W.Frag) (CM CW : Addr) (d : Dt) (H : Hp) (sn wl : Addr) (av : V) (ws : List Str) : Prop where
  script : SqL K H d.a (d.ns.map V.int)
  len : d.ns.length ≤ 63
  wat : H d.wt = some (.ins CW d.dx (wF (.ref d.m) (.ref d.fr) (.ref sn) av))
  parts : WParts CM H d.m d.fr sn d.many d.ss d.fs ws
  asked : OkA d.fs av
  list : H wl = some (.lst (stv ws))
  has : Has d.ss d.fs ws
  ab : ∀ z ∈ ws, z = "a" ∨ z = "b"
theorem J.same {K : PySem.W.Frag} {CM CW : Addr} {d : Dt} {H H' : Hp} {sn wl : Addr} {av : V} {ws : List Str} (j : J K CM CW d H sn wl av ws) (s : Same H H') : J K CM CW d H' sn wl av ws :=
  ⟨s.seq j.script, j.len, s _ _ j.wat, j.parts.same s, j.asked, s _ _ j.list, j.has, j.ab⟩
theorem seq_keep {K : PySem.W.Frag} {H H' : Hp} {a p C dx : Addr} {fs : List (Str × V)} {xs : List V} (h : SqL K H a xs) (hp : H p = some (.ins C dx fs)) (k : KeepP p H H') : SqL K H' a xs := by
  rcases h with (h | ⟨o, h⟩) | h
  · exact .inl (.inl (k _ _ (ne_of h hp (fun z => nomatch z)) h))
  · exact .inl (.inr ⟨o, k _ _ (ne_of h hp (fun z => nomatch z)) h⟩)
  · exact .inr h
theorem ab_ne {z : Str} (h : z = "a" ∨ z = "b") : z ≠ "" := by
  rcases h with h | h <;> subst h <;> decide +kernel
theorem ab_ok {l : List Str} (h : ∀ z ∈ l, z = "a" ∨ z = "b") : (stv l).all okD = true := by
  rw [List.all_map]
  refine List.all_eq_true.mpr fun z hz => ?_
  rcases h z hz with e | e <;> subst e <;> decide +kernel
/-- the law's slots behind its first statements -/
abbrev slL (d : Dt) (v1 v2 : Option V) (wl : Addr) (v7 v8 v9 v10 v11 v12 v13 v14 v15 : Option V) : L2.St := [some (.ref d.a), v1, v2, some (.ref d.m), some (.ref d.fr), some (.ref d.wt), some (.ref wl), v7, v8, v9, v10, v11, v12, v13, v14, v15]
theorem has_nil {ss : List Stp} {fs : List Str} : Has ss fs [] := ⟨0, .base rfl⟩
theorem okA_ini {fs : List Str} {a : V} (h : IniA fs .non a) : OkA fs a := by
  rcases h with ⟨_, _, e⟩ | ⟨z, r, _, e, e2⟩ | ⟨z, e, _⟩
  · exact .inl e
  · exact .inr ⟨z, e2, by rw [e]; simp⟩
  · cases e
theorem ini_ex (fs : List Str) : ∃ a, IniA fs .non a := by
  cases fs with
  | nil => exact ⟨.non, .inl ⟨rfl, rfl, rfl⟩⟩
  | cons z r => exact ⟨.str z, .inr (.inl ⟨z, r, rfl, rfl, rfl⟩)⟩
section
variable {P : Program} {w : World} {K : PySem.W.Frag} {mg : Str → Option Value} {base : Heap} {CM CW CB CN pp fD fMa fMI fWI fG fA fIT fT fSe fCa fKn fLe fIt : Addr} {dD dMa dMI dWI dG dA dIT dT dCa dKn dLe dIt : FuncData}
  {f : Addr} {cdv : Value} {A : Around} {outer : List Env} {s : Shared} {H0 : Hp} {E : XK}
/-- _law_more = .. -/
def tMore (K : PySem.W.Frag) (CM CW : Addr) : TS := fun D σ H => ∃ (d : Dt) (sn wl : Addr) (av : V) (ws : List Str) (i : Int) (v1 v2 v8 v9 v10 v11 v12 v13 v14 v15 : Option V), σ = slL d v1 v2 wl (some (.int i)) v8 v9 v10 v11 v12 v13 v14 v15 ∧ J K CM CW d H sn wl av ws ∧ 0 ≤ i ∧ i ≤ 3 ∧
  ∀ (H' : Hp) (mo : Addr) (more : List Str), Same H H' → H' mo = some (.lst (stv more)) → (more.length = 1 ∨ more.length = 2) → (∀ z ∈ more, z = "a" ∨ z = "b") → D.nx (slL d v1 v2 wl (some (.int i)) (some (.ref mo)) v9 v10 v11 v12 v13 v14 v15) H'
theorem law_more (T : LT P w K mg base CM CW CB CN pp fD fMa fMI fWI fG fA fIT fT fSe fCa fKn fLe fIt dD dMa dMI dWI dG dA dIT dT dCa dKn dLe dIt) (hr : Room 9 (A.deeper (envOfC "law" (defScope sLaw) s.heap.objs.size f cdv))) :
    L2.PS (XL P w K mg base f cdv A outer s H0 E) ((forB (lawS 4)).getD 0 noS) (tMore K CM CW) := by
  have hr1 : Room 1 (A.deeper (envOfC "law" (defScope sLaw) s.heap.objs.size f cdv)) := hr.mono (by decide)
  have nd := scLaw.nd
  refine PS_imp (ps_set (i := 8) nd rfl (Or.inr rfl) (pe_lc (own := [("_law_spot", 14)]) (g := gName 14) (tt := tYes) rfl nd (pi_range1 rfl T.B.range (pa_cons (pe_op op_add pe_int (pe_call T.GD hr1 rfl T.mD T.kD T.bD .nil pass0 (pa_cons (pv 0) (pa_cons (pe_op op_add pe_int (pe_op op_mul pe_int (pv 7))) (pa_cons pe_int pa_nil))))) pa_nil))
    (blkOk_by (own := [("_law_spot", 14)]) (N := nL) (sc := defScope sLaw) (by decide +kernel)) (fun _ _ _ _ _ => pg_name (i := 14) nd rfl (Or.inl rfl)) (fun _ _ _ _ _ => pts_nil)
    (fun _ _ _ _ _ => pe_ix (r := rIxT K) ix_tup (pe_tup (pa_cons pe_str (pa_cons pe_str pa_nil))) (pe_call (E := E0) T.GD hr1 rfl T.mD T.kD T.bD .nil pass0 (pa_cons (pv 0) (pa_cons (pe_op op_add (pe_op op_add pe_int (pe_op op_mul pe_int (pv 7))) (pv 14)) (pa_cons pe_int pa_nil)))) (fun _ _ => rfl)))) ?_
  rintro D σ H ⟨d, sn, wl, av, ws, i, v1, v2, v8, v9, v10, v11, v12, v13, v14, v15, rfl, j, i0, i3, k⟩
  refine ⟨_, rfl, _, rfl, _, _, rfl, rfl, .inl ⟨by decide, by decide⟩, _, _, rfl, rfl, d.a, 309 + 5 * i, 2, d.ns, rfl, j.script, j.len, by omega, by omega, by decide, by decide, fun H1 r s1 r0 r1 => ?_⟩
  refine ⟨_, _, rfl, rfl, _, rfl, by omega, by omega, fun L hL => lc_it (walk_range (lo := 0) (n := (1 + r).toNat)) (fun n H' => ∃ more : List Str, H' L = some (.lst (stv more)) ∧ more.length = n ∧ Same H1 H' ∧ ∀ z ∈ more, z = "a" ∨ z = "b") ⟨[], upd_same, rfl, same_put (Same.refl _) hL, fun z hz => absurd hz (by simp)⟩ (fun _ _ _ _ => True.intro) ?_ ?_⟩
  · rintro n x H2 H3 hn ⟨more, hm, hml, sm, hab⟩ ⟨rfl, rfl⟩
    refine ⟨rfl, (by show 2 ≤ sizeLine; decide), fun t ht => ?_⟩
    have s2 : Same H3 (upd H3 t (.tup [.str "a", .str "b"])) := same_put (Same.refl _) ht
    refine ⟨_, rfl, _, rfl, _, _, rfl, rfl, .inl ⟨by decide, by decide⟩, _, _, rfl, rfl, _, rfl, _, _, rfl, rfl, d.a, _, 2, d.ns, rfl, ((s1.trans sm).trans s2).seq j.script, j.len, by omega, by omega, by decide, by decide, fun H4 q s3 q0 q1 => ?_⟩
    obtain ⟨z, hz, ez⟩ := at_draw (l := [("a" : Str), ("b" : Str)]) (r := q) q0 (by show q < 2; exact q1)
    have hz2 : z = ("a" : Str) ∨ z = ("b" : Str) := by simpa using hz
    have s24 := s2.trans s3
    refine ⟨t, _, _, _, rfl, rfl, SqT.of (s3 _ _ upd_same), ez, ?_⟩
    refine ⟨_, s24 _ _ hm, by rw [List.length_map, hml, sizeLine_eq]; omega, more ++ [z], ?_, ?_, same_put (sm.trans s24) hL, fun y hy => ?_⟩
    · rw [upd_same]
      unfold stv
      rw [List.map_append]
      rfl
    · rw [List.length_append, hml]; rfl
    · rcases List.mem_append.mp hy with c | c
      · exact hab y c
      · rw [show y = z by simpa using c]
        exact hz2
  · rintro H2 ⟨more, hm, hml, sm, hab⟩
    exact k H2 L more (s1.trans sm) hm (by omega) hab
end
end K25

/-! K25: the law's turn: ask, is_trace. -/
namespace K25
open PySem PySem.Spec PyProof.Rows L2
theorem J.keep {K : PySem.W.Frag} {CM CW : Addr} {d : Dt} {H H' : Hp} {sn wl : Addr} {av av' : V} {ws : List Str} (j : J K CM CW d H sn wl av ws) (k : KeepP d.wt H H') (hw : H' d.wt = some (.ins CW d.dx (wF (.ref d.m) (.ref d.fr) (.ref sn) av'))) (ok : OkA d.fs av') : J K CM CW d H' sn wl av' ws :=
  ⟨seq_keep j.script j.wat k, j.len, hw, j.parts.keep j.wat k, ok, k _ _ (ne_of j.list j.wat (fun z => nomatch z)) j.list, j.has, j.ab⟩
def tAsk (K : PySem.W.Frag) (CM CW : Addr) : TS := fun D σ H => ∃ (d : Dt) (sn wl mo : Addr) (av : V) (ws more : List Str) (i : Int) (v1 v2 v9 v10 v11 v12 v13 v14 v15 : Option V), σ = slL d v1 v2 wl (some (.int i)) (some (.ref mo)) v9 v10 v11 v12 v13 v14 v15 ∧ J K CM CW d H sn wl av ws ∧ H mo = some (.lst (stv more)) ∧ 0 ≤ i ∧ i ≤ 3 ∧
  ∀ (H' : Hp) (av' : V), J K CM CW d H' sn wl av' ws → H' mo = some (.lst (stv more)) → D.nx (slL d v1 v2 wl (some (.int i)) (some (.ref mo)) v9 v10 v11 v12 v13 v14 v15) H'
def tFine (K : PySem.W.Frag) (CM CW : Addr) : TS := fun D σ H => ∃ (d : Dt) (sn wl mo : Addr) (av : V) (ws more : List Str) (v1 v2 v7 v9 v10 v11 v12 v13 v14 v15 : Option V), σ = slL d v1 v2 wl v7 (some (.ref mo)) v9 v10 v11 v12 v13 v14 v15 ∧ J K CM CW d H sn wl av ws ∧ H mo = some (.lst (stv more)) ∧ (∀ z ∈ more, z = "a" ∨ z = "b") ∧ ws.length + more.length ≤ 900 ∧
  ∀ (H' : Hp) (b : Bool), Same H H' → (b = true ↔ Has d.ss d.fs (ws ++ more)) → D.nx (slL d v1 v2 wl v7 (some (.ref mo)) (some (.bl b)) v10 v11 v12 v13 v14 v15) H'
section
variable {P : Program} {w : World} {K : PySem.W.Frag} {mg : Str → Option Value} {base : Heap} {CM CW CB CN pp fD fMa fMI fWI fG fA fIT fT fSe fCa fKn fLe fIt : Addr} {dD dMa dMI dWI dG dA dIT dT dCa dKn dLe dIt : FuncData}
  {f : Addr} {cdv : Value} {A : Around} {outer : List Env} {s : Shared} {H0 : Hp} {E : XK}
theorem law_ask (T : LT P w K mg base CM CW CB CN pp fD fMa fMI fWI fG fA fIT fT fSe fCa fKn fLe fIt dD dMa dMI dWI dG dA dIT dT dCa dKn dLe dIt) (hr : Room 9 (A.deeper (envOfC "law" (defScope sLaw) s.heap.objs.size f cdv))) :
    L2.PS (XL P w K mg base f cdv A outer s H0 E) ((forB (lawS 4)).getD 1 noS) (tAsk K CM CW) := by
  have hr1 : Room 1 (A.deeper (envOfC "law" (defScope sLaw) s.heap.objs.size f cdv)) := hr.mono (by decide)
  have hr8 : Room 8 (A.deeper (envOfC "law" (defScope sLaw) s.heap.objs.size f cdv)) := hr.mono (by decide)
  have hu64 : (A.deeper (envOfC "law" (defScope sLaw) s.heap.objs.size f cdv)).units + 64 < cLine := by have := hr.un; omega
  refine PS_imp (ps_if (PW.pt (pw_and (pt_cmpR (op_neD hu64) (pv 4) (pe_tup pa_nil) (nomark _)) (pw_and1 (pt_cmpR op_eq (pe_call T.GD hr1 rfl T.mD T.kD T.bD .nil pass0 (pa_cons (pv 0) (pa_cons (pe_op op_add pe_int (pv 7)) (pa_cons pe_int pa_nil)))) pe_int (nomark _)))))
    (pss_one (ps_expr (pe_methE (pv 5) T.TW.cl T.mA (T.GA.raw T.bA .nil) hr8 (fun σ => passAt takes0 σ) (pa_cons (pe_ix ix_tup (pv 4) (pe_un un_neg pe_int) (fun _ _ => rfl)) pa_nil)))) pss_nil) ?_
  rintro D σ H ⟨d, sn, wl, mo, av, ws, more, i, v1, v2, v9, v10, v11, v12, v13, v14, v15, rfl, j, hmo, i0, i3, k⟩
  refine ⟨_, rfl, Nat.zero_le _, fun y hy => neT_empty (SqT.of (by rw [upd_ne (ne_of_none j.parts.free hy)]; exact j.parts.free)) (SqT.of upd_same) (DL.flat _ (okF_str j.parts.okf)) ⟨_, rfl, ?_⟩⟩
  have s1 : Same H (upd H y (.tup [])) := same_put (Same.refl _) hy
  refine ite2 (fun h1 => ?_) (fun h1 => k _ av (j.same s1) (s1 _ _ hmo))
  refine ⟨_, rfl, _, rfl, _, _, rfl, rfl, d.a, 400 + i, 2, d.ns, rfl, s1.seq j.script, j.len, by omega, by omega, by decide, by decide, fun H2 r s2 r0 r1 => ⟨rfl, _, rfl, ite2 (fun h2 => ?_) (fun h2 => k _ av (j.same (s1.trans s2)) (s2 _ _ (s1 _ _ hmo)))⟩⟩
  have j2 := j.same (s1.trans s2)
  have hmo2 := s2 _ _ (s1 _ _ hmo)
  have hne : d.fs ≠ [] := fun z => by rw [z] at h1; exact Bool.noConfusion h1
  obtain ⟨r0', z, ef⟩ : ∃ r z, d.fs = r ++ [z] := ⟨d.fs.dropLast, d.fs.getLast hne, (List.dropLast_concat_getLast hne).symm⟩
  have hz : z ∈ d.fs := by rw [ef]; simp
  have eat : atI (stv d.fs) (-1) = some (.str z) := by
    rw [ef]
    unfold stv
    rw [List.map_append]
    exact atI_last _ _
  refine ⟨_, rfl, d.wt, d.dx, _, rfl, j2.wat, rfl, _, rfl, 1, rfl, d.fr, _, -1, _, rfl, rfl, SqT.of j2.parts.free, eat, ?_⟩
  refine ⟨d.wt, d.dx, d.m, d.fr, sn, .str z, av, d.many, d.ss, d.fs, ws, rfl, j2.wat, j2.parts, .inr (.inr ⟨z, rfl, (okF_word j2.parts.okf z hz).2⟩), fun ok H3 kp hw => ?_, fun no => absurd (.inr ⟨z, rfl, hz⟩) no⟩
  exact k H3 (.str z) (j2.keep kp hw ok) (kp _ _ (ne_of hmo2 j2.wat (fun z => nomatch z)) hmo2)
theorem law_fine (T : LT P w K mg base CM CW CB CN pp fD fMa fMI fWI fG fA fIT fT fSe fCa fKn fLe fIt dD dMa dMI dWI dG dA dIT dT dCa dKn dLe dIt) (hr : Room 9 (A.deeper (envOfC "law" (defScope sLaw) s.heap.objs.size f cdv))) :
    L2.PS (XL P w K mg base f cdv A outer s H0 E) ((forB (lawS 4)).getD 2 noS) (tFine K CM CW) := by
  have hr4 : Room 4 (A.deeper (envOfC "law" (defScope sLaw) s.heap.objs.size f cdv)) := hr.mono (by decide)
  have nd := scLaw.nd
  refine PS_imp (ps_set (i := 9) nd rfl (Or.inl rfl) (pe_call T.GIT hr4 rfl T.mIT T.kIT T.bIT .nil pass0 (pa_cons (pv 3) (pa_cons (pe_op op_cat (pv 6) (pv 8)) (pa_cons (pv 4) pa_nil))))) ?_
  rintro D σ H ⟨d, sn, wl, mo, av, ws, more, v1, v2, v7, v9, v10, v11, v12, v13, v14, v15, rfl, j, hmo, hab, hl, k⟩
  refine ⟨_, rfl, _, rfl, _, rfl, wl, mo, _, _, rfl, rfl, j.list, hmo, ?_, fun p hp => ?_⟩
  · rw [List.length_map, List.length_map, sizeLine_eq]
    omega
  have s1 : Same H (upd H p (.lst (stv ws ++ stv more))) := same_put (Same.refl _) hp
  refine ⟨_, rfl, d.m, p, d.fr, d.many, d.ss, d.fs, ws ++ more, rfl, j.parts.mach.same s1, j.parts.okm, .inl ?_, fun z hz => ?_, s1 _ _ j.parts.free, j.parts.okf, fun H' b sm hb => k H' b (s1.trans sm) hb⟩
  · rw [upd_same]
    unfold stv
    rw [List.map_append]
  · rcases List.mem_append.mp hz with q | q
    · exact ab_ne (j.ab z q)
    · exact ab_ne (hab z q)
end
/-! ### what a watcher shows is what is told anew -/
theorem tells_same {ss : List Stp} {fs ws : List Str} : ∀ es es' : List (Str × Str), es.map (·.1) = es'.map (·.1) → (∀ e ∈ es, Tells ss fs ws e.1 e.2) → (∀ e ∈ es', Tells ss fs ws e.1 e.2) → es = es'
  | [], [], _, _, _ => rfl
  | [], e' :: r', h, _, _ => by cases h
  | e :: r, [], h, _, _ => by cases h
  | e :: r, e' :: r', h, h1, h2 => by
    rw [List.map_cons, List.map_cons] at h
    injection h with a b
    have q1 := h1 e (by simp)
    have q2 := h2 e' (by simp)
    rw [← a] at q2
    have q3 := Tells.inj ss fs q1 q2
    rw [tells_same r r' b (fun x hx => h1 x (List.mem_cons_of_mem _ hx)) (fun x hx => h2 x (List.mem_cons_of_mem _ hx)), show e = e' from Prod.ext a q3]
theorem esK_at : ∀ (es : List (Str × Str)), (es.map (·.1)).Nodup → ∀ e ∈ es, valV (esK es) (Sum.inr e.1) = some (.str e.2)
  | [], _, e, he => absurd he (by simp)
  | c :: es, nd, e, he => by
    rw [List.map_cons, List.nodup_cons] at nd
    rcases List.mem_cons.mp he with q | q
    · subst q
      exact valV_pos rfl
    · have hne : ¬ c.1 = e.1 := fun z => nd.1 (by rw [z]; exact List.mem_map.mpr ⟨e, q, rfl⟩)
      show valV ((Sum.inr c.1, V.str c.2) :: esK es) _ = _
      rw [valV_neg fun z => hne (Sum.inr.inj z)]
      exact esK_at es nd.2 e q
def tCheck (K : PySem.W.Frag) (CM CW : Addr) : TS := fun D σ H => ∃ (d : Dt) (sn wl : Addr) (av : V) (ws : List Str) (v1 v2 v7 v8 v9 v10 v11 v12 v13 v14 v15 : Option V), σ = slL d v1 v2 wl v7 v8 v9 v10 v11 v12 v13 v14 v15 ∧ J K CM CW d H sn wl av ws ∧ ws.length ≤ 900 ∧
  ∀ H', Same H H' → D.nx σ H'
theorem eqL_data {xs : List V} (h : xs.all okD = true) : PyData.eqv (.list (xs.map dV)) (.list (xs.map dV)) = true :=
  SeqAt.eqv_refl _ (DL.flat (K := []) (H := fun _ => none) xs h).lay
section
variable {P : Program} {w : World} {K : PySem.W.Frag} {mg : Str → Option Value} {base : Heap} {CM CW CB CN pp fD fMa fMI fWI fG fA fIT fT fSe fCa fKn fLe fIt : Addr} {dD dMa dMI dWI dG dA dIT dT dCa dKn dLe dIt : FuncData}
  {f : Addr} {cdv : Value} {A : Around} {outer : List Env} {s : Shared} {H0 : Hp} {E : XK}
theorem LT.iter (T : LT P w K mg base CM CW CB CN pp fD fMa fMI fWI fG fA fIT fT fSe fCa fKn fLe fIt dD dMa dMI dWI dG dA dIT dT dCa dKn dLe dIt) : FnR P w K mg base CX0 1 fIt (spIterF CW "seen") := (T.GIt.raw T.bIt .nil).imp fun vs H Q E h => by
  rw [List.append_nil]
  exact h
theorem LT.leng (T : LT P w K mg base CM CW CB CN pp fD fMa fMI fWI fG fA fIT fT fSe fCa fKn fLe fIt dD dMa dMI dWI dG dA dIT dT dCa dKn dLe dIt) : FnR P w K mg base CX0 1 fLe (spLenF CW "seen") := (T.GLe.raw T.bLe .nil).imp fun vs H Q E h => by
  rw [List.append_nil]
  exact h
theorem lenF_imp {CW : Addr} {fl : Str} (vs : List V) (H : Hp) (Q Q' : VK) (E : XK) (hq : ∀ v H, Q v H → Q' v H) (h : spLenF CW fl vs H Q E) : spLenF CW fl vs H Q' E := by
  obtain ⟨a, dx, fs, t, xs, e, h1, h2, h3, q⟩ := h
  exact ⟨a, dx, fs, t, xs, e, h1, h2, h3, hq _ _ q⟩
theorem law_check (T : LT P w K mg base CM CW CB CN pp fD fMa fMI fWI fG fA fIT fT fSe fCa fKn fLe fIt dD dMa dMI dWI dG dA dIT dT dCa dKn dLe dIt) (hr : Room 9 (A.deeper (envOfC "law" (defScope sLaw) s.heap.objs.size f cdv))) :
    L2.PS (XL P w K mg base f cdv A outer s H0 E) ((forB (lawS 4)).getD 4 noS) (tCheck K CM CW) := by
  have hr3 : Room 3 (A.deeper (envOfC "law" (defScope sLaw) s.heap.objs.size f cdv)) := hr.mono (by decide)
  have hr4 : Room 4 (A.deeper (envOfC "law" (defScope sLaw) s.heap.objs.size f cdv)) := hr.mono (by decide)
  have hr5 : Room 5 (A.deeper (envOfC "law" (defScope sLaw) s.heap.objs.size f cdv)) := hr.mono (by decide)
  have hu64 : (A.deeper (envOfC "law" (defScope sLaw) s.heap.objs.size f cdv)).units + 64 < cLine := by have := hr.un; omega
  have hu0 : (A.deeper (envOfC "law" (defScope sLaw) s.heap.objs.size f cdv)).units < cLine := by omega
  refine PS_imp (ps_if (PW.pt (pw_or (pt_cmpR (op_neD hu64) (pe_callTy (call_listO (E := E0) rfl T.LI T.iter pass0 T.LL T.leng pass0 hr5) (by rfl) T.B.list (by decide +kernel) (pa_cons (pv 5) pa_nil)) (pv 6) (nomark _))
    (pw_or (pt_cmpR op_ne (pe_callB (call_lenO (E := E0) T.LL T.leng pass0 hr3 (fun vs H Q Q' hq h => lenF_imp vs H Q Q' _ hq h)) (by rfl) T.B.len PySem.boot_len (pa_cons (pv 5) pa_nil)) (pe_callB call_len_seq (by rfl) T.B.len PySem.boot_len (pa_cons (pv 6) pa_nil)) (nomark _))
    (pw_or1 (pt_cmpR (op_ne_dictA hu0) (pe_meth0 (E := fun _ _ _ => False) (pv 5) T.TW.cl T.mKn T.GKn hr5 T.bKn .nil (passes_call takes0 (fun _ _ _ _ h => h))) (pe_callS T.GT hr4 rfl T.mT T.kT T.bT (fun σ => passAt takes0 σ) (pa_cons (pv 3) (pa_cons (pv 6) (pa_cons (pv 4) pa_nil)))) (nomark _)))))) pss_never pss_nil) ?_
  rintro D σ H ⟨d, sn, wl, av, ws, v1, v2, v7, v8, v9, v10, v11, v12, v13, v14, v15, rfl, j, hl, k⟩
  have hds := DL.flat (K := K) (H := H) (stv ws) (ab_ok j.ab)
  refine ⟨_, rfl, d.wt, d.dx, _, sn, stv ws, rfl, j.wat, rfl, j.parts.seen, by rw [List.length_map]; omega, fun H1 q hq s1 hq1 => ?_⟩
  refine ⟨_, rfl, .list _, .list _, .lst (SqL.of hq1) (DL.flat (K := K) (H := H1) (stv ws) (ab_ok j.ab)).dp, .lst (SqL.of (s1 _ _ j.list)) (DL.flat (K := K) (H := H1) (stv ws) (ab_ok j.ab)).dp, hds.shL, hds.shL, _, rfl, ?_⟩
  refine ifF (by rw [eqL_data (ab_ok j.ab)]; rfl) ?_
  have j1 := j.same s1
  refine ⟨_, rfl, d.wt, d.dx, _, rfl, j1.wat, d.wt, d.dx, _, sn, stv ws, rfl, j1.wat, rfl, j1.parts.seen, _, rfl, by rw [List.length_map]; omega, ?_⟩
  refine ⟨_, rfl, wl, _, rfl, .inl (SqL.of j1.list), rfl, _, rfl, ?_⟩
  refine ifF (by rw [decide_eq_true rfl]; rfl) ?_
  refine ⟨_, rfl, d.wt, d.dx, _, rfl, j1.wat, rfl, d.wt, d.dx, d.m, d.fr, sn, av, d.many, d.ss, d.fs, ws, rfl, j1.wat, j1.parts, j1.has, fun H2 g es s2 hg hes hte => ?_⟩
  have j2 := j1.same s2
  refine ⟨_, rfl, _, rfl, _, rfl, d.m, wl, d.fr, d.many, d.ss, d.fs, ws, rfl, j2.parts.mach, j2.parts.okm, .inl j2.list, fun z hz => ab_ne (j2.ab z hz), j2.parts.free, j2.parts.okf, fun _ H3 g' es' s3 hg' hes' hte' => ?_, fun no => absurd j2.has no⟩
  have ee : es = es' := tells_same es es' (hes.trans hes'.symm) hte hte'
  subst ee
  refine ⟨g, g', esK es, esK es, rfl, rfl, s3 _ _ hg, hg', rfl, fun p hp => ?_, _, rfl, ?_⟩
  · obtain ⟨e, he, ep⟩ := List.mem_map.mp hp
    rw [← ep]
    exact ⟨esK_at es (by rw [hes]; exact okF_nodup j.parts.okf) e he, rfl⟩
  · exact k H3 ((s1.trans s2).trans s3)
end
end K25

/-! K25: the law's turn: its try. -/
namespace K25
open PySem PySem.Spec PyProof.Rows L2
theorem cutTake (xs : List V) (k : Nat) : cutV xs none (some (k : Int)) = xs.take k := by
  unfold cutV
  have e1 : HT.sIx xs.length 0 none = 0 := rfl
  rw [e1, HT.sIx_nat, List.drop_zero, Nat.sub_zero]
  by_cases h : xs.length ≤ k
  · rw [Nat.min_eq_right h, List.take_length, List.take_of_length_le h]
  · rw [Nat.min_eq_left (by omega)]
theorem tellV_ok {ss : List Stp} {fs ws : List Str} {av o : V} (h : TellV ss fs ws av o) : okD o = true := by
  rcases h with ⟨_, e⟩ | ⟨z, y, _, e, t⟩
  · rw [e]; rfl
  · rw [e]
    rcases t with ⟨_, e⟩ | ⟨_, _, e⟩ | ⟨_, _, e⟩ <;> rw [e] <;> decide +kernel
theorem seeOk_inj {ss : List Stp} {fs ws more : List Str} {av : V} {outs outs' : List V} (h : SeeOk ss fs ws more av outs) (h' : SeeOk ss fs ws more av outs') : outs = outs' := by
  apply List.ext_getElem?
  intro j
  by_cases hj : j < more.length
  · obtain ⟨o, e1, t1⟩ := h.2 j hj
    obtain ⟨o', e2, t2⟩ := h'.2 j hj
    rw [e1, e2, t1.inj t2]
  · rw [List.getElem?_eq_none (by rw [h.1]; omega), List.getElem?_eq_none (by rw [h'.1]; omega)]
theorem seeOk_ok {ss : List Stp} {fs ws more : List Str} {av : V} {outs : List V} (h : SeeOk ss fs ws more av outs) : outs.all okD = true := by
  refine List.all_eq_true.mpr fun o ho => ?_
  obtain ⟨j, hj, e⟩ := List.mem_iff_getElem.mp ho
  obtain ⟨o', e1, t⟩ := h.2 j (by rw [← h.1]; exact hj)
  rw [List.getElem?_eq_getElem hj, e] at e1
  rw [Option.some.inj e1]
  exact tellV_ok t
abbrev rLenQ (K : PySem.W.Frag) : List V → Hp → VK → Prop := fun xs H Q => ∃ p ys, xs = [V.ref p] ∧ (SqL K H p ys ∨ SqT K H p ys) ∧ Q (V.int ys.length) H
def tTold (K : PySem.W.Frag) (CM CW CN : Addr) (W : WX) : TE := fun σ H Q => ∃ (d : Dt) (sn wl mo : Addr) (av : V) (ws more : List Str), σ[5]? = some (some (.ref d.wt)) ∧ σ[8]? = some (some (.ref mo)) ∧ J K CM CW d H sn wl av ws ∧ H mo = some (.lst (stv more)) ∧ (more.length = 1 ∨ more.length = 2) ∧ (∀ z ∈ more, z = "a" ∨ z = "b") ∧ ws.length ≤ 900 ∧
  (Has d.ss d.fs (ws ++ more) → ∀ (H' : Hp) (l sn' : Addr) (outs : List V), KeepP d.wt H H' → H' d.wt = some (.ins CW d.dx (wF (.ref d.m) (.ref d.fr) (.ref sn') av)) → H' sn' = some (.tup (stv (ws ++ more))) → H' l = some (.lst outs) → SeeOk d.ss d.fs ws more av outs → Q (.ref l) H') ∧
  (¬ Has d.ss d.fs (ws ++ more) → ∀ H', Same H H' → W (.ref CN) none σ H')
def tTry (K : PySem.W.Frag) (CM CW : Addr) : TS := fun D σ H => ∃ (d : Dt) (sn wl mo : Addr) (av : V) (ws more : List Str) (b : Bool) (v1 v2 v7 v10 v11 v12 v13 v14 v15 : Option V), σ = slL d v1 v2 wl v7 (some (.ref mo)) (some (.bl b)) v10 v11 v12 v13 v14 v15 ∧ J K CM CW d H sn wl av ws ∧ H mo = some (.lst (stv more)) ∧ (more.length = 1 ∨ more.length = 2) ∧ (∀ z ∈ more, z = "a" ∨ z = "b") ∧ ws.length ≤ 800 ∧ (b = true ↔ Has d.ss d.fs (ws ++ more)) ∧
  (Has d.ss d.fs (ws ++ more) → ∀ (H' : Hp) (sn' wl' : Addr) (w10 w11 w15 : Option V), J K CM CW d H' sn' wl' av (ws ++ more) → D.nx (slL d v1 v2 wl' v7 (some (.ref mo)) (some (.bl b)) w10 w11 v12 v13 v14 w15) H') ∧
  (¬ Has d.ss d.fs (ws ++ more) → ∀ (H' : Hp) (w10 w11 w15 : Option V), Same H H' → D.nx (slL d v1 v2 wl v7 (some (.ref mo)) (some (.bl b)) w10 w11 v12 v13 v14 w15) H')
section
variable {P : Program} {w : World} {K : PySem.W.Frag} {mg : Str → Option Value} {base : Heap} {CM CW CB CN pp fD fMa fMI fWI fG fA fIT fT fSe fCa fKn fLe fIt : Addr} {dD dMa dMI dWI dG dA dIT dT dCa dKn dLe dIt : FuncData}
  {f : Addr} {cdv : Value} {A : Around} {outer : List Env} {s : Shared} {H0 : Hp} {E : XK}
theorem law_try (T : LT P w K mg base CM CW CB CN pp fD fMa fMI fWI fG fA fIT fT fSe fCa fKn fLe fIt dD dMa dMI dWI dG dA dIT dT dCa dKn dLe dIt) (hr : Room 9 (A.deeper (envOfC "law" (defScope sLaw) s.heap.objs.size f cdv))) :
    L2.PS (XL P w K mg base f cdv A outer s H0 E) ((forB (lawS 4)).getD 3 noS) (tTry K CM CW) := by
  have hr4 : Room 4 (A.deeper (envOfC "law" (defScope sLaw) s.heap.objs.size f cdv)) := hr.mono (by decide)
  have hr5 : Room 5 (A.deeper (envOfC "law" (defScope sLaw) s.heap.objs.size f cdv)) := hr.mono (by decide)
  have hr6 : Room 6 (A.deeper (envOfC "law" (defScope sLaw) s.heap.objs.size f cdv)) := hr.mono (by decide)
  have hrH : L2H.RoomH 2 (A.deeper (envOfC "law" (defScope sLaw) s.heap.objs.size f cdv)) := L2H.roomH_of (hr.mono (by decide))
  have hu := hu_of hr
  have hu64 : (A.deeper (envOfC "law" (defScope sLaw) s.heap.objs.size f cdv)).units + 64 < cLine := by have := hr.un; omega
  have nd := scLaw.nd
  refine PS_imp (ps_try_only (x := "NotSeen") rfl rfl ⟨rfl, by decide, .inl T.mN⟩ takes0 (fun W pn xe tk _ =>
    pss_cons (ps_set (i := 10) nd rfl (Or.inl rfl) (PE_imp (t' := tTold K CM CW CN W) (pe_ifExp (pt_cmpR op_eq (pe_callB call_len_seq (by rfl) T.B.len PySem.boot_len (pa_cons (pv 8) pa_nil)) pe_int (nomark _))
        (pe_lst (pa_cons (pe_callOE (pv 5) T.cCa (T.GCa.raw T.bCa .nil) hr6 (fun σ => passAt tk σ) (pa_cons (pe_ix ix_list (pv 8) pe_int (fun _ _ => rfl)) pa_nil)) pa_nil))
        (pe_methE (pv 5) T.TW.cl T.mSe T.GSe hr5 (fun σ => passAt tk σ) (pa_cons (pe_ix ix_list (pv 8) pe_int (fun _ _ => rfl)) (pa_cons (pe_ix ix_list (pv 8) pe_int (fun _ _ => rfl)) pa_nil)))) (fun σ H Q hq => by
          obtain ⟨d, sn, wl, mo, av, ws, more, e5, e8, j, hmo, hml, hab, hl, k1, k2⟩ := hq
          refine ⟨_, e8, mo, _, rfl, .inl (SqL.of hmo), rfl, _, rfl, ite2 (fun h1 => ?_) (fun h1 => ?_)⟩
          · have h2 : more.length = 1 := by
              have := of_decide_eq_true h1
              injection this with q
              rw [List.length_map] at q
              omega
            match more, h2, hmo, hab, k1, k2 with
            | [z], _, hmo, hab, k1, k2 =>
              refine ⟨_, e5, d.wt, rfl, _, e8, mo, _, 0, _, rfl, rfl, SqL.of hmo, atI_nat (j := 0) rfl, .inr ⟨d.dx, _, j.wat⟩, d.wt, d.dx, d.m, d.fr, sn, z, av, d.many, d.ss, d.fs, ws, rfl, j.wat, j.parts, j.asked, ab_ne (hab z (by simp)), hl, fun hh H' sn' o kp hw hs ht => ⟨(by show 1 ≤ sizeLine; decide), fun L hL => ?_⟩, k2⟩
              refine k1 hh _ L sn' [o] (KeepP.put kp hL) (by rw [upd_ne (ne_of_none hw hL)]; exact hw) (by rw [upd_ne (ne_of_none hs hL)]; exact hs) upd_same ⟨rfl, fun i hi => ?_⟩
              have e0 : i = 0 := by
                have : i < 1 := hi
                omega
              subst e0
              exact ⟨o, rfl, ht⟩
          · have h2 : more.length = 2 := by
              refine hml.resolve_left fun q => h1 ?_
              rw [List.length_map, q]
              exact decide_eq_true rfl
            match more, h2, hmo, hab, k1, k2 with
            | [z, y], _, hmo, hab, k1, k2 =>
              exact ⟨_, e5, d.wt, d.dx, _, rfl, j.wat, rfl, _, e8, mo, _, 0, _, rfl, rfl, SqL.of hmo, atI_nat (j := 0) rfl, _, e8, mo, _, 1, _, rfl, rfl, SqL.of hmo, atI_nat (j := 1) rfl, d.wt, d.dx, d.m, d.fr, sn, av, d.many, d.ss, d.fs, ws, [z, y], rfl, j.wat, j.parts, j.asked, fun u hu => ab_ne (hab u hu), by simp, by rw [List.length_append]; show ws.length + 2 ≤ 1000; omega, k1, k2⟩)))
    (pss_cons (ps_if (pt_not (pt_val (pv 9))) pss_never pss_nil)
    (pss_cons (ps_setLc (i := 11) (own := [("_law_size", 15)]) (g := gName 15) (tt := tYes) rfl nd rfl rfl (sw_true rfl rfl rfl (by decide +kernel)) (pi_range1 rfl T.B.range (pa_cons (pe_callB (r := rLenQ K) call_len_seq (by rfl) T.B.len PySem.boot_len (pa_cons (pv 8) pa_nil)) pa_nil)) (blkOk_by (own := [("_law_size", 15)]) (N := nL) (sc := defScope sLaw) (by decide +kernel)) (fun _ _ _ _ _ => pg_name (i := 15) nd rfl (Or.inl rfl)) (fun _ _ _ _ _ => pts_nil)
      (fun _ _ _ _ _ => pe_dgetN hu (pe_callS (E := WE (fun _ _ _ _ => False)) T.GT hr4 rfl T.mT T.kT T.bT (fun σ => passAt takes0 σ) (pa_cons (pv 3) (pa_cons (pe_op op_cat (pv 6) (pe_slice (r := rSlL K) sl_list (pv 8) po_none (po_some (pe_op op_add (pv 15) pe_int)))) (pa_cons (pv 4) pa_nil)))) (pe_propC (E := E0) (pv 5) T.TW.cl T.pG T.GG hrH T.bG) ⟨rfl, rfl, rfl, rfl⟩))
    (pss_cons (ps_if (pt_cmpR (r := rNeD K) (op_neD hu64) (pv 10) (pv 11) (nomark _)) pss_never pss_nil)
    (pss_one (ps_set (i := 6) nd rfl (Or.inr rfl) (pe_op op_cat (pv 6) (pv 8))))))))
    (fun a oe cls d pn _ _ => pss_one (ps_if (pt_val (pv 9)) pss_never pss_nil))) ?_
  rintro D σ H ⟨d, sn, wl, mo, av, ws, more, b, v1, v2, v7, v10, v11, v12, v13, v14, v15, rfl, j, hmo, hml, hab, hl, hb, k1, k2⟩
  have hl2 : more.length ≤ 2 := by omega
  refine ⟨d, sn, wl, mo, av, ws, more, rfl, rfl, j, hmo, hml, hab, by omega, fun hh H1 l sn' outs kp hw hs hl1 so => ?_, fun hh H1 sm => ?_⟩
  · have eb := hb.mpr hh
    subst eb
    have nmo : mo ≠ d.wt := ne_of hmo j.wat (fun z => nomatch z)
    have nwl : wl ≠ d.wt := ne_of j.list j.wat (fun z => nomatch z)
    have hmo1 := kp _ _ nmo hmo
    have hwl1 := kp _ _ nwl j.list
    have hp1 := j.parts.keep j.wat kp
    have hsc := seq_keep j.script j.wat kp
    refine ⟨_, rfl, true, rfl, ?_⟩
    refine ⟨_, rfl, mo, _, rfl, .inl (SqL.of hmo1), _, rfl, by omega, by rw [List.length_map]; omega, fun L hL => lc_it (walk_range (lo := 0) (n := (stv more).length)) (fun n H' => ∃ os : List V, H' L = some (.lst os) ∧ os.length = n ∧ (∀ i, i < n → ∃ o, os[i]? = some o ∧ TellV d.ss d.fs (ws ++ more.take (i + 1)) av o) ∧ Same H1 H') ⟨[], upd_same, rfl, fun i hi => absurd hi (Nat.not_lt_zero _), same_put (Same.refl _) hL⟩ (fun _ _ _ _ => True.intro) ?_ ?_⟩
    · rintro n x H2 H3 hn ⟨os, ho, hol, hot, sm⟩ ⟨rfl, rfl⟩
      rw [List.length_map] at hn
      refine ⟨rfl, _, rfl, _, rfl, _, rfl, _, rfl, _, _, rfl, rfl, _, rfl, mo, _, rfl, SqL.of (sm _ _ hmo1), fun p hp => ?_⟩
      have ecut : cutV (stv more) none (some (0 + (n : Int) + 1)) = stv (more.take (n + 1)) := by
        rw [show (0 + (n : Int) + 1) = ((n + 1 : Nat) : Int) from by omega, cutTake]
        unfold stv
        rw [List.map_take]
      have s3 : Same H3 (upd H3 p (.lst (cutV (stv more) none (some (0 + (n : Int) + 1))))) := same_put (Same.refl _) hp
      refine ⟨wl, p, _, _, rfl, rfl, s3 _ _ (sm _ _ hwl1), upd_same, ?_, fun p2 hp2 => ?_⟩
      · rw [ecut, List.length_map, List.length_map, List.length_take, sizeLine_eq]
        omega
      have s4 : Same H3 (upd (upd H3 p (.lst (cutV (stv more) none (some (0 + (n : Int) + 1))))) p2 (.lst (stv ws ++ cutV (stv more) none (some (0 + (n : Int) + 1))))) := same_put s3 (s3.free hp2)
      have sm4 := sm.trans s4
      have hh' : Has d.ss d.fs (ws ++ more.take (n + 1)) := by
        have e2 : ws ++ more = (ws ++ more.take (n + 1)) ++ more.drop (n + 1) := by rw [List.append_assoc, List.take_append_drop]
        rw [e2] at hh
        exact hh.left
      refine ⟨_, rfl, d.m, p2, d.fr, d.many, d.ss, d.fs, ws ++ more.take (n + 1), rfl, hp1.mach.same sm4, hp1.okm, .inl ?_, fun z hz => ?_, sm4 _ _ hp1.free, hp1.okf, fun _ H5 g es s5 hg hes hte => ?_, fun no => absurd hh' no⟩
      · rw [upd_same, ecut]
        unfold stv
        rw [List.map_append]
      · rcases List.mem_append.mp hz with q | q
        · exact ab_ne (j.ab z q)
        · exact ab_ne (hab z (List.mem_of_mem_take q))
      have sm5 := sm4.trans s5
      have ho5 := s5 _ _ (s4 _ _ ho)
      have fin : ∀ o : V, TellV d.ss d.fs (ws ++ more.take (n + 1)) av o → ∃ acc, H5 L = some (.lst acc) ∧ acc.length < sizeLine ∧ ∃ os : List V, upd H5 L (.lst (acc ++ [o])) L = some (.lst os) ∧ os.length = n + 1 ∧ (∀ i, i < n + 1 → ∃ o, os[i]? = some o ∧ TellV d.ss d.fs (ws ++ more.take (i + 1)) av o) ∧ Same H1 (upd H5 L (.lst (acc ++ [o]))) := fun o ht => by
        refine ⟨os, ho5, by rw [hol, sizeLine_eq]; omega, os ++ [o], upd_same, by rw [List.length_append, hol]; rfl, fun i hi => ?_, same_put sm5 hL⟩
        by_cases c : i = n
        · subst c
          exact ⟨o, by rw [List.getElem?_append_right (by omega), hol, Nat.sub_self]; rfl, ht⟩
        · obtain ⟨o', e1, e2⟩ := hot i (by omega)
          exact ⟨o', by rw [List.getElem?_append_left (by omega)]; exact e1, e2⟩
      refine ⟨g, rfl, .inl ⟨_, .inl hg⟩, _, rfl, d.wt, d.dx, _, rfl, sm5 _ _ hw, d.wt, d.dx, _, _, _, av, rfl, sm5 _ _ hw, ?_⟩
      rcases j.asked with ea | ⟨u, ea, hu'⟩
      · exact .inl ⟨ea, ⟨_, .inl hg⟩, fin _ (.inl ⟨ea, rfl⟩)⟩
      · obtain ⟨y, hy1, hy2⟩ := esK_some es u (by rw [hes]; exact hu')
        have gg : DGet H5 g av (some (.str y)) := by
          have q := DGet.k (k := Sum.inr u) hg
          rw [hy2] at q
          rw [ea]
          exact q
        exact .inr ⟨_, gg, fin _ (.inr ⟨u, y, ea, rfl, hte (u, y) hy1⟩)⟩
    · rintro H2 ⟨os, ho, hol, hot, sm⟩
      rw [List.length_map] at hol hot
      have eo : outs = os := seeOk_inj so ⟨hol, hot⟩
      subst eo
      have hds := DL.flat (K := K) (H := H2) outs (seeOk_ok so)
      refine ⟨_, rfl, _, rfl, .list _, .list _, .lst (SqL.of (sm _ _ hl1)) hds.dp, .lst (SqL.of ho) hds.dp, hds.shL, hds.shL, _, rfl, ?_⟩
      refine ifF (by rw [eqL_data (seeOk_ok so)]; rfl) ?_
      refine ⟨_, rfl, _, rfl, wl, mo, _, _, rfl, rfl, sm _ _ hwl1, sm _ _ hmo1, ?_, fun p hp => ?_⟩
      · rw [List.length_map, List.length_map, sizeLine_eq]
        omega
      have s3 : Same H1 (upd H2 p (.lst (stv ws ++ stv more))) := same_put sm (sm.free hp)
      refine k1 hh _ sn' p _ _ _ ⟨s3.seq hsc, j.len, s3 _ _ hw, ⟨hp1.mach.same s3, hp1.okm, s3 _ _ hp1.free, hp1.okf, s3 _ _ hs, fun z hz => ?_⟩, j.asked, ?_, hh, fun z hz => ?_⟩
      · rcases List.mem_append.mp hz with q | q
        · exact ab_ne (j.ab z q)
        · exact ab_ne (hab z q)
      · rw [upd_same]
        unfold stv
        rw [List.map_append]
      · rcases List.mem_append.mp hz with q | q
        · exact j.ab z q
        · exact hab z q
  · refine ⟨true, T.eN, fun _ a0 ha0 => ⟨_, rfl, b, rfl, ifF ?_ (k2 hh H1 _ _ _ sm)⟩, fun q => Bool.noConfusion q⟩
    cases b with
    | false => rfl
    | true => exact absurd (hb.mp rfl) hh
end
end K25

/-! K25: the law's refused questions. -/
namespace K25
open PySem PySem.Spec PyProof.Rows L2
theorem okA_ok {fs : List Str} {v : V} (okf : OkF fs) (h : OkA fs v) : okD v = true := by
  rcases h with e | ⟨z, e, hz⟩
  · rw [e]; rfl
  · rw [e]
    have := List.all_eq_true.mp (okF_str okf) (V.str z) (List.mem_map.mpr ⟨z, hz, rfl⟩)
    exact this
theorem sh1 {v : V} (h : okD v = true) : SeqAt.shaped (dV v) = true := by
  unfold SeqAt.shaped
  rw [(lay_of v h).1, (lay_of v h).2]
  rfl
/-- the questions that are refused -/
def Bad (v : V) : Prop := (∃ i : Int, v = .int i) ∨ ∃ z : Str, v = .str z ∧ z.cps.size ≤ 1000 ∧ z ≠ "x" ∧ z ≠ "y"
theorem bad_no {fs : List Str} {v : V} (okf : OkF fs) (h : Bad v) : ¬ OkA fs v := by
  rintro (e | ⟨z, e, hz⟩)
  · rcases h with ⟨i, q⟩ | ⟨y, q, _⟩ <;> rw [q] at e <;> cases e
  · rcases h with ⟨i, q⟩ | ⟨y, q, _, n1, n2⟩
    · rw [q] at e; cases e
    · rw [q] at e
      injection e with e
      subst e
      rcases okf with h | h | h <;> subst h
      · exact n1 (by simpa using hz)
      · have : y = ("x" : Str) ∨ y = ("y" : Str) := by simpa using hz
        exact this.elim n1 n2
      · exact absurd hz (by simp)
def tBad (K : PySem.W.Frag) (CM CW : Addr) : TS := fun D σ H => ∃ (d : Dt) (sn wl : Addr) (av bad : V) (ws : List Str) (v1 v2 v7 v8 v9 v10 v11 v14 v15 : Option V), σ = slL d v1 v2 wl v7 v8 v9 v10 v11 (some bad) (some av) v14 v15 ∧ J K CM CW d H sn wl av ws ∧ Bad bad ∧ ∀ H', Same H H' → D.nx σ H'
def tBadW (K : PySem.W.Frag) (CM CW : Addr) : TS := fun D σ H => ∃ (d : Dt) (sn wl : Addr) (av : V) (ws : List Str) (v1 v2 v7 v8 v9 v10 v11 v12 v13 v14 v15 : Option V), σ = slL d v1 v2 wl v7 v8 v9 v10 v11 v12 v13 v14 v15 ∧ J K CM CW d H sn wl av ws ∧ ∀ H', Same H H' → D.nx σ H'
section
variable {P : Program} {w : World} {K : PySem.W.Frag} {mg : Str → Option Value} {base : Heap} {CM CW CB CN pp fD fMa fMI fWI fG fA fIT fT fSe fCa fKn fLe fIt : Addr} {dD dMa dMI dWI dG dA dIT dT dCa dKn dLe dIt : FuncData}
  {f : Addr} {cdv : Value} {A : Around} {outer : List Env} {s : Shared} {H0 : Hp} {E : XK}
theorem law_bad (T : LT P w K mg base CM CW CB CN pp fD fMa fMI fWI fG fA fIT fT fSe fCa fKn fLe fIt dD dMa dMI dWI dG dA dIT dT dCa dKn dLe dIt) (hr : Room 9 (A.deeper (envOfC "law" (defScope sLaw) s.heap.objs.size f cdv))) :
    L2.PS (XL P w K mg base f cdv A outer s H0 E) ((forB (lawS 5)).getD 1 noS) (tBad K CM CW) := by
  have hr8 : Room 8 (A.deeper (envOfC "law" (defScope sLaw) s.heap.objs.size f cdv)) := hr.mono (by decide)
  have hrH : L2H.RoomH 2 (A.deeper (envOfC "law" (defScope sLaw) s.heap.objs.size f cdv)) := L2H.roomH_of (hr.mono (by decide))
  have hu64 : (A.deeper (envOfC "law" (defScope sLaw) s.heap.objs.size f cdv)).units + 64 < cLine := by have := hr.un; omega
  refine PS_imp (ps_try_only (x := "BadKinds") rfl rfl ⟨rfl, by decide, .inl T.mB⟩ takes0 (fun W pn xe tk _ =>
    pss_cons (ps_expr (pe_methE (pv 5) T.TW.cl T.mA (T.GA.raw T.bA .nil) hr8 (fun σ => passAt tk σ) (pa_cons (pv 12) pa_nil))) pss_never)
    (fun a oe cls d pn _ _ => pss_one (ps_if (pt_cmpR (r := rNeD K) (op_neD hu64) (pe_propC (E := E0) (pv 5) T.TW.cl T.pG T.GG ⟨hrH.dp, hrH.un⟩ T.bG) (pv 13) (nomark _)) pss_never pss_nil))) ?_
  rintro D σ H ⟨d, sn, wl, av, bad, ws, v1, v2, v7, v8, v9, v10, v11, v14, v15, rfl, j, hb, k⟩
  refine ⟨_, rfl, d.wt, d.dx, _, rfl, j.wat, rfl, _, rfl, d.wt, d.dx, d.m, d.fr, sn, bad, av, d.many, d.ss, d.fs, ws, rfl, j.wat, j.parts, .inr (hb.imp id fun ⟨z, e, hz, _⟩ => ⟨z, e, hz⟩), fun ok => absurd ok (bad_no j.parts.okf hb), fun _ H1 s1 => ⟨true, T.eB, fun _ a0 ha0 => ?_, fun q => Bool.noConfusion q⟩⟩
  have ho := okA_ok j.parts.okf j.asked
  refine ⟨_, rfl, d.wt, d.dx, _, rfl, s1 _ _ j.wat, d.wt, d.dx, _, _, _, av, rfl, s1 _ _ j.wat, _, rfl, dV av, dV av, dp_of av ho, dp_of av ho, sh1 ho, sh1 ho, _, rfl, ?_⟩
  refine ifF (by rw [SeqAt.eqv_refl _ (lay_of av ho).1]; rfl) (k H1 s1)
theorem law_badW (T : LT P w K mg base CM CW CB CN pp fD fMa fMI fWI fG fA fIT fT fSe fCa fKn fLe fIt dD dMa dMI dWI dG dA dIT dT dCa dKn dLe dIt) (hr : Room 9 (A.deeper (envOfC "law" (defScope sLaw) s.heap.objs.size f cdv))) :
    L2.PS (XL P w K mg base f cdv A outer s H0 E) (lawS 6) (tBadW K CM CW) := by
  refine PS_imp (ps_try_only (x := "BadKinds") rfl rfl ⟨rfl, by decide, .inl T.mB⟩ takes0 (fun W pn xe tk _ =>
    pss_cons (ps_expr (pe_makeKE T.MW T.GWI hr rfl T.mW T.kWI (fun σ => passAt tk σ) (pa_cons (pv 3) (pa_cons (pe_tup (pa_cons pe_str pa_nil)) pa_nil)) (pk_cons pe_str pk_nil))) pss_never)
    (fun a oe cls d pn _ _ => pss_one ps_pass)) ?_
  rintro D σ H ⟨d, sn, wl, av, ws, v1, v2, v7, v8, v9, v10, v11, v12, v13, v14, v15, rfl, j, k⟩
  refine ⟨_, rfl, (by show 1 ≤ sizeLine; decide), fun t ht => ⟨rfl, rfl, fun x dx nx ndx ne => ?_⟩⟩
  have s1 : Same H (upd H t (.tup [.str "x"])) := same_put (Same.refl _) ht
  have s2 := s1.trans (same_made (C := CW) nx ndx)
  refine ⟨x, dx, d.m, t, .str "y", .str "y", d.many, d.ss, [("x" : Str)], rfl, upd_same, j.parts.mach.same s2, j.parts.okm, same_made nx ndx _ _ upd_same, .inl rfl, .inr (.inr ⟨"y", rfl, rfl, by decide +kernel⟩), fun ok => ?_, fun no H' kp => ⟨true, T.eB, fun _ a0 _ => k H' (s1.trans (keep_made nx ndx kp)), fun q => Bool.noConfusion q⟩⟩
  rcases ok with e | ⟨z, e, hz⟩
  · cases e
  · injection e with e
    have h1 : z = ("x" : Str) := by simpa using hz
    rw [h1] at e
    exact absurd e (by decide +kernel)
end
end K25

/-! K25: the law. -/
namespace K25
open PySem PySem.Spec PyProof.Rows L2
def spLaw (K : PySem.W.Frag) : Sp := fun vs H Q _ => ∃ (a : Addr) (ns : List Int), vs = [.ref a] ∧ SqL K H a (ns.map V.int) ∧ ns.length ≤ 63 ∧ ∀ H', Q (.bl true) H'
def iniV : List Str → V
  | [] => .non
  | z :: _ => .str z
theorem ini_is {fs : List Str} {a : V} (h : IniA fs .non a) : a = iniV fs := by
  rcases h with ⟨_, e, e2⟩ | ⟨z, r, _, e, e2⟩ | ⟨z, e, _⟩
  · rw [e, e2]; rfl
  · rw [e, e2]; rfl
  · cases e
/-- the free kind asked of at first -/
def tIni (K : PySem.W.Frag) : TE := fun σ H Q => ∃ (fr : Addr) (fs : List Str), σ[4]? = some (some (.ref fr)) ∧ H fr = some (.tup (stv fs)) ∧ OkF fs ∧ ∀ H', Same H H' → Q (iniV fs) H'
/-- the free kinds drawn -/
def tFree (K : PySem.W.Frag) : TE := fun σ H Q => ∃ (a : Addr) (ns : List Int), σ[0]? = some (some (.ref a)) ∧ SqL K H a (ns.map V.int) ∧ ns.length ≤ 63 ∧ ∀ (H' : Hp) (fr : Addr) (fs : List Str), Same H H' → H' fr = some (.tup (stv fs)) → OkF fs → Q (.ref fr) H'
section
variable {P : Program} {w : World} {K : PySem.W.Frag} {mg : Str → Option Value} {base : Heap} {CM CW CB CN pp fD fMa fMI fWI fG fA fIT fT fSe fCa fKn fLe fIt : Addr} {dD dMa dMI dWI dG dA dIT dT dCa dKn dLe dIt : FuncData}
  {f : Addr} {fd : FuncData}
theorem ok_law (F : FnP K "law" "law" sLaw f fd) (T : LT P w K mg base CM CW CB CN pp fD fMa fMI fWI fG fA fIT fT fSe fCa fKn fLe fIt dD dMa dMI dWI dG dA dIT dT dCa dKn dLe dIt) : FnOk P w K mg base CX0 10 f fd ["_law_script"] (spLaw K) := by
  refine F.ok scLaw (fun vs H Q E h => ?_) (fun cdv A outer s H vs Q E hr h => ?_)
  · obtain ⟨a, ns, rfl, _⟩ := h
    rfl
  · obtain ⟨a, ns, rfl, ha, hl, k⟩ := h
    have hr1 : Room 1 _ := hr.mono (by decide)
    have hr2 : Room 2 _ := hr.mono (by decide)
    have hr3 : Room 3 _ := hr.mono (by decide)
    have hr4 : Room 4 _ := hr.mono (by decide)
    have hr5 : Room 5 _ := hr.mono (by decide)
    have hr8 : Room 8 _ := hr.mono (by decide)
    have hrH : L2H.RoomH 2 (A.deeper (envOfC "law" (defScope sLaw) s.heap.objs.size f cdv)) := L2H.roomH_of (hr.mono (by decide))
    have hu64 : (A.deeper (envOfC "law" (defScope sLaw) s.heap.objs.size f cdv)).units + 64 < cLine := by have := hr.un; omega
    have nd := scLaw.nd
    obtain ⟨dsW, vW, bW⟩ := T.bWI
    refine ⟨_, PSs.nox (pss_cons (ps_asg (pe_call T.GMa hr2 rfl T.mMa T.kMa T.bMa .nil pass0 (pa_cons (pv 0) (pa_cons pe_int (pa_cons pe_int (pa_cons (pe_tup (pa_cons pe_str (pa_cons pe_str (pa_cons pe_str (pa_cons pe_str (pa_cons pe_str pa_nil)))))) (pa_cons (pe_tup (pa_cons pe_str (pa_cons pe_str (pa_cons pe_str pa_nil)))) pa_nil)))))) (pg_tup (by rfl) (pgs_cons (pg_name (i := 1) nd rfl (Or.inl rfl)) (pgs_cons (pg_name (i := 2) nd rfl (Or.inl rfl)) pgs_nil))))
      (pss_cons (ps_asg (pe_tup (pa_cons (pe_make T.MM T.GMI hr4 rfl T.mM T.bMI .nil pass0 (pa_cons (pv 1) (pa_cons (pv 2) pa_nil)))
          (pa_cons (PE_imp (t' := tFree K) (pe_ix ix_tup (pe_tup (pa_cons (pe_tup (pa_cons pe_str pa_nil)) (pa_cons (pe_tup (pa_cons pe_str (pa_cons pe_str pa_nil))) (pa_cons (pe_tup pa_nil) pa_nil)))) (pe_call T.GD hr1 rfl T.mD T.kD T.bD .nil pass0 (pa_cons (pv 0) (pa_cons pe_int (pa_cons pe_int pa_nil)))) (fun _ _ => rfl)) (fun σ H Q hq => by
            obtain ⟨a, ns, e0, ha, hl, k⟩ := hq
            refine ⟨(by show 1 ≤ sizeLine; decide), fun t1 h1 => ⟨(by show 2 ≤ sizeLine; decide), fun t2 h2 => ⟨Nat.zero_le _, fun t3 h3 => ⟨(by show 3 ≤ sizeLine; decide), fun t4 h4 => ?_⟩⟩⟩⟩
            have s1 : Same H (upd H t1 (.tup [.str "x"])) := same_put (Same.refl _) h1
            have s2 : Same (upd H t1 (.tup [.str "x"])) (upd (upd H t1 (.tup [.str "x"])) t2 (.tup [.str "x", .str "y"])) := same_put (Same.refl _) h2
            have s3 := same_put (o := HO.tup []) (Same.refl (upd (upd H t1 (.tup [.str "x"])) t2 (.tup [.str "x", .str "y"]))) h3
            have s4 := same_put (o := HO.tup [.ref t1, .ref t2, .ref t3]) (Same.refl (upd (upd (upd H t1 (.tup [.str "x"])) t2 (.tup [.str "x", .str "y"])) t3 (.tup []))) h4
            have sA := ((s1.trans s2).trans s3).trans s4
            refine ⟨_, e0, a, 300, 3, ns, rfl, sA.seq ha, hl, by decide, by decide, by decide, by decide, fun H5 r s5 r0 r1 => ?_⟩
            have hr : r = ((0 : Nat) : Int) ∨ r = ((1 : Nat) : Int) ∨ r = ((2 : Nat) : Int) := by omega
            rcases hr with e | e | e <;> subst e
            · exact ⟨t4, _, _, _, rfl, rfl, SqT.of (s5 _ _ upd_same), atI_nat (j := 0) rfl, k H5 t1 [("x" : Str)] (sA.trans s5) (s5 _ _ (s4 _ _ (s3 _ _ (s2 _ _ upd_same)))) (.inl rfl)⟩
            · exact ⟨t4, _, _, _, rfl, rfl, SqT.of (s5 _ _ upd_same), atI_nat (j := 1) rfl, k H5 t2 [("x" : Str), ("y" : Str)] (sA.trans s5) (s5 _ _ (s4 _ _ (s3 _ _ upd_same))) (.inr (.inl rfl))⟩
            · exact ⟨t4, _, _, _, rfl, rfl, SqT.of (s5 _ _ upd_same), atI_nat (j := 2) rfl, k H5 t3 [] (sA.trans s5) (s5 _ _ (s4 _ _ upd_same)) (.inr (.inr rfl))⟩)) pa_nil))) (pg_tup (by rfl) (pgs_cons (pg_name (i := 3) nd rfl (Or.inr rfl)) (pgs_cons (pg_name (i := 4) nd rfl (Or.inr rfl)) pgs_nil))))
      (pss_cons (ps_asg (pe_tup (pa_cons (pe_make T.MW T.GWI hr rfl T.mW bW vW (passes_call (E := fun _ _ _ => False) takes0 (fun _ _ _ _ h => h)) (pa_cons (pv 3) (pa_cons (pv 4) pa_nil))) (pa_cons (pe_lst pa_nil) pa_nil))) (pg_tup (by rfl) (pgs_cons (pg_name (i := 5) nd rfl (Or.inr rfl)) (pgs_cons (pg_name (i := 6) nd rfl (Or.inr rfl)) pgs_nil))))
      (pss_cons (ps_if (PW.pt (pw_or (pt_cmpR (op_neD hu64) (pe_propC (E := E0) (pv 5) T.TW.cl T.pG T.GG hrH T.bG) (PE_imp (t' := tIni K) (pe_ifExp (pt_cmpR (op_neD hu64) (pv 4) (pe_tup pa_nil) (nomark _)) (pe_ix ix_tup (pv 4) pe_int (fun _ _ => rfl)) pe_non) (fun σ H Q hq => by
            obtain ⟨fr, fs, e4, hf, okf, k⟩ := hq
            refine ⟨_, e4, Nat.zero_le _, fun y hy => neT_empty (SqT.of (by rw [upd_ne (ne_of_none hf hy)]; exact hf)) (SqT.of upd_same) (DL.flat _ (okF_str okf)) ⟨_, rfl, ?_⟩⟩
            have s1 : Same H (upd H y (.tup [])) := same_put (Same.refl _) hy
            cases fs with
            | nil => exact k _ s1
            | cons z r => exact ⟨_, e4, fr, _, 0, _, rfl, rfl, SqT.of (s1 _ _ hf), atI_nat (j := 0) rfl, k _ s1⟩)) (nomark _))
        (pw_or (pt_cmpR op_ne (pe_callB (call_lenO (E := E0) T.LL T.leng pass0 hr3 (fun vs H Q Q' hq h => lenF_imp vs H Q Q' _ hq h)) (by rfl) T.B.len PySem.boot_len (pa_cons (pv 5) pa_nil)) pe_int (nomark _))
        (pw_or1 (pt_cmpR (op_neD hu64) (pe_callTy (call_listO (E := E0) rfl T.LI T.iter pass0 T.LL T.leng pass0 hr5) (by rfl) T.B.list (by decide +kernel) (pa_cons (pv 5) pa_nil)) (pe_lst pa_nil) (nomark _)))))) pss_never pss_nil)
      (pss_cons (ps_for PassesOwn.never rfl (pi_range1 rfl T.B.range (pa_cons pe_int pa_nil)) (pg_name (i := 7) nd rfl (Or.inr rfl)) (pss_cons (law_more T hr) (pss_cons (law_ask T hr) (pss_cons (law_fine T hr) (pss_cons (law_try T hr) (pss_one (law_check T hr)))))))
      (pss_cons (ps_for PassesOwn.never rfl (pi_tup (pe_tup (pa_cons pe_str (pa_cons pe_str (pa_cons pe_int pa_nil))))) (pg_name (i := 12) nd rfl (Or.inl rfl)) (pss_cons (ps_set (i := 13) nd rfl (Or.inl rfl) (pe_propC (E := E0) (pv 5) T.TW.cl T.pG T.GG hrH T.bG)) (pss_one (law_bad T hr))))
      (pss_cons (law_badW T hr)
      (pss_cons (ps_expr (pe_methE (pv 5) T.TW.cl T.mA (T.GA.raw T.bA .nil) hr8 (fun σ => passAt takes0 σ) (pa_cons pe_non pa_nil)))
      (pss_one (ps_ret (pe_and (pe_cmpR op_isN (pe_propC (E := E0) (pv 5) T.TW.cl T.pG T.GG hrH T.bG) pe_non (nomark _)) (pe_one (pe_cmpR op_eq (pe_propC (E := E0) (pe_makeKE T.MW T.GWI hr rfl T.mW T.kWI (fun σ => passAt takes0 σ) (pa_cons (pv 3) (pa_cons (pe_tup (pa_cons pe_str (pa_cons pe_str pa_nil))) pa_nil)) (pk_cons pe_str pk_nil)) T.TW.cl T.pG T.GG hrH T.bG) pe_str (nomark _)))))))))))))), ?_⟩
    -- a machine is drawn
    refine ⟨_, rfl, (by show 5 ≤ sizeLine; decide), fun kt hkt => ⟨(by show 3 ≤ sizeLine; decide), fun wt hwt => ?_⟩⟩
    have sA : Same H (upd H kt (.tup [.str "", .str "", .str "", .str "x", .str "y"])) := same_put (Same.refl _) hkt
    have sB := sA.trans (same_put (o := HO.tup [.str "", .str "a", .str "b"]) (Same.refl _) hwt)
    refine ⟨a, kt, wt, ns, rfl, sB.seq ha, hl, by rw [upd_ne (ne_of_none upd_same hwt), upd_same]; rfl, upd_same, fun H1 t l many ts s1 ht hl1 hts htl hm1 hm5 => ?_⟩
    refine ⟨t, _, rfl, SqT.of ht, rfl, _, _, rfl, _, _, rfl, rfl, ?_⟩
    have a1 := (sB.trans s1).seq ha
    -- the machine is made, its free kinds are drawn
    refine ⟨_, rfl, _, rfl, fun x dx nx ndx ne => ⟨x, dx, l, many, ts, rfl, upd_same, same_made nx ndx _ _ hl1, fun z hz => ⟨same_made nx ndx _ _ (hts z hz).1, (hts z hz).2⟩, htl, hm1, hm5, fun H2 ss k2 hm okm => ⟨rfl, ?_⟩⟩⟩
    have s2 := keep_made nx ndx k2
    refine ⟨a, ns, rfl, s2.seq a1, hl, fun H3 fr fs s3 hfr okf => ⟨(by show 2 ≤ sizeLine; decide), fun tp htp => ⟨tp, _, rfl, SqT.of upd_same, rfl, _, _, rfl, _, _, rfl, rfl, ?_⟩⟩⟩
    have s4 := s3.trans (same_put (o := HO.tup [.ref x, .ref fr]) (Same.refl _) htp)
    have a4 := s4.seq (s2.seq a1)
    have m4 := hm.same s4
    have f4 : upd H3 tp (.tup [.ref x, .ref fr]) fr = some (.tup (stv fs)) := by rw [upd_ne (ne_of_none hfr htp)]; exact hfr
    obtain ⟨av, ia⟩ := ini_ex fs
    -- the watcher is made
    refine ⟨_, rfl, _, rfl, fun wx wdx nwx nwdx wne => ⟨wx, wdx, x, fr, .non, av, many, ss, fs, rfl, upd_same, m4.same (same_made nwx nwdx), okm, same_made nwx nwdx _ _ f4, okf, ia, fun _ H5 sn kp hw hs => ⟨rfl, ?_⟩, fun no => absurd (okA_ini ia) no⟩⟩
    have s5 := keep_made nwx nwdx kp
    refine ⟨Nat.zero_le _, fun wl hwl => ⟨(by show 2 ≤ sizeLine; decide), fun tq htq => ⟨tq, _, rfl, SqT.of upd_same, rfl, _, _, rfl, _, _, rfl, rfl, ?_⟩⟩⟩
    have s6 : Same H5 (upd H5 wl (.lst [])) := same_put (Same.refl _) hwl
    have s7 := same_put (o := HO.tup [.ref wx, .ref wl]) (Same.refl (upd H5 wl (.lst []))) htq
    have s67 := s6.trans s7
    obtain ⟨d, ed⟩ : ∃ d : Dt, d = ⟨a, wx, wdx, x, fr, many, ss, fs, ns⟩ := ⟨_, rfl⟩
    have j : J K CM CW d (upd (upd H5 wl (.lst [])) tq (.tup [.ref wx, .ref wl])) sn wl av [] := by
      subst ed
      exact ⟨(s5.trans s67).seq a4, hl, s67 _ _ hw, ⟨(m4.same s5).same s67, okm, s67 _ _ (s5 _ _ f4), okf, s67 _ _ hs, fun z hz => absurd hz (by simp)⟩, okA_ini ia, s7 _ _ upd_same, has_nil, fun z hz => absurd hz (by simp)⟩
    have eia : av = iniV d.fs := by rw [ed]; exact ini_is ia
    have ea : a = d.a := by rw [ed]
    have ex : x = d.m := by rw [ed]
    have efr : fr = d.fr := by rw [ed]
    have ewx : wx = d.wt := by rw [ed]
    clear ia s67 s7 s6 s5 kp hw hs f4 m4 a4 s4 s3 hfr s2 hm a1 nwx nwdx
    revert j
    generalize upd (upd H5 wl (.lst [])) tq (.tup [.ref wx, .ref wl]) = H8
    intro j
    subst ea ex efr ewx
    -- nothing is told at first
    have hok := okA_ok j.parts.okf j.asked
    refine ⟨_, rfl, d.wt, d.dx, _, rfl, j.wat, d.wt, d.dx, _, _, _, av, rfl, j.wat, d.fr, d.fs, rfl, j.parts.free, j.parts.okf, fun H9 s9 => ?_⟩
    rw [← eia]
    refine ⟨dV av, dV av, dp_of av hok, dp_of av hok, sh1 hok, sh1 hok, _, rfl, ?_⟩
    refine ifF (by rw [SeqAt.eqv_refl _ (lay_of av hok).1]; rfl) ?_
    have j9 := j.same s9
    refine ⟨_, rfl, d.wt, d.dx, _, rfl, j9.wat, d.wt, d.dx, _, sn, stv [], rfl, j9.wat, rfl, j9.parts.seen, _, rfl, Nat.zero_le _, rfl, _, rfl, ?_⟩
    refine ifF (by decide +kernel) ?_
    refine ⟨_, rfl, d.wt, d.dx, _, sn, stv [], rfl, j9.wat, rfl, j9.parts.seen, Nat.zero_le _, fun H10 q hq s10 hq1 => ⟨Nat.zero_le _, fun y hy => neL_empty (SqL.of (by rw [upd_ne (ne_of_none hq1 hy)]; exact hq1)) (SqL.of upd_same) (DL.flat _ rfl) ⟨_, rfl, ?_⟩⟩⟩
    have j10 := j9.same (s10.trans (same_put (o := HO.lst []) (Same.refl _) hy))
    -- the turns
    refine ⟨4, rfl, by decide, by decide, for_range (lo := 0) (n := 4) (fun i σ H' => ∃ (sn wl : Addr) (av : V) (ws : List Str) (v1 v2 v7 v8 v9 v10 v11 v12 v13 v14 v15 : Option V), σ = slL d v1 v2 wl v7 v8 v9 v10 v11 v12 v13 v14 v15 ∧ J K CM CW d H' sn wl av ws ∧ ws.length ≤ 2 * i) ⟨sn, wl, av, [], _, _, _, _, _, _, _, _, _, _, _, rfl, j10, Nat.le_refl _⟩ ?_ ?_⟩
    · rintro i σ H' hi ⟨sn, wl, av, ws, v1, v2, v7, v8, v9, v10, v11, v12, v13, v14, v15, rfl, j, hws⟩
      refine ⟨d, sn, wl, av, ws, 0 + (i : Int), _, _, _, _, _, _, _, _, _, _, rfl, j, by omega, by omega, fun H2 mo more s2 hmo hml hab => ?_⟩
      refine ⟨d, sn, wl, mo, av, ws, more, 0 + (i : Int), _, _, _, _, _, _, _, _, _, rfl, j.same s2, hmo, by omega, by omega, fun H3 av3 j3 hmo3 => ?_⟩
      refine ⟨d, sn, wl, mo, av3, ws, more, _, _, _, _, _, _, _, _, _, _, rfl, j3, hmo3, hab, by omega, fun H4 b s4 hb => ?_⟩
      refine ⟨d, sn, wl, mo, av3, ws, more, b, _, _, _, _, _, _, _, _, _, rfl, j3.same s4, s4 _ _ hmo3, hml, hab, by omega, hb, fun hh H5 sn' wl' w10 w11 w15 j5 => ?_, fun no H5 w10 w11 w15 s5 => ?_⟩
      · have lw : (ws ++ more).length ≤ 2 * (i + 1) := by rw [List.length_append]; omega
        exact ⟨d, sn', wl', av3, ws ++ more, _, _, _, _, _, _, _, _, _, _, _, rfl, j5, by omega, fun H6 s6 => ⟨sn', wl', av3, ws ++ more, _, _, _, _, _, _, _, _, _, _, _, rfl, j5.same s6, lw⟩⟩
      · have j5 := (j3.same s4).same s5
        exact ⟨d, sn, wl, av3, ws, _, _, _, _, _, _, _, _, _, _, _, rfl, j5, by omega, fun H6 s6 => ⟨sn, wl, av3, ws, _, _, _, _, _, _, _, _, _, _, _, rfl, j5.same s6, by omega⟩⟩
    rintro σ H' ⟨sn, wl, av, ws, v1, v2, v7, v8, v9, v10, v11, v12, v13, v14, v15, rfl, j, hws⟩
    -- what is refused
    refine ⟨(by show 3 ≤ sizeLine; decide), fun u hu => ⟨u, rfl, ⟨_, SqT.of upd_same⟩, for_tup (xs := [.str "q", .str "X", .int 3]) (fun i σ H'' => ∃ (v12 v13 : Option V), σ = slL d v1 v2 wl v7 v8 v9 v10 v11 v12 v13 v14 v15 ∧ Same (upd H' u (.tup [.str "q", .str "X", .int 3])) H'') ⟨_, _, rfl, Same.refl _⟩ ?_ ?_ ?_⟩⟩
    · rintro i σ H'' hi ⟨_, _, _, sm⟩
      exact SqT.of (sm _ _ upd_same)
    · rintro i x σ H'' hx ⟨v12, v13, rfl, sm⟩
      have sm2 := (same_put (o := HO.tup [.str "q", .str "X", .int 3]) (Same.refl _) hu).trans sm
      have j2 := j.same sm2
      have hb : Bad x := by
        rcases i with _ | _ | _ | i
        · exact .inr ⟨"q", (Option.some.inj hx).symm, by decide +kernel, by decide +kernel, by decide +kernel⟩
        · exact .inr ⟨"X", (Option.some.inj hx).symm, by decide +kernel, by decide +kernel, by decide +kernel⟩
        · exact .inl ⟨3, (Option.some.inj hx).symm⟩
        · cases hx
      refine ⟨_, rfl, d.wt, d.dx, _, rfl, j2.wat, d.wt, d.dx, _, _, _, av, rfl, j2.wat, ?_⟩
      exact ⟨d, sn, wl, av, x, ws, _, _, _, _, _, _, _, _, _, rfl, j2, hb, fun H3 s3 => ⟨_, _, rfl, sm.trans s3⟩⟩
    rintro σ H'' ⟨v12, v13, rfl, sm⟩
    have j2 := j.same ((same_put (o := HO.tup [.str "q", .str "X", .int 3]) (Same.refl _) hu).trans sm)
    refine ⟨d, sn, wl, av, ws, _, _, _, _, _, _, _, _, _, _, _, rfl, j2, fun H3 s3 => ?_⟩
    have j3 := j2.same s3
    -- ask(None)
    refine ⟨_, rfl, d.wt, d.dx, _, rfl, j3.wat, rfl, d.wt, d.dx, d.m, d.fr, sn, .non, av, d.many, d.ss, d.fs, ws, rfl, j3.wat, j3.parts, .inl rfl, fun ok H4 kp hw => ?_, fun no => absurd (.inl rfl) no⟩
    have j4 := j3.keep kp hw ok
    refine ⟨_, rfl, d.wt, d.dx, _, rfl, j4.wat, d.wt, d.dx, _, _, _, .non, rfl, j4.wat, rfl, _, rfl, ?_⟩
    refine ⟨_, rfl, (by show 2 ≤ sizeLine; decide), fun t ht => ⟨rfl, rfl, fun x dx nx ndx ne => ?_⟩⟩
    have s5 : Same H4 (upd H4 t (.tup [.str "x", .str "y"])) := same_put (Same.refl _) ht
    have s6 := s5.trans (same_made (C := CW) nx ndx)
    have okA : OkA [("x" : Str), ("y" : Str)] (.str "y") := .inr ⟨"y", rfl, by simp⟩
    refine ⟨x, dx, d.m, t, .str "y", .str "y", d.many, d.ss, [("x" : Str), ("y" : Str)], rfl, upd_same, j4.parts.mach.same s6, j4.parts.okm, same_made nx ndx _ _ upd_same, .inr (.inl rfl), .inr (.inr ⟨"y", rfl, rfl, by decide +kernel⟩), fun _ H7 sn7 kp7 hw7 hs7 => ⟨rfl, x, dx, _, rfl, hw7, x, dx, _, _, _, _, rfl, hw7, rfl, ?_⟩, fun no => absurd okA no⟩
    show Q (.bl (decide (V.str "y" = V.str "y"))) H7
    rw [decide_eq_true rfl]
    exact k H7
end
end K25

namespace K25
open PySem PySem.Spec PyProof.Rows L2
/-! ### the head's facts: where the defs stand, what the classes are -/
open He in
/-- a def that stands at an address found by a path -/
structure DfA where
  at_ : PySem.W.Frag → Addr
  name : Str
  qual : Str
  st : Stmt
  kwd : List (Str × He.Dv) := []
def DfA.val (d : DfA) : He.FnW := some (d.name, d.qual, defArgs d.st, .stmts (defBody d.st), defScope d.st, mainGlobals, [], builtinsNs)
def DfA.kws (K : PySem.W.Frag) (d : DfA) : List (Str × V) := d.kwd.map fun q => (q.1, q.2.v K)
def DfA.obs (K : PySem.W.Frag) (d : DfA) : He.FnW := match K.lookup (d.at_ K) with
  | some ⟨_, _, .func fd, _⟩ => some (fd.name, fd.qualname, fd.params, fd.body, fd.scope, fd.globals, fd.closure, fd.builtins)
  | _ => none
def DfA.ok (K : PySem.W.Frag) (d : DfA) : Bool := PySem.W.keepIn K (.ref (d.at_ K)) && (match K.lookup (d.at_ K) with
  | some ⟨_, _, .func fd, _⟩ => PySem.W.codeIn K fd.code d.qual && (He.dflB K fd.defaults [] && He.kwdB K fd.kwdefaults (d.kws K))
  | _ => false)
theorem DfA.funD {K : PySem.W.Frag} {d : DfA} (e : d.obs K = d.val) (c : d.ok K = true) : ∃ fd, FunD K d.name d.qual (defArgs d.st) (defBody d.st) (defScope d.st) [] (d.kws K) (d.at_ K) fd := by
  obtain ⟨kp, c2⟩ := He.ba c
  unfold DfA.obs at e
  cases q : K.lookup (d.at_ K) with
  | none =>
    rw [q] at c2
    cases c2
  | some o =>
    obtain ⟨oc, od, dt, osl⟩ := o
    rw [q] at c2 e
    cases dt with
    | func fd =>
      obtain ⟨n1, n2, n3, n4, n5, n6, n7, n8, n9, n10, n11, n12, n13, n14, n15⟩ := fd
      have e2 : (some (n1, n2, n3, n4, n5, n6, n7, n15) : He.FnW) = some (d.name, d.qual, defArgs d.st, .stmts (defBody d.st), defScope d.st, mainGlobals, [], builtinsNs) := e
      simp only [Option.some.injEq, Prod.mk.injEq] at e2
      obtain ⟨h1, h2, h3, h4, h5, h6, h7, h8⟩ := e2
      subst h1 h2 h3 h4 h5 h6 h7 h8
      have c3 : (PySem.W.codeIn K n13 d.qual && (He.dflB K n8 [] && He.kwdB K n9 (d.kws K))) = true := c2
      obtain ⟨k1, k2⟩ := He.ba c3
      obtain ⟨k3, k4⟩ := He.ba k2
      exact ⟨_, ⟨oc, od, n8, n9, n10, n11, n12, n13, n14, osl, rfl, q, k1, He.dflB_ok k3, He.kwdB_ok k4⟩, kp⟩
    | _ => cases c2
abbrev AlK : Type := Bool × List He.FnW
def obsK (fa : List He.Fa) (ex : PySem.W.Frag → Bool) (fn : List DfA) (K : PySem.W.Frag) : AlK := ((fa.all fun f => f.ok K) && (ex K && fn.all fun d => d.ok K), fn.map fun d => d.obs K)
def valK (fn : List DfA) : AlK := (true, fn.map DfA.val)
def SaysK (fa : List He.Fa) (ex : PySem.W.Frag → Bool) (fn : List DfA) (K : PySem.W.Frag) : Prop := obsK fa ex fn K = valK fn
def obsKG (n : Nat) (fa : List He.Fa) (ex : PySem.W.Frag → Bool) (fn : List DfA) (g : Addr → Option Obj) : AlK := obsK fa ex fn (He.frG g (He.asD g n))
def hookK (n : Nat) (fa : List He.Fa) (ex : PySem.W.Frag → Bool) (fn : List DfA) : PySem.W.Hook where
  α := AlK
  obs := fun s => obsKG n fa ex fn s.heap.get?
  val := fun _ => valK fn
  says := fun _ h => ∃ K : PySem.W.Frag, K.In h ∧ SaysK fa ex fn K
  of := fun _ _ e => ⟨_, He.frG_in, e⟩
  keeps := fun _ _ _ ⟨K, hK, c⟩ k => ⟨K, PySem.W.Frag.In.keeps hK k, c⟩
theorem obsKG_eq {n : Nat} {fa : List He.Fa} {ex : PySem.W.Frag → Bool} {fn : List DfA} {g : Addr → Option Obj} {s : Shared} (h : ∀ a, g a = s.heap.get? a) : obsKG n fa ex fn g = (hookK n fa ex fn).obs s := by
  have e : g = s.heap.get? := funext h
  rw [e] <;> rfl
section
variable {fa : List He.Fa} {ex : PySem.W.Frag → Bool} {fn : List DfA} {K : PySem.W.Frag}
theorem SaysK.fact (c : SaysK fa ex fn K) (i : Nat) {f : He.Fa} (h : fa[i]? = some f := by rfl) : f.ok K = true :=
  List.all_eq_true.mp (He.ba (congrArg (fun z : AlK => z.1) c)).1 f (List.mem_of_getElem? h)
theorem SaysK.more (c : SaysK fa ex fn K) : ex K = true := (He.ba (He.ba (congrArg (fun z : AlK => z.1) c)).2).1
theorem SaysK.def_ (c : SaysK fa ex fn K) (i : Nat) {d : DfA} (h : fn[i]? = some d := by rfl) : ∃ fd, FunD K d.name d.qual (defArgs d.st) (defBody d.st) (defScope d.st) [] (d.kws K) (d.at_ K) fd := by
  have c2 := (He.ba (He.ba (congrArg (fun z : AlK => z.1) c)).2).2
  have e : fn.map (fun d => d.obs K) = fn.map DfA.val := congrArg (fun z : AlK => z.2) c
  have e2 : (fn.map fun d => d.obs K)[i]? = (fn.map DfA.val)[i]? := by rw [e]
  rw [List.getElem?_map, List.getElem?_map, h] at e2
  exact DfA.funD (Option.some.inj e2) (List.all_eq_true.mp c2 d (List.mem_of_getElem? h))
end
/-! ### this text's facts -/
def gg (x : Str) : PySem.W.Frag → Addr := fun K => He.ga K x
def mm (x m : Str) : PySem.W.Frag → Addr := fun K => He.ma K (He.ga K x) m
/-- the property about: its getter, its setter -/
def pAt (K : PySem.W.Frag) : Addr := He.ma K (He.ga K "Watcher") "about"
def pRec (K : PySem.W.Frag) (i : Nat) : Addr := match PySem.W.recIn K (pAt K) "property" with
  | some vs => (match vs[i]? with
    | some (.ref a) => a
    | _ => 0)
  | none => 0
def fns : List DfA := [⟨gg "is_number", "is_number", "is_number", sIsNum, []⟩, ⟨gg "is_word", "is_word", "is_word", sIsWord, []⟩, ⟨gg "is_step", "is_step", "is_step", sIsStep, []⟩,
  ⟨mm "Machine" "__init__", "__init__", "Machine.__init__", sMInit, []⟩, ⟨gg "check_kinds", "check_kinds", "check_kinds", sCheckKinds, []⟩,
  ⟨mm "View" "__init__", "__init__", "View.__init__", sVInit, []⟩, ⟨mm "View" "closed", "closed", "View.closed", sVClosed, []⟩, ⟨mm "View" "start", "start", "View.start", sVStart, []⟩,
  ⟨mm "View" "behind", "behind", "View.behind", sVBehind, []⟩, ⟨mm "View" "has", "has", "View.has", sVHas, []⟩, ⟨gg "is_trace", "is_trace", "is_trace", sIsTrace, []⟩,
  ⟨gg "check_asked", "check_asked", "check_asked", sCheckAsked, []⟩, ⟨gg "watch", "watch", "watch", sWatch, []⟩, ⟨gg "closed", "closed", "closed", sClosed, []⟩,
  ⟨mm "Watcher" "__init__", "__init__", "Watcher.__init__", sWInit, [("about", .non)]⟩, ⟨fun K => pRec K 0, "about", "Watcher.about", sWAbout, []⟩, ⟨fun K => pRec K 1, "about", "Watcher.about", sWSet, []⟩,
  ⟨mm "Watcher" "ask", "ask", "Watcher.ask", sWAsk, []⟩, ⟨mm "Watcher" "see", "see", "Watcher.see", sWSee, []⟩, ⟨mm "Watcher" "__call__", "__call__", "Watcher.__call__", sWCall, []⟩,
  ⟨mm "Watcher" "known", "known", "Watcher.known", sWKnown, []⟩, ⟨mm "Watcher" "__len__", "__len__", "Watcher.__len__", sWLen, []⟩, ⟨mm "Watcher" "__iter__", "__iter__", "Watcher.__iter__", sWIter, []⟩,
  ⟨gg "_law_draw", "_law_draw", "_law_draw", sDraw, []⟩, ⟨gg "_law_machine", "_law_machine", "_law_machine", sMachine, []⟩, ⟨gg "law", "law", "law", sLaw, []⟩]
def fcts : List He.Fa := [.glo "is_number", .glo "is_word", .glo "is_step", .glo "Machine", .glo "check_kinds", .glo "View", .glo "is_trace", .glo "check_asked", .glo "watch", .glo "closed", .glo "Watcher", .glo "_law_draw", .glo "_law_machine", .glo "law", .glo "BadKinds", .glo "NotSeen",
  .free "isinstance", .free "int", .free "bool", .free "str", .free "len", .free "all", .free "tuple", .free "list", .free "enumerate", .free "sorted", .free "range", .free "zip", .free "dict", .free "any", .free "iter",
  .int "MOST_STATES" 3000, .int "MOST_LETTERS" 8, .cls "Machine", .cls "View", .cls "Watcher",
  .noat "Machine" "many", .noat "Machine" "steps", .noat "Machine" "ways", .noat "Machine" "kinds", .noat "Machine" "words",
  .noat "View" "hidden", .noat "View" "shown", .noat "Watcher" "machine", .noat "Watcher" "free", .noat "Watcher" "seen", .noat "Watcher" "asked",
  .meth "View" "closed", .meth "View" "start", .meth "View" "behind", .meth "View" "has", .meth "Watcher" "ask", .meth "Watcher" "see", .meth "Watcher" "known", .meth "Watcher" "__len__", .meth "Watcher" "__iter__",
  .mkr "Machine", .mkr "View", .mkr "Watcher", .exc "BadKinds", .exc "NotSeen", .exm "BadKinds" "BadKinds" true, .exm "NotSeen" "NotSeen" true]
def exK (K : PySem.W.Frag) : Bool :=
  He.eqO (PySem.W.findIn K (.ref (He.ga K "Watcher")) "about") (some (some (.ref (pAt K)))) && (He.eqO (PySem.W.specialIn K (.ref (pAt K)) "__get__") (some (some (.builtin "property.__get__"))) &&
  (He.eqO (PySem.W.specialIn K (.ref (pAt K)) "__set__") (some (some (.builtin "property.__set__"))) && (decide (PySem.W.takesIn K (.ref (pAt K)) = some true) && ((match PySem.W.recIn K (pAt K) "property" with
    | some (.ref a :: .ref b :: _) => decide (a = pRec K 0) && decide (b = pRec K 1)
    | _ => false) && (PySem.W.isFn K (.ref (pRec K 0)) && (PySem.W.isFn K (.ref (pRec K 1)) &&
  (He.eqO (PySem.W.findIn K (.ref (He.ga K "Watcher")) "__call__") (some (some (.ref (mm "Watcher" "__call__" K)))) && (PySem.W.isFn K (.ref (mm "Watcher" "__call__" K)) && PySem.W.fnIn K (mm "Watcher" "__call__" K)))))))))
abbrev R : PySem.W.OpenRow := PySem.W.OpenLaw.row PySem.Challenge.rw_allbrokers_k25_whole_watchers
abbrev hk : PySem.W.Hook := hookK 6 fcts exK fns
def ob (s : PySem.W.SharedT) : AlK := obsKG 6 fcts exK fns (HandSHeadRun.getT s)
theorem ob_eq (s : PySem.W.SharedT) : ob s = hk.obs s.abs := obsKG_eq (HandSHeadRun.getT_eq s)
def lse : List PySem.Str := ["_wall", "BrokerError", "BadMachine", "BadStates", "BadKinds", "NotSeen", "MOST_STATES", "MOST_LETTERS", "is_number", "is_word", "is_step", "Machine", "check_state", "check_kinds", "View", "is_trace", "check_asked", "watch", "closed", "Watcher", "_law_draw", "_law_machine", "_law_some"]
theorem run (w : World) : HandSHeadRun.RunEq R (PySem.W.view R.prog [28]) hk ob 3600 lse w := by
  intro os
  kernel_rfl
end K25

/-! K25: from the head's facts to the law. -/
namespace K25
open PySem PySem.Spec PyProof.Rows L2
theorem ex_ok {K : PySem.W.Frag} (h : exK K = true) : PropOf K (He.ga K "Watcher") "about" (pAt K) (pRec K 0) ∧ PropSet K (He.ga K "Watcher") "about" (pAt K) (pRec K 1) ∧ StX.CallO K (He.ga K "Watcher") (mm "Watcher" "__call__" K) := by
  unfold exK at h
  obtain ⟨h1, h⟩ := He.ba h
  obtain ⟨h2, h⟩ := He.ba h
  obtain ⟨h3, h⟩ := He.ba h
  obtain ⟨h4, h⟩ := He.ba h
  obtain ⟨h5, h⟩ := He.ba h
  obtain ⟨h6, h⟩ := He.ba h
  obtain ⟨h7, h⟩ := He.ba h
  obtain ⟨h8, h⟩ := He.ba h
  obtain ⟨h9, h10⟩ := He.ba h
  have e1 := He.eqO_ok h1
  have e2 := He.eqO_ok h2
  have e4 : PySem.W.takesIn K (.ref (pAt K)) = some true := of_decide_eq_true h4
  have hrec : ∃ rest, PySem.W.recIn K (pAt K) "property" = some (.ref (pRec K 0) :: .ref (pRec K 1) :: rest) := by
    split at h5
    · rename_i a b rest er
      obtain ⟨q1, q2⟩ := He.ba h5
      have q1 := of_decide_eq_true q1
      have q2 := of_decide_eq_true q2
      exact ⟨rest, by rw [er, q1, q2]⟩
    · cases h5
  obtain ⟨rest, hrec⟩ := hrec
  have ty : PySem.W.typeIn K (.ref (pAt K)) = some (.type "property") := by
    have q := hrec
    unfold PySem.W.recIn at q
    split at q
    · rename_i n d ws sl ho
      split at q
      · rename_i q2
        show (K.lookup (pAt K)).map (·.cls) = _
        rw [ho, beq_iff_eq.mp q2]
        rfl
      · cases q
    · cases q
  refine ⟨⟨e1, e2, e4, ⟨_, hrec⟩⟩, ⟨?_, ty, ⟨_, _, hrec⟩⟩, ⟨He.eqO_ok h8, h9, h10⟩⟩
  unfold PySem.W.takerIn
  rw [e1]
  show (PySem.W.takesIn K (.ref (pAt K))).map (fun b => if b then some (Value.ref (pAt K)) else none) = _
  rw [e4]
  rfl
theorem exc_t {K : PySem.W.Frag} {h : Heap} {mg : Str → Option Value} {x : Str} (X : K.In h) (G : h.Ns mainGlobals mg) (c1 : (He.Fa.glo x).ok K = true) (c2 : (He.Fa.exc x).ok K = true) : ExcT K mg x (He.ga K x) := by
  obtain ⟨e1, e2, e3, e4⟩ := He.exc_ok c2
  exact ⟨He.glo_ok X G c1, e1, e2, e3, e4⟩
theorem facts {P : Program} {w : World} {K : PySem.W.Frag} {h : Heap} {mg : Str → Option Value} {f : Addr} (X : K.In h) (G : h.Ns mainGlobals mg) (hfa : mg ("law" : Str) = some (.ref f)) (c : SaysK fcts exK fns K) :
    ∃ fd : FuncData, (∀ (s : Shared) (v : Value), BindsTo s fd ⟨[v], []⟩ [("_law_script", v)]) ∧ ∀ base : Heap, K.In base → base.Ns mainGlobals mg → FnOk P w K mg base CX0 10 f fd ["_law_script"] (spLaw K) := by
  obtain ⟨dN, FN⟩ := c.def_ 0
  obtain ⟨dW, FW⟩ := c.def_ 1
  obtain ⟨dS, FS⟩ := c.def_ 2
  obtain ⟨dMI, FMI⟩ := c.def_ 3
  obtain ⟨dK, FK⟩ := c.def_ 4
  obtain ⟨dVI, FVI⟩ := c.def_ 5
  obtain ⟨dVC, FVC⟩ := c.def_ 6
  obtain ⟨dVS, FVS⟩ := c.def_ 7
  obtain ⟨dVB, FVB⟩ := c.def_ 8
  obtain ⟨dVH, FVH⟩ := c.def_ 9
  obtain ⟨dIT, FIT⟩ := c.def_ 10
  obtain ⟨dCA, FCA⟩ := c.def_ 11
  obtain ⟨dT, FT⟩ := c.def_ 12
  obtain ⟨dC, FC⟩ := c.def_ 13
  obtain ⟨dWI, FWI⟩ := c.def_ 14
  obtain ⟨dG, FG⟩ := c.def_ 15
  obtain ⟨dWS, FWS⟩ := c.def_ 16
  obtain ⟨dA, FA⟩ := c.def_ 17
  obtain ⟨dSe, FSe⟩ := c.def_ 18
  obtain ⟨dCa, FCa⟩ := c.def_ 19
  obtain ⟨dKn, FKn⟩ := c.def_ 20
  obtain ⟨dLe, FLe⟩ := c.def_ 21
  obtain ⟨dIt, FIt⟩ := c.def_ 22
  obtain ⟨dD, FD⟩ := c.def_ 23
  obtain ⟨dMa, FMa⟩ := c.def_ 24
  obtain ⟨dL, FL⟩ := c.def_ 25
  have bN : Binds K dN ["thing"] [] := FunD.bindsN (ps := ["thing"]) FN fun _ _ _ _ _ _ us hl => match us, hl with | [_], _ => rfl
  have bW : Binds K dW ["thing"] [] := FunD.bindsN (ps := ["thing"]) FW fun _ _ _ _ _ _ us hl => match us, hl with | [_], _ => rfl
  have bS : Binds K dS ["thing", "many", "known"] [] := FunD.bindsN (ps := ["thing", "many", "known"]) FS fun _ _ _ _ _ _ us hl => match us, hl with | [_, _, _], _ => rfl
  have bMI : Binds K dMI ["self", "many", "steps"] [] := FunD.bindsN (ps := ["self", "many", "steps"]) FMI fun _ _ _ _ _ _ us hl => match us, hl with | [_, _, _], _ => rfl
  have bK : Binds K dK ["free"] [] := FunD.bindsN (ps := ["free"]) FK fun _ _ _ _ _ _ us hl => match us, hl with | [_], _ => rfl
  have bVI : Binds K dVI ["self", "machine", "free"] [] := FunD.bindsN (ps := ["self", "machine", "free"]) FVI fun _ _ _ _ _ _ us hl => match us, hl with | [_, _, _], _ => rfl
  have bVC : Binds K dVC ["self", "states"] [] := FunD.bindsN (ps := ["self", "states"]) FVC fun _ _ _ _ _ _ us hl => match us, hl with | [_, _], _ => rfl
  have bVS : Binds K dVS ["self"] [] := FunD.bindsN (ps := ["self"]) FVS fun _ _ _ _ _ _ us hl => match us, hl with | [_], _ => rfl
  have bVB : Binds K dVB ["self", "states", "word"] [] := FunD.bindsN (ps := ["self", "states", "word"]) FVB fun _ _ _ _ _ _ us hl => match us, hl with | [_, _, _], _ => rfl
  have bVH : Binds K dVH ["self", "trace"] [] := FunD.bindsN (ps := ["self", "trace"]) FVH fun _ _ _ _ _ _ us hl => match us, hl with | [_, _], _ => rfl
  have bIT : Binds K dIT ["machine", "trace", "free"] [] := FunD.bindsN (ps := ["machine", "trace", "free"]) FIT fun _ _ _ _ _ _ us hl => match us, hl with | [_, _, _], _ => rfl
  have bCA : Binds K dCA ["kind", "free"] [] := FunD.bindsN (ps := ["kind", "free"]) FCA fun _ _ _ _ _ _ us hl => match us, hl with | [_, _], _ => rfl
  have bT : Binds K dT ["machine", "trace", "free"] [] := FunD.bindsN (ps := ["machine", "trace", "free"]) FT fun _ _ _ _ _ _ us hl => match us, hl with | [_, _, _], _ => rfl
  have bC : Binds K dC ["machine", "free", "kind", "states"] [] := FunD.bindsN (ps := ["machine", "free", "kind", "states"]) FC fun _ _ _ _ _ _ us hl => match us, hl with | [_, _, _, _], _ => rfl
  have bG : Binds K dG ["self"] [] := FunD.bindsN (ps := ["self"]) FG fun _ _ _ _ _ _ us hl => match us, hl with | [_], _ => rfl
  have bWS : Binds K dWS ["self", "about"] [] := FunD.bindsN (ps := ["self", "about"]) FWS fun _ _ _ _ _ _ us hl => match us, hl with | [_, _], _ => rfl
  have bA : Binds K dA ["self", "about"] [] := FunD.bindsN (ps := ["self", "about"]) FA fun _ _ _ _ _ _ us hl => match us, hl with | [_, _], _ => rfl
  have bCa : Binds K dCa ["self", "word"] [] := FunD.bindsN (ps := ["self", "word"]) FCa fun _ _ _ _ _ _ us hl => match us, hl with | [_, _], _ => rfl
  have bKn : Binds K dKn ["self"] [] := FunD.bindsN (ps := ["self"]) FKn fun _ _ _ _ _ _ us hl => match us, hl with | [_], _ => rfl
  have bLe : Binds K dLe ["self"] [] := FunD.bindsN (ps := ["self"]) FLe fun _ _ _ _ _ _ us hl => match us, hl with | [_], _ => rfl
  have bIt : Binds K dIt ["self"] [] := FunD.bindsN (ps := ["self"]) FIt fun _ _ _ _ _ _ us hl => match us, hl with | [_], _ => rfl
  have bD : Binds K dD ["_law_script", "_law_at", "_law_many"] [] := FunD.bindsN (ps := ["_law_script", "_law_at", "_law_many"]) FD fun _ _ _ _ _ _ us hl => match us, hl with | [_, _, _], _ => rfl
  have bMa : Binds K dMa ["_law_script", "_law_at", "_law_most", "_law_kinds", "_law_words"] [] := FunD.bindsN (ps := ["_law_script", "_law_at", "_law_most", "_law_kinds", "_law_words"]) FMa fun _ _ _ _ _ _ us hl => match us, hl with | [_, _, _, _, _], _ => rfl
  have bWI : ∃ ds, Vals [V.non] ds ∧ Binds K dWI ["self", "machine", "free", "about"] ds := FunD.binds0 (ps := ["self", "machine", "free", "about"]) FWI 3 (by intro z; cases z) rfl fun D doc pm an cdv ct us ks hl hk => match us, hl, ks, hk with
    | [_, _, _], _, [_], _ => ⟨_, _, _, _, _, _, rfl, rfl, rfl⟩
  have kWI : KBn K dWI ["self", "machine", "free", "about"] (2 + 1) ["about"] (fun us ws => us ++ ws) (fun vs zs => vs ++ zs) := by
    obtain ⟨mv, q⟩ := FunD.kbinds0 (ps := ["self", "machine", "free", "about"]) FWI 3 ["about"] [] (fun us _ ws => us ++ ws) (by intro z; cases z) (fun q hq => absurd hq (by simp)) (fun r1 _ r3 => r1.append r3) fun D doc pm an cdv ct us mv ws h1 h2 h3 => match us, h1, mv, h2, ws, h3 with
      | [_, _, _], _, [], _, [_], _ => rfl
    exact q
  obtain ⟨pG, pS, cCa⟩ := ex_ok c.more
  have e := hfa.symm.trans (He.glo_ok X G (c.fact 13 (f := .glo "law") rfl))
  cases e
  have bL := FunD.bindsA (ps := ["_law_script"]) FL fun _ _ _ _ _ _ us hl => match us, hl with | [_], _ => rfl
  refine ⟨dL, fun s v => bL s [v] rfl, fun base _ _ => ?_⟩
  have B : Bi mg := ⟨He.free_ok X G (c.fact 16 (f := .free "isinstance") rfl), He.free_ok X G (c.fact 17 (f := .free "int") rfl), He.free_ok X G (c.fact 18 (f := .free "bool") rfl), He.free_ok X G (c.fact 19 (f := .free "str") rfl), He.free_ok X G (c.fact 20 (f := .free "len") rfl), He.free_ok X G (c.fact 21 (f := .free "all") rfl), He.free_ok X G (c.fact 29 (f := .free "any") rfl), He.free_ok X G (c.fact 22 (f := .free "tuple") rfl), He.free_ok X G (c.fact 23 (f := .free "list") rfl), He.free_ok X G (c.fact 24 (f := .free "enumerate") rfl), He.free_ok X G (c.fact 25 (f := .free "sorted") rfl), He.free_ok X G (c.fact 26 (f := .free "range") rfl), He.free_ok X G (c.fact 27 (f := .free "zip") rfl), He.free_ok X G (c.fact 28 (f := .free "dict") rfl), He.free_ok X G (c.fact 30 (f := .free "iter") rfl), He.int_ok X G (c.fact 32 (f := .int "MOST_LETTERS" 8) rfl), He.int_ok X G (c.fact 31 (f := .int "MOST_STATES" 3000) rfl)⟩
  have mN := He.glo_ok X G (c.fact 0 (f := .glo "is_number") rfl)
  have mW := He.glo_ok X G (c.fact 1 (f := .glo "is_word") rfl)
  have mS := He.glo_ok X G (c.fact 2 (f := .glo "is_step") rfl)
  have mM := He.glo_ok X G (c.fact 3 (f := .glo "Machine") rfl)
  have mK := He.glo_ok X G (c.fact 4 (f := .glo "check_kinds") rfl)
  have mV := He.glo_ok X G (c.fact 5 (f := .glo "View") rfl)
  have mIT := He.glo_ok X G (c.fact 6 (f := .glo "is_trace") rfl)
  have mCA := He.glo_ok X G (c.fact 7 (f := .glo "check_asked") rfl)
  have mT := He.glo_ok X G (c.fact 8 (f := .glo "watch") rfl)
  have mC := He.glo_ok X G (c.fact 9 (f := .glo "closed") rfl)
  have mWa := He.glo_ok X G (c.fact 10 (f := .glo "Watcher") rfl)
  have mD := He.glo_ok X G (c.fact 11 (f := .glo "_law_draw") rfl)
  have mMa := He.glo_ok X G (c.fact 12 (f := .glo "_law_machine") rfl)
  have xB := exc_t X G (c.fact 14 (f := .glo "BadKinds") rfl) (c.fact 59 (f := .exc "BadKinds") rfl)
  have xN := exc_t X G (c.fact 15 (f := .glo "NotSeen") rfl) (c.fact 60 (f := .exc "NotSeen") rfl)
  have TM : TM K (He.ga K "Machine") := ⟨He.cls_ok (c.fact 33 (f := .cls "Machine") rfl), He.noat_ok (c.fact 36 (f := .noat "Machine" "many") rfl), He.noat_ok (c.fact 37 (f := .noat "Machine" "steps") rfl), He.noat_ok (c.fact 38 (f := .noat "Machine" "ways") rfl), He.noat_ok (c.fact 39 (f := .noat "Machine" "kinds") rfl), He.noat_ok (c.fact 40 (f := .noat "Machine" "words") rfl)⟩
  have TV : TV K (He.ga K "View") := ⟨He.cls_ok (c.fact 34 (f := .cls "View") rfl), He.noat_ok (c.fact 41 (f := .noat "View" "hidden") rfl), He.noat_ok (c.fact 42 (f := .noat "View" "shown") rfl)⟩
  have TW : TW K (He.ga K "Watcher") := ⟨He.cls_ok (c.fact 35 (f := .cls "Watcher") rfl), He.noat_ok (c.fact 43 (f := .noat "Watcher" "machine") rfl), He.noat_ok (c.fact 44 (f := .noat "Watcher" "free") rfl), He.noat_ok (c.fact 45 (f := .noat "Watcher" "seen") rfl), He.noat_ok (c.fact 46 (f := .noat "Watcher" "asked") rfl)⟩
  have mVC := He.meth_ok (c.fact 47 (f := .meth "View" "closed") rfl)
  have mVS := He.meth_ok (c.fact 48 (f := .meth "View" "start") rfl)
  have mVB := He.meth_ok (c.fact 49 (f := .meth "View" "behind") rfl)
  have mVH := He.meth_ok (c.fact 50 (f := .meth "View" "has") rfl)
  have mA := He.meth_ok (c.fact 51 (f := .meth "Watcher" "ask") rfl)
  have mSe := He.meth_ok (c.fact 52 (f := .meth "Watcher" "see") rfl)
  have mKn := He.meth_ok (c.fact 53 (f := .meth "Watcher" "known") rfl)
  have mLe := He.meth_ok (c.fact 54 (f := .meth "Watcher" "__len__") rfl)
  have mIt := He.meth_ok (c.fact 55 (f := .meth "Watcher" "__iter__") rfl)
  have MM := He.mkr_ok (c.fact 56 (f := .mkr "Machine") rfl)
  have MV := He.mkr_ok (c.fact 57 (f := .mkr "View") rfl)
  have MW := He.mkr_ok (c.fact 58 (f := .mkr "Watcher") rfl)
  have GN := ok_isNum (P := P) (w := w) (base := base) FN B
  have GW := ok_isWord (P := P) (w := w) (base := base) FW B
  have GS := ok_isStep (P := P) (w := w) (base := base) FS B GN mN FN.kp bN GW mW FW.kp bW
  have GMI := ok_mInit (P := P) (w := w) (base := base) FMI B TM GN mN FN.kp bN GS mS FS.kp bS
  have GK := ok_checkKinds (P := P) (w := w) (base := base) FK B GW mW FW.kp bW
  have GVI := ok_vInit (P := P) (w := w) (base := base) FVI B TM TV
  have GVC := ok_vClosed (P := P) (w := w) (base := base) FVC B TV
  have GVS := ok_vStart (P := P) (w := w) (base := base) FVS TV GVC mVC bVC
  have GVB := ok_vBehind (P := P) (w := w) (base := base) FVB TV GVC mVC bVC
  have GVH := ok_vHas (P := P) (w := w) (base := base) FVH TV GVS mVS bVS GVB mVB bVB
  have VCs : VCalls P w K mg base (He.ga K "Machine") (He.ga K "View") (He.ga K "check_kinds") (He.ma K (He.ga K "View") "__init__") (He.ma K (He.ga K "View") "has") dK dVI dVH := ⟨TV, GK, mK, FK.kp, bK, MV, GVI, mV, bVI, GVH, mVH, bVH⟩
  have GIT := ok_isTrace (P := P) (w := w) (base := base) FIT VCs
  have GCA := ok_checkAsked (P := P) (w := w) (base := base) FCA xB GK mK FK.kp bK GW mW FW.kp bW
  have GC := ok_closed (P := P) (w := w) (base := base) FC B TM
  have GT := ok_watch (P := P) (w := w) (base := base) FT B TM VCs xN GC mC FC.kp bC
  have GG := ok_getter (P := P) (w := w) (mg := mg) (base := base) FG TW
  have GWS := ok_wset (P := P) (w := w) (base := base) (CM := He.ga K "Machine") FWS TW GCA mCA FCA.kp bCA
  have GA := ok_ask (P := P) (w := w) (base := base) FA TW pS GWS bWS
  have GWI := ok_winit (P := P) (w := w) (base := base) FWI TW pS GWS bWS GK mK FK.kp bK
  have GSe := ok_see (P := P) (w := w) (base := base) FSe B TW GT mT FT.kp bT
  have GCa := ok_wcall (P := P) (w := w) (base := base) FCa TW mSe GSe
  have GKn := ok_known (P := P) (w := w) (base := base) FKn TW GT mT FT.kp bT
  have GLe := ok_wlen (P := P) (w := w) (base := base) FLe B TW
  have GIt := ok_witer (P := P) (w := w) (base := base) FIt B TW
  have GD := ok_draw (P := P) (w := w) (base := base) FD B
  have GMa := ok_machine (P := P) (w := w) (base := base) FMa B GD mD FD.kp bD
  have LTs : LT P w K mg base (He.ga K "Machine") (He.ga K "Watcher") (He.ga K "BadKinds") (He.ga K "NotSeen") (pAt K) (He.ga K "_law_draw") (He.ga K "_law_machine") (He.ma K (He.ga K "Machine") "__init__") (He.ma K (He.ga K "Watcher") "__init__") (pRec K 0) (He.ma K (He.ga K "Watcher") "ask") (He.ga K "is_trace") (He.ga K "watch") (He.ma K (He.ga K "Watcher") "see") (mm "Watcher" "__call__" K) (He.ma K (He.ga K "Watcher") "known") (He.ma K (He.ga K "Watcher") "__len__") (He.ma K (He.ga K "Watcher") "__iter__") dD dMa dMI dWI dG dA dIT dT dCa dKn dLe dIt :=
    { B := B, TM := TM, TW := TW, GD := GD, mD := mD, kD := FD.kp, bD := bD, GMa := GMa, mMa := mMa, kMa := FMa.kp, bMa := bMa, MM := MM, GMI := GMI, mM := mM, bMI := bMI, MW := MW, GWI := GWI, mW := mWa, bWI := bWI, kWI := kWI, pG := pG, GG := GG, bG := bG, GA := GA, mA := mA, bA := bA,
      GIT := GIT, mIT := mIT, kIT := FIT.kp, bIT := bIT, GT := GT, mT := mT, kT := FT.kp, bT := bT, GSe := GSe, mSe := mSe, GCa := GCa, cCa := cCa, bCa := bCa, GKn := GKn, mKn := mKn, bKn := bKn, LL := ⟨mLe.at_, mLe.fn⟩, GLe := GLe, bLe := bLe, LI := ⟨mIt.at_, mIt.fn⟩, GIt := GIt, bIt := bIt,
      mB := xB.g, mN := xN.g, eB := He.exm_ok (c.fact 61 (f := .exm "BadKinds" "BadKinds" true) rfl), eN := He.exm_ok (c.fact 62 (f := .exm "NotSeen" "NotSeen" true) rfl) }
  exact ok_law FL LTs
end K25

open PySem PySem.W PySem.Calls PyProof.Rows in
theorem PySem.Challenge.cw_allbrokers_k25_whole_watchers_holds : PySem.Challenge.rw_allbrokers_k25_whole_watchers.Holds := by
  w_on; o_law
  refine HandSHeadRun.head_any (r := OpenLaw.row PySem.Challenge.rw_allbrokers_k25_whole_watchers) (q := view (OpenLaw.row PySem.Challenge.rw_allbrokers_k25_whole_watchers).prog [28]) (H := K25.hk) (ob := K25.ob) (M := 3600) (loose := K25.lse) (d := HandSHeadRun.topDef (OpenLaw.row PySem.Challenge.rw_allbrokers_k25_whole_watchers).prog 28) (kwd := []) K25.ob_eq
    (by kernel_rfl) (fun s => by kernel_rfl) K25.run (by kernel_rfl) (by kernel_rfl) (by kernel_rfl) (by rfl) (by first | assumption | decide +kernel) (by decide +kernel) ⟨rfl, rfl, rfl, rfl, rfl, by decide +kernel⟩ ?hw ?hc
  case hw => w_witness2
  case hc =>
    refine L2.walk_ofE (l := PySem.Challenge.rw_allbrokers_k25_whole_watchers) (n := 63) (k := 10) (x := "_law_script") (CX := L2.CX0) rfl (by decide) (by kernel_rfl) ⟨rfl, by decide, by decide⟩ ?F (fun _ _ _ _ z => z)
    intro w mg fa h Y G hmg0
    obtain ⟨K, KX, c⟩ := Y
    have hmg : mg ("law" : PySem.Str) = some (.ref fa) := by
      have e : (HandSHeadRun.topDef (OpenLaw.row PySem.Challenge.rw_allbrokers_k25_whole_watchers).prog 28).name = ("law" : PySem.Str) := by kernel_rfl
      rw [← e]
      exact hmg0
    obtain ⟨fd, hb, hF⟩ := K25.facts (P := (PySem.Challenge.rw_allbrokers_k25_whole_watchers).prog) (w := w) KX G hmg c
    exact ⟨K, fd, K25.spLaw K, KX, hb, fun H a ns hl _ hS => ⟨a, ns, rfl, hS, hl, fun _ => rfl⟩, hF⟩
