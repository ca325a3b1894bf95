import PyProof.Rows.All
import Wide.All
import OpenK.AllK
import Wide.FinOn
import HandS.ForMost
import KE.DataMinMax
import PyProof.ReprRoads
import HandS.Zip
import KE.GoesNew
import KE.KDictKeyed
import HandS.IsInst
import HandS.TupAny
import HandS.TupMul
import PySem.Challenge.RW_logsapart_k28_whole_stories_that_are_lef
import KE.KSuper
import KE.KExcSuper
import HandS.ExcInit
import HandS.ExcIs
import HandS.ExcField
import HandS.TryMany
import KE.KExcIs
import HandS.Lambda
import HandS.EndTab
import HandS.Defaults
import HandS.Style
import HandS.MakeKwOnly
import HandS.TupLe
set_option Elab.async false
set_option maxRecDepth 100000
set_option maxHeartbeats 2000000
namespace Lg
open PySem PySem.Spec PyProof.Rows L2
open PySem.W (alike alike_unique AlikeAll minD)
section
variable {X : Cx}
/-! ### data under the heap: items, what stays -/
theorem dpAll_len {K : PySem.W.Frag} {H : Hp} : ∀ {xs : List V} {ds : List PyData}, DpAll K H xs ds → xs.length = ds.length
  | _, _, .nil => rfl
  | _, _, .cons _ t => by rw [List.length_cons, List.length_cons, dpAll_len t]
theorem dpAll_at {K : PySem.W.Frag} {H : Hp} : ∀ {xs : List V} {ds : List PyData} {i : Nat} {x : V}, DpAll K H xs ds → xs[i]? = some x → ∃ d, ds[i]? = some d ∧ Dp K H x d
  | _, _, _, _, .nil, e => by simp at e
  | _, _, 0, _, .cons h _, e => by simp at e; subst e; exact ⟨_, rfl, h⟩
  | _, _, i + 1, x, .cons _ t, e => by
    obtain ⟨d, h1, h2⟩ := dpAll_at (i := i) (x := x) t (by simpa using e)
    exact ⟨d, by simpa using h1, h2⟩
theorem dpAll_app {K : PySem.W.Frag} {H : Hp} : ∀ {xs ys : List V} {ds es : List PyData}, DpAll K H xs ds → DpAll K H ys es → DpAll K H (xs ++ ys) (ds ++ es)
  | _, _, _, _, .nil, s => s
  | _, _, _, _, .cons h t, s => .cons h (dpAll_app t s)
/-- repr(x) of data -/
def rRepr (K : PySem.W.Frag) : List V → Hp → VK → Prop := fun vs H Q => ∃ (x : V) (d : PyData), vs = [x] ∧ Dp K H x d ∧ d.showable = true ∧ d.depth ≤ 60 ∧ d.shown.length ≤ sizeLine ∧ Q (.str d.shown) H
theorem dp_nodict {K : PySem.W.Frag} {H : Hp} : (∀ (d : PyData) (x : V), Dp K H x d → d.hasDict = false) := by
  have both : (∀ (d : PyData) (x : V), Dp K H x d → d.hasDict = false) ∧ (∀ (ds : List PyData) (xs : List V), DpAll K H xs ds → PyData.hasDictAll ds = false) := by
    refine ⟨fun d x h => ?_, fun ds xs h => ?_⟩
    · exact Dp.rec (motive_1 := fun _ d _ => d.hasDict = false) (motive_2 := fun _ ds _ => PyData.hasDictAll ds = false)
        (by simp [PyData.hasDict]) (fun _ => by simp [PyData.hasDict]) (fun _ => by simp [PyData.hasDict]) (fun _ => by simp [PyData.hasDict])
        (fun _ _ ih => by simpa [PyData.hasDict] using ih) (fun _ _ ih => by simpa [PyData.hasDict] using ih) (by simp [PyData.hasDictAll]) (fun _ _ i1 i2 => by simp [PyData.hasDictAll, i1, i2]) h
    · exact DpAll.rec (motive_1 := fun _ d _ => d.hasDict = false) (motive_2 := fun _ ds _ => PyData.hasDictAll ds = false)
        (by simp [PyData.hasDict]) (fun _ => by simp [PyData.hasDict]) (fun _ => by simp [PyData.hasDict]) (fun _ => by simp [PyData.hasDict])
        (fun _ _ ih => by simpa [PyData.hasDict] using ih) (fun _ _ ih => by simpa [PyData.hasDict] using ih) (by simp [PyData.hasDictAll]) (fun _ _ i1 i2 => by simp [PyData.hasDictAll, i1, i2]) h
  exact both.1
theorem cr_repr (hg : X.A.guards = some []) (hu : X.A.units + 64 < cLine) : CallR X (.builtin "repr") (rRepr X.K) := by
  intro pins s σ H vs us Q I r h
  obtain ⟨x, d, rfl, hd, hs, hz, hl, q⟩ := h
  obtain ⟨u, rfl, ru⟩ := vals1 r
  have nd := dp_nodict d x hd
  obtain ⟨as, rd⟩ := Dp.reads I d x u hd ru
  have shown_sz := hl
  cases rd with
  | none => exact PySem.P.repr_of_none ⟨.str _, H, I.tok _, ⟨_, rfl⟩, q⟩
  | bool b => exact PySem.P.repr_of_bool ⟨.str _, H, I.tok _, ⟨_, rfl⟩, q⟩
  | int i t => exact PySem.P.repr_of_int (by simpa [PyData.showable] using hs) ⟨.str _, H, I.tok _, ⟨_, rfl⟩, q⟩
  | str y t => exact PySem.P.repr_of_str (h := ⟨.str _, H, I.tok _, ⟨_, rfl⟩, q⟩) (hsz := hl)
  | list h1 h2 h3 h4 =>
    exact repr_of_reads' (.list h1 h2 h3 h4) hs (PyData.noDict_hsm nd) hg (by omega) (fun _ _ e => e) (fun h' v tk hk => ⟨.str _, H, I.kept hk, ⟨_, rfl⟩, q⟩) hl
  | tuple h1 h2 h3 h4 =>
    exact repr_of_reads' (.tuple h1 h2 h3 h4) hs (PyData.noDict_hsm nd) hg (by omega) (fun _ _ e => e) (fun h' v tk hk => ⟨.str _, H, I.kept hk, ⟨_, rfl⟩, q⟩) hl
  | dict h1 h2 h3 h4 h5 => simp [PyData.hasDict] at nd
/-- min(xs) of alike data -/
def rMinD (K : PySem.W.Frag) : List V → Hp → VK → Prop := fun vs H Q => ∃ (a : Addr) (xs : List V) (d : PyData) (ds : List PyData), vs = [.ref a] ∧ SqL K H a xs ∧ DpAll K H xs (d :: ds) ∧ AlikeAll (d :: ds) ∧
  PyData.depthAll (d :: ds) ≤ 60 ∧ ∀ x, x ∈ xs → Dp K H x (minD d ds) → Q x H
theorem cr_minD (hc : X.calm = true) (hu : X.A.units + 64 < cLine) : CallR X (.builtin "min") (rMinD X.K) := by
  intro pins s σ H vs us Q I r h
  obtain ⟨a, xs, d, ds, rfl, hs, hd, ha, hz, q⟩ := h
  obtain ⟨its, rv, hl, _⟩ := I.list hs
  rw [Vals.ref1 r]
  obtain ⟨as, hr⟩ := Dp.readsAll I (d :: ds) xs its hd rv
  refine PySem.W.min_list_data (I.ok.hd hc) hl.isList (by simpa using hr) ha (by omega) fun i v h' tk bs hv hm hk => ?_
  have hv' : its[i]? = some v := by simpa using hv
  obtain ⟨x, hx, rx⟩ : ∃ x, xs[i]? = some x ∧ RelV x v := by
    cases e : xs[i]? with
    | none => rw [Vals.none_of rv e] at hv'; cases hv'
    | some x =>
      obtain ⟨u, h1, h2⟩ := Vals.get rv e
      rw [hv'] at h1
      cases h1
      exact ⟨x, rfl, h2⟩
  obtain ⟨e, he, hxe⟩ := dpAll_at hd hx
  obtain ⟨cs, hre⟩ := Dp.reads I e x v hxe rx
  have eq : e = minD d ds := by
    have hmem : e ∈ d :: ds := List.mem_of_getElem? he
    have hmm : minD d ds ∈ d :: ds := by
      have key : ∀ (l : List PyData) (z : PyData), l.foldl (fun a y => if PySem.W.dataLt y a then y else a) z ∈ z :: l := by
        intro l
        induction l with
        | nil => intro z; exact List.mem_cons_self
        | cons y l ih =>
          intro z
          rw [List.foldl_cons]
          rcases List.mem_cons.mp (ih (if PySem.W.dataLt y z then y else z)) with h1 | h1
          · by_cases hb : PySem.W.dataLt y z = true
            · rw [if_pos hb] at h1 ⊢; rw [h1]; exact List.mem_cons_of_mem _ List.mem_cons_self
            · rw [if_neg hb] at h1 ⊢; rw [h1]; exact List.mem_cons_self
          · exact List.mem_cons_of_mem _ (List.mem_cons_of_mem _ h1)
      exact key ds d
    exact alike_unique e (minD d ds) v _ _ (ha.1 _ hmem _ hmm) (Reads.keeps hk hre) hm
  subst eq
  exact ⟨x, H, I.kept hk, rx, q x (List.mem_of_getElem? hx) hxe⟩
end
end Lg
set_option Elab.async false
set_option maxRecDepth 100000
set_option maxHeartbeats 2000000
namespace Lg
open PySem PySem.Spec PyProof.Rows L2
/-! ### enumerate(tuple); zip(list, tuple): what a for over them walks -/
theorem enumNew1 {v : Value} {o : Obj} {H : Heap → Prop} (B : Begins v o H) :
    Meets (Builtin.«enumerate.__new__» ⟨[.type "enumerate", v], []⟩) (fun _ R s => H s.heap ∧
      R (.ok (.ret (.ref (s.heap.push o).objs.size))) { s with heap := (s.heap.push o).push { cls := .type "enumerate", data := .fields #[.none, .bool false, .ref s.heap.objs.size, rawInt 0, .none, .none] } }) :=
  .of_wp fun prog w A R s h => by
    obtain ⟨hp, g, d, tk, os⟩ := s
    obtain ⟨h1, h⟩ := h
    have hsub := sub_enumerate
    have q1 : ∀ {A' : Around} {E : Value → Shared → Prop} {Q : Value → Shared → Prop}, Q (.ref hp.objs.size) ⟨hp.push o, g, d, tk, os⟩ → wpAny (model prog w) A' (pyIter v) Q E ⟨hp, g, d, tk, os⟩ := fun q => B.iter prog w _ _ ⟨hp, g, d, tk, os⟩ _ h1 q
    wp_walk using q1
    refine wpAny_stack_any fun st => wpAny_pure ?_
    split
    · rename_i c _ _ _ _ _
      cases (c == Value.type "enumerate") <;> (wp_walk using q1; exact ⟨_, rfl, h⟩)
    · wp_walk using q1
      exact ⟨_, rfl, h⟩
theorem enumBegins1 {prog : Program} {w : World} {A : Around} {E : Value → Shared → Prop} {s : Shared} {v : Value} {o : Obj} {H : Heap → Prop} {Q : Value → Shared → Prop} (B : Begins v o H) (h1 : H s.heap)
    (h : ∀ h', IsEnum h' (s.heap.objs.size + 1) s.heap.objs.size 0 .none → h'.get? s.heap.objs.size = some o → (∀ b o, s.heap.get? b = some o → h'.get? b = some o) → Q (.ref (s.heap.objs.size + 1)) { s with heap := h' }) :
    wpAny (model prog w) A (call (.type "enumerate") [v]) Q E s := by
  refine callType_new F.called_enumerate (by decide) (F.typeCall_enumerate_1 _) (F.newCall_enumerate_1 _) (fun obj => F.args_object_init_2 obj _) F.entry_enumerate_new (enumNew1 B) ⟨h1, ?_⟩
  have hz : (s.heap.push o).objs.size = s.heap.objs.size + 1 := Heap.size_push ..
  show _ ∧ _
  rw [hz]
  have he : IsEnum ((s.heap.push o).push { cls := .type "enumerate", data := .fields #[.none, .bool false, .ref s.heap.objs.size, rawInt 0, .none, .none] }) (s.heap.objs.size + 1) s.heap.objs.size 0 .none := by
    have q := Heap.get?_push_size (s.heap.push o) (o := { cls := .type "enumerate", data := .fields #[.none, .bool false, .ref s.heap.objs.size, rawInt 0, .none, .none] }) rfl
    rw [hz] at q
    exact q
  exact ⟨⟨_, he, rfl⟩, h _ he (Heap.get?_push_of_some _ (Heap.get?_push_size _ B.free)) fun b o x => Heap.get?_push_of_some _ (Heap.get?_push_of_some _ x)⟩
/-- enumerate of a tuple: each item with its number, in a new pair -/
def ItEt (K : PySem.W.Frag) (a : Addr) : It :=
  ⟨fun i H => ∃ (xs : List V) (x : V), SqT K H a xs ∧ xs[i]? = some x,
   fun i H v H' => ∃ T x, v = .ref T ∧ H T = none ∧ H' = upd H T (.tup [.int (i : Nat), x]) ∧ ∀ xs, SqT K H a xs → xs[i]? = some x,
   fun i H => ∃ xs : List V, SqT K H a xs ∧ i = xs.length⟩
theorem turn_enumT {P : Program} {w : World} {K : PySem.W.Frag} {elts : List Expr} {kk : Nat} {tpos : Pos} {a e it : Addr} (hei : e ≠ it) (hea : e ≠ a) (hia : a ≠ it) :
    Turn P w K (.Tuple elts kk tpos) (ItEt K a) [e, it] e (fun i h => (∃ old, IsEnum h e it ((0 : Int) + (i : Int)) old) ∧ h.IsTupleIter it a i) where
  mem := by simp
  obj := fun i h st b hb => by
    obtain ⟨⟨old, he⟩, ⟨o, ho, hc, hd⟩⟩ := st
    have e' : b = e ∨ b = it := by simpa using hb
    rcases e' with z | z
    · rw [z]; exact ⟨_, he, fun v q => nomatch q⟩
    · rw [z]; exact ⟨o, ho, fun v q => by rw [hd] at q; cases q⟩
  keep := fun i h h' st k => let ⟨⟨old, he⟩, hi⟩ := st; ⟨⟨old, k e (by simp) _ he⟩, hi.at fun o q => k it (by simp) o q⟩
  item := by
    intro X hP hw hK hc i pins s σ H E I hf st hg
    subst hP hw hK
    obtain ⟨he, hit⟩ := st
    obtain ⟨xs, x, hq, hx⟩ := hg
    obtain ⟨its, rv, p, hz⟩ := I.tuple hq
    obtain ⟨u, hu, ru⟩ := rv.get hx
    have pt : s.heap.IsTuple a its.toArray := p
    have hi : i < its.toArray.size := by
      have := (List.getElem?_eq_some_iff.mp hu).1
      simpa using this
    have G := GoesN.enumFrom (prog := X.prog) (w := X.w) (A := X.A) (elts := elts) (x1 := kk) (pos := tpos) 0 (Draws.tuple (A := X.A.in1) (I.ok.hd hc) it a hia its.toArray) e hei (by simp [hei, hea]) (by simp)
    refine G.goes i s _ E hi ⟨he, hit, pt⟩ fun v h' tk hY st' hk htk => ?_
    obtain ⟨T, t, y, rfl, hT, hy, hTup⟩ := hY
    have ey : y = u := by
      have : its.toArray[i]? = some u := by simpa using hu
      rw [this] at hy
      exact (Option.some.inj hy).symm
    subst ey
    have new : ObjOk X.prog X.w (upd H T (.tup [.int (i : Nat), x])) h' T (.tup [.int (i : Nat), x]) :=
      ⟨by show 2 ≤ sizeLine; decide, [.int (0 + (i : Int)) t, y], .cons ⟨t, by rw [Int.zero_add]⟩ (.cons ru .nil), hTup⟩
    have I1 : Inv X pins σ (upd H T (.tup [.int (i : Nat), x])) { s with heap := h', toks := tk } :=
      I.turnedNew (ch := [e, it]) (fun b ob hb q => hk b ob hb q) hf hT new
    refine ⟨.ref T, _, I1, rfl, ⟨T, x, rfl, I.hok.fresh hT, rfl, fun ys hy => by rw [I.tuple_inj hy hq]; exact hx⟩, ⟨st'.1, st'.2.1⟩, fun b hb => ?_⟩
    have hlt : b < s.heap.objs.size := by
      have e' : b = e ∨ b = it := by simpa using hb
      rcases e' with z | z
      · rw [z]; obtain ⟨old, q⟩ := he; exact Heap.lt_size q
      · rw [z]; obtain ⟨_, q, _⟩ := hit; exact Heap.lt_size q
    rw [upd_ne (Nat.ne_of_lt (Nat.lt_of_lt_of_le hlt hT))]
    exact (hf b hb).1
  done := by
    intro X hP hw hK hc i pins s σ H E I hf st hg
    subst hP hw hK
    obtain ⟨he, hit⟩ := st
    obtain ⟨xs, hq, hx⟩ := hg
    obtain ⟨its, rv, p, hz⟩ := I.tuple hq
    have pt : s.heap.IsTuple a its.toArray := p
    have hl := rv.length
    have ei : i = its.toArray.size := by rw [List.size_toArray]; omega
    have G := GoesN.enumFrom (prog := X.prog) (w := X.w) (A := X.A) (elts := elts) (x1 := kk) (pos := tpos) 0 (Draws.tuple (A := X.A.in1) (I.ok.hd hc) it a hia its.toArray) e hei (by simp [hei, hea]) (by simp)
    refine G.stops s _ E (by rw [← ei]; exact ⟨he, hit, pt⟩) fun h' tk hk htk => ?_
    exact I.turnedL (ch := [e, it]) (fun b o hb q => hk b o hb q) hf
  self := fun A i s Q E st h => let ⟨⟨_, he⟩, _⟩ := st; wpAny_pyIter_enum he h
def iEnumT (K : PySem.W.Frag) (ta : TA) : TI := fun σ H R => ta σ H fun vs H1 => ∃ a xs, vs = [.ref a] ∧ SqT K H1 a xs ∧ R (ItEt K a) H1
theorem pi_enumT {X : Cx} {e : Expr} {ta : TA} {p pos tpos : Pos} {elts : List Expr} {kk : Nat} (hg : Gl X "enumerate") (hm : X.mg "enumerate" = none) (ha : PA X [e] ta)
    (hs : starEach [e] X.env = (false, eval e X.env) :: starEach [] X.env := by rfl) (hpl : (backTo pos (starEach [] X.env)).any (·.1) = false := by rfl) :
    PI X (.Tuple elts kk tpos) (.Call (.Name "enumerate" p) [e] [] pos) (iEnumT X.K ta) := by
  refine ⟨fun pins s σ H R I h => ?_⟩
  refine Call_ (ld_blt I hg hm PyProof.Rows.boot_enumerate (PyProof.Rows.callWith_type1 (thn (ha.run pos pins s σ H _ I h) fun us s1 ⟨vs, H1, I1, r1, q1⟩ => ?_) hs hpl))
  obtain ⟨a, xs, rfl, hq, q⟩ := q1
  rw [Vals.ref1 r1]
  obtain ⟨its, rv, p, _⟩ := I1.tuple hq
  have pt : s1.heap.IsTuple a its.toArray := p
  have alt : a < s1.heap.objs.size := by obtain ⟨_, q', _⟩ := id p; exact Heap.lt_size q'
  refine enumBegins1 (begins_tuple a its.toArray) pt fun h' he hi hk => ?_
  refine wpAny_pyIter_enum he ?_
  have I2 : Inv X pins σ H1 { s1 with heap := h' } := I1.kept (t' := s1.toks) hk
  have n1 : (s1.heap.objs.size + 1 : Nat) ≠ s1.heap.objs.size := Nat.succ_ne_self _
  refine ⟨s1.heap.objs.size + 1, [s1.heap.objs.size + 1, s1.heap.objs.size], _, _, H1, rfl, I2, turn_enumT n1 (Nat.ne_of_gt (Nat.lt_succ_of_lt alt)) (Nat.ne_of_lt alt), ⟨⟨_, he⟩, ⟨_, hi, rfl, rfl⟩⟩, fun c hc => ?_, q⟩
  have hle : s1.heap.objs.size ≤ c := by
    have e' : c = s1.heap.objs.size + 1 ∨ c = s1.heap.objs.size := by simpa using hc
    rcases e' with z | z
    · rw [z]; exact Nat.le_succ _
    · rw [z]; exact Nat.le_refl _
  exact I1.fpOk hle (I1.hok.fresh hle)
/-- a loop over enumerate(t) -/
theorem for_enumT {K : PySem.W.Frag} {a : Addr} {xs : List V} {g : TG} {tb : TS} {D : Ends} {σ : L2.St} {H : Hp} (Pv : Nat → L2.St → Hp → Prop) (h0 : Pv 0 σ H) (hq : ∀ i σ H, Pv i σ H → SqT K H a xs)
    (hs : ∀ (i : Nat) (x : V) (T : Addr) (σ : L2.St) (H : Hp), xs[i]? = some x → Pv i σ H → H T = none → g (.ref T) σ (upd H T (.tup [.int (i : Nat), x])) fun σ2 H2 => tb { D with nx := Pv (i + 1), ct := Pv (i + 1), bk := D.nx } σ2 H2) (hd : ∀ σ H, Pv xs.length σ H → D.nx σ H) :
    ∃ W : Nat → Nat → L2.St → Hp → Prop, (∃ m, W 0 m σ H) ∧ ∀ i m σ H, W i m σ H →
      ((ItEt K a).stop i H ∧ D.nx σ H) ∨ ((ItEt K a).go i H ∧ ∃ N : L2.St → Hp → Prop, (∀ σ' H', N σ' H' → ∃ m', m' < m ∧ W (i + 1) m' σ' H') ∧ ∀ v H', (ItEt K a).yld i H v H' → g v σ H' fun σ2 H2 => tb { D with nx := N, ct := N, bk := D.nx } σ2 H2) := by
  refine ⟨fun i m σ H => m = xs.length - i ∧ i ≤ xs.length ∧ Pv i σ H, ⟨xs.length, rfl, Nat.zero_le _, h0⟩, ?_⟩
  rintro i m σ H ⟨rfl, hi, p⟩
  have q := hq i σ H p
  by_cases hlt : i < xs.length
  · have hx : xs[i]? = some xs[i] := List.getElem?_eq_getElem hlt
    refine .inr ⟨⟨xs, _, q, hx⟩, Pv (i + 1), fun σ' H' p' => ⟨xs.length - (i + 1), by omega, rfl, hlt, p'⟩, fun v H' y => ?_⟩
    obtain ⟨T, x', rfl, hT, rfl, f1⟩ := y
    exact hs i x' T σ H (f1 xs q) p hT
  · have e : i = xs.length := by omega
    subst e
    exact .inl ⟨⟨xs, q, rfl⟩, hd σ H p⟩
/-- zip(list, tuple): the items in new pairs -/
def ItZm (K : PySem.W.Frag) (a b : Addr) : It :=
  ⟨fun i H => ∃ (xs ys : List V) (x y : V), SqL K H a xs ∧ SqT K H b ys ∧ xs[i]? = some x ∧ ys[i]? = some y,
   fun i H v H' => ∃ T x y, v = .ref T ∧ H T = none ∧ H' = upd H T (.tup [x, y]) ∧ (∀ xs, SqL K H a xs → xs[i]? = some x) ∧ ∀ ys, SqT K H b ys → ys[i]? = some y,
   fun i H => ∃ xs ys : List V, SqL K H a xs ∧ SqT K H b ys ∧ i = min xs.length ys.length⟩
theorem turn_zipM {P : Program} {w : World} {K : PySem.W.Frag} {elts : List Expr} {kk : Nat} {tpos : Pos} {a b z TI TO i1 i2 : Addr} (D : ZipSep2 z TI TO i1 i2 [i1, a] [i2, b]) (h1a : a ≠ i1) (h2b : b ≠ i2) :
    Turn P w K (.Tuple elts kk tpos) (ItZm K a b) [z, TI, TO, i1, i2] z (fun i h => IsZip h z TI TO .none ∧ IsTupOf2 h TI (.ref i1) (.ref i2) ∧ (∃ x y, IsTupOf2 h TO x y) ∧ h.IsListIter i1 a i ∧ h.IsTupleIter i2 b i) where
  mem := by simp
  obj := fun i h st c hc => by
    obtain ⟨hz, hTI, ⟨x, y, hTO⟩, ⟨o1, e1, _, d1⟩, ⟨o2, e2, _, d2⟩⟩ := st
    have e' : c = z ∨ c = TI ∨ c = TO ∨ c = i1 ∨ c = i2 := by simpa using hc
    rcases e' with q | q | q | q | q
    · rw [q]; exact ⟨_, hz, fun v q => nomatch q⟩
    · rw [q]; exact ⟨_, hTI, fun v q => nomatch q⟩
    · rw [q]; exact ⟨_, hTO, fun v q => nomatch q⟩
    · rw [q]; exact ⟨o1, e1, fun v q => by rw [d1] at q; cases q⟩
    · rw [q]; exact ⟨o2, e2, fun v q => by rw [d2] at q; cases q⟩
  keep := fun i h h' st k => by
    obtain ⟨hz, hTI, ⟨x, y, hTO⟩, h1, h2⟩ := st
    exact ⟨k z (by simp) _ hz, k TI (by simp) _ hTI, ⟨x, y, k TO (by simp) _ hTO⟩, h1.at fun o q => k i1 (by simp) o q, h2.at fun o q => k i2 (by simp) o q⟩
  item := by
    intro X hP hw hK hc i pins s σ H E I hf st hg
    subst hP hw hK
    obtain ⟨hz, hTI, hTO, h1, h2⟩ := st
    obtain ⟨xs, ys, x, y, hqx, hqy, hx, hy⟩ := hg
    obtain ⟨its, rv, p, _⟩ := I.list hqx
    obtain ⟨its2, rv2, p2, _⟩ := I.tuple hqy
    obtain ⟨u, hu, ru⟩ := rv.get hx
    obtain ⟨u2, hu2, ru2⟩ := rv2.get hy
    have pl : s.heap.IsList a its.toArray := p.isList
    have pt : s.heap.IsTuple b its2.toArray := p2
    have hi1 : i < its.toArray.size := by have := (List.getElem?_eq_some_iff.mp hu).1; simpa using this
    have hi2 : i < its2.toArray.size := by have := (List.getElem?_eq_some_iff.mp hu2).1; simpa using this
    have G := GoesN.zip2 (prog := X.prog) (w := X.w) (A := X.A) (elts := elts) (x1 := kk) (pos := tpos) D (Draws.list (A := X.A.in1) (I.ok.hd hc) i1 a h1a its.toArray) (Draws.tuple (A := X.A.in1) (I.ok.hd hc) i2 b h2b its2.toArray)
    refine G.goes i s _ E (by omega) ⟨hz, hTI, hTO, ⟨h1, pl⟩, ⟨h2, pt⟩⟩ fun v h' tk hY st' hk htk => ?_
    obtain ⟨T, x', y', rfl, hT, ex, ey, hTup⟩ := hY
    have ex' : x' = u := by
      have : its.toArray[i]? = some u := by simpa using hu
      rw [this] at ex; exact (Option.some.inj ex).symm
    have ey' : y' = u2 := by
      have : its2.toArray[i]? = some u2 := by simpa using hu2
      rw [this] at ey; exact (Option.some.inj ey).symm
    subst ex' ey'
    have new : ObjOk X.prog X.w (upd H T (.tup [x, y])) h' T (.tup [x, y]) := ⟨by show 2 ≤ sizeLine; decide, [x', y'], .cons ru (.cons ru2 .nil), hTup⟩
    have I1 : Inv X pins σ (upd H T (.tup [x, y])) { s with heap := h', toks := tk } :=
      I.turnedNew (ch := [z, TI, TO, i1, i2]) (fun c o hb q => hk c o (fun hm => hb (by
        have e' : c = z ∨ c = TO ∨ c = i1 ∨ c = i2 := by simpa using hm
        rcases e' with q | q | q | q <;> simp [q])) q) hf hT new
    refine ⟨.ref T, _, I1, rfl, ⟨T, x, y, rfl, I.hok.fresh hT, rfl, fun l hl => by rw [I.list_inj hl hqx]; exact hx, fun l hl => by rw [I.tuple_inj hl hqy]; exact hy⟩, ⟨st'.1, st'.2.1, st'.2.2.1, st'.2.2.2.1.1, st'.2.2.2.2.1⟩, fun c hcm => ?_⟩
    have hlt : c < s.heap.objs.size := by
      have e' : c = z ∨ c = TI ∨ c = TO ∨ c = i1 ∨ c = i2 := by simpa using hcm
      rcases e' with q | q | q | q | q
      · rw [q]; exact Heap.lt_size hz
      · rw [q]; exact Heap.lt_size hTI
      · rw [q]; obtain ⟨_, _, e⟩ := hTO; exact Heap.lt_size e
      · rw [q]; obtain ⟨_, e1, _⟩ := h1; exact Heap.lt_size e1
      · rw [q]; obtain ⟨_, e2, _⟩ := h2; exact Heap.lt_size e2
    rw [upd_ne (Nat.ne_of_lt (Nat.lt_of_lt_of_le hlt hT))]
    exact (hf c hcm).1
  done := by
    intro X hP hw hK hc i pins s σ H E I hf st hg
    subst hP hw hK
    obtain ⟨hz, hTI, hTO, h1, h2⟩ := st
    obtain ⟨xs, ys, hqx, hqy, hend⟩ := hg
    obtain ⟨its, rv, p, _⟩ := I.list hqx
    obtain ⟨its2, rv2, p2, _⟩ := I.tuple hqy
    have pl : s.heap.IsList a its.toArray := p.isList
    have pt : s.heap.IsTuple b its2.toArray := p2
    have l1 := rv.length
    have l2 := rv2.length
    have ei : i = min its.toArray.size its2.toArray.size := by rw [List.size_toArray, List.size_toArray, ← l1, ← l2]; exact hend
    have G := GoesN.zip2 (prog := X.prog) (w := X.w) (A := X.A) (elts := elts) (x1 := kk) (pos := tpos) D (Draws.list (A := X.A.in1) (I.ok.hd hc) i1 a h1a its.toArray) (Draws.tuple (A := X.A.in1) (I.ok.hd hc) i2 b h2b its2.toArray)
    refine G.stops s _ E (by rw [← ei]; exact ⟨hz, hTI, hTO, ⟨h1, pl⟩, ⟨h2, pt⟩⟩) fun h' tk hk htk => ?_
    exact I.turnedL (ch := [z, TI, TO, i1, i2]) (fun c o hb q => hk c o (fun hm => hb (by
        have e' : c = z ∨ c = TO ∨ c = i1 ∨ c = i2 := by simpa using hm
        rcases e' with q | q | q | q <;> simp [q])) q) hf
  self := fun A i s Q E st h => wpAny_pyIter_zip st.1 h
def iZipM (K : PySem.W.Frag) (ta : TA) : TI := fun σ H R => ta σ H fun vs H1 => ∃ a b xs ys, vs = [.ref a, .ref b] ∧ SqL K H1 a xs ∧ SqT K H1 b ys ∧ R (ItZm K a b) H1
theorem pi_zipM {X : Cx} {e e2 : Expr} {ta : TA} {p pos tpos : Pos} {elts : List Expr} {kk : Nat} (hg : Gl X "zip") (hm : X.mg "zip" = none) (ha : PA X [e, e2] ta)
    (hs : starEach [e, e2] X.env = (false, eval e X.env) :: starEach [e2] X.env := by rfl) (hpl : (backTo pos (starEach [e2] X.env)).any (·.1) = false := by rfl) :
    PI X (.Tuple elts kk tpos) (.Call (.Name "zip" p) [e, e2] [] pos) (iZipM X.K ta) := by
  refine ⟨fun pins s σ H R I h => ?_⟩
  refine Call_ (ld_blt I hg hm PyProof.Rows.boot_zip (PyProof.Rows.callWith_type1 (thn (ha.run pos pins s σ H _ I h) fun us s1 ⟨vs, H1, I1, r1, q1⟩ => ?_) hs hpl))
  obtain ⟨a, b, xs, ys, rfl, hqx, hqy, q⟩ := q1
  cases r1 with
  | cons r rr =>
    cases rr with
    | cons r' rr =>
      cases rr
      cases r
      cases r'
      obtain ⟨its, rv, p1, _⟩ := I1.list hqx
      obtain ⟨its2, rv2, p2, _⟩ := I1.tuple hqy
      have alt : a < s1.heap.objs.size := p1.lt
      have blt : b < s1.heap.objs.size := by obtain ⟨_, q', _⟩ := id p2; exact Heap.lt_size q'
      refine zip_begins2 (begins_list a its.toArray) (begins_tuple b its2.toArray) p1.isList (show s1.heap.IsTuple b its2.toArray from p2) fun h' hz hTI hTO h1 h2 hsz hk => wpAny_pyIter_zip hz ?_
      have I2 : Inv X pins σ H1 { s1 with heap := h' } := I1.kept (t' := s1.toks) hk
      have n2 : b ≠ s1.heap.objs.size + 1 := Nat.ne_of_lt (Nat.lt_succ_of_lt blt)
      refine ⟨s1.heap.objs.size + 4, [s1.heap.objs.size + 4, s1.heap.objs.size + 2, s1.heap.objs.size + 3, s1.heap.objs.size, s1.heap.objs.size + 1], _, _, H1, rfl, I2,
        turn_zipM (zip_sep2 (N := s1.heap.objs.size) (fp1 := [a]) (fp2 := [b]) (fun c hc => by rw [List.mem_singleton.mp hc]; exact alt) (fun c hc => by rw [List.mem_singleton.mp hc]; exact blt)) (Nat.ne_of_lt alt) n2, ⟨hz, hTI, ⟨_, _, hTO⟩, ⟨_, h1, rfl, rfl⟩, ⟨_, h2, rfl, rfl⟩⟩, fun c hc => ?_, q⟩
      have hle : s1.heap.objs.size ≤ c := by
        have e' : c = s1.heap.objs.size + 4 ∨ c = s1.heap.objs.size + 2 ∨ c = s1.heap.objs.size + 3 ∨ c = s1.heap.objs.size ∨ c = s1.heap.objs.size + 1 := by simpa using hc
        rcases e' with z | z | z | z | z
        · rw [z]; exact Nat.le_add_right _ _
        · rw [z]; exact Nat.le_add_right _ _
        · rw [z]; exact Nat.le_add_right _ _
        · rw [z]; exact Nat.le_refl _
        · rw [z]; exact Nat.le_add_right _ _
      exact I1.fpOk hle (I1.hok.fresh hle)
/-- a comprehension over zip(list, tuple) of one length -/
theorem lc_zipM {K : PySem.W.Frag} {a b : Addr} {xs ys : List V} {g : TG} {tt : TT} {te : TE} {vs : List Nat} {σ : L2.St} {H1 : Hp} {D : Addr} {Qd : Hp → Prop} (hl : xs.length = ys.length) (Pv : Nat → Hp → Prop) (h0 : Pv 0 (upd H1 D (.lst [])))
    (hq : ∀ i H, Pv i H → SqL K H a xs ∧ SqT K H b ys)
    (hs : ∀ i x y T H, xs[i]? = some x → ys[i]? = some y → Pv i H → H T = none → g (.ref T) (wipe σ vs) (upd H T (.tup [x, y])) fun σ2 H2 => wipe σ2 vs = wipe σ vs ∧ tt σ2 H2 fun b H3 =>
      if b = true then te σ2 H3 fun y H4 => ∃ acc, H4 D = some (.lst acc) ∧ acc.length < sizeLine ∧ Pv (i + 1) (upd H4 D (.lst (acc ++ [y]))) else Pv (i + 1) H3) (hd : ∀ H, Pv xs.length H → Qd H) :
    ∃ W : Nat → Nat → Hp → Prop, (∃ m, W 0 m (upd H1 D (.lst []))) ∧ ∀ i m H, W i m H →
      ((ItZm K a b).stop i H ∧ Qd H) ∨ ((ItZm K a b).go i H ∧ ∃ Nx : Hp → Prop, (∀ H', Nx H' → ∃ m', m' < m ∧ W (i + 1) m' H') ∧ ∀ x H', (ItZm K a b).yld i H x H' → g x (wipe σ vs) H' fun σ2 H2 => wipe σ2 vs = wipe σ vs ∧ tt σ2 H2 fun b H3 =>
        if b = true then te σ2 H3 fun y H4 => ∃ acc, H4 D = some (.lst acc) ∧ acc.length < sizeLine ∧ Nx (upd H4 D (.lst (acc ++ [y]))) else Nx H3) := by
  refine ⟨fun i m H => m = xs.length - i ∧ i ≤ xs.length ∧ Pv i H, ⟨xs.length, rfl, Nat.zero_le _, h0⟩, ?_⟩
  rintro i m H ⟨rfl, hi, p⟩
  obtain ⟨qx, qy⟩ := hq i H p
  by_cases hlt : i < xs.length
  · have hx : xs[i]? = some xs[i] := List.getElem?_eq_getElem hlt
    have hlt2 : i < ys.length := by omega
    have hy : ys[i]? = some ys[i] := List.getElem?_eq_getElem hlt2
    refine .inr ⟨⟨xs, ys, _, _, qx, qy, hx, hy⟩, Pv (i + 1), fun H' p' => ⟨xs.length - (i + 1), by omega, rfl, hlt, p'⟩, fun v H' y => ?_⟩
    obtain ⟨T, x', y', rfl, hT, rfl, f1, f2⟩ := y
    exact hs i x' y' T H (f1 xs qx) (f2 ys qy) p hT
  · have e : i = xs.length := by omega
    subst e
    exact .inl ⟨⟨xs, ys, qx, qy, by omega⟩, hd H p⟩
end Lg
set_option Elab.async false
set_option maxRecDepth 100000
set_option maxHeartbeats 2000000
namespace Lg
open PySem PySem.Spec PyProof.Rows L2
/-! ### stories and logs as data; a dict whose keys are logs -/
abbrev Logs := List (List Nat)
/-- a tuple of numbers; a tuple of such -/
def storyD (l : List Nat) : PyData := .tuple (l.map fun n : Nat => PyData.int (n : Int))
def logsD (L : Logs) : PyData := .tuple (L.map storyD)
def logK (l : List Nat) : NestedKey := .tup (l.map fun n : Nat => NestedKey.num (n : Int))
def logsK (L : Logs) : NestedKey := .tup (L.map logK)
theorem map_inj {α β : Type} {f : α → β} (hf : ∀ a b, f a = f b → a = b) : ∀ (l m : List α), l.map f = m.map f → l = m
  | [], [], _ => rfl
  | [], _ :: _, h => by simp at h
  | _ :: _, [], h => by simp at h
  | a :: l, b :: m, h => by
    rw [List.map_cons, List.map_cons] at h
    injection h with h1 h2
    rw [hf a b h1, map_inj hf l m h2]
theorem logK_inj (a b : List Nat) (h : logK a = logK b) : a = b := by
  unfold logK at h
  injection h with h
  exact map_inj (fun x y e => by injection e with e; omega) _ _ h
theorem logsK_inj (a b : Logs) (h : logsK a = logsK b) : a = b := by
  unfold logsK at h
  injection h with h
  exact map_inj logK_inj _ _ h
theorem depth_nums : ∀ l : List Nat, NestedKey.depthAll (l.map fun n : Nat => NestedKey.num (n : Int)) = 0
  | [] => rfl
  | _ :: l => by
    rw [List.map_cons]
    show max (NestedKey.depth (.num _)) (NestedKey.depthAll _) = 0
    rw [depth_nums l]
    rfl
theorem depth_logs : ∀ L : Logs, NestedKey.depthAll (L.map logK) ≤ 1
  | [] => Nat.zero_le _
  | l :: L => by
    rw [List.map_cons]
    show max (NestedKey.depth (logK l)) (NestedKey.depthAll (L.map logK)) ≤ 1
    have h1 : NestedKey.depth (logK l) = 1 := by
      show NestedKey.depthAll _ + 1 = 1
      rw [depth_nums]
    have h2 := depth_logs L
    omega
section
variable {X : Cx} {pins : List (Addr × Obj)} {σ : L2.St} {H : Hp} {s : Shared}
theorem nest_nums {K : PySem.W.Frag} {h : Heap} : ∀ {l : List Nat} {vs : List V} {us : List Value}, DpAll K H vs (l.map fun n : Nat => PyData.int (n : Int)) → Vals vs us → NestedAll h (l.map fun n : Nat => NestedKey.num (n : Int)) us
  | [], _, _, d, r => by
    cases d
    cases r
    exact .nil
  | n :: l, _, _, d, r => by
    cases d with
    | cons d1 d2 =>
      cases r with
      | cons r1 r2 =>
        cases d1
        obtain ⟨t, rfl⟩ := r1
        exact .cons (.int _ t) (nest_nums d2 r2)
theorem nest_story (I : Inv X pins σ H s) {l : List Nat} {v : V} {u : Value} (d : Dp X.K H v (storyD l)) (r : RelV v u) : NestedIs s.heap (logK l) u := by
  cases d with
  | tup hs ha =>
    cases r
    obtain ⟨its, rv, ⟨o, ho, hc, n, hd⟩, _⟩ := I.tuple hs
    exact .tup ho hc hd (nest_nums ha rv)
theorem nest_logs (I : Inv X pins σ H s) : ∀ {L : Logs} {vs : List V} {us : List Value}, DpAll X.K H vs (L.map storyD) → Vals vs us → NestedAll s.heap (L.map logK) us
  | [], _, _, d, r => by
    cases d
    cases r
    exact .nil
  | l :: L, _, _, d, r => by
    cases d with
    | cons d1 d2 =>
      cases r with
      | cons r1 r2 => exact .cons (nest_story I d1 r1) (nest_logs I d2 r2)
theorem key_logs (I : Inv X pins σ H s) {L : Logs} {b : Addr} (d : Dp X.K H (.ref b) (logsD L)) : (nestedKind X.prog X.w).is s.heap (logsK L) b := by
  refine ⟨?_, ?_⟩
  · cases d with
    | tup hs ha =>
      obtain ⟨its, rv, ⟨o, ho, hc, n, hd⟩, _⟩ := I.tuple hs
      exact .tup ho hc hd (nest_logs I ha rv)
  · show NestedKey.depthAll (L.map logK) + 1 ≤ 8
    have := depth_logs L
    omega
/-- at d: a dict, its keys the logs at the addresses told -/
def dnO (P : Program) (w : World) (d : Addr) (xs : List (Logs × Addr × V)) : HO := .ext fun h => xs.length ≤ sizeLine ∧ (d == sysModules) = false ∧ ∃ vs : List (Logs × Addr × Value), Paired (fun (p : Logs × Addr × V) (q : Logs × Addr × Value) => p.1 = q.1 ∧ p.2.1 = q.2.1 ∧ RelV p.2.2 q.2.2) xs vs ∧
  ∃ o es ep, h.get? d = some o ∧ o.ExactDict ∧ o.data = .dict es ep ∧ es.toList = (vs.map fun x => (logsK x.1, x.2.1, x.2.2)).map (entryOfKey (nestedKind P w))
/-- the dict at d holds kvs -/
structure DN (X : Cx) (H : Hp) (d : Addr) (xs : List (Logs × Addr × V)) : Prop where
  at_ : H d = some (dnO X.prog X.w d xs)
  key : ∀ x ∈ xs, Dp X.K H (.ref x.2.1) (logsD x.1)
  nd : (xs.map (·.1)).Nodup
def lookN (xs : List (Logs × Addr × V)) (L : Logs) : Option V := (xs.find? fun x => decide (x.1 = L)).map (·.2.2)
theorem dn_open {d : Addr} {xs : List (Logs × Addr × V)} (I : Inv X pins σ H s) (D : DN X H d xs) : xs.length ≤ sizeLine ∧ (d == sysModules) = false ∧ ∃ ys : List (NestedKey × Addr × Value),
    s.heap.DictOfH (nestedKind X.prog X.w) d ys ∧ Paired (fun (p : Logs × Addr × V) (q : NestedKey × Addr × Value) => logsK p.1 = q.1 ∧ p.2.1 = q.2.1 ∧ RelV p.2.2 q.2.2) xs ys := by
  have q : ObjOk X.prog X.w H s.heap d (dnO X.prog X.w d xs) := I.hok d _ D.at_
  obtain ⟨⟨hl, hs, vs, hp, o, es, ep, ho, hx, hd, he⟩, _⟩ := q
  have key2 : ∀ {l : List (Logs × Addr × V)} {m : List (Logs × Addr × Value)}, Paired (fun (p : Logs × Addr × V) (q : Logs × Addr × Value) => p.1 = q.1 ∧ p.2.1 = q.2.1 ∧ RelV p.2.2 q.2.2) l m →
      (∀ x ∈ l, Dp X.K H (.ref x.2.1) (logsD x.1)) → ∀ y ∈ (m.map fun x => (logsK x.1, x.2.1, x.2.2)), (nestedKind X.prog X.w).is s.heap y.1 y.2.1 := by
    intro l m r
    induction r with
    | nil => intro _ y hy; exact absurd hy (by simp)
    | @cons p q ps qs h1 t ih =>
      intro hk y hy
      rw [List.map_cons] at hy
      rcases List.mem_cons.mp hy with e | hy
      · subst e
        have := key_logs I (hk p List.mem_cons_self)
        rw [h1.1, h1.2.1] at this
        exact this
      · exact ih (fun x hx => hk x (List.mem_cons_of_mem _ hx)) y hy
  have keys : ∀ {l : List (Logs × Addr × V)} {m : List (Logs × Addr × Value)}, Paired (fun (p : Logs × Addr × V) (q : Logs × Addr × Value) => p.1 = q.1 ∧ p.2.1 = q.2.1 ∧ RelV p.2.2 q.2.2) l m → m.map (·.1) = l.map (·.1) := by
    intro l m r
    induction r with
    | nil => rfl
    | cons h1 t ih => rw [List.map_cons, List.map_cons, ih, h1.1]
  refine ⟨hl, hs, vs.map fun x => (logsK x.1, x.2.1, x.2.2), ⟨o, es, ep, ho, hx, hd, he, key2 hp D.key, ?_⟩, ?_⟩
  · have e1 : (vs.map fun x => (logsK x.1, x.2.1, x.2.2)).map (·.1) = (vs.map (·.1)).map logsK := by rw [List.map_map, List.map_map]; rfl
    rw [e1, keys hp]
    exact List.Pairwise.map _ (fun a b hab e => hab (logsK_inj a b e)) D.nd
  · have go : ∀ {l : List (Logs × Addr × V)} {m : List (Logs × Addr × Value)}, Paired (fun (p : Logs × Addr × V) (q : Logs × Addr × Value) => p.1 = q.1 ∧ p.2.1 = q.2.1 ∧ RelV p.2.2 q.2.2) l m →
        Paired (fun (p : Logs × Addr × V) (q : NestedKey × Addr × Value) => logsK p.1 = q.1 ∧ p.2.1 = q.2.1 ∧ RelV p.2.2 q.2.2) l (m.map fun x => (logsK x.1, x.2.1, x.2.2)) := by
      intro l m r
      induction r with
      | nil => exact .nil
      | cons h1 t ih => exact .cons ⟨by rw [h1.1], h1.2.1, h1.2.2⟩ ih
    exact go hp
theorem look_pair {L : Logs} : ∀ {xs : List (Logs × Addr × V)} {ys : List (NestedKey × Addr × Value)}, Paired (fun (p : Logs × Addr × V) (q : NestedKey × Addr × Value) => logsK p.1 = q.1 ∧ p.2.1 = q.2.1 ∧ RelV p.2.2 q.2.2) xs ys →
    RelO (lookN xs L) ((atKey ys (logsK L)).map (·.2))
  | _, _, .nil => True.intro
  | _, _, @Paired.cons _ _ _ p q ps qs h1 t => by
    unfold lookN atKey
    rw [List.find?_cons, List.find?_cons]
    by_cases e : p.1 = L
    · have e2 : q.1 = logsK L := by rw [← h1.1, e]
      rw [decide_eq_true e, decide_eq_true e2]
      exact h1.2.2
    · have e2 : ¬ q.1 = logsK L := fun z => e (logsK_inj _ _ (h1.1.trans z))
      rw [decide_eq_false e, decide_eq_false e2]
      exact look_pair t
/-- {} for keys that are logs -/
theorem pe_dnewN {pos : Pos} : PE X (.Dict [] [] pos) (fun _ H Q => ∀ p, H p = none → Q (.ref p) (upd H p (dnO X.prog X.w p []))) := by
  refine ⟨fun pins s σ H Q I h => ?_⟩
  refine wpAny_Dict_empty ⟨.ref s.heap.objs.size, _, I.laid (a := s.heap.objs.size) (o := dnO X.prog X.w s.heap.objs.size []) (t' := s.toks) (fun _ _ q => Heap.get?_push_of_some _ q) (Nat.le_refl _) ?_, rfl, h _ (I.hok.fresh (Nat.le_refl _))⟩
  have hg := Heap.get?_push_size s.heap (o := { cls := .type "dict", data := .dict #[] }) rfl
  refine ⟨⟨Nat.zero_le _, by simpa using Nat.ne_of_gt I.big, [], .nil, _, #[], 0, hg, ⟨rfl, rfl, rfl⟩, rfl, rfl⟩, ⟨_, hg⟩, fun h1 h2 ⟨a, b, vs, c, o, es, ep, d, e⟩ st => ⟨a, b, vs, c, o, es, ep, st _ d, e⟩⟩
theorem DN.new {p : Addr} : DN X (upd H p (dnO X.prog X.w p [])) p [] := ⟨upd_same, fun _ h => absurd h (by simp), List.nodup_nil⟩
variable {o i : Expr} {ty td : TE}
/-- y in d -/
theorem pc_dinN (hu : X.A.units + 64 < cLine) (hi : PE X i ty) (ho : PE X o td) : PC X .In i o (fun σ H Q => ty σ H fun y H1 => td σ H1 fun x H2 => ∃ a b L xs, x = .ref a ∧ y = .ref b ∧ Dp X.K H2 (.ref b) (logsD L) ∧ DN X H2 a xs ∧ Q (.bl (lookN xs L).isSome) H2) := by
  refine ⟨fun pins s σ H Q I h => ?_⟩
  refine thn (hi.run pins s σ H _ I h) fun iv s1 ⟨y, H1, I1, ry, q1⟩ => thn (ho.run pins s1 σ H1 _ I1 q1) fun u s2 ⟨x, H2, I2, rx, a, b, L, xs, ex, ey, d, D, q2⟩ => ?_
  subst ex ey
  cases rx
  cases ry
  obtain ⟨hl, hs, ys, hm, hp⟩ := dn_open I2 D
  refine wpAny_in_heap (knd := nestedKind X.prog X.w) (by show X.A.units + 1 + 8 < cLine; omega) (key_logs I2 d) hs hm ⟨.bl (lookN xs L).isSome, H2, I2.tok _, ?_, q2⟩
  have r := look_pair (L := L) hp
  show Value.bool _ = Value.bool _
  congr 1
  cases e1 : atKey ys (logsK L) with
  | none =>
    rw [e1] at r
    cases e2 : lookN xs L with
    | none => rfl
    | some v => rw [e2] at r; exact r.elim
  | some p =>
    rw [e1] at r
    cases e2 : lookN xs L with
    | none => rw [e2] at r; exact r.elim
    | some v => rfl
/-- d[y], there -/
theorem pe_dgetN {pos : Pos} (hu : X.A.units + 64 < cLine) (ho : PE X o td) (hi : PE X i ty) (hs : NoSl i) : PE X (.Subscript o i pos) (fun σ H Q => td σ H fun x H1 => ty σ H1 fun y H2 => ∃ a b L xs v, x = .ref a ∧ y = .ref b ∧ Dp X.K H2 (.ref b) (logsD L) ∧ DN X H2 a xs ∧ lookN xs L = some v ∧ Q v H2) := by
  refine ⟨fun pins s σ H Q I h => ?_⟩
  refine subD_of PySem.F.slot_dict_getitem.lookup hs (thn (ho.run pins s σ H _ I h) fun u s1 ⟨x, H1, I1, rx, q1⟩ => thn (hi.run pins s1 σ H1 _ I1 q1) fun iv s2 ⟨y, H2, I2, ry, a, b, L, xs, v, ex, ey, d, D, lk, q2⟩ => ?_)
  subst ex ey
  cases rx
  cases ry
  obtain ⟨hl, hsm, ys, hm, hp⟩ := dn_open I2 D
  have r := look_pair (L := L) hp
  rw [lk] at r
  obtain ⟨w', hw, rw'⟩ := RelO.some_of r
  obtain ⟨p, hp1, hp2⟩ := Option.map_eq_some_iff.mp hw
  refine ⟨hm.typeIs, wpAny_getItem_heap (knd := nestedKind X.prog X.w) (by show X.A.units + 1 + 8 < cLine; omega) (key_logs I2 d) hm hp1 ?_⟩
  rw [hp2]
  exact ⟨v, H2, I2.tok _, rw', q2⟩
/-- d[y] = v, y not there yet -/
theorem ps_dputN {value : Expr} {tv : TE} {pos pos' : Pos} (hu : X.A.units + 64 < cLine) (ho : PE X o td) (hi : PE X i ty) (hv : PE X value tv) (hs : swapsWith value (some (.Subscript o i pos')) pos.line X.env = pure false) :
    PS X (.Assign [.Subscript o i pos'] value pos) (fun D σ H => tv σ H fun v H1 => td σ H1 fun x H2 => ty σ H2 fun y H3 => ∃ a b L xs, x = .ref a ∧ y = .ref b ∧ Dp X.K H3 (.ref b) (logsD L) ∧ DN X H3 a xs ∧ lookN xs L = none ∧ xs.length < sizeLine ∧
      D.nx σ (upd H3 a (dnO X.prog X.w a (xs ++ [(L, b, v)])))) := by
  refine ⟨fun pins s σ H D I h => ?_⟩
  refine wpAny_Assign_Subscript (thn (hv.run pins s σ H _ I h) fun r s1 ⟨v, H1, I1, rv, q1⟩ => thn (ho.run pins s1 σ H1 _ I1 q1) fun u s2 ⟨x, H2, I2, rx, q2⟩ => thn (hi.run pins s2 σ H2 _ I2 q2) fun iv s3 ⟨y, H3, I3, ry, a, b, L, xs, ex, ey, d, N, lk, hz, q3⟩ => ?_) hs
  subst ex ey
  cases rx
  cases ry
  obtain ⟨hl, hsm, ys, hm, hp⟩ := dn_open I3 N
  have rl := look_pair (L := L) hp
  rw [lk] at rl
  have e1 : atKey ys (logsK L) = none := by
    cases e : atKey ys (logsK L) with
    | none => rfl
    | some p => rw [e] at rl; exact rl.elim
  have len : ys.length = xs.length := hp.length.symm
  refine wpAny_setItem_heap (knd := nestedKind X.prog X.w) (hsz := by omega) (by show X.A.units + 1 + 8 < cLine; omega) (key_logs I3 d) hm fun h' hm' sb => ?_
  obtain ⟨o, es, ep, ho', hx, hd, he, _, _⟩ := hm'
  rw [storedH_new e1] at he
  have new : ObjOk X.prog X.w (upd H3 a (dnO X.prog X.w a (xs ++ [(L, b, v)]))) h' a (dnO X.prog X.w a (xs ++ [(L, b, v)])) := by
    have q : ObjOk X.prog X.w H3 s3.heap a (dnO X.prog X.w a xs) := I3.hok a _ N.at_
    obtain ⟨⟨_, _, vs, hpv, _, _, _, ho0, _, hd0, he0⟩, _⟩ := q
    obtain ⟨o1, es1, ep1, ho1, _, hd1, he1, _, _⟩ := hm
    rw [ho0] at ho1
    cases ho1
    rw [hd0] at hd1
    injection hd1 with hd1 _
    subst hd1
    have ey : (vs.map fun x => (logsK x.1, x.2.1, x.2.2)).map (entryOfKey (nestedKind X.prog X.w)) = ys.map (entryOfKey (nestedKind X.prog X.w)) := he0.symm.trans he1
    refine ⟨⟨by rw [List.length_append]; show _ + 1 ≤ _; omega, hsm, vs ++ [(L, b, r)], ?_, o, es, ep, ho', hx, hd, ?_⟩, ⟨o, ho'⟩, fun h1 h2 ⟨a1, a2, a3, a4, a5, a6, a7, a8, a9⟩ st => ⟨a1, a2, a3, a4, a5, a6, a7, st _ a8, a9⟩⟩
    · have app : ∀ {l : List (Logs × Addr × V)} {m : List (Logs × Addr × Value)}, Paired (fun (p : Logs × Addr × V) (q : Logs × Addr × Value) => p.1 = q.1 ∧ p.2.1 = q.2.1 ∧ RelV p.2.2 q.2.2) l m →
          Paired (fun (p : Logs × Addr × V) (q : Logs × Addr × Value) => p.1 = q.1 ∧ p.2.1 = q.2.1 ∧ RelV p.2.2 q.2.2) (l ++ [(L, b, v)]) (m ++ [(L, b, r)]) := by
        intro l m q
        induction q with
        | nil => exact .cons ⟨rfl, rfl, rv⟩ .nil
        | cons h1 t ih => exact .cons h1 ih
      exact app hpv
    · rw [List.map_append, List.map_append, ey, he, List.map_append]
      rfl
  refine ⟨σ, _, ?_, q3⟩
  refine (I3.tok _).write (t' := s3.toks + (nestedKind X.prog X.w).draws (logsK L)) (x := a) (e := a) ?_ (.inl rfl) (fun c u hc q => (sb.2 c hc).trans q) ⟨o, ho'⟩ new
  rw [N.at_]
  exact True.intro
theorem lookN_none {xs : List (Logs × Addr × V)} {L : Logs} (h : lookN xs L = none) : L ∉ xs.map (·.1) := by
  intro hm
  obtain ⟨x, hx, e⟩ := List.mem_map.mp hm
  unfold lookN at h
  have := List.find?_eq_none.mp (Option.map_eq_none_iff.mp h) x hx
  simp [e] at this
/-- what the dict holds behind that -/
theorem DN.put {a b : Addr} {L : Logs} {v : V} {xs : List (Logs × Addr × V)} (N : DN X H a xs) (d : Dp X.K H (.ref b) (logsD L)) (lk : lookN xs L = none)
    (st : ∀ x M, Dp X.K H x (logsD M) → Dp X.K (upd H a (dnO X.prog X.w a (xs ++ [(L, b, v)]))) x (logsD M)) : DN X (upd H a (dnO X.prog X.w a (xs ++ [(L, b, v)]))) a (xs ++ [(L, b, v)]) := by
  refine ⟨upd_same, fun x hx => ?_, ?_⟩
  · rcases List.mem_append.mp hx with hx | hx
    · exact st _ _ (N.key x hx)
    · rw [List.mem_singleton.mp hx]
      exact st _ _ d
  · rw [List.map_append]
    refine List.nodup_append.mpr ⟨N.nd, by simp, fun p hp q hq e => ?_⟩
    have : q = L := by simpa using hq
    subst this
    exact lookN_none lk (e ▸ hp)
end
end Lg
set_option Elab.async false
set_option maxRecDepth 100000
set_option maxHeartbeats 2000000
namespace Lg
open PySem PySem.Spec PyProof.Rows L2
/-! ### the text by places -/
def top (i : Nat) : Stmt := PySem.Challenge.pw_logsapart_k28_whole_stories_that_are_lef.main.body.getD i (.Pass ⟨0, 0, 0, 0⟩)
/-- a def of the top: where it stands -/
structure FunAt (K : PySem.W.Frag) (mg : Str → Option Value) (x : Str) (st : Stmt) (ps : List Str) : Prop where
  ex : ∃ (f : Addr) (fd : FuncData), Fun K x x st f fd ∧ mg x = some (.ref f) ∧ Binds K fd ps []
/-- .. and what it promises -/
structure Fd (P : Program) (w : World) (K : PySem.W.Frag) (mg : Str → Option Value) (base : Heap) (x : Str) (k : Nat) (ps : List Str) (sp : Sp) : Prop where
  ex : ∃ (f : Addr) (fd : FuncData), FnOk P w K mg base CX0 k f fd ps sp ∧ mg x = some (.ref f) ∧ PySem.W.keepIn K (.ref f) = true ∧ Binds K fd ps []
theorem Fd.mk' {P : Program} {w : World} {K : PySem.W.Frag} {mg : Str → Option Value} {base : Heap} {x : Str} {st : Stmt} {k : Nat} {ps : List Str} {sp : Sp} (F : FunAt K mg x st ps)
    (h : ∀ f fd, Fun K x x st f fd → FnOk P w K mg base CX0 k f fd ps sp) : Fd P w K mg base x k ps sp := by
  obtain ⟨f, fd, F1, m, b⟩ := F.ex
  exact ⟨f, fd, h f fd F1, m, F1.kp, b⟩
section
variable {X : Cx}
theorem pf {x : Str} {k : Nat} {ps : List Str} {sp : Sp} {e : Expr} {es : List Expr} {p pos : Pos} {t : TA} (D : Fd X.prog X.w X.K X.mg X.base x k ps sp) (hr : Room k X.A) (ha : PA X (e :: es) t) (hg : Gl X x := by rfl)
    (hdb : (x == ("__debug__" : Str)) = false := by decide) (he : starEach (e :: es) X.env = (false, eval e X.env) :: starEach es X.env := by rfl) (hpl : (backTo pos (starEach es X.env)).any (·.1) = false := by rfl) :
    PE X (.Call (.Name x p) (e :: es) [] pos) (tCall sp [] E0 t) := by
  obtain ⟨f, fd, F, m, kp, b⟩ := D.ex
  exact pe_call F hr hg m kp b .nil pass0 ha hdb he hpl
theorem pe_cst {x : Str} {i : Int} {pos : Pos} (h : ∃ t, X.mg x = some (.int i t)) (hg : Gl X x := by rfl) (hd : (x == ("__debug__" : Str)) = false := by decide) : PE X (.Name x pos) (tC (.int i)) := by
  obtain ⟨t, h⟩ := h
  exact pe_glob hg h ⟨t, rfl⟩ hd
theorem pe_cstS {x y : Str} {pos : Pos} (h : ∃ t, X.mg x = some (.str y t)) (hg : Gl X x := by rfl) (hd : (x == ("__debug__" : Str)) = false := by decide) : PE X (.Name x pos) (tC (.str y)) := by
  obtain ⟨t, h⟩ := h
  exact pe_glob hg h ⟨t, rfl⟩ hd
theorem pe_ty (n : String) {x : Str} {pos : Pos} (hm : X.mg x = none) (hv : bootBuiltins x = some (.type n)) (hg : Gl X x := by rfl) (hn : x ≠ "__name__" := by decide) (hd : (x == ("__debug__" : Str)) = false := by decide) : PE X (.Name x pos) (tC (.ty n)) :=
  pe_bltn hg hm hv rfl hn hd
end
/-! ### what data is, by kind -/
def tyD : PyData → String
  | .none => "NoneType"
  | .bool _ => "bool"
  | .int _ => "int"
  | .str _ => "str"
  | .list _ => "list"
  | .tuple _ => "tuple"
  | .dict _ => "dict"
def isIntD : PyData → Bool
  | .int _ => true
  | _ => false
def isSeqD : PyData → Bool
  | .list _ => true
  | .tuple _ => true
  | _ => false
def isTextD : PyData → Bool
  | .str _ => true
  | _ => false
def isBoolD : PyData → Bool
  | .bool _ => true
  | _ => false
/-- a number from 0, below n -/
def belowD (n : Int) : PyData → Bool
  | .int i => decide (0 ≤ i) && decide (i < n)
  | _ => false
def withinD (a b : Int) : PyData → Bool
  | .int i => decide (a ≤ i) && decide (i ≤ b)
  | _ => false
theorem sqL_ty {K : PySem.W.Frag} {H : Hp} {a : Addr} {xs : List V} (h : SqL K H a xs) : TyX K H (.ref a) (.type "list") := by
  rcases h with (h | ⟨o, h⟩) | ⟨o, its, n, h1, h2, _⟩
  · exact .base (.lst h)
  · exact .base (.frz h)
  · exact .kList h1 h2
theorem sqT_ty {K : PySem.W.Frag} {H : Hp} {a : Addr} {xs : List V} (h : SqT K H a xs) : TyX K H (.ref a) (.type "tuple") := by
  rcases h with (h | ⟨o, h⟩) | ⟨o, its, n, h1, h2, _⟩
  · exact .base (.tup h)
  · exact .fTuple h
  · exact .kTuple h1 h2
theorem dp_ty {K : PySem.W.Frag} {H : Hp} {x : V} {d : PyData} (h : Dp K H x d) : TyX K H x (.type (tyD d)) := by
  cases h with
  | non => exact .base .non
  | bl b => exact .base (.bl b)
  | int i => exact .base (.int i)
  | str y => exact .base (.str y)
  | lst hs _ => exact sqL_ty hs
  | tup hs _ => exact sqT_ty hs
theorem kit_int {K : PySem.W.Frag} (d : PyData) : PySem.W.kitOne K (.type (tyD d)) (.type "int") = some (isIntD d || isBoolD d) := match d with
  | .none => (kit_ty (by decide +kernel) : PySem.W.kitOne K (.type "NoneType") (.type "int") = some false)
  | .bool _ => (kit_ty (by decide +kernel) : PySem.W.kitOne K (.type "bool") (.type "int") = some true)
  | .int _ => (kit_ty (by decide +kernel) : PySem.W.kitOne K (.type "int") (.type "int") = some true)
  | .str _ => (kit_ty (by decide +kernel) : PySem.W.kitOne K (.type "str") (.type "int") = some false)
  | .list _ => (kit_ty (by decide +kernel) : PySem.W.kitOne K (.type "list") (.type "int") = some false)
  | .tuple _ => (kit_ty (by decide +kernel) : PySem.W.kitOne K (.type "tuple") (.type "int") = some false)
  | .dict _ => (kit_ty (by decide +kernel) : PySem.W.kitOne K (.type "dict") (.type "int") = some false)
theorem kit_bool {K : PySem.W.Frag} (d : PyData) : PySem.W.kitOne K (.type (tyD d)) (.type "bool") = some (isBoolD d) := match d with
  | .none => (kit_ty (by decide +kernel) : PySem.W.kitOne K (.type "NoneType") (.type "bool") = some false)
  | .bool _ => (kit_ty (by decide +kernel) : PySem.W.kitOne K (.type "bool") (.type "bool") = some true)
  | .int _ => (kit_ty (by decide +kernel) : PySem.W.kitOne K (.type "int") (.type "bool") = some false)
  | .str _ => (kit_ty (by decide +kernel) : PySem.W.kitOne K (.type "str") (.type "bool") = some false)
  | .list _ => (kit_ty (by decide +kernel) : PySem.W.kitOne K (.type "list") (.type "bool") = some false)
  | .tuple _ => (kit_ty (by decide +kernel) : PySem.W.kitOne K (.type "tuple") (.type "bool") = some false)
  | .dict _ => (kit_ty (by decide +kernel) : PySem.W.kitOne K (.type "dict") (.type "bool") = some false)
theorem kit_str {K : PySem.W.Frag} (d : PyData) : PySem.W.kitOne K (.type (tyD d)) (.type "str") = some (isTextD d) := match d with
  | .none => (kit_ty (by decide +kernel) : PySem.W.kitOne K (.type "NoneType") (.type "str") = some false)
  | .bool _ => (kit_ty (by decide +kernel) : PySem.W.kitOne K (.type "bool") (.type "str") = some false)
  | .int _ => (kit_ty (by decide +kernel) : PySem.W.kitOne K (.type "int") (.type "str") = some false)
  | .str _ => (kit_ty (by decide +kernel) : PySem.W.kitOne K (.type "str") (.type "str") = some true)
  | .list _ => (kit_ty (by decide +kernel) : PySem.W.kitOne K (.type "list") (.type "str") = some false)
  | .tuple _ => (kit_ty (by decide +kernel) : PySem.W.kitOne K (.type "tuple") (.type "str") = some false)
  | .dict _ => (kit_ty (by decide +kernel) : PySem.W.kitOne K (.type "dict") (.type "str") = some false)
theorem kit_list {K : PySem.W.Frag} (d : PyData) : PySem.W.kitOne K (.type (tyD d)) (.type "list") = some (tyD d == "list") := match d with
  | .none => (kit_ty (by decide +kernel) : PySem.W.kitOne K (.type "NoneType") (.type "list") = some false)
  | .bool _ => (kit_ty (by decide +kernel) : PySem.W.kitOne K (.type "bool") (.type "list") = some false)
  | .int _ => (kit_ty (by decide +kernel) : PySem.W.kitOne K (.type "int") (.type "list") = some false)
  | .str _ => (kit_ty (by decide +kernel) : PySem.W.kitOne K (.type "str") (.type "list") = some false)
  | .list _ => (kit_ty (by decide +kernel) : PySem.W.kitOne K (.type "list") (.type "list") = some true)
  | .tuple _ => (kit_ty (by decide +kernel) : PySem.W.kitOne K (.type "tuple") (.type "list") = some false)
  | .dict _ => (kit_ty (by decide +kernel) : PySem.W.kitOne K (.type "dict") (.type "list") = some false)
theorem kit_tupl {K : PySem.W.Frag} (d : PyData) : PySem.W.kitOne K (.type (tyD d)) (.type "tuple") = some (tyD d == "tuple") := match d with
  | .none => (kit_ty (by decide +kernel) : PySem.W.kitOne K (.type "NoneType") (.type "tuple") = some false)
  | .bool _ => (kit_ty (by decide +kernel) : PySem.W.kitOne K (.type "bool") (.type "tuple") = some false)
  | .int _ => (kit_ty (by decide +kernel) : PySem.W.kitOne K (.type "int") (.type "tuple") = some false)
  | .str _ => (kit_ty (by decide +kernel) : PySem.W.kitOne K (.type "str") (.type "tuple") = some false)
  | .list _ => (kit_ty (by decide +kernel) : PySem.W.kitOne K (.type "list") (.type "tuple") = some false)
  | .tuple _ => (kit_ty (by decide +kernel) : PySem.W.kitOne K (.type "tuple") (.type "tuple") = some true)
  | .dict _ => (kit_ty (by decide +kernel) : PySem.W.kitOne K (.type "dict") (.type "tuple") = some false)
theorem kit_seq {K : PySem.W.Frag} (d : PyData) : PySem.W.kitAny K (.type (tyD d)) [.type "list", .type "tuple"] = some (isSeqD d) :=
  kitAny_cons (kit_list d)
    (fun h => kitAny_cons (kit_tupl d) (fun h2 => by cases d <;> first | rfl | (exfalso; revert h h2; simp [tyD])) (fun h2 => by cases d <;> first | rfl | (exfalso; revert h2; simp [tyD])))
    (fun h => by cases d <;> first | rfl | (exfalso; revert h; simp [tyD]))
theorem isi_int {K : PySem.W.Frag} {H : Hp} {x : V} {d : PyData} {Q : VK} (h : Dp K H x d) (q : Q (.bl (isIntD d || isBoolD d)) H) : rIsi K [x, .ty "int"] H Q := ⟨_, _, _, _, _, rfl, .ty _, dp_ty h, kit_int d, q⟩
theorem isi_bool {K : PySem.W.Frag} {H : Hp} {x : V} {d : PyData} {Q : VK} (h : Dp K H x d) (q : Q (.bl (isBoolD d)) H) : rIsi K [x, .ty "bool"] H Q := ⟨_, _, _, _, _, rfl, .ty _, dp_ty h, kit_bool d, q⟩
theorem isi_str {K : PySem.W.Frag} {H : Hp} {x : V} {d : PyData} {Q : VK} (h : Dp K H x d) (q : Q (.bl (isTextD d)) H) : rIsi K [x, .ty "str"] H Q := ⟨_, _, _, _, _, rfl, .ty _, dp_ty h, kit_str d, q⟩
/-! ### data stays where what was tracked stays -/
theorem Same.seqT {K : PySem.W.Frag} {H H' : Hp} {a : Addr} {xs : List V} (e : Same H H') (h : SqT K H a xs) : SqT K H' a xs := by
  rcases h with (h | ⟨o, h⟩) | h
  · exact .inl (.inl (e _ _ h))
  · exact .inl (.inr ⟨o, e _ _ h⟩)
  · exact .inr h
mutual
theorem dp_same {K : PySem.W.Frag} {H H' : Hp} (e : Same H H') : ∀ {x : V} {d : PyData}, Dp K H x d → Dp K H' x d
  | _, _, .non => .non
  | _, _, .bl b => .bl b
  | _, _, .int i => .int i
  | _, _, .str y => .str y
  | _, _, .lst hs ha => .lst (e.seq hs) (dpAll_same e ha)
  | _, _, .tup hs ha => .tup (Same.seqT e hs) (dpAll_same e ha)
theorem dpAll_same {K : PySem.W.Frag} {H H' : Hp} (e : Same H H') : ∀ {xs : List V} {ds : List PyData}, DpAll K H xs ds → DpAll K H' xs ds
  | _, _, .nil => .nil
  | _, _, .cons h t => .cons (dp_same e h) (dpAll_same e t)
end
theorem same_upd {H : Hp} {p : Addr} {o : HO} (h : H p = none) : Same H (upd H p o) := fun b u e => by
  rw [upd_ne (ne_of_none e h)]
  exact e
/-! ### what the top has written, as far as it is asked -/
structure Txt (K : PySem.W.Frag) (mg : Str → Option Value) : Prop where
  isi : mg "isinstance" = none
  int : mg "int" = none
  bool : mg "bool" = none
  str : mg "str" = none
  list : mg "list" = none
  tuple : mg "tuple" = none
  len : mg "len" = none
  enum : mg "enumerate" = none
  zip : mg "zip" = none
  all : mg "all" = none
  range : mg "range" = none
  min : mg "min" = none
  sum : mg "sum" = none
  abs : mg "abs" = none
  repr : mg "repr" = none
  hands : ∃ t, mg "MOST_HANDS" = some (.int 8 t)
  marks : ∃ t, mg "MOST_MARKS" = some (.int 60 t)
  story : ∃ t, mg "MOST_STORY" = some (.int 10000 t)
  stand : ∃ t, mg "MOST_STANDINGS" = some (.int 4000 t)
  stories : ∃ t, mg "STORIES" = some (.str "stories" t)
section
variable {P : Program} {w : World} {K : PySem.W.Frag} {mg : Str → Option Value} {base : Heap}
/-! ### is_integer, is_number, is_below, is_within, is_sequence, is_text -/
def spD (K : PySem.W.Frag) (p : PyData → Bool) : Sp := fun vs H Q _ => ∃ (x : V) (d : PyData), vs = [x] ∧ Dp K H x d ∧ Q (.bl (p d)) H
theorem scInt : FnScope ["value"] ["value"] (defScope (top 10)) := ⟨rfl, rfl, rfl, by decide +kernel, rfl, by decide +kernel, by decide +kernel⟩
theorem ok_integer (F : FunAt K mg "is_integer" (top 10) ["value"]) (T : Txt K mg) : Fd P w K mg base "is_integer" 1 ["value"] (spD K isIntD) := by
  refine Fd.mk' F fun f fd F => F.ok scInt (fun vs H Q E h => ?_) (fun cdv A outer s H vs Q E hr h => ?_)
  · obtain ⟨x, d, rfl, _⟩ := h
    rfl
  · obtain ⟨x, d, rfl, hd, q⟩ := h
    refine ⟨_, pss_one (ps_ret (pe_and (pe_callB call_isi (by rfl) T.isi (by decide +kernel) (pa_cons (pv 0) (pa_cons (pe_ty "int" T.int (by decide +kernel)) pa_nil)))
      (pe_one (pe_not (pe_callB call_isi (by rfl) T.isi (by decide +kernel) (pa_cons (pv 0) (pa_cons (pe_ty "bool" T.bool (by decide +kernel)) pa_nil))))))), ?_⟩
    refine ⟨_, rfl, ?_⟩
    refine ⟨_, _, _, _, _, rfl, .ty _, dp_ty hd, kit_int d, _, rfl, ?_⟩
    refine ite2 (fun c => ?_) (fun c => ?_)
    · refine ⟨_, rfl, ?_⟩
      refine ⟨_, _, _, _, _, rfl, .ty _, dp_ty hd, kit_bool d, _, rfl, ?_⟩
      have e : (!isBoolD d) = isIntD d := by cases d <;> simp_all [isIntD, isBoolD]
      rw [e]
      exact q
    · have e : isIntD d = false := by cases d <;> simp_all [isIntD, isBoolD]
      rw [e] at q
      exact q
theorem ok_number (F : FunAt K mg "is_number" (top 11) ["value"]) (D1 : Fd P w K mg base "is_integer" 1 ["value"] (spD K isIntD)) : Fd P w K mg base "is_number" 2 ["value"] (spD K fun d => match d with | .int i => decide (0 ≤ i) | _ => false) := by
  have sc : FnScope ["value"] ["value"] (defScope (top 11)) := ⟨rfl, rfl, rfl, by decide +kernel, rfl, by decide +kernel, by decide +kernel⟩
  refine Fd.mk' F fun f fd F => F.ok sc (fun vs H Q E h => ?_) (fun cdv A outer s H vs Q E hr h => ?_)
  · obtain ⟨x, d, rfl, _⟩ := h
    rfl
  · obtain ⟨x, d, rfl, hd, q⟩ := h
    refine ⟨_, pss_one (ps_ret (pe_and (pf D1 hr (pa_cons (pv 0) pa_nil)) (pe_one (pe_cmpR op_ge (pv 0) pe_int (nomark _))))), ?_⟩
    refine ⟨_, rfl, x, d, rfl, hd, _, rfl, ?_⟩
    cases hd with
    | int i => exact ⟨_, rfl, _, _, rfl, rfl, q⟩
    | _ => exact q
theorem ok_below (F : FunAt K mg "is_below" (top 12) ["value", "most"]) (D1 : Fd P w K mg base "is_number" 2 ["value"] (spD K fun d => match d with | .int i => decide (0 ≤ i) | _ => false)) :
    Fd P w K mg base "is_below" 3 ["value", "most"] (fun vs H Q _ => ∃ (x : V) (d : PyData) (n : Int), vs = [x, .int n] ∧ Dp K H x d ∧ Q (.bl (belowD n d)) H) := by
  have sc : FnScope ["value", "most"] ["value", "most"] (defScope (top 12)) := ⟨rfl, rfl, rfl, by decide +kernel, rfl, by decide +kernel, by decide +kernel⟩
  refine Fd.mk' F fun f fd F => F.ok sc (fun vs H Q E h => ?_) (fun cdv A outer s H vs Q E hr h => ?_)
  · obtain ⟨x, d, n, rfl, _⟩ := h
    rfl
  · obtain ⟨x, d, n, rfl, hd, q⟩ := h
    refine ⟨_, pss_one (ps_ret (pe_and (pf D1 hr (pa_cons (pv 0) pa_nil)) (pe_one (pe_cmpR op_lt (pv 0) (pv 1) (nomark _))))), ?_⟩
    refine ⟨_, rfl, x, d, rfl, hd, _, rfl, ?_⟩
    cases hd with
    | int i =>
      by_cases c : (0 : Int) ≤ i
      · simp only [c, decide_true, if_true]
        refine ⟨_, rfl, _, rfl, _, _, rfl, rfl, ?_⟩
        simpa [belowD, c] using q
      · simp only [c, decide_false]
        refine iteF ?_
        simpa [belowD, c] using q
    | _ => exact q
theorem ok_within (F : FunAt K mg "is_within" (top 13) ["value", "least", "most"]) (D1 : Fd P w K mg base "is_integer" 1 ["value"] (spD K isIntD)) :
    Fd P w K mg base "is_within" 2 ["value", "least", "most"] (fun vs H Q _ => ∃ (x : V) (d : PyData) (a b : Int), vs = [x, .int a, .int b] ∧ Dp K H x d ∧ Q (.bl (withinD a b d)) H) := by
  have sc : FnScope ["value", "least", "most"] ["value", "least", "most"] (defScope (top 13)) := ⟨rfl, rfl, rfl, by decide +kernel, rfl, by decide +kernel, by decide +kernel⟩
  refine Fd.mk' F fun f fd F => F.ok sc (fun vs H Q E h => ?_) (fun cdv A outer s H vs Q E hr h => ?_)
  · obtain ⟨x, d, a, b, rfl, _⟩ := h
    rfl
  · obtain ⟨x, d, a, b, rfl, hd, q⟩ := h
    refine ⟨_, pss_one (ps_ret (pe_and (pf D1 hr (pa_cons (pv 0) pa_nil)) (pe_one (pe_chain op_le op_le (pv 1) (pv 0) (pv 2))))), ?_⟩
    refine ⟨_, rfl, x, d, rfl, hd, _, rfl, ?_⟩
    cases hd with
    | int i =>
      refine ⟨_, rfl, _, rfl, _, _, rfl, rfl, _, rfl, ?_⟩
      by_cases c : a ≤ i
      · simp only [c, decide_true, if_true]
        refine ⟨_, rfl, _, _, rfl, rfl, ?_⟩
        simpa [withinD, c] using q
      · simp only [c, decide_false]
        refine iteF ?_
        simpa [withinD, c] using q
    | _ => exact q
theorem ok_sequence (F : FunAt K mg "is_sequence" (top 14) ["value"]) (T : Txt K mg) :
    Fd P w K mg base "is_sequence" 1 ["value"] (fun vs H Q _ => ∃ (x : V) (d : PyData), vs = [x] ∧ Dp K H x d ∧ ∀ H', Same H H' → Q (.bl (isSeqD d)) H') := by
  have sc : FnScope ["value"] ["value"] (defScope (top 14)) := ⟨rfl, rfl, rfl, by decide +kernel, rfl, by decide +kernel, by decide +kernel⟩
  refine Fd.mk' F fun f fd F => F.ok sc (fun vs H Q E h => ?_) (fun cdv A outer s H vs Q E hr h => ?_)
  · obtain ⟨x, d, rfl, _⟩ := h
    rfl
  · obtain ⟨x, d, rfl, hd, q⟩ := h
    refine ⟨_, pss_one (ps_ret (pe_callB call_isiT (by rfl) T.isi (by decide +kernel) (pa_cons (pv 0) (pa_cons (pe_tup (pa_cons (pe_ty "list" T.list (by decide +kernel)) (pa_cons (pe_ty "tuple" T.tuple (by decide +kernel)) pa_nil))) pa_nil)))), ?_⟩
    refine ⟨_, rfl, (by show 2 ≤ sizeLine; decide), fun p hp => ?_⟩
    exact ⟨_, p, _, _, _, _, rfl, upd_same, .cons (.ty _) (.cons (.ty _) .nil), dp_ty (dp_same (same_upd hp) hd), kit_seq d, q _ (same_upd hp)⟩
theorem ok_text (F : FunAt K mg "is_text" (top 15) ["value"]) (T : Txt K mg) : Fd P w K mg base "is_text" 1 ["value"] (spD K isTextD) := by
  have sc : FnScope ["value"] ["value"] (defScope (top 15)) := ⟨rfl, rfl, rfl, by decide +kernel, rfl, by decide +kernel, by decide +kernel⟩
  refine Fd.mk' F fun f fd F => F.ok sc (fun vs H Q E h => ?_) (fun cdv A outer s H vs Q E hr h => ?_)
  · obtain ⟨x, d, rfl, _⟩ := h
    rfl
  · obtain ⟨x, d, rfl, hd, q⟩ := h
    exact ⟨_, pss_one (ps_ret (pe_callB call_isi (by rfl) T.isi (by decide +kernel) (pa_cons (pv 0) (pa_cons (pe_ty "str" T.str (by decide +kernel)) pa_nil)))), ⟨_, rfl, ⟨_, _, _, _, _, rfl, .ty _, dp_ty hd, kit_str d, q⟩⟩⟩
end
end Lg
set_option Elab.async false
set_option maxRecDepth 100000
set_option maxHeartbeats 2000000
/-! own errors over ValueError whose first line is super().__init__(text), then one field -/
namespace Lg
open PySem PySem.Spec PyProof.Rows L2
/-- the positions that stand in such an __init__ -/
structure EPos where
  (a b c d e f g h i j k l : Pos)
def eArgs (fld : Str) (p : EPos) : Arguments := { posonlyargs := [], args := [{ arg := "self", annotation := none, pos := p.a }, { arg := fld, annotation := none, pos := p.b }], vararg := none, kwonlyargs := [], kw_defaults := [], kwarg := none, defaults := [] }
def eBody (fld txt : Str) (n : Nat) (p : EPos) : List Stmt :=
  [.Expr (.Call (.Attribute (.Call (.Name "super" p.c) [] [] p.d) "__init__" p.e) [.Constant (.str txt) n p.f] [] p.g) p.h, .Assign [.Attribute (.Name "self" p.i) fld p.j] (.Name fld p.k) p.l]
def eScope (fld : Str) : Scope := { kind := .function, names := [("self", .local), (fld, .local), ("__class__", .free), ("super", .globalImplicit)], isGenerator := false, isCoroutine := false, more := [] }
/-- what stands of the class nm at C, its __init__ at fI; fld its field -/
structure ErrTxt (P : Program) (K : PySem.W.Frag) (mg : Str → Option Value) (nm fld : Str) (C fI : Addr) : Prop where
  gC : mg nm = some (.ref C)
  cls : ∃ n q N bs bm sn sub ab col dd k0 k1 k2 k3 k5, K.lookup C = some (excClassObj n q C N bs bm true sn sub ab col dd k0 k1 k2 k3 k5 "ValueError.__new__") ∧ PySem.HandSPX.refsVE bm = true
  sa : PySem.W.findIn K (.ref C) "__setattr__" = some (some (.builtin "object.__setattr__"))
  noN : PySem.W.findIn K (.ref C) fld = some none
  iC : PySem.W.findIn K (.ref C) "__init__" = some (some (.ref fI))
  tC : PySem.W.typeIn K (.ref fI) = some (.type "function")
  kC : PySem.W.keepIn K (.ref C) = true
  exC : PySem.W.subIn K (.ref C) (.type "BaseException") = some true
  tyC : PySem.W.typeIn K (.ref C) = some (.type "type")
  sup : PySem.W.ks_superIn K C C "__init__" = some (some (.builtin "ValueError.__init__"))
  ve : PySem.W.subIn K (.ref C) (.type "ValueError") = some true
  own : PySem.W.mroIn K C (.ref C) = some true
  noS : mg "super" = none
  thp : PySem.W.nsIn K cStatics "thirdparty.any" = some none
  fk : fld = "at" ∨ fld = "most"
  fn : ∃ (qual txt : Str) (n : Nat) (p : EPos) (oc doc pm ct : Value) (od an : Option Addr) (osl : Array (Option Value)) (cda cc : Addr) (vs : Array Value) (file : Str) (tf : Tok) (ccl cl : Value) (cdd cld : Option Addr) (ccs csl : Array (Option Value)),
    (p.e.endLine == p.g.line) = true ∧ K.lookup fI = some ⟨oc, od, .func (PySem.W.ksFn "__init__" qual (eArgs fld p) (eBody fld txt n p) (eScope fld) .none .none doc pm an (.ref cda) ct cc), osl⟩ ∧ PySem.W.codeIn K (.ref cda) qual = true ∧
    K.lookup cda = some ⟨ccl, cdd, .fields vs, ccs⟩ ∧ vs[2]? = some (.str file tf) ∧ ((P.main.file : Str) == file) = true ∧ (P.main.scope.names.lookup ("super" : Str)).isSome = false ∧ K.lookup cc = some ⟨cl, cld, .cell (some (.ref C)), csl⟩
theorem size1 (v : Value) : [v].length ≤ sizeLine := by
  rw [sizeLine_eq]
  show 1 ≤ 16777216
  decide
/-- what __init__ leaves of the bare error at x -/
structure ErrEnd (h h' : Heap) (fld : Str) (x C dx t1 : Addr) (v : Value) : Prop where
  keep : ∀ b o, b ≠ x → h.get? b = some o → h'.get? b = some o
  obj : h'.get? x = some { cls := .ref C, dict := some dx, data := .fields #[.ref t1, .none, .none, .none, .bool false, .none] }
  dbig : h.objs.size ≤ dx
  dne : dx ≠ x
  ns : h'.Ns1 dx (fun y => if y = fld then some v else none)
/-- a made error -/
structure ErrMade (h h' : Heap) (fld : Str) (e C d : Addr) (v : Value) : Prop where
  keep : ∀ b o, h.get? b = some o → h'.get? b = some o
  new : h.objs.size ≤ e
  obj : ∃ oe vs, h'.get? e = some oe ∧ oe.cls = .ref C ∧ oe.dict = some d ∧ oe.data = .fields vs ∧ vs[1]? = some .none
  dbig : h.objs.size ≤ d
  dne : d ≠ e
  ns : h'.Ns1 d (fun y => if y = fld then some v else none)
section
open PySem.W PySem.Calls PySem.HandSPX
variable {prog : Program} {w : World} {A : Around} {E : Value → Shared → Prop} {R : Result → Shared → Prop} {s : Shared} {K : Frag} {mg : Str → Option Value} {C fI : Addr} {nm fld : Str}
/-- the bound built-in __init__ is called on the bare error -/
theorem call_mw {h : Heap} {g : Array GenState} {d : Drawn} {t : Nat} {os : OsState} {n q : Str} {N : Addr} {bs bm : List Value} {hdct : Bool} {sn : List Str} {sub : List Value} {ab : Bool} {col : Option Bool} {dd : Option Addr} {k0 k1 k2 k3 k5 : Option Value}
    {u e t0 : Addr} {rest : List Value} {Q : Value → Shared → Prop}
    (hC : h.get? C = some (excClassObj n q C N bs bm hdct sn sub ab col dd k0 k1 k2 k3 k5 "ValueError.__new__")) (he : h.get? e = some (excO C t0)) (hu : h.get? u = some (kxs_mw "ValueError.__init__" e)) (hz : rest.length ≤ sizeLine)
    (hq : ∀ h' t1, (∀ b o, b ≠ e → h.get? b = some o → h'.get? b = some o) → h'.get? e = some (excO C t1) → Q .none ⟨h', g, d, t, os⟩) : wpAny (model prog w) A (call (.ref u) rest) Q E ⟨h, g, d, t, os⟩ := by
  refine wpAny_call (codeAny_of_tree ?_)
  show wpAny (model prog w) A.in1 (callAny (.ref u) ⟨rest, []⟩) _ _ _
  simp only [callAny]
  refine wpAny_bind (wpAny_load hu ?_)
  have pick : (Value.type "method-wrapper" == Value.type "method" || Value.type "method-wrapper" == Value.type "builtin_function_or_method" || Value.type "method-wrapper" == Value.type "method-wrapper") = true := by decide
  simp only [pick, if_true]
  refine KFB.if_so (by decide) (wpAny_bind (check_bound_init F.excBase_ValueError.toExcCallFacts hC he rfl ?_))
  refine wpAny_bind (wpAny_pure (wpAny_pure ?_))
  refine ⟨plainId_quiet F.excBase_ValueError.init.plain _, codeAny_builtin F.excBase_ValueError.initEntry ?_⟩
  refine exc_init_tree (cls := .ref C) (t0 := t0) (dv := none) (c2 := .none) (c3 := .none) (b4 := .bool false) he hz fun h' k hx _ => ?_
  exact hq h' _ k hx
theorem call_shape (env : Env) (txt : Str) (n : Nat) (p1 p2 p3 apos pos : Pos) (hl : (apos.endLine == pos.line) = true) : ∃ pl : Sem Bool, eval (.Call (.Attribute (.Call (.Name "super" p1) [] [] p2) "__init__" apos) [.Constant (.str txt) n p3] [] pos) env = (do
    let ov ← attributeBase (.Call (.Name "super" p1) [] [] p2) "__init__" env (eval (.Call (.Name "super" p1) [] [] p2) env)
    standAt apos.atName
    let (f, first) ← holding [ov] (getMethod ov "__init__" pl)
    callWith pos f first (backTo pos (starEach [.Constant (.str txt) n p3] env)) []) := by
  refine ⟨(do return (← importBound (.Call (.Name "super" p1) [] [] p2) env).getD true), ?_⟩
  rw [arm_eval_Call]
  have hp : ∀ few o, methodCallPos few o env apos pos = pure pos := fun few o => by
    unfold methodCallPos
    rw [hl, Bool.or_true, if_pos rfl]
  unfold methodCall
  simp only [hp, pure_bind]
  rfl
theorem err_init (T : ErrTxt prog K mg nm fld C fI) {x t0 : Addr} {v : Value} {mb : Str → Option Value} (X : K.In s.heap) (hlim : s.heap.NoLimit) (hgl : s.heap.Ns mainGlobals mg) (hbl : s.heap.Ns builtinsNs mb) (hbb : mb "super" = bootBuiltins "super")
    (hx : s.heap.get? x = some (excO C t0)) (hnx : K.lookup x = none) (hroom : A.depth < recursionLimit) (hq : ∀ h' tk dx t1, ErrEnd s.heap h' fld x C dx t1 v → R (.ok (.ret .none)) { s with heap := h', toks := tk }) :
    codeAny (model prog w) A (.call (.ref fI) ⟨[.ref x, v], []⟩) R s := by
  have hfk := T.fk
  obtain ⟨qual, txt, n, p, oc, doc, pm, ct, od, an, osl, cda, cc, vs, file, tf, ccl, cl, cdd, cld, ccs, csl, hpl, ho, hcd, hcda, hvs, hfile, htop, hcell⟩ := T.fn
  obtain ⟨n', q, N, bs, bm, sn, sub, ab, col, dd, k0, k1, k2, k3, k5, hC, hbm⟩ := T.cls
  have hcl : clsIn K C = some { name := n', bases := bs, mro := .ref C :: bm, ns := N, qualname := q, hasDict := true, slotNames := sn, subclasses := sub, abstract := ab, collection := col, hasDel := false } := by unfold clsIn; rw [hC] <;> rfl
  have l1 : (eScope fld).names.lookup ("self" : Str) = some .local := rfl
  have l2 : (eScope fld).names.lookup fld = some .local := by rcases hfk with e | e <;> (rw [e]; rfl)
  have l3 : (eScope fld).names.lookup ("__class__" : Str) = some .free := by rcases hfk with e | e <;> (rw [e]; rfl)
  have l4 : (eScope fld).names.lookup ("super" : Str) = some .globalImplicit := by rcases hfk with e | e <;> (rw [e]; rfl)
  have fne : fld ≠ "self" := by rcases hfk with e | e <;> (rw [e]; decide)
  refine ks_codeAny_call_defAt (fd := ksFn "__init__" qual (eArgs fld p) (eBody fld txt n p) (eScope fld) .none .none doc pm an (.ref cda) ct cc) (body := eBody fld txt n p) (binds := [("self", .ref x), (fld, v)]) hroom (X _ _ ho) rfl hlim (codeRec_of X hcd) rfl
    (BindsTo.of_eq (by rcases hfk with e | e <;> (rw [e]; with_unfolding_all rfl))) (show ∀ x ∈ (eScope fld).names, x.2 ≠ .cell by rcases hfk with e | e <;> (rw [e]; decide)) (fun y hy => ?_) (fun h₁ hn k => ?_)
  · rcases List.mem_cons.mp hy with e | hy
    · rw [e]; exact l1
    · rw [List.mem_singleton.mp hy]; exact l2
  have X₁ : K.In h₁ := X.keeps k
  have hx₁ := k _ _ hx
  have hself : (fun y => ([("self", Value.ref x), (fld, v)] : List (Str × Value)).reverse.lookup y) ("self" : Str) = some (.ref x) := by
    have z : (("self" : Str) == fld) = false := by simpa using (Ne.symm fne)
    simp [List.lookup, z]
  have hval : (fun y => ([("self", Value.ref x), (fld, v)] : List (Str × Value)).reverse.lookup y) fld = some v := by simp [List.lookup]
  have nL : s.heap.objs.size ≠ x := Nat.ne_of_gt (Heap.lt_size hx)
  -- super().__init__(text)
  obtain ⟨pl, hcall⟩ := call_shape (callEnv (ksFn "__init__" qual (eArgs fld p) (eBody fld txt n p) (eScope fld) .none .none doc pm an (.ref cda) ct cc) s.heap.objs.size fI) txt n p.c p.d p.f p.e p.g hpl
  refine ks_wpAt_execs_cons (ks_wpAt_Expr_any (ks_wpAt_MethodCall ?_ hcall))
  refine ks_wpAt_super_base (oc := ⟨ccl, cdd, .fields vs, ccs⟩) l4 l3 (by decide) rfl (X₁ _ _ ho) rfl rfl rfl (X₁ _ _ hcda) rfl hvs hfile htop ?_
  refine ks_loadName_global rfl l4 (loadGlobal_builtin (hgl.keeps k) T.noS (hbl.keeps k) (hbb.trans (by decide +kernel : bootBuiltins "super" = some (.type "super"))) ⟨rfl, ?_⟩)
  refine wpAny_loadName_free rfl l3 rfl ⟨_, X₁ _ _ hcell, rfl⟩ ?_
  refine wpAny_loadName_local rfl l1 hn hself ?_
  obtain ⟨oD, hD1, hD2⟩ : ∃ oD, h₁.get? C = some oD ∧ oD.data = .cls _ := ⟨_, X₁ _ _ hC, rfl⟩
  refine ks_wpAny_isType_cls hD1 hD2 ⟨rfl, ?_⟩
  refine ks_wpAny_call_super hD1 hD2 hx₁ rfl (fun c z => by cases z) (looks_mroIn X₁ T.own) (fun h₂ hso k₂ => ?_)
  have X₂ : K.In h₂ := X₁.keeps k₂
  have hx₂ := k₂ _ _ hx₁
  have I₂ : InstAt h₂ x (excO C t0) C none := ⟨hx₂, rfl, rfl, trivial⟩
  refine kxs_getMethod kxs_ValueError hso (looks_opaque X₂ T.thp) (l₀ := .ref C :: bm) (fun A Q E s k q => wpAny_bind ((looks_clsIn X₂ hcl) A _ E s k (wpAny_pure q))) rfl X₂ ?_
    (I₂.type.andThen (looks_subIn X₂ T.ve)) (ks_ne X₂ I₂ hcl) (by decide) ?_
  · have z := T.sup
    unfold ks_superIn at z
    rw [hcl] at z
    exact z
  have mw := Heap.get?_push_size h₂ (o := kxs_mw "ValueError.__init__" x) rfl
  have k₃ : ∀ b o, h₂.get? b = some o → (h₂.push (kxs_mw "ValueError.__init__" x)).get? b = some o := fun b o z => Heap.get?_push_of_some _ z
  refine kxs_callWith (i := "ValueError.__init__") (x := x) rfl (evalArgs_plain (spliced_cons (wpAny_Constant_str (k := n) (pos := p.f) (spliced_nil ?_))))
  refine ⟨mw, ?_⟩
  refine call_mw (k₃ _ _ (X₂ _ _ hC)) (k₃ _ _ hx₂) mw (size1 _) fun h₄ t1 k₄ hx₄ => ?_
  -- self.f = f
  have old : ∀ b o, b ≠ x → h₁.get? b = some o → h₄.get? b = some o := fun b o hb z => k₄ b o hb (k₃ _ _ (k₂ _ _ z))
  have hn₄ : h₄.Ns s.heap.objs.size (fun y => ([("self", Value.ref x), (fld, v)] : List (Str × Value)).reverse.lookup y) := by
    obtain ⟨o, es, ep, e, r⟩ := hn
    exact ⟨o, es, ep, old _ _ nL e, r⟩
  have X₄ : K.In h₄ := fun b o z => old b o (fun q => by rw [q, hnx] at z; cases z) (X₁ b o z)
  refine ks_wpAt_execs_cons (wpAt_of_wpAny (plainObj_wpAny_Assign_Attribute ?_ (by rfl)))
  refine wpAny_Name (wpAny_loadName_local rfl l2 hn₄ hval ?_) (by rcases hfk with e | e <;> (rw [e]; decide))
  refine wpAny_Name (wpAny_loadName_local rfl l1 hn₄ hself ?_) (by decide)
  refine set_plain X₄ (ox := excO C t1) (od := none) ⟨hx₄, rfl, rfl, trivial⟩ T.sa ?_
  refine exc_osa X₄ hx₄ hcl (show refsVE (.ref C :: bm) = true from hbm) rfl T.noN (fun h₅ tk₅ dx k₅ dn dne hx₅ hn₅ => ?_)
  have z : s.heap.objs.size < h₄.objs.size := hn₄.lt
  refine wpAt_of_wpAny (wpAny_execs_nil (hq h₅ tk₅ dx t1 ⟨fun b o hb e => k₅ b o hb (old b o hb (k b o e)), hx₅, Nat.le_of_lt (Nat.lt_of_lt_of_le z dn), dne, hn₅⟩))
end
end Lg
set_option Elab.async false
set_option maxRecDepth 100000
set_option maxHeartbeats 2000000
namespace Lg
open PySem PySem.Spec PyProof.Rows L2
section
open PySem.W PySem.Calls PySem.HandSPX
variable {prog : Program} {w : World} {A : Around} {E : Value → Shared → Prop} {R : Result → Shared → Prop} {s : Shared} {K : Frag} {mg : Str → Option Value} {C fI : Addr} {nm fld : Str}
theorem err_made (T : ErrTxt prog K mg nm fld C fI) {v : Value} {mb : Str → Option Value} (X : K.In s.heap) (hlim : s.heap.NoLimit) (hgl : s.heap.Ns mainGlobals mg) (hbl : s.heap.Ns builtinsNs mb) (hbb : mb "super" = bootBuiltins "super")
    (hroom : A.depth + 1 < recursionLimit) (hq : ∀ h' tk e d, ErrMade s.heap h' fld e C d v → R (.ok (.ret (.ref e))) { s with heap := h', toks := tk }) :
    codeAny (model prog w) A (.call (.ref C) ⟨[v], []⟩) R s := by
  obtain ⟨n, q, N, bs, bm, sn, sub, ab, col, dd, k0, k1, k2, k3, k5, hC, hbm⟩ := T.cls
  obtain ⟨hp, g, dr, tk, os⟩ := s
  have grow : ∀ b o, hp.get? b = some o → ((hp.push (kdv_tup [v])).push (excO C hp.objs.size)).get? b = some o := fun b o e =>
    Heap.get?_push_of_some _ (Heap.get?_push_of_some _ e)
  have at1 : ((hp.push (kdv_tup [v])).push (excO C hp.objs.size)).get? (hp.objs.size + 1) = some (excO C hp.objs.size) := by heap_get
  have out : K.lookup (hp.objs.size + 1) = none := by
    cases e : K.lookup (hp.objs.size + 1) with
    | none => rfl
    | some o => exact absurd (Nat.lt_of_succ_lt (Heap.lt_size (X _ _ e))) (Nat.lt_irrefl _)
  have nsG : ∀ {b : Addr} {m : Str → Option Value}, hp.Ns b m → ((hp.push (kdv_tup [v])).push (excO C hp.objs.size)).Ns b m := fun {b m} ⟨o, es, ep, e, r⟩ => ⟨o, es, ep, grow _ _ e, r⟩
  refine call_own F.excBase_ValueError (fun Y => refsVE_contains Y bm hbm) (X _ _ hC) (looks_findIn X T.iC) (fun self => bind_fn X self T.tC) (size1 v) ?_
  refine err_init (s := ⟨(hp.push (kdv_tup [v])).push (excO C hp.objs.size), g, dr, tk, os⟩) T (X.keeps grow) (hlim.keeps grow) (nsG hgl) (nsG hbl) hbb at1 out ?_ fun h' tk' dx t1 M => ?_
  · show A.depth + 1 < recursionLimit
    exact hroom
  · have old : ∀ b o, hp.get? b = some o → h'.get? b = some o := fun b o e => M.keep b o (Nat.ne_of_lt (Nat.lt_succ_of_lt (Heap.lt_size e))) (grow b o e)
    have z : hp.objs.size + 1 + 1 ≤ dx := by
      have y := M.dbig
      rw [Heap.size_push, Heap.size_push] at y
      exact y
    exact ⟨rfl, hq h' tk' (hp.objs.size + 1) dx ⟨old, Nat.le_succ _, ⟨_, _, M.obj, rfl, rfl, rfl, rfl⟩, (by show hp.objs.size ≤ dx; omega), M.dne, M.ns⟩⟩
end
section
variable {X : Cx} {C fI : Addr} {nm fld : Str}
/-- nm(e) -/
def tMkErr (C : Addr) (fld : Str) (ta : TA) : L2.St → Hp → XK → Prop := fun σ H Q => ta σ H fun vs H1 => ∃ v, vs = [v] ∧ ∀ d, H1 d = none → Q (.ref C) (some d) (upd H1 d (.xd [(fld, v)]))
theorem pmk_err {a : Expr} {ta : TA} {p pos : Pos} {k : Nat} (T : ErrTxt X.prog X.K X.mg nm fld C fI) (hr : Room k X.A) (ha : PA X [a] ta) (hg : Gl X nm) (hdb : (nm == ("__debug__" : Str)) = false)
    (he : starEach (a :: []) X.env = (false, eval a X.env) :: starEach [] X.env := by rfl) (hpl : (backTo pos (starEach [] X.env)).any (·.1) = false := by rfl) :
    PMk X (.Call (.Name nm p) [a] [] pos) (tMkErr C fld ta) := by
  intro pins s σ H Q I h
  refine wpAny_Call_Name_kw (ld_glob I hg T.gC ?_ hdb)
  refine PySem.W.callWith_K (h₀ := X.base) I.ok.mod.kin T.kC (thn (ha.run pos pins s σ H _ I h) fun us s1 hh => ?_) he hpl
  obtain ⟨vs, H1, I1, r1, v, ev, q1⟩ := hh
  subst ev
  refine ⟨I1.kIn, ?_⟩
  obtain ⟨v', rfl, rv⟩ := vals1 r1
  show wpAny _ _ (call (.ref C) [v']) _ _ _
  have hlim := I1.nolimit
  obtain ⟨mb, hbl, hbb⟩ := I1.mod.blt
  have nsB : ∀ {b : Addr} {m : Str → Option Value}, X.base.Ns b m → s1.heap.Ns b m := fun {b m} ⟨o, es, ep, e, r⟩ => ⟨o, es, ep, I1.bk _ _ e, r⟩
  have hgl' := nsB I1.mod.glob
  have hbl' := nsB hbl
  obtain ⟨hp, g, dr, tk, os⟩ := s1
  refine wpAny_call (err_made T I1.kIn hlim hgl' hbl' (hbb _ (by decide)) (by have := hr.dp; omega) fun h' tk' e d M => ?_)
  show MkP X pins σ Q (.ref e) ⟨h', g, dr, tk', os⟩
  obtain ⟨oe, fv, hoe, hc, hd, hdat, h1⟩ := M.obj
  obtain ⟨G', g1, g2⟩ := restrict h' fun b => decide (b ≠ e)
  have gk : ∀ b, b ≠ e → G'.get? b = h'.get? b := fun b hb => g1 b (decide_eq_true hb)
  have ge : G'.get? e = none := g2 e (by simp)
  have old : ∀ b o, hp.get? b = some o → G'.get? b = some o := fun b o q => (gk b (Nat.ne_of_lt (Nat.lt_of_lt_of_le (Heap.lt_size q) M.new))).trans (M.keep b o q)
  have ob : ObjOk X.prog X.w (upd H1 d (.xd [(fld, v)])) G' d (.xd [(fld, v)]) :=
    ⟨_, M.ns.at (fun o q => (gk d M.dne).trans q), relO_put (fs := []) rv fun g => True.intro⟩
  have J : Inv X pins σ (upd H1 d (.xd [(fld, v)])) ⟨G', g, dr, tk', os⟩ := I1.laid (t' := tk') old M.dbig ob
  refine ⟨e, oe, fv, ⟨G', g, dr, tk', os⟩, _, .ref C, some d, rfl, J, fun b o q => ?_, ge, hoe, ⟨hc, hd⟩, hdat, h1, ?_, rfl, I1.bare, raises_own T.exC T.tyC, q1 d (I1.hok.fresh M.dbig)⟩
  · by_cases hb : b = e
    · have z : G'.get? b = some o := q
      rw [hb, ge] at z
      cases z
    · exact (gk b hb).symm.trans q
  · rw [upd_ne (Ne.symm M.dne)]
    exact I1.hok.fresh M.new
/-- raise nm(e) -/
def tRaiseErr (C : Addr) (fld : Str) (W : WX) (ta : TA) : TS := fun _ σ H => tMkErr C fld ta σ H fun cls d H' => W cls d σ H'
theorem ps_raiseErr {a : Expr} {ta : TA} {W : WX} {p pos pos2 : Pos} {k : Nat} (hc : X.calm = true) (T : ErrTxt X.prog X.K X.mg nm fld C fI) (hr : Room k X.A) (tk : Takes X W) (ha : PA X [a] ta) (hg : Gl X nm) (hdb : (nm == ("__debug__" : Str)) = false)
    (he : starEach (a :: []) X.env = (false, eval a X.env) :: starEach [] X.env := by rfl) (hpl : (backTo pos (starEach [] X.env)).any (·.1) = false := by rfl) :
    PS X (.Raise (some (.Call (.Name nm p) [a] [] pos)) none pos2) (tRaiseErr C fld W ta) := ps_raise hc tk (pmk_err T hr ha hg hdb he hpl)
/-! ### isinstance of an error that has its dict -/
theorem call_isD {a D dx : Addr} {oe : Obj} {pn : List (Addr × Obj)} (T : ExcC X.K D) (hz : Zc (.ref D) (some dx) oe) (hf : ∃ vs, oe.data = .fields vs) :
    CallR (X.suite a ((a, oe) :: pn)) (.builtin "isinstance") (fun xs H Q => (∃ fs, H dx = some (.xd fs)) ∧ rIsE X.K D a xs H Q) := by
  intro pins s σ H xs us Q I r h
  obtain ⟨⟨ud, hud⟩, c, cv, b, rfl, hcv, e, q⟩ := h
  obtain ⟨x1, x2, rfl, r1, r2⟩ := vals2 r
  obtain rfl : x1 = Value.ref a := r1
  obtain rfl := hcv _ r2
  obtain ⟨hget, _⟩ := I.pin (a, oe) (List.mem_append_left _ List.mem_cons_self)
  obtain ⟨vs, hv⟩ := hf
  obtain ⟨mA, hns, _⟩ := (show ObjOk X.prog X.w H s.heap dx (.xd ud) from I.hok _ _ hud)
  obtain ⟨od, ho, _⟩ := lookIn_ns hns
  have J : PySem.W.InstAt s.heap a oe D (some od) := ⟨hget, hz.1, by unfold PySem.W.notCls; rw [hv] <;> rfl, by rw [hz.2]; exact ho⟩
  have hcl : (PySem.W.clsIn X.K D).isSome = true := by
    obtain ⟨cd, hc, _⟩ := PySem.W.any_some T.hd
    rw [hc]
    rfl
  exact PySem.W.kia_one (PySem.W.kitx_exc hcl T.hg T.hk T.hs T.ha T.hn T.ht T.hm) I.kIn J e (fun z => nomatch z) fun tk => ⟨.bl b, H, I.kept (t' := tk) fun _ _ z => z, rfl, q⟩
end
end Lg
set_option Elab.async false
set_option maxRecDepth 100000
set_option maxHeartbeats 2000000
namespace Lg
open PySem PySem.Spec PyProof.Rows L2
/-! ### try .. except X as n: .. except Y as n: .. -/
/-- a clause: its class, its suite's reading -/
abbrev Cl2 := Value × (Addr → Value → Option Addr → TS)
/-- the ends with n's slot emptied -/
def cleared (i : Nat) (D : Ends) : Ends := { nx := fun σ H => D.nx (σ.set i none) H, rt := D.rt, bk := fun σ H => D.bk (σ.set i none) H, ct := fun σ H => D.ct (σ.set i none) H }
/-- an error of the body is one that a clause names -/
def wAll (K : PySem.W.Frag) (i : Nat) (D : Ends) : List Cl2 → WX
  | [] => fun _ _ _ _ => False
  | (c, ts) :: r => fun cls d σ H => ∃ b, PySem.W.exmOne K cls c = some b ∧ (b = true → ∀ a, H a = none → ts a cls d (cleared i D) (σ.set i (some (.ref a))) H) ∧ (b = false → wAll K i D r cls d σ H)
inductive AsOk (X : Cx) (n : Str) : List ExceptHandler → List Cl2 → Prop
  | nil : AsOk X n [] []
  | cons {x : Str} {c : Value} {ts : Addr → Value → Option Addr → TS} {b₀ : Stmt} {suite : List Stmt} {np pos' : Pos} {hds : List ExceptHandler} {l : List Cl2} (hc : Names X x c)
      (hsu : ∀ (a : Addr) (oe : Obj) (cls : Value) (d : Option Addr) (pn : List (Addr × Obj)), Zc cls d oe → (∃ vs, oe.data = .fields vs) → PSs (X.suite a ((a, oe) :: pn)) (b₀ :: suite) (ts a cls d)) (r : AsOk X n hds l) :
      AsOk X n (.ExceptHandler (some (.Name x np)) (some n) (b₀ :: suite) pos' :: hds) ((c, ts) :: l)
section
variable {X : Cx} {n : Str} {i : Nat} {body : List Stmt} {h₀ : ExceptHandler} {hds : List ExceptHandler} {l : List Cl2} {pos : Pos} {tb : WX → TS}
theorem ps_try_all (hs : X.stack = X.env :: X.outer) (hf : X.env.frame = some X.env.locals) (hN : X.N.Nodup) (hi : X.N[i]? = some n) (hln : X.env.kindOf n = some .local)
    (hb : ∀ (W : WX) (pn : List (Addr × Obj)) (xe : Value → Shared → Prop), Takes (X.tr pn xe) W → PassesOwn (model X.prog X.w) X.A X.env xe → PSs (X.tr pn xe) body (tb W))
    (hh : AsOk X n (h₀ :: hds) l) : PS X (.Try body (h₀ :: hds) [] [] pos) (fun D σ H => tb (wAll X.K i D l) D σ H) := by
  refine ⟨fun pins s σ H D I h => ?_⟩
  have ok := I.ok
  have hfr : X.A.frames = some (X.env :: X.outer) := ok.frames.trans (congrArg some hs)
  have hloc : Loc X.env.scope n := .inl hln
  refine wpAny_Try_except ?_
  refine wpAny_mono ((hb (wAll X.K i D l) (X.pn ++ pins) _ (fun u s' caught => ?_) PassesOwn.looking).run [] s σ H D (I.toTry _) h) (fun f s1 went => ?_) (fun e s1 he => he)
  · -- caught
    obtain ⟨a, B, sI, pins', σ', H', cls, d, rfl, J', nb, up, sky, na, os, ag, w⟩ := caught
    have J : Inv X pins σ' H' sI := J'.ofTry ok
    have sky2 : Sky B (X.env :: X.outer) a (Zc cls d) X.env.locals s'.heap := by
      rw [← hs]
      exact sky
    show wpAny (model X.prog X.w) X.A (noteFrame (.ref a) X.env) _ _ _
    refine Sky.land Zc.steady hfr hf sky2 fun h3 fl3 up3 => ?_
    have J3 : Inv X pins σ' H' { s' with heap := h3 } := J.landed nb fl3.1 (up.trans up3) os ag
    obtain ⟨oe3, vs3, he3, hz3, hd3⟩ := fl3.there
    have apart : a ∉ frs (X.env :: X.outer) := fun hm => by
      obtain ⟨_, o, e, no⟩ := fl3.2.2.1.mem hm
      rw [he3] at e
      cases e
      exact no _ hd3
    have nL : a ≠ X.env.locals := fun z => apart (List.mem_filterMap.mpr ⟨X.env, List.mem_cons_self, hf.trans (congrArg some z.symm)⟩)
    have nF : a ∉ X.fs := fun hm => by
      obtain ⟨e, he, q⟩ := List.mem_filterMap.mp hm
      exact apart (List.mem_filterMap.mpr ⟨e, List.mem_cons_of_mem _ he, q⟩)
    have S3 := J3.suite he3 hd3 na nL nF
    have each : ∀ {hs2 : List ExceptHandler} {l2 : List Cl2}, AsOk X n hs2 l2 → wAll X.K i D l2 cls d σ' H' → wpAny (model X.prog X.w) X.A (handleBy (.ref a) X.env hs2) (SP X pins D) X.xe { s' with heap := h3 } := by
      intro hs2 l2 hk
      induction hk with
      | nil => intro z; exact z.elim
      | @cons x c ts b₀ suite np pos' hs3 l3 hc hsu r ih =>
        intro w
        obtain ⟨b, hb1, yes, no⟩ := w
        refine wpAny_handleBy_cons (codeAny_handlers_test ?_) (by intro q; cases q)
        have LT : PySem.W.Looks (model X.prog X.w) h3 (typeOf (.ref a)) cls := fun A Q E s k q => wpAny_typeOf_ref (k _ _ he3) (by rw [hz3.1]; exact q)
        have LM := PySem.W.exm_one (M := model X.prog X.w) J3.kIn LT hb1
        have named : ∀ {Q E : Value → Shared → Prop}, Q c { s' with heap := h3 } → wpAny (model X.prog X.w) (X.A.mark (some (.ref a))) (eval (.Name x np) X.env) Q E { s' with heap := h3 } := fun {Q E} q => by
          rcases hc with ⟨hg, hdb, hm | ⟨hm, hv, hnn⟩⟩
          · exact ld_glob (X := X.suite a ((a, oe3) :: (X.pn ++ pins))) S3 hg hm q hdb
          · exact ld_blt (X := X.suite a ((a, oe3) :: (X.pn ++ pins))) S3 hg hm hv q hnn hdb
        refine named (LM.here ?_)
        cases b with
        | false => exact ih (no rfl)
        | true =>
          refine codeAny_handlers_suite_as ?_
          refine HandSPX.lands_againZ fl3 fun h4 fl4 up4 => ?_
          have J4 : Inv X pins σ' H' { s' with heap := h4 } := J.landed nb fl4.1 ((up.trans up3).trans up4) os ag
          obtain ⟨oe4, vs4, he4, hz4, hd4⟩ := fl4.there
          have S4 := J4.suite he4 hd4 na nL nF
          refine store_ok (X := X.suite a ((a, oe4) :: (X.pn ++ pins))) (v := .ref a) S4 hN hi hloc rfl (fun s5 S5 => ?_) (.inr hln)
          have gone : ∀ {σ6 : L2.St} {H6 : Hp} {s6 : Shared} {Q : Shared → Prop}, Inv (X.suite a ((a, oe4) :: (X.pn ++ pins))) [] σ6 H6 s6 → (∀ s7, Inv X pins (σ6.set i none) H6 s7 → Q s7) →
              wpAny (model X.prog X.w) X.A (do bindName X.env n .none; unbindBehindTheSuite X.env n pos') (fun _ s7 => Q s7) X.xe s6 := fun S6 hq => gone_ok (S6.unsuite ok) hN hi hln hq
          refine wpAny_mono ((hsu a oe4 cls d (X.pn ++ pins) hz4 ⟨_, hd4⟩).run [] s5 _ H' _ S5 (yes rfl a na)) (fun f s6 hsp => ?_) (fun _ _ z => False.elim z)
          cases f with
          | ret u =>
            obtain ⟨v6, σ6, H6, S6, r6, q6⟩ := hsp
            exact gone S6 fun s7 J7 => ⟨_, _, _, J7, r6, q6⟩
          | next =>
            obtain ⟨σ6, H6, S6, q6⟩ := hsp
            exact gone S6 fun s7 J7 => ⟨_, _, J7, q6⟩
          | brk =>
            obtain ⟨σ6, H6, S6, q6⟩ := hsp
            exact gone S6 fun s7 J7 => ⟨_, _, J7, q6⟩
          | cont =>
            obtain ⟨σ6, H6, S6, q6⟩ := hsp
            exact gone S6 fun s7 J7 => ⟨_, _, J7, q6⟩
    exact each hh w
  · cases f with
    | ret u =>
      obtain ⟨v, σ2, H2, J2, r, q⟩ := went
      exact ⟨v, σ2, H2, J2.ofTry ok, r, q⟩
    | next =>
      obtain ⟨σ2, H2, J2, q⟩ := went
      exact wpAny_execs_nil ⟨σ2, H2, J2.ofTry ok, q⟩
    | brk =>
      obtain ⟨σ2, H2, J2, q⟩ := went
      exact ⟨σ2, H2, J2.ofTry ok, q⟩
    | cont =>
      obtain ⟨σ2, H2, J2, q⟩ := went
      exact ⟨σ2, H2, J2.ofTry ok, q⟩
end
end Lg
set_option Elab.async false
set_option maxRecDepth 100000
set_option maxHeartbeats 2000000
namespace Lg
open PySem PySem.Spec PyProof.Rows L2
/-! ### defs that are run where nothing is being shown (repr's guards are empty) -/
structure FnG (P : Program) (w : World) (K : PySem.W.Frag) (mg : Str → Option Value) (base : Heap) (k : Nat) (f : Addr) (fd : FuncData) (ps : List Str) (sp : Sp) : Prop where
  len : ∀ vs H Q E, sp vs H Q E → vs.length = ps.length
  run : ∀ (A : Around) (outer : List Env) (s : Shared) (H : Hp) (args : Args) (us : List Value) (vs : List V) (Q : VK) (E : XK), Room k A → A.guards = some [] → Env0 P w K mg base A outer s H → BindsTo s fd args (ps.zip us) → Vals vs us → sp vs H Q E →
    codeAny (model P w) A (.call (.ref f) args) (CR CX0 outer P w H s Q E) s
theorem deeper_guards {A : Around} {env : Env} (h : A.guards = some []) : (A.deeper env).guards = some [] := h
section
variable {P : Program} {w : World} {K : PySem.W.Frag} {mg : Str → Option Value} {base : Heap}
/-- such a def by its body -/
theorem okG {x qual : Str} {st : Stmt} {f : Addr} {fd : FuncData} {N ps : List Str} {k : Nat} {sp : Sp} (F : Fun K x qual st f fd) (S : FnScope N ps (defScope st)) (len : ∀ vs H Q E, sp vs H Q E → vs.length = ps.length)
    (hbody : ∀ (cdv : Value) (A : Around) (outer : List Env) (s : Shared) (H : Hp) (vs : List V) (Q : VK) (E : XK), Room k (A.deeper (envOfC qual (defScope st) s.heap.objs.size f cdv)) → A.guards = some [] → sp vs H Q E →
      ∃ t, PSs (cxOf CX0 P w K mg base N qual (defScope st) f cdv A outer s H E).nox (defBody st) t ∧ t { nx := fun _ H' => Q .non H', rt := Q } (L2.start N vs) H) : FnG P w K mg base (k + 1) f fd ps sp := by
  obtain ⟨oc, od, kV, doc, pm, an, cdv, ct, osl, rfl, lk, hcd⟩ := F.ex
  refine ⟨len, fun A outer s H args us vs Q E hr hg e0 hb r hsp => LamX.run_ofS lk hcd S hr e0 hb r (len _ _ _ _ hsp) fun hr' => ?_⟩
  obtain ⟨t, h, q⟩ := hbody cdv A outer s H vs Q E hr' hg hsp
  exact ⟨t, h.nox, q⟩
end
section
variable {X : Cx}
theorem run_g {k : Nat} {f : Addr} {fd : FuncData} {ps : List Str} {sp : Sp} {pins : List (Addr × Obj)} {σ : L2.St} {H : Hp} {s : Shared} {Q : VK} {us : List Value} {vs : List V} (F : FnG X.prog X.w X.K X.mg X.base k f fd ps sp) (hr : Room k X.A) (hgu : X.A.guards = some []) (hb : Binds X.K fd ps [])
    (I : Inv X pins σ H s) (r : Vals vs us) (h : sp vs H Q E0) : wpAny (model X.prog X.w) X.A (call (.ref f) us) (EP X pins σ Q) X.xe s := by
  have hl : (us ++ []).length = ps.length := by
    rw [List.append_nil, ← r.length]
    exact F.len _ _ _ _ h
  have hb' := hb s us I.kIn hl
  rw [List.append_nil] at hb'
  refine wpAny_call (codeAny_mono (F.run X.A X.stack s H ⟨us, []⟩ us vs Q E0 hr hgu I.env0 hb' r h) fun o s' hq => ?_)
  match o, hq with
  | .ok (.ret u), hq => exact I.after hq
/-- .. with what it promises, where it stands -/
structure FdG (P : Program) (w : World) (K : PySem.W.Frag) (mg : Str → Option Value) (base : Heap) (x : Str) (k : Nat) (ps : List Str) (sp : Sp) : Prop where
  ex : ∃ (f : Addr) (fd : FuncData), FnG P w K mg base k f fd ps sp ∧ mg x = some (.ref f) ∧ PySem.W.keepIn K (.ref f) = true ∧ Binds K fd ps []
theorem pfG {x : Str} {k : Nat} {ps : List Str} {sp : Sp} {e : Expr} {es : List Expr} {p pos : Pos} {t : TA} (D : FdG X.prog X.w X.K X.mg X.base x k ps sp) (hr : Room k X.A) (hgu : X.A.guards = some []) (ha : PA X (e :: es) t) (hg : Gl X x := by rfl)
    (hdb : (x == ("__debug__" : Str)) = false := by decide) (he : starEach (e :: es) X.env = (false, eval e X.env) :: starEach es X.env := by rfl) (hpl : (backTo pos (starEach es X.env)).any (·.1) = false := by rfl) :
    PE X (.Call (.Name x p) (e :: es) [] pos) (tCall sp [] E0 t) := by
  obtain ⟨f, fd, F, m, kp, b⟩ := D.ex
  refine ⟨fun pins s σ H Q I h => wpAny_Call_Name_kw (ld_glob I hg m ?_ hdb)⟩
  refine PySem.W.callWith_K (h₀ := X.base) I.ok.mod.kin kp (thn (ha.run pos pins s σ H _ I h) fun us s1 ⟨vs, H1, I1, r, q⟩ => ⟨I1.kIn, ?_⟩) he hpl
  have q' : sp (vs ++ []) H1 Q E0 := q
  rw [List.append_nil] at q'
  exact run_g F hr hgu b I1 r q'
theorem FdG.mk' {P : Program} {w : World} {K : PySem.W.Frag} {mg : Str → Option Value} {base : Heap} {x : Str} {st : Stmt} {k : Nat} {ps : List Str} {sp : Sp} (F : FunAt K mg x st ps)
    (h : ∀ f fd, Fun K x x st f fd → FnG P w K mg base k f fd ps sp) : FdG P w K mg base x k ps sp := by
  obtain ⟨f, fd, F1, m, b⟩ := F.ex
  exact ⟨f, fd, h f fd F1, m, F1.kp, b⟩
end
/-! ### defs that may raise -/
structure FdX (P : Program) (w : World) (K : PySem.W.Frag) (mg : Str → Option Value) (base : Heap) (x : Str) (k : Nat) (ps : List Str) (sp : Sp) : Prop where
  ex : ∃ (f : Addr) (fd : FuncData), FnOk P w K mg base (L2.CX P w) k f fd ps sp ∧ mg x = some (.ref f) ∧ PySem.W.keepIn K (.ref f) = true ∧ Binds K fd ps []
/-! ### calls by keywords alone -/
section
variable {X : Cx} {CX : CXT} {k n : Nat} {f : Addr} {fd : FuncData} {ps ks : List Str} {sp : Sp} {E : XK} {x : Str} {p pos : Pos} {kws : List Keyword} {tk : TA} {g : List Value → List Value → List Value} {gV : List V → List V → List V}
def tKwOnly (m : Nat) (sp : Sp) (gV : List V → List V → List V) (E : XK) (tk : TA) : TE := fun σ H Q => tk σ H fun zs H2 => zs.length = m ∧ sp (gV [] zs) H2 Q E
theorem pe_kwOnly (F : FnOk X.prog X.w X.K X.mg X.base CX k f fd ps sp) (hr : Room k X.A) (hg : Gl X x) (hm : X.mg x = some (.ref f)) (hk : PySem.W.keepIn X.K (.ref f) = true) (hb : KBn X.K fd ps 0 ks g gV) (hx : Passes CX X E) (hkw : PK X kws tk)
    (hall : (backToKw pos (keywordEach kws X.env)).all (·.1.isSome) = true := by rfl) (hks : (backToKw pos (keywordEach kws X.env)).filterMap (·.1) = ks := by rfl) (hdb : (x == ("__debug__" : Str)) = false := by decide)
    (hpl : ((backTo pos (starEach [] X.env)).any (·.1) || (backToKw pos (keywordEach kws X.env)).any (·.1.isNone)) = false := by rfl) :
    PE X (.Call (.Name x p) [] kws pos) (tKwOnly ks.length sp gV E tk) := by
  refine ⟨fun pins s σ H Q I h => wpAny_Call_Name_kw (ld_glob I hg hm ?_ hdb)⟩
  refine PySem.W.callWith_KW0 (h₀ := X.base) I.ok.mod.kin hk hall (thn (hkw.run pos pins s σ H _ I h) fun ws s2 ⟨zs, H2, I2, rz, l2, q2⟩ => ⟨I2.kIn, ?_⟩) hpl
  rw [hks]
  have lw : ws.length = ks.length := rz.length.symm.trans l2
  have r2 := hb.rel (vs := []) (us := []) .nil rz
  refine wpAny_call (codeAny_mono (F.run X.A X.stack s2 H2 ⟨[], ks.zip ws⟩ (g [] ws) (gV [] zs) Q E hr I2.env0 (hb.to s2 [] ws I2.kIn rfl lw) r2 q2) fun o s' hq => ?_)
  match o, hq with
  | .error e, hq => exact hx pins σ H2 s2 e s' I2 hq
  | .ok (.ret u), hq => exact I2.after hq
end
/-! ### the end: tables of code objects, the script's bits, empty guards -/
section
open LamX
variable {P : Program} {w : World} {K : PySem.W.Frag} {mg mb : Str → Option Value} {s₁ : Shared} {vs : List Value} {ns : List Int} {a : Addr}
/-- what is tracked at the entry: the tables, and the script where the top does not hold it -/
def seen (K : PySem.W.Frag) (tabs : List Addr) (a : Addr) (vs : List Value) (ns : List Int) : Hp := fun b =>
  if b ∈ tabs then some (.tbl #[]) else if b = a ∧ K.lookup a = none then some (.frz { cls := .type "list", data := .seq vs.toArray } (.lst (ns.map V.int))) else none
theorem seen_tab {tabs : List Addr} {b : Addr} (h : b ∈ tabs) : seen K tabs a vs ns b = some (.tbl #[]) := if_pos h
theorem seen_cases {tabs : List Addr} {b : Addr} {o : HO} (h : seen K tabs a vs ns b = some o) :
    (b ∈ tabs ∧ o = .tbl #[]) ∨ (b = a ∧ K.lookup a = none ∧ o = .frz { cls := .type "list", data := .seq vs.toArray } (.lst (ns.map V.int))) := by
  unfold seen at h
  by_cases h1 : b ∈ tabs
  · rw [if_pos h1] at h
    exact .inl ⟨h1, (Option.some.inj h).symm⟩
  · rw [if_neg h1] at h
    by_cases h2 : b = a ∧ K.lookup a = none
    · rw [if_pos h2] at h
      exact .inr ⟨h2.1, h2.2, (Option.some.inj h).symm⟩
    · rw [if_neg h2] at h
      cases h
theorem end_call {k : Nat} {fa : Addr} {cs : List (Addr × Addr)} {fd : FuncData} {x : Str} {sp : Sp}
    (KX : K.In s₁.heap) (hns : s₁.heap.Ns mainGlobals mg) (hb : s₁.heap.Ns builtinsNs mb) (hbb : ∀ x : Str, x ≠ "__name__" → mb x = bootBuiltins x) (hlim : s₁.heap.NoLimit) (hg : s₁.gens = #[])
    (hT : ∀ p ∈ cs, s₁.heap.get? p.2 = some { cls := .none, data := .fields #[] }) (nT : ∀ p ∈ cs, K.lookup p.2 = none) (C : ∀ p ∈ cs, PySem.W.CodeHd s₁.heap p.1 p.2)
    (hbm : ∃ (bm : Addr) (ob : Obj), mg "__builtins__" = some (.ref bm) ∧ bm ≠ builtinsNs ∧ s₁.heap.get? bm = some ob ∧ ob.cls = .type "module" ∧ ob.dict = some builtinsNs ∧ ob.data = .plain)
    (ha : s₁.heap.get? a = some { cls := .type "list", data := .seq vs.toArray }) (hi : IntsAre vs ns) (hl : ns.length ≤ sizeLine) (hr : Room k callerA)
    (F : ∀ base : Heap, K.In base → base.Ns mainGlobals mg → (∀ p ∈ cs, TabB base mg p.1 p.2) → FnG P w K mg base k fa fd [x] sp) (hbind : ∀ (s : Shared) (u : Value), BindsTo s fd ⟨[u], []⟩ [(x, u)])
    (hsp : ∀ H : Hp, (∀ p ∈ cs, H p.2 = some (.tbl #[])) → SqL K H a (ns.map V.int) → sp [.ref a] H (fun v _ => v = .bl true) E0) :
    codeAny (model P w) callerA (.call (.ref fa) ⟨[.ref a], []⟩) (fun r s' => r = .ok (.ret (.bool true)) ∧ OldK s₁.heap s'.heap ∧ s'.os = s₁.os ∧ AllBare s'.gens) s₁ := by
  have rv := vals_ints hi
  have lenV := hi.length
  obtain ⟨tabs, et⟩ : ∃ tabs, tabs = cs.map (·.2) := ⟨_, rfl⟩
  have tabAt : ∀ b ∈ tabs, ∃ p ∈ cs, p.2 = b := fun b hb => List.mem_map.mp (et ▸ hb)
  have ofCs : ∀ p ∈ cs, p.2 ∈ tabs := fun p hp => by
    rw [et]
    exact List.mem_map.mpr ⟨p, hp, rfl⟩
  have tabO : ∀ b ∈ tabs, s₁.heap.get? b = some { cls := .none, data := .fields #[] } := fun b hb => by
    obtain ⟨p, hp, e⟩ := tabAt b hb
    rw [← e]
    exact hT p hp
  have aT : a ∉ tabs := fun z => by
    have q := (tabO a z).symm.trans ha
    have q2 := congrArg Obj.data (Option.some.inj q)
    cases q2
  obtain ⟨H, eH⟩ : ∃ H, H = seen K tabs a vs ns := ⟨_, rfl⟩
  have Hc : ∀ {b o}, H b = some o → (b ∈ tabs ∧ o = .tbl #[]) ∨ (b = a ∧ K.lookup a = none ∧ o = .frz { cls := .type "list", data := .seq vs.toArray } (.lst (ns.map V.int))) := fun {b o} h => seen_cases (eH ▸ h)
  have HT : ∀ p ∈ cs, H p.2 = some (.tbl #[]) := fun p hp => by
    rw [eH]
    exact seen_tab (ofCs p hp)
  have hok : HOk P w H s₁.heap := fun b o e => by
    rcases Hc e with ⟨h1, rfl⟩ | ⟨rfl, _, rfl⟩
    · exact tabO b h1
    · exact ⟨ha, by rw [List.length_map]; exact hl, vs, _, rv, ha⟩
  have hS : SqL K H a (ns.map V.int) := by
    cases hk : K.lookup a with
    | none => exact .inl (.inr ⟨{ cls := .type "list", data := .seq vs.toArray }, by rw [eH]; unfold seen; rw [if_neg aT, if_pos ⟨rfl, hk⟩]⟩)
    | some o =>
      have e := (KX a o hk).symm.trans ha
      cases e
      exact .inr ⟨_, vs.toArray, _, hk, rfl, rfl, rfl, by rw [List.size_toArray, lenV]; exact hl, by simpa using rv⟩
  -- what is neither a list's items nor an empty record is not tracked
  have plain : ∀ {b : Addr} {o : Obj}, s₁.heap.get? b = some o → (∀ vs n, o.data ≠ .seq vs n) → o.data ≠ .fields #[] → H b = none := fun {b o} e n1 n2 => by
    cases q : H b with
    | none => rfl
    | some u =>
      rcases Hc q with ⟨h1, _⟩ | ⟨rfl, _, _⟩
      · have z := (tabO b h1).symm.trans e
        cases z
        exact (n2 rfl).elim
      · have z := ha.symm.trans e
        cases z
        exact (n1 _ _ rfl).elim
  have bK : ∀ {b : Addr} {o : Obj}, s₁.heap.get? b = some o → (∀ vs n, o.data ≠ .seq vs n) → o.data ≠ .fields #[] → (hidT s₁.heap H).get? b = some o := fun e n1 n2 => hidT_get e (plain e n1 n2)
  have bNs : ∀ {b : Addr} {m : Str → Option Value}, s₁.heap.Ns b m → (hidT s₁.heap H).Ns b m := fun {b m} ⟨o, es, ep, e, d, r⟩ =>
    ⟨o, es, ep, bK e (fun vs n z => by rw [d] at z; cases z) (fun z => by rw [d] at z; cases z), d, r⟩
  have bIn : K.In (hidT s₁.heap H) := fun b o e => hidT_get (KX b o e) (by
    cases q : H b with
    | none => rfl
    | some u =>
      rcases Hc q with ⟨h1, _⟩ | ⟨rfl, h2, _⟩
      · obtain ⟨p, hp, ep⟩ := tabAt b h1
        rw [← ep, nT p hp] at e
        cases e
      · rw [h2] at e
        cases e)
  have md : L2.Mod K mg (hidT s₁.heap H) := by
    obtain ⟨mc, l1, l2⟩ := hlim
    exact ⟨bIn, bNs hns, ⟨mb, bNs hb, hbb⟩, mc, bNs l1, l2⟩
  have tb : ∀ p ∈ cs, TabB (hidT s₁.heap H) mg p.1 p.2 := fun p hp => by
    have o2 := hT p hp
    obtain ⟨og, esg, epg, eg, dg, _⟩ := id hns
    have gne : mainGlobals ≠ p.2 := fun z => by
      rw [z, o2] at eg
      cases eg
      cases dg
    refine ⟨?_, ?_, gne⟩
    · obtain ⟨o, us, file, tf, flags, tg, inF, text, tt, e1, r1, r2, r3, rest⟩ := C p hp
      refine ⟨o, us, file, tf, flags, tg, inF, text, tt, bK e1 (fun vs n z => by rw [r2] at z; cases z) (fun z => ?_), r1, r2, r3, rest⟩
      rw [r2] at z
      cases z
      simp at r3
    · obtain ⟨bm, ob, b1, b2, b3, b4, b5, b6⟩ := hbm
      refine ⟨bm, ob, b1, b2, fun z => ?_, fun z => ?_, bK b3 (fun vs n z => by rw [b6] at z; cases z) (fun z => by rw [b6] at z; cases z), b4, b5, b6⟩
      · rw [z, eg] at b3
        cases b3
        rw [dg] at b6
        cases b6
      · rw [z, o2] at b3
        cases b3
        cases b6
  have e0 : Env0 P w K mg (hidT s₁.heap H) callerA [] s₁ H :=
    ⟨rfl, md, fun b o e => of_hidT e, Nat.le_of_eq (hidT_size _ _), trivial, fun b z => absurd (show b ∈ ([] : List Addr) from z) (by simp), hok, .of_eq hg⟩
  refine codeAny_mono ((F _ bIn (bNs hns) tb).run callerA [] s₁ H ⟨[.ref a], []⟩ [.ref a] [.ref a] _ _ hr rfl e0 (hbind s₁ (.ref a)) (.cons rfl .nil) (hsp H HT hS)) fun r s' h => ?_
  match r, h with
  | .ok (.ret u), h =>
    obtain ⟨v, H', os, bare, un, hok', r', q⟩ := h
    obtain rfl : v = .bl true := q
    obtain rfl : u = Value.bool true := r'
    have stays : ∀ b o, b ∉ tabs → s₁.heap.get? b = some o → s'.heap.get? b = some o := fun b o nb e => by
      cases q : H b with
      | none => exact un.keep b o e q (fun z => absurd (show b ∈ ([] : List Addr) from z) (by simp)) (by simp)
      | some u =>
        rcases Hc q with ⟨h1, _⟩ | ⟨rfl, _, rfl⟩
        · exact absurd h1 nb
        · obtain ⟨f1, _⟩ := hok b _ q
          obtain ⟨f2, _⟩ := hok' b _ (un.frzs b _ _ q)
          rw [e] at f1
          cases f1
          exact f2
    have grew : ∀ p ∈ cs, ∃ more : Array Value, s'.heap.get? p.2 = some { cls := .none, data := .fields more } := fun p hp => by
      obtain ⟨more, z⟩ := un.tbls p.2 #[] (HT p hp)
      exact ⟨_, hok' p.2 _ z⟩
    refine ⟨rfl, ⟨fun b o e => ?_, fun b o e => ?_⟩, os, bare⟩
    · by_cases hb : b ∈ tabs
      · obtain ⟨p, hp, rfl⟩ := tabAt b hb
        obtain ⟨more, hm⟩ := grew p hp
        rw [hT p hp] at e
        cases e
        exact .inr (.inl ⟨((C p hp).tab (hT p hp)).isCodeTable, rfl, #[], more, rfl, by rw [Array.empty_append]; exact hm⟩)
      · exact .inl (stays b o hb e)
    · by_cases hb : b ∈ tabs
      · obtain ⟨p, hp, rfl⟩ := tabAt b hb
        obtain ⟨more, hm⟩ := grew p hp
        exact ⟨_, hm⟩
      · exact ⟨o, stays b o hb e⟩
/-- the law's promise at the head's heap h -/
def LawG (l : PySem.W.OpenLaw) (w : World) (K : PySem.W.Frag) (k n : Nat) (x : Str) (mg : Str → Option Value) (fa : Addr) (h : Heap) : Prop :=
  ∃ (fd : FuncData) (cs : List (Addr × Addr)) (sp : Sp), (∀ p ∈ cs, h.get? p.2 = some { cls := .none, data := .fields #[] }) ∧ (∀ p ∈ cs, K.lookup p.2 = none) ∧ (∀ p ∈ cs, PySem.W.CodeHd h p.1 p.2) ∧
    (∀ (s : Shared) (u : Value), BindsTo s fd ⟨[u], []⟩ [(x, u)]) ∧
    (∀ (H : Hp) (a : Addr) (ns : List Int), ns.length ≤ n → (∀ z ∈ ns, Builtin.Int.intBits z ≤ 1048576) → (∀ p ∈ cs, H p.2 = some (.tbl #[])) → SqL K H a (ns.map V.int) → sp [.ref a] H (fun v _ => v = .bl true) E0) ∧
    ∀ base : Heap, K.In base → base.Ns mainGlobals mg → (∀ p ∈ cs, TabB base mg p.1 p.2) → FnG l.prog w K mg base k fa fd [x] sp
theorem walkG {l : PySem.W.OpenLaw} {n k : Nat} {q : Program} {loose : List Str} {XP : (Str → Option Value) → Heap → Prop} {YP : World → Heap → Prop} {d : DefRec} {K : Params → PySem.W.Frag} {x : Str}
    (hn : l.most = some n) (hn2 : n ≤ sizeLine) (hdf : d.params.defaults = []) (hr : Room k callerA) (hY : ∀ (w : World) (h : Heap), YP w h → (K w.params).In h)
    (F : ∀ (w : World) (mg : Str → Option Value) (fa : Addr) (h : Heap), YP w h → (K w.params).In h → h.Ns mainGlobals mg → mg d.name = some (.ref fa) → LawG l w (K w.params) k n x mg fa h) :
    PySem.W.WalkO q loose XP YP l.row.toRowW d [] (fun f vs => PySem.call f vs) := by
  refine Att.attach_callB hn hdf fun w s₀ s₁ mg mb fa o pm cd doc a vs ns G Y _ _ _ hmg hobj hints hlen hbits hg => ?_
  have KX := hY w _ Y
  obtain ⟨fd, cs, sp, hT, nT, C, hb, hsp, hF⟩ := F w mg fa _ Y KX G.T.g hmg
  exact end_call KX G.T.g G.T.b G.T.builtins G.T.nolimit hg hT nT C G.T.bmain hobj hints (Nat.le_trans hlen hn2) hr hF hb (fun H hH hS => hsp H a ns hlen hbits hH hS)
end
end Lg
set_option Elab.async false
set_option maxRecDepth 100000
set_option maxHeartbeats 2000000
namespace Lg
open PySem PySem.Spec PyProof.Rows L2
/-! ### small words -/
section
variable {X : Cx}
/-- a statement that is not reached -/
theorem ps_dead {st : Stmt} : PS X st (fun _ _ _ => False) := ⟨fun _ _ _ _ _ _ h => h.elim⟩
theorem pss_dead {st : Stmt} : PSs X [st] (fun _ _ _ => False) := pss_one ps_dead
theorem pi_or {tg e : Expr} {a b : TI} (ha : PI X tg e a) (hb : PI X tg e b) : PI X tg e (fun σ H R => a σ H R ∨ b σ H R) := ⟨fun pins s σ H R I h => by
  rcases h with h | h
  · exact ha.run pins s σ H R I h
  · exact hb.run pins s σ H R I h⟩
theorem pe_either {e : Expr} {a b : TE} (ha : PE X e a) (hb : PE X e b) : PE X e (fun σ H Q => a σ H Q ∨ b σ H Q) := ⟨fun pins s σ H Q I h => by
  rcases h with h | h
  · exact ha.run pins s σ H Q I h
  · exact hb.run pins s σ H Q I h⟩
end
/-- a loop over enumerate(xs), xs a list -/
theorem for_enumL {K : PySem.W.Frag} {a : Addr} {xs : List V} {g : TG} {tb : TS} {D : Ends} {σ : L2.St} {H : Hp} (Pv : Nat → L2.St → Hp → Prop) (h0 : Pv 0 σ H) (hq : ∀ i σ H, Pv i σ H → SqL K H a xs)
    (hs : ∀ (i : Nat) (x : V) (T : Addr) (σ : L2.St) (H : Hp), xs[i]? = some x → Pv i σ H → H T = none → g (.ref T) σ (upd H T (.tup [.int (i : Nat), x])) fun σ2 H2 => tb { D with nx := Pv (i + 1), ct := Pv (i + 1), bk := D.nx } σ2 H2) (hd : ∀ σ H, Pv xs.length σ H → D.nx σ H) :
    ∃ W : Nat → Nat → L2.St → Hp → Prop, (∃ m, W 0 m σ H) ∧ ∀ i m σ H, W i m σ H →
      ((Ite K a).stop i H ∧ D.nx σ H) ∨ ((Ite K a).go i H ∧ ∃ N : L2.St → Hp → Prop, (∀ σ' H', N σ' H' → ∃ m', m' < m ∧ W (i + 1) m' σ' H') ∧ ∀ v H', (Ite K a).yld i H v H' → g v σ H' fun σ2 H2 => tb { D with nx := N, ct := N, bk := D.nx } σ2 H2) := by
  refine ⟨fun i m σ H => m = xs.length - i ∧ i ≤ xs.length ∧ Pv i σ H, ⟨xs.length, rfl, Nat.zero_le _, h0⟩, ?_⟩
  rintro i m σ H ⟨rfl, hi, p⟩
  have q := hq i σ H p
  by_cases hlt : i < xs.length
  · refine .inr ⟨⟨xs, _, q, List.getElem?_eq_getElem hlt⟩, Pv (i + 1), fun σ' H' p' => ⟨xs.length - (i + 1), by omega, rfl, hlt, p'⟩, fun v H' y => ?_⟩
    obtain ⟨T, x', rfl, hT, rfl, f1⟩ := y
    exact hs i x' T σ H (f1 xs q) p hT
  · obtain rfl : i = xs.length := by omega
    exact .inl ⟨⟨xs, q, Nat.le_refl _⟩, hd σ H p⟩
theorem iteD {c A B : Prop} [Decidable c] (hc : c) (h : A) : if decide c = true then A else B := by
  rw [if_pos (decide_eq_true hc)]
  exact h
theorem iteN {c A B : Prop} [Decidable c] (hc : ¬ c) (h : B) : if decide c = true then A else B := by
  rw [decide_eq_false hc, if_neg Bool.false_ne_true]
  exact h
theorem iteE {b c : Bool} {A B : Prop} (hc : b = c) (h : if c = true then A else B) : if b = true then A else B := by
  rw [hc]
  exact h
/-- a Nat as a V -/
abbrev nV (n : Nat) : V := .int (n : Int)
theorem map_at {α β : Type} {f : α → β} {l : List α} {i : Nat} {y : β} (h : (l.map f)[i]? = some y) : ∃ x, l[i]? = some x ∧ f x = y := by
  rw [List.getElem?_map] at h
  cases e : l[i]? with
  | none =>
    rw [e] at h
    cases h
  | some x =>
    rw [e] at h
    exact ⟨x, rfl, Option.some.inj h⟩
theorem same_up {H H1 : Hp} {p : Addr} {o : HO} (a : Same H H1) (h : H1 p = none) : Same H (upd H1 p o) := a.trans (same_upd h)
section
variable {P : Program} {w : World} {K : PySem.W.Frag} {mg : Str → Option Value} {base : Heap}
/-! ### check_marks -/
def marksV (ms : List Nat) : List V := ms.map nV
def spMarks (K : PySem.W.Frag) : Sp := fun vs H Q _ => ∃ (a : Addr) (ms : List Nat), vs = [.ref a] ∧ SqL K H a (marksV ms) ∧ 2 ≤ ms.length ∧ ms.length ≤ 8 ∧ (∀ m, m ∈ ms → 1 ≤ m ∧ m ≤ 60) ∧
  ∀ H' t, Same H H' → H' t = some (.tup (marksV ms)) → Q (.ref t) H'
abbrev DWithin (P : Program) (w : World) (K : PySem.W.Frag) (mg : Str → Option Value) (base : Heap) : Prop :=
  Fd P w K mg base "is_within" 2 ["value", "least", "most"] (fun vs H Q _ => ∃ (x : V) (d : PyData) (a b : Int), vs = [x, .int a, .int b] ∧ Dp K H x d ∧ Q (.bl (withinD a b d)) H)
abbrev DBelow (P : Program) (w : World) (K : PySem.W.Frag) (mg : Str → Option Value) (base : Heap) : Prop :=
  Fd P w K mg base "is_below" 3 ["value", "most"] (fun vs H Q _ => ∃ (x : V) (d : PyData) (n : Int), vs = [x, .int n] ∧ Dp K H x d ∧ Q (.bl (belowD n d)) H)
abbrev DSeq (P : Program) (w : World) (K : PySem.W.Frag) (mg : Str → Option Value) (base : Heap) : Prop :=
  Fd P w K mg base "is_sequence" 1 ["value"] (fun vs H Q _ => ∃ (x : V) (d : PyData), vs = [x] ∧ Dp K H x d ∧ ∀ H', Same H H' → Q (.bl (isSeqD d)) H')
theorem dp_ints {K : PySem.W.Frag} {H : Hp} : ∀ ms : List Nat, DpAll K H (marksV ms) (ms.map fun n : Nat => PyData.int (n : Int))
  | [] => .nil
  | m :: ms => .cons (.int _) (dp_ints ms)
theorem ok_marks (F : FunAt K mg "check_marks" (top 17) ["value"]) (T : Txt K mg) (DW : DWithin P w K mg base) (DS : DSeq P w K mg base) : Fd P w K mg base "check_marks" 3 ["value"] (spMarks K) := by
  have sc : FnScope ["value", "at", "marks"] ["value"] (defScope (top 17)) := ⟨rfl, rfl, rfl, by decide +kernel, rfl, by decide +kernel, by decide +kernel⟩
  refine Fd.mk' F fun f fd F => F.ok sc (fun vs H Q E h => ?_) (fun cdv A outer s H vs Q E hr h => ?_)
  · obtain ⟨a, ms, rfl, _⟩ := h
    rfl
  · obtain ⟨a, ms, rfl, hS, l1, l2, hm, k⟩ := h
    refine ⟨_, pss_cons (ps_if (pw_or (pt_not (pt_val (pf DS (hr.mono (by decide)) (pa_cons (pv 0) pa_nil)))) (pw_or1 (pt_not (pt_chain op_le op_le pe_int (pe_callB call_len_seq (by rfl) T.len PySem.boot_len (pa_cons (pv 0) pa_nil)) (pe_cst T.hands))))).pt pss_dead pss_nil)
      (pss_cons (ps_for PassesOwn.never rfl (pi_enum (by rfl) T.enum (pa_cons (pv 0) pa_nil)) (pg_tup rfl (pgs_cons (pg_name (i := 1) sc.nd rfl (.inl rfl)) (pgs_cons (pg_name (i := 2) sc.nd rfl (.inl rfl)) pgs_nil)))
        (pss_one (ps_if (pt_not (pt_val (pf DW hr (pa_cons (pv 2) (pa_cons pe_int (pa_cons (pe_cst T.marks) pa_nil)))))) pss_dead pss_nil)))
      (pss_one (ps_ret (pe_callTy call_tuple_of (by rfl) T.tuple (by decide +kernel) (pa_cons (pv 0) pa_nil))))), ?_⟩
    refine ⟨_, rfl, .ref a, .list _, rfl, .lst hS (dp_ints ms), fun H1 s1 => ⟨_, rfl, iteF ?_⟩⟩
    refine ⟨_, rfl, a, _, rfl, .inl (s1.seq hS), _, _, rfl, rfl, _, rfl, ?_⟩
    have lV : (marksV ms).length = ms.length := List.length_map ..
    refine iteD (by rw [lV]; omega) ⟨_, _, rfl, rfl, _, rfl, ?_⟩
    refine iteE (c := false) (by rw [lV]; simp; omega) (iteF ?_)
    refine ⟨_, rfl, a, _, rfl, s1.seq hS, for_enumL (K := K) (a := a) (xs := marksV ms) (fun _ σ' H' => (∃ u v, σ' = [some (.ref a), u, v]) ∧ Same H H') ⟨⟨none, none, rfl⟩, s1⟩ (fun i σ' H' h => h.2.seq hS) ?_ ?_⟩
    · rintro i x T1 σ' H' hx ⟨⟨u, v, rfl⟩, s2⟩ hT
      obtain ⟨m, hm1, rfl⟩ := map_at hx
      have hmm := hm m (List.mem_of_getElem? hm1)
      refine ⟨T1, _, rfl, .inl (.inl upd_same), rfl, _, _, rfl, _, _, rfl, rfl, ?_⟩
      refine ⟨_, rfl, _, _, _, _, rfl, .int _, _, rfl, ?_⟩
      refine iteE (c := false) (by simp [withinD]; omega) (iteF ?_)
      exact ⟨⟨_, _, rfl⟩, same_up s2 hT⟩
    · rintro σ' H' ⟨⟨u, v, rfl⟩, s2⟩
      exact ⟨_, rfl, a, _, rfl, .inl ⟨s2.seq hS, fun l hl => k _ l (same_up s2 hl) upd_same⟩⟩
end
end Lg
set_option Elab.async false
set_option maxRecDepth 100000
set_option maxHeartbeats 2000000
namespace Lg
open PySem PySem.Spec PyProof.Rows L2
/-! ### classes -/
def clsBody : Stmt → List Stmt
  | .ClassDef (body := b) .. => b
  | _ => []
def meth (i j : Nat) : Stmt := (clsBody (top i)).getD j (.Pass ⟨0, 0, 0, 0⟩)
/-- a class of the top with its __init__ -/
structure MkAt (P : Program) (w : World) (K : PySem.W.Frag) (mg : Str → Option Value) (base : Heap) (x : Str) (C : Addr) (k : Nat) (ps : List Str) (sp : Sp) : Prop where
  ex : ∃ (f : Addr) (fd : FuncData), Mk K C f ∧ FnOk P w K mg base CX0 k f fd ps sp ∧ mg x = some (.ref C) ∧ Binds K fd ps []
theorem pmake {X : Cx} {x : Str} {C : Addr} {k : Nat} {ps : List Str} {sp : Sp} {e : Expr} {es : List Expr} {p pos : Pos} {t : TA} (M : MkAt X.prog X.w X.K X.mg X.base x C k ps sp) (hr : Room (k + 1) X.A) (ha : PA X (e :: es) t) (hg : Gl X x := by rfl)
    (hdb : (x == ("__debug__" : Str)) = false := by decide) (he : starEach (e :: es) X.env = (false, eval e X.env) :: starEach es X.env := by rfl) (hpl : (backTo pos (starEach es X.env)).any (·.1) = false := by rfl) :
    PE X (.Call (.Name x p) (e :: es) [] pos) (tMake C sp [] E0 t) := by
  obtain ⟨f, fd, M1, F, m, b⟩ := M.ex
  exact pe_make M1 F hr hg m b .nil pass0 ha hdb he hpl
/-- what the fields need -/
structure Flds (K : PySem.W.Frag) (C : Addr) (fs : List Str) : Prop where
  cl : Cls K C
  no : ∀ f ∈ fs, NoAttr K C f
theorem Flds.n {K : PySem.W.Frag} {C : Addr} {fs : List Str} (F : Flds K C fs) (f : Str) (h : f ∈ fs := by decide) : NoAttr K C f := F.no f h
abbrev fsH : List Str := ["marks", "many"]
abbrev fsM : List Str := ["hands", "rows", "standings"]
/-- an instance of Hands -/
def HandsAt (CH : Addr) (H : Hp) (h : Addr) (ms : List Nat) : Prop := ∃ (dx : Addr) (fs : List (Str × V)) (t : Addr), H h = some (.ins CH dx fs) ∧ fs.lookup ("marks" : Str) = some (.ref t) ∧ H t = some (.tup (marksV ms)) ∧ fs.lookup ("many" : Str) = some (nV ms.length)
theorem HandsAt.same {CH : Addr} {H H' : Hp} {h : Addr} {ms : List Nat} (a : HandsAt CH H h ms) (s : Same H H') : HandsAt CH H' h ms := by
  obtain ⟨dx, fs, t, h1, h2, h3, h4⟩ := a
  exact ⟨dx, fs, t, s _ _ h1, h2, s _ _ h3, h4⟩
abbrev Rows := List (List (Nat × Nat))
def moveD (p : Nat × Nat) : PyData := .tuple [.int (p.1 : Int), .int (p.2 : Int)]
def rowT (r : List (Nat × Nat)) : PyData := .tuple (r.map moveD)
def rowL (r : List (Nat × Nat)) : PyData := .list (r.map moveD)
def rowsT (R : Rows) : PyData := .tuple (R.map rowT)
def rowsL (R : Rows) : PyData := .list (R.map rowL)
def RowsOk (ms : List Nat) (R : Rows) : Prop := 1 ≤ R.length ∧ R.length ≤ 4 ∧ ∀ r, r ∈ R → r.length = ms.length ∧ ∀ (i : Nat) (p : Nat × Nat) (m : Nat), r[i]? = some p → ms[i]? = some m → p.1 < m ∧ p.2 < R.length
def MarksOk (ms : List Nat) : Prop := 2 ≤ ms.length ∧ ms.length ≤ 3 ∧ ∀ m, m ∈ ms → 1 ≤ m ∧ m ≤ 5
/-- an instance of Marker -/
def MarkerAt (K : PySem.W.Frag) (CH CM : Addr) (H : Hp) (a : Addr) (ms : List Nat) (R : Rows) : Prop := ∃ (dx : Addr) (fs : List (Str × V)) (h r : Addr), H a = some (.ins CM dx fs) ∧ fs.lookup ("hands" : Str) = some (.ref h) ∧ HandsAt CH H h ms ∧ fs.lookup ("rows" : Str) = some (.ref r) ∧ Dp K H (.ref r) (rowsT R)
theorem MarkerAt.same {K : PySem.W.Frag} {CH CM : Addr} {H H' : Hp} {a : Addr} {ms : List Nat} {R : Rows} (m : MarkerAt K CH CM H a ms R) (s : Same H H') : MarkerAt K CH CM H' a ms R := by
  obtain ⟨dx, fs, h, r, h1, h2, h3, h4, h5⟩ := m
  exact ⟨dx, fs, h, r, s _ _ h1, h2, h3.same s, h4, dp_same s h5⟩
/-! ### data opened -/
theorem dp_lst {K : PySem.W.Frag} {H : Hp} {x : V} {ds : List PyData} (h : Dp K H x (.list ds)) : ∃ a xs, x = .ref a ∧ SqL K H a xs ∧ DpAll K H xs ds := by
  cases h with
  | lst a b => exact ⟨_, _, rfl, a, b⟩
theorem dp_tup {K : PySem.W.Frag} {H : Hp} {x : V} {ds : List PyData} (h : Dp K H x (.tuple ds)) : ∃ a xs, x = .ref a ∧ SqT K H a xs ∧ DpAll K H xs ds := by
  cases h with
  | tup a b => exact ⟨_, _, rfl, a, b⟩
theorem dp_int {K : PySem.W.Frag} {H : Hp} {x : V} {i : Int} (h : Dp K H x (.int i)) : x = .int i := by
  cases h
  rfl
theorem dp_move {K : PySem.W.Frag} {H : Hp} {x : V} {p : Nat × Nat} (h : Dp K H x (moveD p)) : ∃ a, x = .ref a ∧ SqT K H a [nV p.1, nV p.2] := by
  obtain ⟨a, xs, rfl, h1, h2⟩ := dp_tup h
  cases h2 with
  | cons a1 a2 =>
    cases a2 with
    | cons b1 b2 =>
      cases b2
      rw [dp_int a1, dp_int b1] at h1
      exact ⟨a, rfl, h1⟩
theorem dpAll_map {α : Type} {K : PySem.W.Frag} {H : Hp} {f : α → PyData} {xs : List V} {l : List α} {i : Nat} {x : V} (h : DpAll K H xs (l.map f)) (hx : xs[i]? = some x) : ∃ y, l[i]? = some y ∧ Dp K H x (f y) := by
  obtain ⟨d, h1, h2⟩ := dpAll_at h hx
  obtain ⟨y, h3, rfl⟩ := map_at h1
  exact ⟨y, h3, h2⟩
theorem dpAll_mapLen {α : Type} {K : PySem.W.Frag} {H : Hp} {f : α → PyData} {xs : List V} {l : List α} (h : DpAll K H xs (l.map f)) : xs.length = l.length := by
  rw [dpAll_len h, List.length_map]
theorem dpAll_get {α : Type} {K : PySem.W.Frag} {H : Hp} {f : α → PyData} {xs : List V} {l : List α} {i : Nat} {y : α} (h : DpAll K H xs (l.map f)) (hy : l[i]? = some y) : ∃ x, xs[i]? = some x ∧ Dp K H x (f y) := by
  have hl := dpAll_mapLen h
  have hi : i < l.length := (List.getElem?_eq_some_iff.mp hy).1
  have hx : xs[i]? = some (xs[i]'(by omega)) := List.getElem?_eq_getElem (by omega)
  obtain ⟨z, h1, h2⟩ := dpAll_map h hx
  rw [hy] at h1
  cases h1
  exact ⟨_, hx, h2⟩
section
variable {P : Program} {w : World} {K : PySem.W.Frag} {mg : Str → Option Value} {base : Heap}
/-! ### Hands(marks) -/
def spHandsI (K : PySem.W.Frag) (CH : Addr) : Sp := fun vs H Q _ => ∃ (x a dx : Addr) (ms : List Nat), vs = [.ref x, .ref a] ∧ H x = some (.ins CH dx []) ∧ SqL K H a (marksV ms) ∧ MarksOk ms ∧
  ∀ H', (∀ b o, b ≠ x → H b = some o → H' b = some o) → HandsAt CH H' x ms → Q .non H'
theorem put1 {f g : Str} {v : V} {fs : List (Str × V)} (h : g ≠ f) : (putF f v fs).lookup g = fs.lookup g := by rw [lookup_putF, if_neg h]
theorem put0 {f : Str} {v : V} {fs : List (Str × V)} : (putF f v fs).lookup f = some v := by rw [lookup_putF, if_pos rfl]
theorem ok_handsI {f : Addr} {fd : FuncData} {CH : Addr} (F : Fun K "__init__" "Hands.__init__" (meth 18 0) f fd) (T : Txt K mg) (HC : Flds K CH fsH) (DM : Fd P w K mg base "check_marks" 3 ["value"] (spMarks K)) :
    FnOk P w K mg base CX0 4 f fd ["self", "marks"] (spHandsI K CH) := by
  have sc : FnScope ["self", "marks"] ["self", "marks"] (defScope (meth 18 0)) := ⟨rfl, rfl, rfl, by decide +kernel, rfl, by decide +kernel, by decide +kernel⟩
  refine F.ok sc (fun vs H Q E h => ?_) (fun cdv A outer s H vs Q E hr h => ?_)
  · obtain ⟨x, a, dx, ms, rfl, _⟩ := h
    rfl
  · obtain ⟨x, a, dx, ms, rfl, hx, hS, ok, k⟩ := h
    refine ⟨_, pss_cons (ps_fld (pv 0) (pf DM hr (pa_cons (pv 1) pa_nil)) rfl) (pss_one (ps_fld (pv 0) (pe_callB call_len_seq (by rfl) T.len PySem.boot_len (pa_cons (pe_fld (pv 0) rfl) pa_nil)) rfl)), ?_⟩
    refine ⟨_, rfl, a, ms, rfl, hS, ok.1, by have := ok.2.1; omega, fun m hm => ?_, fun H1 t s1 ht => ?_⟩
    · have := ok.2.2 m hm
      omega
    · refine ⟨_, rfl, x, CH, dx, [], rfl, s1 _ _ hx, HC.cl, HC.n "marks", by decide, ?_⟩
      have xt : t ≠ x := ne_of ht (s1 _ _ hx) (by intro z; cases z)
      refine ⟨_, rfl, x, CH, dx, _, _, rfl, upd_same, HC.cl, HC.n "marks", put0, ?_⟩
      refine ⟨t, marksV ms, rfl, .inr (.inl (.inl ?_)), ?_⟩
      · rw [upd_ne xt]
        exact ht
      · refine ⟨_, rfl, x, CH, dx, _, rfl, upd_same, HC.cl, HC.n "many", (by show 1 < 1000; decide), ?_⟩
        refine k _ (fun b o hb e => ?_) ⟨dx, _, t, upd_same, ?_, ?_, ?_⟩
        · rw [upd_ne hb, upd_ne hb]
          exact s1 _ _ e
        · rw [put1 (by decide), put0]
        · rw [upd_ne xt, upd_ne xt]
          exact ht
        · rw [put0]
          simp [marksV]
end
end Lg
set_option Elab.async false
set_option maxRecDepth 100000
set_option maxHeartbeats 2000000
namespace Lg
open PySem PySem.Spec PyProof.Rows L2
section
variable {P : Program} {w : World} {K : PySem.W.Frag} {mg : Str → Option Value} {base : Heap}
theorem belowYes {n m : Nat} (h : n < m) : belowD (m : Int) (.int (n : Int)) = true := by
  simp [belowD]
  omega
/-! ### check_story -/
def intsD (l : List Nat) : List PyData := l.map fun n : Nat => PyData.int (n : Int)
/-- a story: a list or a tuple of hands -/
def StoryV (K : PySem.W.Frag) (H : Hp) (x : V) (l : List Nat) : Prop := ∃ a, x = .ref a ∧ (SqL K H a (marksV l) ∨ SqT K H a (marksV l))
theorem StoryV.same {H H' : Hp} {x : V} {l : List Nat} (h : StoryV K H x l) (s : Same H H') : StoryV K H' x l := by
  obtain ⟨a, e, h | h⟩ := h
  · exact ⟨a, e, .inl (s.seq h)⟩
  · exact ⟨a, e, .inr (Same.seqT s h)⟩
theorem StoryV.dp {H : Hp} {x : V} {l : List Nat} (h : StoryV K H x l) : ∃ d, Dp K H x d ∧ isSeqD d = true := by
  obtain ⟨a, rfl, h | h⟩ := h
  · exact ⟨_, .lst h (dp_ints l), rfl⟩
  · exact ⟨_, .tup h (dp_ints l), rfl⟩
def spStory (K : PySem.W.Frag) (CH : Addr) : Sp := fun vs H Q _ => ∃ (h : Addr) (x : V) (ms l : List Nat), vs = [.ref h, x] ∧ HandsAt CH H h ms ∧ StoryV K H x l ∧ l.length ≤ 10000 ∧ (∀ n, n ∈ l → n < ms.length) ∧
  ∀ H' t, Same H H' → SqT K H' t (marksV l) → Q (.ref t) H'
theorem ok_story {CH : Addr} (F : FunAt K mg "check_story" (top 19) ["hands", "value"]) (T : Txt K mg) (HC : Flds K CH fsH) (DB : DBelow P w K mg base) (DS : DSeq P w K mg base) : Fd P w K mg base "check_story" 4 ["hands", "value"] (spStory K CH) := by
  have sc : FnScope ["hands", "value", "at", "hand"] ["hands", "value"] (defScope (top 19)) := ⟨rfl, rfl, rfl, by decide +kernel, rfl, by decide +kernel, by decide +kernel⟩
  refine Fd.mk' F fun f fd F => F.ok sc (fun vs H Q E h => ?_) (fun cdv A outer s H vs Q E hr h => ?_)
  · obtain ⟨a, x, ms, l, rfl, _⟩ := h
    rfl
  · obtain ⟨a, x, ms, l, rfl, hA, hV, hl, hm, k⟩ := h
    have nm : (marksV l).length = l.length := List.length_map ..
    obtain ⟨d, hd, hsq⟩ := hV.dp
    refine ⟨_, pss_cons (ps_if (pw_or (pt_not (pt_val (pf DS (hr.mono (by decide)) (pa_cons (pv 1) pa_nil)))) (pw_or1 (pt_cmpR op_gt (pe_callB call_len_seq (by rfl) T.len PySem.boot_len (pa_cons (pv 1) pa_nil)) (pe_cst T.story) (nomark _)))).pt pss_dead pss_nil)
      (pss_cons (ps_for PassesOwn.never rfl (pi_or (pi_enum (by rfl) T.enum (pa_cons (pv 1) pa_nil)) (pi_enumT (by rfl) T.enum (pa_cons (pv 1) pa_nil)))
        (pg_tup rfl (pgs_cons (pg_name (i := 2) sc.nd rfl (.inl rfl)) (pgs_cons (pg_name (i := 3) sc.nd rfl (.inl rfl)) pgs_nil)))
        (pss_one (ps_if (pt_not (pt_val (pf DB hr (pa_cons (pv 3) (pa_cons (pe_fld (pv 0) rfl) pa_nil))))) pss_dead pss_nil)))
      (pss_one (ps_ret (pe_callTy call_tuple_of (by rfl) T.tuple (by decide +kernel) (pa_cons (pv 1) pa_nil))))), ?_⟩
    refine ⟨_, rfl, x, d, rfl, hd, fun H1 s1 => ⟨_, rfl, iteE (by rw [hsq]; rfl) (iteF ?_)⟩⟩
    obtain ⟨p, rfl, hp⟩ := hV.same s1
    refine ⟨_, rfl, p, _, rfl, hp, _, _, rfl, rfl, _, rfl, ?_⟩
    refine iteN (by rw [nm]; omega) ?_
    have stay : ∀ {H2 : Hp}, Same H H2 → SqL K H p (marksV l) ∨ SqT K H p (marksV l) → SqL K H2 p (marksV l) ∨ SqT K H2 p (marksV l) := fun s2 h => h.elim (fun h => .inl (s2.seq h)) fun h => .inr (Same.seqT s2 h)
    obtain ⟨p', e, hp0⟩ := hV
    cases e
    rcases hp with hL | hT
    · refine .inl ⟨_, rfl, p, _, rfl, hL, for_enumL (K := K) (a := p) (xs := marksV l) (fun _ σ' H' => (∃ u v, σ' = [some (.ref a), some (.ref p), u, v]) ∧ Same H1 H') ⟨⟨none, none, rfl⟩, Same.refl _⟩ (fun i σ' H' h => by obtain ⟨_, s2⟩ := h; exact s2.seq hL) ?_ ?_⟩
      · rintro i y T1 σ' H' hx ⟨⟨u, v, rfl⟩, s2⟩ nT
        obtain ⟨m, hm1, rfl⟩ := map_at hx
        refine ⟨T1, _, rfl, .inl (.inl upd_same), rfl, _, _, rfl, _, _, rfl, rfl, ?_⟩
        have s3 := same_up (o := .tup [.int (i : Nat), nV m]) s2 nT
        obtain ⟨dx, fs, t, a1, a2, a3, a4⟩ := hA.same (s1.trans s3)
        refine ⟨_, rfl, _, rfl, a, CH, dx, fs, _, rfl, a1, HC.cl, HC.n "many", a4, ?_⟩
        refine ⟨_, _, _, rfl, .int _, _, rfl, iteE (c := false) ?_ (iteF ?_)⟩
        · rw [belowYes (hm m (List.mem_of_getElem? hm1))]
          rfl
        · exact ⟨⟨_, _, rfl⟩, s3⟩
      · rintro σ' H' ⟨⟨u, v, rfl⟩, s2⟩
        exact ⟨_, rfl, p, _, rfl, .inl ⟨s2.seq hL, fun t nt => k _ t (same_up (s1.trans s2) nt) (.inl (.inl upd_same))⟩⟩
    · refine .inr ⟨_, rfl, p, _, rfl, hT, for_enumT (K := K) (a := p) (xs := marksV l) (fun _ σ' H' => (∃ u v, σ' = [some (.ref a), some (.ref p), u, v]) ∧ Same H1 H') ⟨⟨none, none, rfl⟩, Same.refl _⟩ (fun i σ' H' h => by obtain ⟨_, s2⟩ := h; exact Same.seqT s2 hT) ?_ ?_⟩
      · rintro i y T1 σ' H' hx ⟨⟨u, v, rfl⟩, s2⟩ nT
        obtain ⟨m, hm1, rfl⟩ := map_at hx
        refine ⟨T1, _, rfl, .inl (.inl upd_same), rfl, _, _, rfl, _, _, rfl, rfl, ?_⟩
        have s3 := same_up (o := .tup [.int (i : Nat), nV m]) s2 nT
        obtain ⟨dx, fs, t, a1, a2, a3, a4⟩ := hA.same (s1.trans s3)
        refine ⟨_, rfl, _, rfl, a, CH, dx, fs, _, rfl, a1, HC.cl, HC.n "many", a4, ?_⟩
        refine ⟨_, _, _, rfl, .int _, _, rfl, iteE (c := false) ?_ (iteF ?_)⟩
        · rw [belowYes (hm m (List.mem_of_getElem? hm1))]
          rfl
        · exact ⟨⟨_, _, rfl⟩, s3⟩
      · rintro σ' H' ⟨⟨u, v, rfl⟩, s2⟩
        exact ⟨_, rfl, p, _, rfl, .inr ⟨Same.seqT s2 hT, k _ _ (s1.trans s2) (Same.seqT s2 hT)⟩⟩
end
end Lg
set_option Elab.async false
set_option maxRecDepth 100000
set_option maxHeartbeats 2000000
namespace Lg
open PySem PySem.Spec PyProof.Rows L2
theorem atN {α : Type} {xs : List α} {i : Nat} {x : α} (h : xs[i]? = some x) : atI xs (i : Int) = some x := by
  have hi := (List.getElem?_eq_some_iff.mp h).1
  unfold atI ixN
  rw [if_pos (by omega), if_pos (by omega)]
  simpa using h
theorem at0 {α : Type} {x : α} {xs : List α} : atI (x :: xs) 0 = some x := atN (i := 0) rfl
theorem at1 {α : Type} {x y : α} {xs : List α} : atI (x :: y :: xs) 1 = some y := atN (i := 1) rfl
theorem at2 {α : Type} {x y z : α} {xs : List α} : atI (x :: y :: z :: xs) 2 = some z := atN (i := 2) rfl
/-- no test in a comprehension -/
theorem yes {σ : L2.St} {H : Hp} {A B : Hp → Prop} (h : A H) : tYes σ H fun b H3 => if b = true then A H3 else B H3 := by
  show if true = true then A H else B H
  rw [if_pos rfl]
  exact h
theorem takeS {α : Type} {l : List α} {i : Nat} {x : α} (h : l[i]? = some x) : l.take (i + 1) = l.take i ++ [x] := by
  rw [List.take_add_one, h]
  rfl
theorem same_own {H H1 : Hp} {D : Addr} {o : HO} (s : Same H H1) (n : H D = none) : Same H (upd H1 D o) := fun b u e => by
  rw [upd_ne (ne_of_none e n)]
  exact s b u e
theorem small5 {n : Nat} (h : n ≤ 20000) : n < sizeLine := by
  rw [sizeLine_eq]
  omega
theorem rep_snoc {α : Type} (x : α) (i : Nat) : List.replicate i x ++ [x] = List.replicate (i + 1) x := by
  rw [List.replicate_succ']
theorem mapRep (n : Nat) : List.replicate n (V.bl true) = (List.replicate n true).map V.bl := by simp
theorem allRep (n : Nat) : (List.replicate n true).all id = true := by simp
/-- a block that captures nothing, in whatever def -/
theorem blkFree {N : List Str} {sc scope : Scope} {own : List (Str × Nat)} (h : blkC N ⟨.function, [], false, false, []⟩ scope own = true) : BlkOk N sc scope own := by
  have b := blkOk_by h
  refine ⟨b.kind, b.uniq, b.ix, fun y hy e => ?_, b.own⟩
  rcases b.free y hy e with z | z <;> cases z
/-! ### data of tuples alone: it stays where lists alone are written -/
mutual
def tupOnly : PyData → Bool
  | .none => true
  | .bool _ => true
  | .int _ => true
  | .str _ => true
  | .list _ => false
  | .tuple ds => tupAll ds
  | .dict _ => false
def tupAll : List PyData → Bool
  | [] => true
  | d :: ds => tupOnly d && tupAll ds
end
/-- tuples (and what is known to the object) stay -/
def SameT (H H' : Hp) : Prop := ∀ b u, H b = some u → ((∃ xs, u = .tup xs) ∨ ∃ o v, u = .frz o v) → H' b = some u
theorem Same.toT {H H' : Hp} (s : Same H H') : SameT H H' := fun b u e _ => s b u e
theorem SameT.tr {H H1 H2 : Hp} (a : SameT H H1) (b : SameT H1 H2) : SameT H H2 := fun x u e n => b x u (a x u e n) n
theorem sameT_upd {H : Hp} {D : Addr} {o o' : HO} (h : H D = some o) (n1 : ∀ xs, o ≠ .tup xs) (n2 : ∀ ob v, o ≠ .frz ob v) : SameT H (upd H D o') := fun b u e n => by
  have z : b ≠ D := fun z => by
    rw [z, h] at e
    rcases n with ⟨xs, q⟩ | ⟨ob, v, q⟩
    · exact n1 xs ((Option.some.inj e).trans q)
    · exact n2 ob v ((Option.some.inj e).trans q)
  rw [upd_ne z]
  exact e
theorem sameT_lst {H : Hp} {D : Addr} {xs ys : List V} (h : H D = some (.lst xs)) : SameT H (upd H D (.lst ys)) := sameT_upd h (fun _ z => by cases z) (fun _ _ z => by cases z)
theorem seqT_tt {K : PySem.W.Frag} {H H' : Hp} {a : Addr} {xs : List V} (s : SameT H H') (h : SqT K H a xs) : SqT K H' a xs := by
  rcases h with (h | ⟨o, h⟩) | h
  · exact .inl (.inl (s _ _ h (.inl ⟨_, rfl⟩)))
  · exact .inl (.inr ⟨o, s _ _ h (.inr ⟨_, _, rfl⟩)⟩)
  · exact .inr h
mutual
theorem dp_tt0 {K : PySem.W.Frag} {H H' : Hp} (s : SameT H H') : ∀ {d : PyData} {x : V}, Dp K H x d → tupOnly d = true → Dp K H' x d
  | _, _, .non, _ => .non
  | _, _, .bl b, _ => .bl b
  | _, _, .int i, _ => .int i
  | _, _, .str y, _ => .str y
  | _, _, .lst (ds := ds) _ _, t => False.elim (by rw [tupOnly] at t; exact Bool.false_ne_true t)
  | _, _, .tup (ds := ds) hs ha, t => .tup (seqT_tt s hs) (dpAll_tt0 s ha (by rw [tupOnly] at t; exact t))
theorem dpAll_tt0 {K : PySem.W.Frag} {H H' : Hp} (s : SameT H H') : ∀ {ds : List PyData} {xs : List V}, DpAll K H xs ds → tupAll ds = true → DpAll K H' xs ds
  | _, _, .nil, _ => .nil
  | _, _, .cons (d := d) (ds := ds) h r, t => .cons (dp_tt0 s h (by rw [tupAll] at t; exact (Bool.and_eq_true_iff.mp t).1)) (dpAll_tt0 s r (by rw [tupAll] at t; exact (Bool.and_eq_true_iff.mp t).2))
end
theorem dp_tt {K : PySem.W.Frag} {H H' : Hp} (s : SameT H H') {d : PyData} {x : V} (t : tupOnly d = true) (h : Dp K H x d) : Dp K H' x d := dp_tt0 s h t
theorem dpAll_tt {K : PySem.W.Frag} {H H' : Hp} (s : SameT H H') {ds : List PyData} {xs : List V} (t : tupAll ds = true) (h : DpAll K H xs ds) : DpAll K H' xs ds := dpAll_tt0 s h t
theorem tupAll_map {α : Type} {f : α → PyData} (h : ∀ x, tupOnly (f x) = true) : ∀ l : List α, tupAll (l.map f) = true
  | [] => rfl
  | x :: l => by
    rw [List.map_cons, tupAll, h x, tupAll_map h l]
    rfl
theorem tt_move (p : Nat × Nat) : tupOnly (moveD p) = true := rfl
theorem tt_tup {α : Type} {f : α → PyData} (h : ∀ x, tupOnly (f x) = true) (l : List α) : tupOnly (.tuple (l.map f)) = true := by
  rw [tupOnly]
  exact tupAll_map h l
theorem tt_row (r : List (Nat × Nat)) : tupOnly (rowT r) = true := tt_tup tt_move r
theorem tt_rows (R : Rows) : tupOnly (rowsT R) = true := tt_tup tt_row R
theorem tt_story (l : List Nat) : tupOnly (storyD l) = true := tt_tup (fun _ => rfl) l
theorem tt_logs (L : Logs) : tupOnly (logsD L) = true := tt_tup tt_story L
theorem dpAll_snoc {K : PySem.W.Frag} {H : Hp} {xs : List V} {ds : List PyData} {x : V} {d : PyData} (h : DpAll K H xs ds) (h2 : Dp K H x d) : DpAll K H (xs ++ [x]) (ds ++ [d]) := dpAll_app h (.cons h2 .nil)
/-! ### built-ins by name -/
def rLenS (K : PySem.W.Frag) : List V → Hp → VK → Prop := fun xs H Q => ∃ p ys, xs = [.ref p] ∧ (SqL K H p ys ∨ SqT K H p ys) ∧ Q (.int ys.length) H
def rTupS (K : PySem.W.Frag) : List V → Hp → VK → Prop := fun xs H Q => ∃ p ys, xs = [.ref p] ∧ ((SqL K H p ys ∧ ∀ l, H l = none → Q (.ref l) (upd H l (.tup ys))) ∨ (SqT K H p ys ∧ Q (.ref p) H))
def rLstS (K : PySem.W.Frag) : List V → Hp → VK → Prop := fun xs H Q => ∃ p ys, xs = [.ref p] ∧ (SqL K H p ys ∨ SqT K H p ys) ∧ ∀ l, H l = none → Q (.ref l) (upd H l (.lst ys))
section
variable {X : Cx} {e : Expr} {es : List Expr} {t : TA} {p pos : Pos}
theorem p_len (hm : X.mg "len" = none) (ha : PA X (e :: es) t) (hg : Gl X "len" := by rfl) (he : starEach (e :: es) X.env = (false, eval e X.env) :: starEach es X.env := by rfl) (hpl : (backTo pos (starEach es X.env)).any (·.1) = false := by rfl) :
    PE X (.Call (.Name "len" p) (e :: es) [] pos) (tCB (rLenS X.K) t) := pe_callB call_len_seq hg hm PySem.boot_len ha (by decide) (by decide) he hpl
theorem p_tup (hm : X.mg "tuple" = none) (ha : PA X (e :: es) t) (hg : Gl X "tuple" := by rfl) (he : starEach (e :: es) X.env = (false, eval e X.env) :: starEach es X.env := by rfl) (hpl : (backTo pos (starEach es X.env)).any (·.1) = false := by rfl) :
    PE X (.Call (.Name "tuple" p) (e :: es) [] pos) (tCB (rTupS X.K) t) := pe_callTy call_tuple_of hg hm (by decide +kernel) ha (by decide) (by decide) he hpl
theorem p_lst (hm : X.mg "list" = none) (ha : PA X (e :: es) t) (hg : Gl X "list" := by rfl) (he : starEach (e :: es) X.env = (false, eval e X.env) :: starEach es X.env := by rfl) (hpl : (backTo pos (starEach es X.env)).any (·.1) = false := by rfl) :
    PE X (.Call (.Name "list" p) (e :: es) [] pos) (tCB (rLstS X.K) t) := pe_callTy call_list_of hg hm (by decide +kernel) ha (by decide) (by decide) he hpl
end
section
variable {P : Program} {w : World} {K : PySem.W.Frag} {mg : Str → Option Value} {base : Heap}
/-! ### is_move -/
def spMove (K : PySem.W.Frag) : Sp := fun vs H Q _ => ∃ (x : V) (p : Nat × Nat) (m n : Nat), vs = [x, nV m, nV n] ∧ Dp K H x (moveD p) ∧ p.1 < m ∧ p.2 < n ∧ ∀ H', Same H H' → Q (.bl true) H'
theorem ok_move (F : FunAt K mg "is_move" (top 24) ["value", "marks", "standings"]) (T : Txt K mg) (DB : DBelow P w K mg base) (DS : DSeq P w K mg base) : Fd P w K mg base "is_move" 4 ["value", "marks", "standings"] (spMove K) := by
  have sc : FnScope ["value", "marks", "standings"] ["value", "marks", "standings"] (defScope (top 24)) := ⟨rfl, rfl, rfl, by decide +kernel, rfl, by decide +kernel, by decide +kernel⟩
  refine Fd.mk' F fun f fd F => F.ok sc (fun vs H Q E h => ?_) (fun cdv A outer s H vs Q E hr h => ?_)
  · obtain ⟨a, x, ms, l, rfl, _⟩ := h
    rfl
  · obtain ⟨x, p, m, n, rfl, hd, h1, h2, k⟩ := h
    refine ⟨_, pss_one (ps_ret (pe_and (pf DS (hr.mono (by decide)) (pa_cons (pv 0) pa_nil)) (pe_and (pe_cmpR op_eq (p_len T.len (pa_cons (pv 0) pa_nil)) pe_int (nomark _))
      (pe_and (pf DB hr (pa_cons (pe_ix ix_tup (pv 0) pe_int (fun _ _ => rfl)) (pa_cons (pv 1) pa_nil))) (pe_one (pf DB hr (pa_cons (pe_ix ix_tup (pv 0) pe_int (fun _ _ => rfl)) (pa_cons (pv 2) pa_nil)))))))), ?_⟩
    refine ⟨_, rfl, x, _, rfl, hd, fun H1 s1 => ⟨_, rfl, iteT ?_⟩⟩
    obtain ⟨a, rfl, hT⟩ := dp_move (dp_same s1 hd)
    refine ⟨_, rfl, a, _, rfl, .inr hT, rfl, _, rfl, iteD rfl ?_⟩
    refine ⟨_, rfl, a, _, _, _, rfl, rfl, hT, at0, _, rfl, _, _, _, rfl, .int _, _, rfl, iteE (c := true) (belowYes h1) (iteT ?_)⟩
    refine ⟨_, rfl, a, _, _, _, rfl, rfl, hT, at1, _, rfl, _, _, _, rfl, .int _, ?_⟩
    rw [belowYes h2]
    exact k _ s1
/-! ### check_rows -/
def spRows (K : PySem.W.Frag) (CH : Addr) : Sp := fun vs H Q _ => ∃ (h : Addr) (x : V) (ms : List Nat) (R : Rows), vs = [.ref h, x] ∧ HandsAt CH H h ms ∧ Dp K H x (rowsL R) ∧ MarksOk ms ∧ RowsOk ms R ∧
  ∀ H' r, Same H H' → Dp K H' (.ref r) (rowsT R) → Q (.ref r) H'
abbrev DMove (P : Program) (w : World) (K : PySem.W.Frag) (mg : Str → Option Value) (base : Heap) : Prop := Fd P w K mg base "is_move" 4 ["value", "marks", "standings"] (spMove K)
theorem ok_rows {CH : Addr} (F : FunAt K mg "check_rows" (top 25) ["hands", "value"]) (T : Txt K mg) (HC : Flds K CH fsH) (DM : DMove P w K mg base) (DS : DSeq P w K mg base) : Fd P w K mg base "check_rows" 5 ["hands", "value"] (spRows K CH) := by
  have sc : FnScope ["hands", "value", "moves", "move", "marks"] ["hands", "value"] (defScope (top 25)) := ⟨rfl, rfl, rfl, by decide +kernel, rfl, by decide +kernel, by decide +kernel⟩
  refine Fd.mk' F fun f fd F => F.ok sc (fun vs H Q E h => ?_) (fun cdv A outer s H vs Q E hr h => ?_)
  · obtain ⟨a, x, ms, l, rfl, _⟩ := h
    rfl
  · obtain ⟨a, x, ms, R, rfl, hA, hd, mok, rok, k⟩ := h
    refine ⟨_, pss_cons (ps_if (pw_or (pt_not (pt_val (pf DS (hr.mono (by decide)) (pa_cons (pv 1) pa_nil)))) (pw_or1 (pt_not (pt_chain op_le op_le pe_int (p_len T.len (pa_cons (pv 1) pa_nil)) (pe_cst T.stand))))).pt pss_dead pss_nil)
      (pss_cons (ps_for PassesOwn.never rfl (pi_list (pv 1)) (pg_name (i := 2) sc.nd rfl (.inl rfl))
        (pss_cons (ps_if (pw_or (pt_not (pt_val (pf DS (hr.mono (by decide)) (pa_cons (pv 2) pa_nil)))) (pw_or1 (pt_cmpR op_ne (p_len T.len (pa_cons (pv 2) pa_nil)) (pe_fld (pv 0) rfl) (nomark _)))).pt pss_dead pss_nil)
        (pss_one (ps_if (pt_not (pt_val (pe_callB (cr_all rfl) (by rfl) T.all (by decide +kernel) (pa_cons
          (pe_lc (own := [("move", 3), ("marks", 4)]) (g := gTup K 2 (gCons (gName 3) (gCons (gName 4) gNil))) (tt := tYes) (te := tCall (spMove K) [] E0 (tCons (tVar 3) (tCons (tVar 4) (tCons (tCB (rLenS K) (tCons (tVar 1) tNil)) tNil)))) rfl sc.nd (pi_zipM (by rfl) T.zip (pa_cons (pv 2) (pa_cons (pe_fld (pv 0) rfl) pa_nil))) (blkOk_by (N := ["hands", "value", "moves", "move", "marks"]) (sc := defScope (top 25)) (by decide +kernel))
            (fun _ _ _ _ _ => by exact pg_tup rfl (pgs_cons (pg_name (i := 3) sc.nd rfl (.inl rfl)) (pgs_cons (pg_name (i := 4) sc.nd rfl (.inl rfl)) pgs_nil))) (fun _ _ _ _ _ => pts_nil)
            (fun _ _ _ _ _ => by exact pf DM hr (pa_cons (pv 3) (pa_cons (pv 4) (pa_cons (p_len T.len (pa_cons (pv 1) pa_nil)) pa_nil))))) pa_nil)))) pss_dead pss_nil))))
      (pss_one (ps_ret (p_tup T.tuple (pa_cons
        (pe_lc (own := [("moves", 2)]) (g := gName 2) (tt := tYes) (te := tCB (rTupS K) (tCons (tLc (iList K (tVar 2)) (gName 3) tYes (tTup (tCons (tOp (rIxT K) (tVar 3) (tC (.int 0))) (tCons (tOp (rIxT K) (tVar 3) (tC (.int 1))) tNil))) [3]) tNil)) rfl sc.nd (pi_list (pv 1)) (blkFree (N := ["hands", "value", "moves", "move", "marks"]) (by decide +kernel)) (fun _ _ _ _ _ => by exact pg_name (i := 2) sc.nd rfl (.inl rfl)) (fun _ _ _ _ _ => pts_nil)
          (fun _ _ _ _ _ => by exact p_tup T.tuple (pa_cons
            (pe_lc (own := [("move", 3)]) (tt := tYes) rfl sc.nd (pi_list (pv 2)) (blkFree (N := ["hands", "value", "moves", "move", "marks"]) (by decide +kernel)) (fun _ _ _ _ _ => by exact pg_name (i := 3) sc.nd rfl (.inl rfl)) (fun _ _ _ _ _ => pts_nil)
              (fun _ _ _ _ _ => by exact pe_tup (pa_cons (pe_ix ix_tup (pv 3) pe_int (fun _ _ => rfl)) (pa_cons (pe_ix ix_tup (pv 3) pe_int (fun _ _ => rfl)) pa_nil)))) pa_nil))) pa_nil))))), ?_⟩
    obtain ⟨p, xs, rfl, hS, hxs⟩ := dp_lst hd
    have lx : xs.length = R.length := dpAll_mapLen hxs
    refine ⟨_, rfl, .ref p, _, rfl, .lst hS hxs, fun H1 s1 => ⟨_, rfl, iteF ?_⟩⟩
    refine ⟨_, rfl, p, _, rfl, .inl (s1.seq hS), _, _, rfl, rfl, _, rfl, ?_⟩
    have r1 := rok.1
    have r2 := rok.2.1
    refine iteD (by rw [lx]; omega) ⟨_, _, rfl, rfl, _, rfl, ?_⟩
    refine iteE (c := false) (by rw [lx]; simp; omega) (iteF ?_)
    refine ⟨_, rfl, p, rfl, ⟨_, s1.seq hS⟩, for_list (K := K) (a := p) (xs := xs) (fun _ σ' H' => (∃ u, σ' = [some (.ref a), some (.ref p), u, none, none]) ∧ Same H H') ⟨⟨none, rfl⟩, s1⟩ (fun i σ' H' _ h => h.2.seq hS) ?_ ?_⟩
    · rintro i y σ' H2 hi ⟨⟨u, rfl⟩, s2⟩
      obtain ⟨r, hr1, hdr⟩ := dpAll_map hxs hi
      obtain ⟨hlen, hmoves⟩ := rok.2.2 r (List.mem_of_getElem? hr1)
      have hdr2 := dp_same s2 hdr
      refine ⟨_, rfl, y, _, rfl, hdr2, fun H3 s3 => ⟨_, rfl, iteF ?_⟩⟩
      have s03 := s2.trans s3
      obtain ⟨q, zs, rfl, hq, hzs⟩ := dp_lst (dp_same s3 hdr2)
      have lz : zs.length = r.length := dpAll_mapLen hzs
      obtain ⟨dx, fs, t, a1, a2, a3, a4⟩ := hA.same s03
      refine ⟨_, rfl, q, _, rfl, .inl hq, _, rfl, a, CH, dx, fs, _, rfl, a1, HC.cl, HC.n "many", a4, rfl, _, rfl, ?_⟩
      refine iteE (c := false) (by rw [lz, hlen]; simp) (iteF ?_)
      have lm : (marksV ms).length = ms.length := List.length_map ..
      have m3 := mok.2.1
      refine ⟨_, rfl, _, rfl, a, CH, dx, fs, _, rfl, a1, HC.cl, HC.n "marks", a2, q, t, zs, marksV ms, rfl, hq, .inl (.inl a3), fun D hD => ?_⟩
      refine lc_zipM (by rw [lz, hlen, lm]) (fun i H' => Same H3 H' ∧ H' D = some (.lst (List.replicate i (.bl true)))) ⟨same_up (Same.refl _) hD, upd_same⟩ (fun i H' h => ⟨h.1.seq hq, .inl (.inl (h.1 _ _ a3))⟩) ?_ ?_
      · rintro i z m1 T1 H4 hz hm1 ⟨s4, hD4⟩ nT
        obtain ⟨pm, hpm, hdz⟩ := dpAll_map hzs hz
        obtain ⟨m, hm2, rfl⟩ := map_at hm1
        obtain ⟨b1, b2⟩ := hmoves i pm m hpm hm2
        have s5 : Same H3 (upd H4 T1 (.tup [z, nV m])) := same_up s4 nT
        have nDT : D ≠ T1 := ne_of_none hD4 nT
        refine ⟨T1, _, rfl, .inl (.inl upd_same), rfl, _, _, rfl, _, _, rfl, rfl, rfl, yes ?_⟩
        refine ⟨_, rfl, _, rfl, _, rfl, p, xs, rfl, .inl ((s03.trans s5).seq hS), z, pm, m, R.length, by rw [lx]; rfl, dp_same s5 hdz, b1, b2, fun H6 s6 => ?_⟩
        have hi3 : i < zs.length := (List.getElem?_eq_some_iff.mp hz).1
        refine ⟨_, s6 _ _ ((upd_ne nDT).trans hD4), ?_, ?_, ?_⟩
        · rw [List.length_replicate]
          exact small5 (by omega)
        · exact same_own (s5.trans s6) hD
        · rw [rep_snoc]
          exact upd_same
      · rintro H4 ⟨s4, hD4⟩
        refine ⟨D, List.replicate zs.length true, rfl, .inl (.inl (by rw [hD4, mapRep])), _, rfl, ?_⟩
        rw [allRep]
        exact iteF ⟨⟨_, rfl⟩, s03.trans s4⟩
    · rintro σ' H2 ⟨⟨u, rfl⟩, s2⟩
      refine ⟨_, rfl, p, rfl, ⟨_, s2.seq hS⟩, fun D hD => ?_⟩
      refine lc_list (K := K) (a := p) (xs := xs) (fun i H' => Same H2 H' ∧ ∃ acc, H' D = some (.lst acc) ∧ DpAll K H' acc ((R.take i).map rowT)) ⟨same_up (Same.refl _) hD, [], upd_same, .nil⟩ (fun i H' _ h => (s2.trans h.1).seq hS) ?_ ?_
      · rintro i y H3 hi ⟨s3, acc, hD3, hacc⟩
        obtain ⟨r, hr1, hdr⟩ := dpAll_map hxs hi
        obtain ⟨hlen, hmoves⟩ := rok.2.2 r (List.mem_of_getElem? hr1)
        obtain ⟨q, zs, rfl, hq, hzs⟩ := dp_lst (dp_same (s2.trans s3) hdr)
        have lz : zs.length = r.length := dpAll_mapLen hzs
        have m3 := mok.2.1
        refine ⟨rfl, yes ?_⟩
        refine ⟨_, rfl, q, rfl, ⟨_, hq⟩, fun D2 hD2 => ?_⟩
        refine lc_list (K := K) (a := q) (xs := zs) (fun j H' => Same H3 H' ∧ ∃ ac, H' D2 = some (.lst ac) ∧ DpAll K H' ac ((r.take j).map moveD)) ⟨same_up (Same.refl _) hD2, [], upd_same, .nil⟩ (fun i H' _ h => h.1.seq hq) ?_ ?_
        · rintro j z H4 hj ⟨s4, ac, hD4, hac⟩
          obtain ⟨pm, hpm, hdz⟩ := dpAll_map hzs hj
          obtain ⟨c, rfl, hc⟩ := dp_move (dp_same s4 hdz)
          have hj3 : j < zs.length := (List.getElem?_eq_some_iff.mp hj).1
          refine ⟨rfl, yes ?_⟩
          refine ⟨_, rfl, c, _, _, _, rfl, rfl, hc, at0, _, rfl, c, _, _, _, rfl, rfl, hc, at1, (by show 2 ≤ sizeLine; decide), fun t nt => ?_⟩
          have nDt : D2 ≠ t := ne_of_none hD4 nt
          have s5 : Same H4 (upd H4 t (.tup [nV pm.1, nV pm.2])) := same_upd nt
          have s6 : Same H3 (upd (upd H4 t (.tup [nV pm.1, nV pm.2])) D2 (.lst (ac ++ [.ref t]))) := same_own (s4.trans s5) hD2
          have t1 : SameT H4 (upd (upd H4 t (.tup [nV pm.1, nV pm.2])) D2 (.lst (ac ++ [.ref t]))) := (Same.toT s5).tr (sameT_lst ((upd_ne nDt).trans hD4))
          refine ⟨ac, (upd_ne nDt).trans hD4, ?_, s6, _, upd_same, ?_⟩
          · rw [dpAll_mapLen hac, List.length_take]
            exact small5 (by omega)
          · rw [takeS hpm, List.map_append]
            refine dpAll_snoc (dpAll_tt t1 (tupAll_map tt_move _) hac) (.tup (.inl (.inl ((upd_ne nDt.symm).trans upd_same))) (.cons (.int _) (.cons (.int _) .nil)))
        · rintro H4 ⟨s4, ac, hD4, hac⟩
          rw [lz, List.take_length] at hac
          refine ⟨D2, ac, rfl, .inl ⟨.inl (.inl hD4), fun t nt => ?_⟩⟩
          have nDt : D ≠ t := ne_of_none (s4 _ _ hD3) nt
          refine ⟨acc, (upd_ne nDt).trans (s4 _ _ hD3), ?_, same_own (s3.trans (same_up s4 nt)) hD, _, upd_same, ?_⟩
          · rw [dpAll_mapLen hacc, List.length_take]
            exact small5 (by omega)
          · have t1 : SameT H4 (upd (upd H4 t (.tup ac)) D (.lst (acc ++ [.ref t]))) := (Same.toT (same_upd nt)).tr (sameT_lst ((upd_ne nDt).trans (s4 _ _ hD3)))
            rw [takeS hr1, List.map_append]
            exact dpAll_snoc (dpAll_tt ((Same.toT s4).tr t1) (tupAll_map tt_row _) hacc) (.tup (.inl (.inl ((upd_ne nDt.symm).trans upd_same))) (dpAll_tt t1 (tupAll_map tt_move _) hac))
      · rintro H3 ⟨s3, acc, hD3, hacc⟩
        rw [lx, List.take_length] at hacc
        refine ⟨D, acc, rfl, .inl ⟨.inl (.inl hD3), fun t nt => ?_⟩⟩
        exact k _ t (same_up (s2.trans s3) nt) (.tup (.inl (.inl upd_same)) (dpAll_same (same_upd nt) hacc))
end
end Lg
set_option Elab.async false
set_option maxRecDepth 100000
set_option maxHeartbeats 2000000
namespace Lg
open PySem PySem.Spec PyProof.Rows L2
/-- all but x stays -/
def Kept (x : Addr) (H H' : Hp) : Prop := ∀ b u, b ≠ x → H b = some u → H' b = some u
section
variable {K : PySem.W.Frag} {H H' : Hp} {x C dx : Addr} {fs : List (Str × V)}
theorem kept_seqL {a : Addr} {xs : List V} (k : Kept x H H') (hx : H x = some (.ins C dx fs)) (h : SqL K H a xs) : SqL K H' a xs := by
  rcases h with (h | ⟨o, h⟩) | h
  · exact .inl (.inl (k _ _ (ne_of h hx (by intro z; cases z)) h))
  · exact .inl (.inr ⟨o, k _ _ (ne_of h hx (by intro z; cases z)) h⟩)
  · exact .inr h
theorem kept_seqT {a : Addr} {xs : List V} (k : Kept x H H') (hx : H x = some (.ins C dx fs)) (h : SqT K H a xs) : SqT K H' a xs := by
  rcases h with (h | ⟨o, h⟩) | h
  · exact .inl (.inl (k _ _ (ne_of h hx (by intro z; cases z)) h))
  · exact .inl (.inr ⟨o, k _ _ (ne_of h hx (by intro z; cases z)) h⟩)
  · exact .inr h
mutual
theorem dp_kept (k : Kept x H H') (hx : H x = some (.ins C dx fs)) : ∀ {v : V} {d : PyData}, Dp K H v d → Dp K H' v d
  | _, _, .non => .non
  | _, _, .bl b => .bl b
  | _, _, .int i => .int i
  | _, _, .str y => .str y
  | _, _, .lst hs ha => .lst (kept_seqL k hx hs) (dpAll_kept k hx ha)
  | _, _, .tup hs ha => .tup (kept_seqT k hx hs) (dpAll_kept k hx ha)
theorem dpAll_kept (k : Kept x H H') (hx : H x = some (.ins C dx fs)) : ∀ {xs : List V} {ds : List PyData}, DpAll K H xs ds → DpAll K H' xs ds
  | _, _, .nil => .nil
  | _, _, .cons h t => .cons (dp_kept k hx h) (dpAll_kept k hx t)
end
theorem HandsAt.kept {CH h : Addr} {ms : List Nat} (a : HandsAt CH H h ms) (hx : H x = some (.ins C dx [])) (k : Kept x H H') : HandsAt CH H' h ms ∧ h ≠ x := by
  obtain ⟨dy, fs, t, h1, h2, h3, h4⟩ := a
  have nh : h ≠ x := by
    intro z
    rw [z, hx] at h1
    cases h1
    cases h2
  exact ⟨⟨dy, fs, t, k _ _ nh h1, h2, k _ _ (ne_of h3 hx (by intro z; cases z)) h3, h4⟩, nh⟩
end
section
variable {P : Program} {w : World} {K : PySem.W.Frag} {mg : Str → Option Value} {base : Heap}
/-! ### Marker(hands, rows) -/
def spMarkerI (K : PySem.W.Frag) (CH CM : Addr) : Sp := fun vs H Q _ => ∃ (x h dx : Addr) (v : V) (ms : List Nat) (R : Rows), vs = [.ref x, .ref h, v] ∧ H x = some (.ins CM dx []) ∧ HandsAt CH H h ms ∧ Dp K H v (rowsL R) ∧ MarksOk ms ∧ RowsOk ms R ∧
  ∀ H', Kept x H H' → MarkerAt K CH CM H' x ms R → Q .non H'
abbrev DRows (P : Program) (w : World) (K : PySem.W.Frag) (mg : Str → Option Value) (base : Heap) (CH : Addr) : Prop := Fd P w K mg base "check_rows" 5 ["hands", "value"] (spRows K CH)
theorem ok_markerI {f : Addr} {fd : FuncData} {CH CM : Addr} (F : Fun K "__init__" "Marker.__init__" (meth 26 0) f fd) (T : Txt K mg) (MC : Flds K CM fsM) (DR : DRows P w K mg base CH) :
    FnOk P w K mg base CX0 6 f fd ["self", "hands", "rows"] (spMarkerI K CH CM) := by
  have sc : FnScope ["self", "hands", "rows"] ["self", "hands", "rows"] (defScope (meth 26 0)) := ⟨rfl, rfl, rfl, by decide +kernel, rfl, by decide +kernel, by decide +kernel⟩
  refine F.ok sc (fun vs H Q E h => ?_) (fun cdv A outer s H vs Q E hr h => ?_)
  · obtain ⟨x, a, dx, v, ms, R, rfl, _⟩ := h
    rfl
  · obtain ⟨x, a, dx, v, ms, R, rfl, hx, hA, hd, mok, rok, k⟩ := h
    refine ⟨_, pss_cons (ps_fld (pv 0) (pv 1) rfl) (pss_cons (ps_fld (pv 0) (pf DR hr (pa_cons (pv 1) (pa_cons (pv 2) pa_nil))) rfl) (pss_one (ps_fld (pv 0) (p_len T.len (pa_cons (pe_fld (pv 0) rfl) pa_nil)) rfl))), ?_⟩
    refine ⟨_, rfl, _, rfl, x, CM, dx, [], rfl, hx, MC.cl, MC.n "hands", by decide, ?_⟩
    have k1 : Kept x H (upd H x (.ins CM dx (putF "hands" (.ref a) []))) := fun b u nb e => (upd_ne nb).trans e
    obtain ⟨hA1, na⟩ := hA.kept hx k1
    refine ⟨_, rfl, _, rfl, a, v, ms, R, rfl, hA1, dp_kept k1 hx hd, mok, rok, fun H2 r s2 hdr => ?_⟩
    refine ⟨_, rfl, x, CM, dx, _, rfl, s2 _ _ upd_same, MC.cl, MC.n "rows", (by show 1 < 1000; decide), ?_⟩
    have hx2 := s2 _ _ (upd_same (H := H) (a := x) (o := .ins CM dx (putF "hands" (.ref a) [])))
    have k2 : Kept x H2 (upd H2 x (.ins CM dx (putF "rows" (.ref r) (putF "hands" (.ref a) [])))) := fun b u nb e => (upd_ne nb).trans e
    have hdr2 := dp_kept k2 hx2 hdr
    obtain ⟨q, xs, e, hq, hxs⟩ := dp_tup hdr2
    cases e
    refine ⟨_, rfl, x, CM, dx, _, _, rfl, upd_same, MC.cl, MC.n "rows", put0, r, xs, rfl, .inr hq, ?_⟩
    refine ⟨_, rfl, x, CM, dx, _, rfl, upd_same, MC.cl, MC.n "standings", (by show 2 < 1000; decide), ?_⟩
    rw [upd_upd]
    have kf : Kept x H (upd H2 x (.ins CM dx (putF "standings" (.int (xs.length : Nat)) (putF "rows" (.ref r) (putF "hands" (.ref a) []))))) := fun b u nb e => (upd_ne nb).trans (s2 _ _ (k1 b u nb e))
    have kf2 : Kept x H2 (upd H2 x (.ins CM dx (putF "standings" (.int (xs.length : Nat)) (putF "rows" (.ref r) (putF "hands" (.ref a) []))))) := fun b u nb e => (upd_ne nb).trans e
    refine k _ kf ⟨dx, _, a, r, upd_same, ?_, (hA.kept hx kf).1, ?_, dp_kept kf2 hx2 hdr⟩
    · rw [put1 (by decide), put1 (by decide), put0]
    · rw [put1 (by decide), put0]
end
end Lg
set_option Elab.async false
set_option maxRecDepth 100000
namespace Lg
open PySem PySem.Spec PyProof.Rows L2
/-! ### what a story leaves -/
def markAt (R : Rows) (s h : Nat) : Nat × Nat := (R.getD s []).getD h (0, 0)
def put (L : Logs) (h m : Nat) : Logs := L.set h (L.getD h [] ++ [m])
def deed (R : Rows) (st : Logs × Nat) (h : Nat) : Logs × Nat := (put st.1 h (markAt R st.2 h).1, (markAt R st.2 h).2)
def laid (k : Nat) (R : Rows) (l : List Nat) : Logs × Nat := l.foldl (deed R) (List.replicate k [], 0)
theorem laid_snoc (k : Nat) (R : Rows) (l : List Nat) (h : Nat) : laid k R (l ++ [h]) = deed R (laid k R l) h := by
  unfold laid
  rw [List.foldl_append]
  rfl
theorem put_len (L : Logs) (h m : Nat) : (put L h m).length = L.length := by
  unfold put
  rw [List.length_set]
theorem laid_len (k : Nat) (R : Rows) (l : List Nat) : (laid k R l).1.length = k := by
  unfold laid
  have key : ∀ (l : List Nat) (s : Logs × Nat), (l.foldl (deed R) s).1.length = s.1.length := by
    intro l
    induction l with
    | nil => intro s; rfl
    | cons h l ih =>
      intro s
      rw [List.foldl_cons, ih]
      exact put_len _ _ _
  rw [key]
  exact List.length_replicate ..
theorem row_at {ms : List Nat} {R : Rows} (ok : RowsOk ms R) {s h : Nat} (hs : s < R.length) (hh : h < ms.length) : ∃ r, R[s]? = some r ∧ r[h]? = some (markAt R s h) ∧ r.length = ms.length := by
  have e1 : R[s]? = some R[s] := List.getElem?_eq_getElem hs
  obtain ⟨l, _⟩ := ok.2.2 R[s] (List.getElem_mem hs)
  have hh2 : h < R[s].length := by omega
  refine ⟨R[s], e1, ?_, l⟩
  have e2 : R.getD s [] = R[s] := by
    rw [List.getD_eq_getElem?_getD, e1]
    rfl
  unfold markAt
  rw [e2, List.getD_eq_getElem?_getD, List.getElem?_eq_getElem hh2]
  rfl
theorem mark_ok {ms : List Nat} {R : Rows} (ok : RowsOk ms R) {s h : Nat} (hs : s < R.length) (hh : h < ms.length) : (markAt R s h).1 < ms.getD h 0 ∧ (markAt R s h).2 < R.length := by
  obtain ⟨r, e1, e2, e3⟩ := row_at ok hs hh
  have e4 : ms[h]? = some ms[h] := List.getElem?_eq_getElem hh
  have z := (ok.2.2 r (List.mem_of_getElem? e1)).2 h _ _ e2 e4
  rw [List.getD_eq_getElem?_getD, e4]
  exact z
theorem laid_st {ms : List Nat} {R : Rows} (ok : RowsOk ms R) : ∀ (l : List Nat), (∀ n, n ∈ l → n < ms.length) → (laid ms.length R l).2 < R.length := by
  have key : ∀ (l : List Nat) (s : Logs × Nat), (∀ n, n ∈ l → n < ms.length) → s.2 < R.length → (l.foldl (deed R) s).2 < R.length := by
    intro l
    induction l with
    | nil => intro s _ h; exact h
    | cons a l ih =>
      intro s h1 h2
      rw [List.foldl_cons]
      exact ih _ (fun n hn => h1 n (List.mem_cons_of_mem _ hn)) (mark_ok ok h2 (h1 a List.mem_cons_self)).2
  intro l h
  exact key l _ h ok.1
theorem put_size {L : Logs} {h m b : Nat} (hb : ∀ x, x ∈ L → x.length ≤ b) : ∀ x, x ∈ put L h m → x.length ≤ b + 1 := by
  intro x hx
  unfold put at hx
  rcases List.mem_or_eq_of_mem_set hx with z | z
  · have := hb x z
    omega
  · rw [z, List.length_append, List.getD_eq_getElem?_getD]
    cases e : L[h]? with
    | none => simp
    | some y =>
      have := hb y (List.mem_of_getElem? e)
      simp
      omega
theorem laid_size (k : Nat) (R : Rows) (l : List Nat) : ∀ x, x ∈ (laid k R l).1 → x.length ≤ l.length := by
  have key : ∀ (l : List Nat) (s : Logs × Nat) (b : Nat), (∀ x, x ∈ s.1 → x.length ≤ b) → ∀ x, x ∈ (l.foldl (deed R) s).1 → x.length ≤ b + l.length := by
    intro l
    induction l with
    | nil => intro s b h; exact h
    | cons a l ih =>
      intro s b h x hx
      rw [List.foldl_cons] at hx
      have := ih (deed R s a) (b + 1) (put_size h) x hx
      rw [List.length_cons]
      omega
  intro x hx
  have := key l (List.replicate k [], 0) 0 (fun y hy => by rw [(List.mem_replicate.mp hy).2]; exact Nat.le_refl _) x hx
  omega
end Lg
set_option Elab.async false
set_option maxRecDepth 100000
set_option maxHeartbeats 2000000
namespace Lg
open PySem PySem.Spec PyProof.Rows L2
/-- the logs as they are being filled -/
structure LogsAt (H : Hp) (qs : List Addr) (L : Logs) : Prop where
  len : qs.length = L.length
  nd : qs.Nodup
  at_ : ∀ (i : Nat) (q : Addr) (l : List Nat), qs[i]? = some q → L[i]? = some l → H q = some (.lst (marksV l))
theorem nodup_at {α : Type} {l : List α} (h : l.Nodup) {i j : Nat} {x : α} (a : l[i]? = some x) (b : l[j]? = some x) : i = j := by
  obtain ⟨h1, e1⟩ := List.getElem?_eq_some_iff.mp a
  obtain ⟨h2, e2⟩ := List.getElem?_eq_some_iff.mp b
  exact (List.getElem_inj h).mp (e1.trans e2.symm)
theorem marksV_snoc (l : List Nat) (m : Nat) : marksV (l ++ [m]) = marksV l ++ [nV m] := by
  unfold marksV
  rw [List.map_append]
  rfl
theorem LogsAt.put {H : Hp} {qs : List Addr} {L : Logs} {h m : Nat} {q : Addr} {l : List Nat} (a : LogsAt H qs L) (hq : qs[h]? = some q) (hl : L[h]? = some l) : LogsAt (upd H q (.lst (marksV l ++ [nV m]))) qs (put L h m) := by
  refine ⟨by rw [put_len]; exact a.len, a.nd, fun i q' l' h1 h2 => ?_⟩
  have hlt : h < L.length := (List.getElem?_eq_some_iff.mp hl).1
  unfold Lg.put at h2
  have eg : L.getD h [] = l := by
    rw [List.getD_eq_getElem?_getD, hl]
    rfl
  by_cases hi : i = h
  · subst hi
    rw [hq] at h1
    cases h1
    rw [List.getElem?_set_self hlt, eg] at h2
    cases h2
    rw [upd_same, marksV_snoc]
  · rw [List.getElem?_set_ne (Ne.symm hi)] at h2
    have nq : q' ≠ q := fun z => hi (nodup_at a.nd h1 (z ▸ hq))
    rw [upd_ne nq]
    exact a.at_ i q' l' h1 h2
theorem LogsAt.same {H H' : Hp} {qs : List Addr} {L : Logs} (a : LogsAt H qs L) (s : Same H H') : LogsAt H' qs L := ⟨a.len, a.nd, fun i q l h1 h2 => s _ _ (a.at_ i q l h1 h2)⟩
theorem LogsAt.off {H : Hp} {qs : List Addr} {L : Logs} {D : Addr} {o : HO} (a : LogsAt H qs L) (n : D ∉ qs) : LogsAt (upd H D o) qs L := ⟨a.len, a.nd, fun i q l h1 h2 => by
  have z : q ≠ D := fun z => n (z ▸ List.mem_of_getElem? h1)
  rw [upd_ne z]
  exact a.at_ i q l h1 h2⟩
/-- a new empty log -/
theorem LogsAt.more {H : Hp} {qs : List Addr} {L : Logs} {q : Addr} (a : LogsAt H qs L) (n : H q = none) : LogsAt (upd H q (.lst [])) (qs ++ [q]) (L ++ [[]]) := by
  have nq : q ∉ qs := fun hm => by
    obtain ⟨i, hi⟩ := List.getElem?_of_mem hm
    have hlt : i < L.length := by
      have := (List.getElem?_eq_some_iff.mp hi).1
      rw [a.len] at this
      exact this
    have z := a.at_ i q _ hi (List.getElem?_eq_getElem hlt)
    rw [n] at z
    cases z
  refine ⟨by rw [List.length_append, List.length_append, a.len]; rfl, ?_, fun i q' l' h1 h2 => ?_⟩
  · rw [List.nodup_append]
    exact ⟨a.nd, by simp, fun x hx y hy => by rw [List.mem_singleton.mp hy]; exact fun z => nq (z ▸ hx)⟩
  · by_cases hi : i < qs.length
    · rw [List.getElem?_append_left hi] at h1
      rw [List.getElem?_append_left (by rw [← a.len]; exact hi)] at h2
      have z : q' ≠ q := fun z => nq (z ▸ List.mem_of_getElem? h1)
      rw [upd_ne z]
      exact a.at_ i q' l' h1 h2
    · have e1 := List.getElem?_eq_some_iff.mp h1
      have e : i = qs.length := by
        have := e1.1
        simp at this
        omega
      subst e
      rw [List.getElem?_append_right (Nat.le_refl _), Nat.sub_self] at h1
      rw [List.getElem?_append_right (by rw [a.len]; exact Nat.le_refl _), a.len, Nat.sub_self] at h2
      cases h1
      cases h2
      rw [upd_same]
      rfl
section
variable {P : Program} {w : World} {K : PySem.W.Frag} {mg : Str → Option Value} {base : Heap}
/-! ### marker_logs -/
def pairD (L : Logs) (s : Nat) : PyData := .tuple [logsD L, .int (s : Int)]
def spLogs (K : PySem.W.Frag) (CH CM : Addr) : Sp := fun vs H Q _ => ∃ (a : Addr) (x : V) (ms l : List Nat) (R : Rows), vs = [.ref a, x] ∧ MarkerAt K CH CM H a ms R ∧ MarksOk ms ∧ RowsOk ms R ∧ StoryV K H x l ∧ l.length ≤ 10000 ∧ (∀ n, n ∈ l → n < ms.length) ∧
  ∀ H' t, Same H H' → Dp K H' (.ref t) (pairD (laid ms.length R l).1 (laid ms.length R l).2) → Q (.ref t) H'
abbrev DStory (P : Program) (w : World) (K : PySem.W.Frag) (mg : Str → Option Value) (base : Heap) (CH : Addr) : Prop := Fd P w K mg base "check_story" 4 ["hands", "value"] (spStory K CH)
theorem ok_logs {CH CM : Addr} (F : FunAt K mg "marker_logs" (top 27) ["marker", "story"]) (T : Txt K mg) (HC : Flds K CH fsH) (MC : Flds K CM fsM) (DT : DStory P w K mg base CH) : Fd P w K mg base "marker_logs" 5 ["marker", "story"] (spLogs K CH CM) := by
  have sc : FnScope ["marker", "story", "told", "logs", "standing", "hand", "mark", "_", "log"] ["marker", "story"] (defScope (top 27)) := ⟨rfl, rfl, rfl, by decide +kernel, rfl, by decide +kernel, by decide +kernel⟩
  refine Fd.mk' F fun f fd F => F.ok sc (fun vs H Q E h => ?_) (fun cdv A outer s H vs Q E hr h => ?_)
  · obtain ⟨a, x, ms, l, R, rfl, _⟩ := h
    rfl
  · obtain ⟨a, x, ms, l, R, rfl, hM, mok, rok, hV, hl, hn, k⟩ := h
    refine ⟨_, pss_cons (ps_set (i := 2) sc.nd rfl (.inl rfl) (pf DT hr (pa_cons (pe_fld (pv 0) rfl) (pa_cons (pv 1) pa_nil))))
      (pss_cons (ps_setLc (i := 3) (own := [("_", 7)]) (g := gName 7) (tt := tYes) (te := tLst tNil) rfl sc.nd rfl rfl (sw_true rfl rfl rfl (by decide +kernel)) (pi_tup (pe_fld (pe_fld (pv 0) rfl) rfl)) (blkFree (N := ["marker", "story", "told", "logs", "standing", "hand", "mark", "_", "log"]) (by decide +kernel))
          (fun _ _ _ _ _ => by exact pg_name (i := 7) sc.nd rfl (.inl rfl)) (fun _ _ _ _ _ => pts_nil) (fun _ _ _ _ _ => by exact pe_lst pa_nil))
      (pss_cons (ps_set (i := 4) sc.nd rfl (.inl rfl) pe_int)
      (pss_cons (ps_for PassesOwn.never rfl (pi_tup (pv 2)) (pg_name (i := 5) sc.nd rfl (.inl rfl))
        (pss_cons (ps_asg (pe_ix ix_tup (pe_ix ix_tup (pe_fld (pv 0) rfl) (pv 4) (fun _ _ => rfl)) (pv 5) (fun _ _ => rfl)) (pg_tup rfl (pgs_cons (pg_name (i := 6) sc.nd rfl (.inl rfl)) (pgs_cons (pg_name (i := 4) sc.nd rfl (.inl rfl)) pgs_nil))))
        (pss_one (ps_expr (pe_bm PySem.F.plainAttrs_list PySem.F.slot_list_append PySem.F.type_list_append mt_append (pe_ix ix_list (pv 3) (pv 5) (fun _ _ => rfl)) (pa_cons (pv 6) pa_nil))))))
      (pss_one (ps_ret (pe_tup (pa_cons (p_tup T.tuple (pa_cons
        (pe_lc (own := [("log", 8)]) (g := gName 8) (tt := tYes) (te := tCB (rTupS K) (tCons (tVar 8) tNil)) rfl sc.nd (pi_list (pv 3)) (blkFree (N := ["marker", "story", "told", "logs", "standing", "hand", "mark", "_", "log"]) (by decide +kernel))
          (fun _ _ _ _ _ => by exact pg_name (i := 8) sc.nd rfl (.inl rfl)) (fun _ _ _ _ _ => pts_nil) (fun _ _ _ _ _ => by exact p_tup T.tuple (pa_cons (pv 8) pa_nil))) pa_nil)) (pa_cons (pv 4) pa_nil)))))))), ?_⟩
    obtain ⟨dx, fs, h, r, b1, b2, b3, b4, b5⟩ := hM
    refine ⟨_, rfl, a, CM, dx, fs, _, rfl, b1, MC.cl, MC.n "hands", b2, _, rfl, h, x, ms, l, rfl, b3, hV, hl, hn, fun H1 t1 s1 ht1 => ?_⟩
    obtain ⟨dy, gs, t, c1, c2, c3, c4⟩ := b3.same s1
    have lm : (marksV ms).length = ms.length := List.length_map ..
    have m3 := mok.2.1
    refine ⟨_, rfl, a, CM, dx, fs, _, rfl, s1 _ _ b1, MC.cl, MC.n "hands", b2, h, CH, dy, gs, _, rfl, c1, HC.cl, HC.n "marks", c2, t, rfl, ⟨_, .inl (.inl c3)⟩, fun D hD => ?_⟩
    refine lc_tup (K := K) (a := t) (xs := marksV ms) (fun i H' => ∃ qs : List Addr, Same H1 H' ∧ H' D = some (.lst (qs.map V.ref)) ∧ D ∉ qs ∧ (∀ q, q ∈ qs → H1 q = none) ∧ LogsAt H' qs (List.replicate i []))
      ⟨[], same_up (Same.refl _) hD, upd_same, by simp, by simp, ⟨rfl, List.nodup_nil, by simp⟩⟩ (fun i H' _ h => by obtain ⟨_, s2, _⟩ := h; exact .inl (.inl (s2 _ _ c3))) ?_ ?_
    · rintro i y H2 hi ⟨qs, s2, hD2, nD, fr, LA⟩
      refine ⟨rfl, yes ?_⟩
      refine ⟨(by show 0 ≤ sizeLine; exact Nat.zero_le _), fun q nq => ?_⟩
      have nDq : D ≠ q := ne_of_none hD2 nq
      have hi3 : i < (marksV ms).length := (List.getElem?_eq_some_iff.mp hi).1
      have lq : qs.length = i := by rw [LA.len, List.length_replicate]
      refine ⟨_, (upd_ne nDq).trans hD2, ?_, qs ++ [q], same_own (same_up s2 nq) hD, ?_, ?_, ?_, ?_⟩
      · rw [List.length_map, lq]
        exact small5 (by omega)
      · rw [upd_same, List.map_append]
        rfl
      · simp only [List.mem_append, List.mem_singleton]
        rintro (z | z)
        · exact nD z
        · exact nDq z
      · intro q' hq'
        rcases List.mem_append.mp hq' with z | z
        · exact fr q' z
        · rw [List.mem_singleton.mp z]
          exact s2.free nq
      · have z := LA.more nq
        rw [rep_snoc] at z
        refine z.off ?_
        simp only [List.mem_append, List.mem_singleton]
        rintro (z | z)
        · exact nD z
        · exact nDq z
    · rintro H2 ⟨qs, s2, hD2, nD, fr, LA⟩
      rw [lm] at LA
      have s02 : Same H H2 := s1.trans s2
      refine ⟨_, rfl, t1, rfl, ⟨_, Same.seqT s2 ht1⟩, for_tup (K := K) (a := t1) (xs := marksV l)
        (fun i σ' H' => ∃ u v, σ' = [some (.ref a), some x, some (.ref t1), some (.ref D), some (nV (laid ms.length R (l.take i)).2), u, v, none, none] ∧ Same H1 H' ∧ H' D = some (.lst (qs.map V.ref)) ∧ LogsAt H' qs (laid ms.length R (l.take i)).1)
        ⟨none, none, rfl, s2, hD2, LA⟩ (fun i σ' H' _ h => by obtain ⟨_, _, _, s3, _⟩ := h; exact Same.seqT s3 ht1) ?_ ?_⟩
      · rintro i y σ' H3 hi ⟨u, v, rfl, s3, hD3, LA3⟩
        obtain ⟨n, hn1, rfl⟩ := map_at hi
        have hnk := hn n (List.mem_of_getElem? hn1)
        have hst := laid_st rok (l.take i) (fun z hz => hn z (List.mem_of_mem_take hz))
        obtain ⟨row, e1, e2, e3⟩ := row_at rok hst hnk
        have s03 : Same H H3 := s1.trans s3
        obtain ⟨r', rs, er, hr1, hrs⟩ := dp_tup (dp_same s03 b5)
        cases er
        obtain ⟨rv, g1, g2⟩ := dpAll_get hrs e1
        obtain ⟨p, ps, rfl, hp1, hps⟩ := dp_tup g2
        obtain ⟨mv, g3, g4⟩ := dpAll_get hps e2
        obtain ⟨c, rfl, hc⟩ := dp_move g4
        refine ⟨_, rfl, a, CM, dx, fs, _, rfl, s03 _ _ b1, MC.cl, MC.n "rows", b4, _, rfl, r, rs, _, _, rfl, rfl, hr1, atN g1, _, rfl, p, ps, _, _, rfl, rfl, hp1, atN g3, c, _, rfl, hc, rfl, _, _, rfl, _, _, rfl, rfl, ?_⟩
        have hlq : n < qs.length := by rw [LA3.len, laid_len]; exact hnk
        have hq : qs[n]? = some qs[n] := List.getElem?_eq_getElem hlq
        have hlL : n < (laid ms.length R (l.take i)).1.length := by rw [laid_len]; exact hnk
        have hL : (laid ms.length R (l.take i)).1[n]? = some ((laid ms.length R (l.take i)).1[n]) := List.getElem?_eq_getElem hlL
        have hqv : (qs.map V.ref)[n]? = some (.ref qs[n]) := by rw [List.getElem?_map, hq]; rfl
        have hqH := LA3.at_ n _ _ hq hL
        have hsz : ((laid ms.length R (l.take i)).1[n]).length ≤ 10000 := by
          have z := laid_size ms.length R (l.take i) _ (List.getElem_mem hlL)
          rw [List.length_take] at z
          omega
        have frq := fr _ (List.getElem_mem hlq)
        refine ⟨_, rfl, _, rfl, D, _, _, _, rfl, rfl, .inl (.inl hD3), atN hqv, .inl ⟨rfl, _, .inl (.inl hqH)⟩, _, rfl, _, _, _, rfl, rfl, hqH, ?_, ?_⟩
        · show (List.map _ _).length < _
          rw [List.length_map]
          exact small5 (by omega)
        · refine ⟨some (nV n), some (nV (markAt R (laid ms.length R (l.take i)).2 n).1), ?_, same_own s3 frq, ?_, ?_⟩
          · rw [takeS hn1, laid_snoc]
            rfl
          · have nDq : D ≠ qs[n] := fun z => nD (z ▸ List.getElem_mem hlq)
            rw [upd_ne nDq]
            exact hD3
          · rw [takeS hn1, laid_snoc]
            exact LA3.put hq hL
      · rintro σ' H3 ⟨u, v, rfl, s3, hD3, LA3⟩
        have ll : (marksV l).length = l.length := List.length_map ..
        rw [ll, List.take_length] at LA3
        have lqs : qs.length = (laid ms.length R l).1.length := LA3.len
        refine ⟨_, rfl, D, rfl, ⟨_, .inl (.inl hD3)⟩, fun D2 hD2 => ?_⟩
        refine lc_list (K := K) (a := D) (xs := qs.map V.ref) (fun j H' => Same H3 H' ∧ ∃ acc, H' D2 = some (.lst acc) ∧ DpAll K H' acc (((laid ms.length R l).1.take j).map storyD)) ⟨same_up (Same.refl _) hD2, [], upd_same, .nil⟩ (fun i H' _ h => .inl (.inl (h.1 _ _ hD3))) ?_ ?_
        · rintro j y H4 hj ⟨s4, acc, hD4, hacc⟩
          obtain ⟨q, hq, rfl⟩ := map_at hj
          have hjl : j < (laid ms.length R l).1.length := by
            have := (List.getElem?_eq_some_iff.mp hq).1
            omega
          have hL : (laid ms.length R l).1[j]? = some ((laid ms.length R l).1[j]) := List.getElem?_eq_getElem hjl
          refine ⟨rfl, yes ?_⟩
          refine ⟨_, rfl, q, _, rfl, .inl ⟨.inl (.inl (s4 _ _ (LA3.at_ j q _ hq hL))), fun t2 nt => ?_⟩⟩
          have nDt : D2 ≠ t2 := ne_of_none hD4 nt
          have t5 : SameT H4 (upd (upd H4 t2 (.tup (marksV ((laid ms.length R l).1[j])))) D2 (.lst (acc ++ [.ref t2]))) := (Same.toT (same_upd nt)).tr (sameT_lst ((upd_ne nDt).trans hD4))
          refine ⟨acc, (upd_ne nDt).trans hD4, ?_, same_own (same_up s4 nt) hD2, _, upd_same, ?_⟩
          · rw [dpAll_mapLen hacc, List.length_take]
            rw [laid_len] at hjl ⊢
            exact small5 (by omega)
          · rw [takeS hL, List.map_append]
            exact dpAll_snoc (dpAll_tt t5 (tupAll_map tt_story _) hacc) (.tup (.inl (.inl ((upd_ne nDt.symm).trans upd_same))) (dp_ints _))
        · rintro H4 ⟨s4, acc, hD4, hacc⟩
          rw [List.length_map, lqs, List.take_length] at hacc
          refine ⟨D2, acc, rfl, .inl ⟨.inl (.inl hD4), fun t2 nt => ?_⟩⟩
          refine ⟨_, rfl, (by show 2 ≤ sizeLine; decide), fun t3 nt3 => ?_⟩
          have s5 : Same H4 (upd (upd H4 t2 (.tup acc)) t3 (.tup [.ref t2, nV (laid ms.length R (l.take (marksV l).length)).2])) := same_up (same_upd nt) nt3
          rw [ll, List.take_length] at s5 ⊢
          refine k _ t3 (((s1.trans s3).trans s4).trans s5) (.tup (.inl (.inl upd_same)) (.cons (.tup (.inl (.inl ?_)) (dpAll_same s5 hacc)) (.cons (.int _) .nil)))
          rw [upd_ne (ne_of_none upd_same nt3), upd_same]
end
end Lg
set_option Elab.async false
set_option maxRecDepth 100000
set_option maxHeartbeats 2000000
namespace Lg
open PySem PySem.Spec PyProof.Rows L2
/-! ### tuples as data: +, slices -/
def cutL {α : Type} (xs : List α) (lo hi : Option Int) : List α := (xs.drop (HT.sIx xs.length 0 lo)).take (HT.sIx xs.length xs.length hi - HT.sIx xs.length 0 lo)
theorem cutL_to {α : Type} (xs : List α) (h : Nat) : cutL xs none (some (h : Int)) = xs.take h := by
  unfold cutL
  rw [HT.sIx_none, HT.sIx_nat, List.drop_zero, Nat.sub_zero]
  by_cases q : h ≤ xs.length
  · rw [Nat.min_eq_left q]
  · rw [Nat.min_eq_right (by omega), List.take_of_length_le (Nat.le_refl _), List.take_of_length_le (by omega)]
theorem cutL_from {α : Type} (xs : List α) (h : Nat) : cutL xs (some (h : Int)) none = xs.drop h := by
  unfold cutL
  rw [HT.sIx_none, HT.sIx_nat]
  by_cases q : h ≤ xs.length
  · rw [Nat.min_eq_left q]
    exact List.take_of_length_le (by rw [List.length_drop]; exact Nat.le_refl _)
  · rw [Nat.min_eq_right (by omega), List.drop_eq_nil_of_le (Nat.le_refl _), List.drop_eq_nil_of_le (by omega)]
    simp
theorem dpAll_take {K : PySem.W.Frag} {H : Hp} : ∀ {xs : List V} {ds : List PyData} (n : Nat), DpAll K H xs ds → DpAll K H (xs.take n) (ds.take n)
  | _, _, 0, _ => .nil
  | _, _, _ + 1, .nil => .nil
  | _, _, n + 1, .cons h t => .cons h (dpAll_take n t)
theorem dpAll_drop {K : PySem.W.Frag} {H : Hp} : ∀ {xs : List V} {ds : List PyData} (n : Nat), DpAll K H xs ds → DpAll K H (xs.drop n) (ds.drop n)
  | _, _, 0, h => h
  | _, _, _ + 1, .nil => .nil
  | _, _, n + 1, .cons _ t => dpAll_drop n t
theorem dpAll_cut {K : PySem.W.Frag} {H : Hp} {xs : List V} {ds : List PyData} (h : DpAll K H xs ds) (lo hi : Option Int) : DpAll K H (cutV xs lo hi) (cutL ds lo hi) := by
  unfold cutV cutL
  rw [dpAll_len h]
  exact dpAll_take _ (dpAll_drop _ h)
def rCatD (K : PySem.W.Frag) : R2 := fun x y H Q => ∃ ds es, Dp K H x (.tuple ds) ∧ Dp K H y (.tuple es) ∧ ds.length + es.length ≤ sizeLine ∧ ∀ H' z, Same H H' → Dp K H' z (.tuple (ds ++ es)) → Q z H'
def rSlD (K : PySem.W.Frag) : V → Option Int → Option Int → Hp → VK → Prop := fun x lo hi H Q => ∃ ds, Dp K H x (.tuple ds) ∧ ∀ H' z, Same H H' → Dp K H' z (.tuple (cutL ds lo hi)) → Q z H'
section
variable {X : Cx}
theorem op_catD : OpR X (binaryOp .Add) (rCatD X.K) := by
  intro pins s σ H x y v u Q I rx ry h
  obtain ⟨ds, es, hx, hy, hz, k⟩ := h
  obtain ⟨a, xs, rfl, ha, hxs⟩ := dp_tup hx
  obtain ⟨b, ys, rfl, hb, hys⟩ := dp_tup hy
  have lx := dpAll_len hxs
  have ly := dpAll_len hys
  refine op_catA pins s σ H _ _ v u Q I rx ry ⟨a, b, xs, ys, rfl, rfl, ha, hb, by omega, fun e => ?_, fun _ e => ?_, fun _ _ p np => ?_⟩
  · subst e
    cases hxs
    exact k H _ (Same.refl _) (.tup hb hys)
  · subst e
    cases hys
    rw [List.append_nil] at k
    exact k H _ (Same.refl _) (.tup ha hxs)
  · exact k _ _ (same_upd np) (.tup (.inl (.inl upd_same)) (dpAll_same (same_upd np) (dpAll_app hxs hys)))
theorem sl_tupD : SlR X (rSlD X.K) := by
  intro pins s σ H x v vl vu lo hi sl Q I rx hs pl pu h
  obtain ⟨ds, hx, k⟩ := h
  obtain ⟨a, xs, rfl, ha, hxs⟩ := dp_tup hx
  refine sl_tupA pins s σ H _ v vl vu lo hi sl Q I rx hs pl pu ⟨a, xs, rfl, ha, fun e => ?_, fun _ p np => ?_⟩
  · have z := dpAll_cut hxs lo hi
    have e2 : cutV xs lo hi = xs := by
      unfold cutV
      rw [e.1, e.2, List.drop_zero, Nat.sub_zero]
      exact List.take_of_length_le (Nat.le_refl _)
    rw [e2] at z
    exact k H _ (Same.refl _) (.tup ha z)
  · exact k _ _ (same_upd np) (.tup (.inl (.inl upd_same)) (dpAll_same (same_upd np) (dpAll_cut hxs lo hi)))
end
/-! ### longer_stories -/
def grow (k : Nat) (S : List (List Nat)) : List (List Nat) := S.flatMap fun s => (List.range k).map fun h => s ++ [h]
def itemD (k : Nat) (R : Rows) (s : List Nat) : PyData := .tuple [storyD s, logsD (laid k R s).1, .int ((laid k R s).2 : Int)]
theorem tt_pair2 {a b : PyData} (h1 : tupOnly a = true) (h2 : tupOnly b = true) : tupOnly (.tuple [a, b]) = true := by
  rw [tupOnly, tupAll, tupAll, tupAll, h1, h2]
  rfl
theorem tt_item (k : Nat) (R : Rows) (s : List Nat) : tupOnly (itemD k R s) = true := by
  unfold itemD
  rw [tupOnly, tupAll, tupAll, tupAll, tupAll, tt_story, tt_logs]
  rfl
theorem grow_snoc (k : Nat) (S : List (List Nat)) (s : List Nat) : grow k (S ++ [s]) = grow k S ++ (List.range k).map fun h => s ++ [h] := by
  unfold grow
  simp
theorem grow_len (k : Nat) (S : List (List Nat)) : (grow k S).length = S.length * k := by
  induction S with
  | nil => simp [grow]
  | cons s S ih =>
    have e : grow k (s :: S) = (List.range k).map (fun h => s ++ [h]) ++ grow k S := by simp [grow]
    rw [e, List.length_append, ih, List.length_map, List.length_range, List.length_cons, Nat.succ_mul]
    omega
theorem put_parts (L : Logs) (h m : Nat) (hh : h < L.length) : L.take h ++ [L.getD h [] ++ [m]] ++ L.drop (h + 1) = put L h m := by
  unfold put
  rw [List.set_eq_take_append_cons_drop, if_pos hh]
  simp
def spLong (K : PySem.W.Frag) (CH CM : Addr) : Sp := fun vs H Q _ => ∃ (a : Addr) (x : V) (ms : List Nat) (R : Rows) (S : List (List Nat)), vs = [.ref a, x] ∧ MarkerAt K CH CM H a ms R ∧ MarksOk ms ∧ RowsOk ms R ∧ Dp K H x (.list (S.map (itemD ms.length R))) ∧
  (∀ s, s ∈ S → s.length ≤ 10000 ∧ ∀ n, n ∈ s → n < ms.length) ∧ S.length * ms.length ≤ 20000 ∧ ∀ H' t, Same H H' → Dp K H' (.ref t) (.list ((grow ms.length S).map (itemD ms.length R))) → Q (.ref t) H'
section
variable {P : Program} {w : World} {K : PySem.W.Frag} {mg : Str → Option Value} {base : Heap}
theorem ok_long {CH CM : Addr} (F : FunAt K mg "longer_stories" (top 28) ["marker", "layer"]) (T : Txt K mg) (HC : Flds K CH fsH) (MC : Flds K CM fsM) : Fd P w K mg base "longer_stories" 1 ["marker", "layer"] (spLong K CH CM) := by
  have sc : FnScope ["marker", "layer", "found", "story", "logs", "standing", "hand", "mark", "after"] ["marker", "layer"] (defScope (top 28)) := ⟨rfl, rfl, rfl, by decide +kernel, rfl, by decide +kernel, by decide +kernel⟩
  refine Fd.mk' F fun f fd F => F.ok sc (fun vs H Q E h => ?_) (fun cdv A outer s H vs Q E hr h => ?_)
  · obtain ⟨a, x, ms, R, S, rfl, _⟩ := h
    rfl
  · obtain ⟨a, x, ms, R, S, rfl, hM, mok, rok, hx, hS, hsz, k⟩ := h
    refine ⟨_, pss_cons (ps_set (i := 2) sc.nd rfl (.inl rfl) (pe_lst pa_nil))
      (pss_cons (ps_for PassesOwn.never rfl (pi_list (pv 1)) (pg_tup rfl (pgs_cons (pg_name (i := 3) sc.nd rfl (.inl rfl)) (pgs_cons (pg_name (i := 4) sc.nd rfl (.inl rfl)) (pgs_cons (pg_name (i := 5) sc.nd rfl (.inl rfl)) pgs_nil))))
        (pss_one (ps_for PassesOwn.never rfl (pi_range1 (by rfl) T.range (pa_cons (pe_fld (pe_fld (pv 0) rfl) rfl) pa_nil)) (pg_name (i := 6) sc.nd rfl (.inl rfl))
          (pss_cons (ps_asg (pe_ix ix_tup (pe_ix ix_tup (pe_fld (pv 0) rfl) (pv 5) (fun _ _ => rfl)) (pv 6) (fun _ _ => rfl)) (pg_tup rfl (pgs_cons (pg_name (i := 7) sc.nd rfl (.inl rfl)) (pgs_cons (pg_name (i := 8) sc.nd rfl (.inl rfl)) pgs_nil))))
          (pss_one (ps_expr (pe_bm PySem.F.plainAttrs_list PySem.F.slot_list_append PySem.F.type_list_append mt_append (pv 2) (pa_cons (pe_tup (pa_cons (pe_op op_catD (pv 3) (pe_tup (pa_cons (pv 6) pa_nil)))
            (pa_cons (pe_op op_catD (pe_op op_catD (pe_slice sl_tupD (pv 4) po_none (po_some (pv 6))) (pe_tup (pa_cons (pe_op op_catD (pe_ix ix_tup (pv 4) (pv 6) (fun _ _ => rfl)) (pe_tup (pa_cons (pv 7) pa_nil))) pa_nil)))
              (pe_slice sl_tupD (pv 4) (po_some (pe_op op_add (pv 6) pe_int)) po_none)) (pa_cons (pv 8) pa_nil)))) pa_nil))))))))
      (pss_one (ps_ret (pv 2)))), ?_⟩
    obtain ⟨dx, fs, h, r, b1, b2, b3, b4, b5⟩ := hM
    obtain ⟨p, xs, rfl, hp, hxs⟩ := dp_lst hx
    have lx : xs.length = S.length := dpAll_mapLen hxs
    have m3 := mok.2.1
    refine ⟨(by show 0 ≤ sizeLine; exact Nat.zero_le _), fun D hD => ?_⟩
    refine ⟨_, rfl, p, rfl, ⟨_, (same_upd hD).seq hp⟩, for_list (K := K) (a := p) (xs := xs)
      (fun i σ' H' => ∃ u1 u2 u3 u4 u5 u6, σ' = [some (.ref a), some (.ref p), some (.ref D), u1, u2, u3, u4, u5, u6] ∧ Same H H' ∧ ∃ ys, H' D = some (.lst ys) ∧ DpAll K H' ys ((grow ms.length (S.take i)).map (itemD ms.length R)))
      ⟨_, _, _, _, _, _, rfl, same_upd hD, [], upd_same, .nil⟩ (fun i σ' H' _ h => by obtain ⟨_, _, _, _, _, _, _, s2, _⟩ := h; exact s2.seq hp) ?_ ?_⟩
    · rintro i y σ' H2 hi ⟨u1, u2, u3, u4, u5, u6, rfl, s2, ys, hD2, hys⟩
      obtain ⟨st, hst1, hdi⟩ := dpAll_map hxs hi
      obtain ⟨hlen, hnum⟩ := hS st (List.mem_of_getElem? hst1)
      obtain ⟨c0, vs0, rfl, hc0, hvs0⟩ := dp_tup (dp_same s2 hdi)
      cases hvs0 with | cons e1 hvs0 => ?_
      cases hvs0 with | cons e2 hvs0 => ?_
      cases hvs0 with | cons e3 hvs0 => ?_
      cases hvs0
      have e3' := dp_int e3
      subst e3'
      rename_i sv lv
      refine ⟨c0, _, rfl, hc0, rfl, _, _, rfl, _, _, rfl, _, _, rfl, rfl, ?_⟩
      obtain ⟨dy, gs, t, c1, c2, c3, c4⟩ := b3.same s2
      refine ⟨_, rfl, a, CM, dx, fs, _, rfl, s2 _ _ b1, MC.cl, MC.n "hands", b2, h, CH, dy, gs, _, rfl, c1, HC.cl, HC.n "many", c4, _, rfl, by omega, by omega, ?_⟩
      have hst := laid_st rok st hnum
      have hi2 : i < S.length := (List.getElem?_eq_some_iff.mp hst1).1
      rw [show ((ms.length : Nat) : Int).toNat = ms.length from rfl]
      refine for_range (n := ms.length) (fun j σ3 H3 => ∃ u4 u5 u6, σ3 = [some (.ref a), some (.ref p), some (.ref D), some sv, some lv, some (nV (laid ms.length R st).2), u4, u5, u6] ∧ Same H H3 ∧ SameT H2 H3 ∧
        ∃ zs, H3 D = some (.lst zs) ∧ DpAll K H3 zs ((grow ms.length (S.take i) ++ (List.range j).map fun h => st ++ [h]).map (itemD ms.length R))) ?_ ?_ ?_
      · exact ⟨_, _, _, rfl, s2, Same.toT (Same.refl H2), ys, hD2, by simpa using hys⟩
      · rintro j σ3 H3 hj ⟨v4, v5, v6, rfl, s3, t3, zs, hD3, hzs⟩
        rw [Int.zero_add]
        obtain ⟨row, q1, q2, q3⟩ := row_at rok hst hj
        obtain ⟨r', rs, er, hr1, hrs⟩ := dp_tup (dp_same s3 b5)
        cases er
        obtain ⟨rv, g1, g2⟩ := dpAll_get hrs q1
        obtain ⟨pr, ps, rfl, hp1, hps⟩ := dp_tup g2
        obtain ⟨mv, g3, g4⟩ := dpAll_get hps q2
        obtain ⟨c, rfl, hc⟩ := dp_move g4
        refine ⟨_, rfl, a, CM, dx, fs, _, rfl, s3 _ _ b1, MC.cl, MC.n "rows", b4, _, rfl, r, rs, _, _, rfl, rfl, hr1, atN g1, _, rfl, pr, ps, _, _, rfl, rfl, hp1, atN g3, c, _, rfl, hc, rfl, _, _, rfl, _, _, rfl, rfl, ?_⟩
        -- found.append((story + (hand,), ..))
        refine ⟨_, rfl, .inl ⟨rfl, _, .inl (.inl hD3)⟩, ?_⟩
        have f1 : Dp K H3 sv (storyD st) := dp_tt t3 (tt_story _) e1
        have f2 : Dp K H3 lv (logsD (laid ms.length R st).1) := dp_tt t3 (tt_logs _) e2
        refine ⟨_, rfl, _, rfl, (by show 1 ≤ sizeLine; decide), fun p1 n1 => ?_⟩
        refine ⟨_, _, dp_same (same_upd n1) f1, .tup (.inl (.inl upd_same)) (.cons (.int _) .nil), ?_, fun H4 z1 s4 d1 => ?_⟩
        · rw [List.length_map]
          exact Nat.le_of_lt (small5 (by show st.length + 1 ≤ 20000; omega))
        have s34 : Same H3 H4 := (same_upd n1).trans s4
        refine ⟨_, rfl, _, rfl, _, rfl, _, dp_same s34 f2, fun H5 z2 s5 d2 => ?_⟩
        have s35 := s34.trans s5
        obtain ⟨lp, ls, el, hl1, hls⟩ := dp_tup (dp_same s35 f2)
        subst el
        have hjl : j < (laid ms.length R st).1.length := by rw [laid_len]; exact hj
        have hL : (laid ms.length R st).1[j]? = some ((laid ms.length R st).1[j]) := List.getElem?_eq_getElem hjl
        have eL : (laid ms.length R st).1.getD j [] = (laid ms.length R st).1[j] := by
          rw [List.getD_eq_getElem?_getD, hL]
          rfl
        obtain ⟨jv, j1, j2⟩ := dpAll_get hls hL
        refine ⟨_, rfl, _, rfl, lp, ls, _, jv, rfl, rfl, hl1, atN j1, _, rfl, (by show 1 ≤ sizeLine; decide), fun p2 n2 => ?_⟩
        refine ⟨_, _, dp_same (same_upd n2) j2, .tup (.inl (.inl upd_same)) (.cons (.int _) .nil), ?_, fun H6 z3 s6 d3 => ?_⟩
        · rw [List.length_map]
          have z := laid_size ms.length R st _ (List.getElem_mem hjl)
          exact Nat.le_of_lt (small5 (by show ((laid ms.length R st).1[j]).length + 1 ≤ 20000; omega))
        refine ⟨(by show 1 ≤ sizeLine; decide), fun p3 n3 => ?_⟩
        have s56 : Same H5 H6 := (same_upd n2).trans s6
        refine ⟨_, _, dp_same (s56.trans (same_upd n3)) d2, .tup (.inl (.inl upd_same)) (.cons (dp_same (same_upd n3) d3) .nil), ?_, fun H7 z4 s7 d4 => ?_⟩
        · have z := List.length_take_le j ((laid ms.length R st).1.map storyD)
          rw [cutL_to]
          exact Nat.le_of_lt (small5 (by show (List.take j _).length + 1 ≤ 20000; omega))
        have s57 : Same H5 H7 := (s56.trans (same_upd n3)).trans s7
        refine ⟨_, rfl, _, rfl, _, _, rfl, rfl, _, rfl, _, dp_same s57 (.tup hl1 hls), fun H8 z5 s8 d5 => ?_⟩
        have e8 : ((j : Nat) : Int) + 1 = ((j + 1 : Nat) : Int) := by omega
        rw [e8, cutL_from] at d5
        rw [cutL_to] at d4
        refine ⟨_, _, dp_same s8 d4, d5, ?_, fun H9 z6 s9 d6 => ?_⟩
        · have z := List.length_take_le j ((laid ms.length R st).1.map storyD)
          rw [List.length_append, List.length_drop, List.length_map, laid_len]
          exact Nat.le_of_lt (small5 (by show (List.take j _).length + 1 + _ ≤ 20000; omega))
        have s59 : Same H5 H9 := (s57.trans s8).trans s9
        refine ⟨_, rfl, (by show 3 ≤ sizeLine; decide), fun t9 n9 => ?_⟩
        have s39 : Same H3 H9 := s35.trans s59
        have nDt : D ≠ t9 := ne_of_none (s39 _ _ hD3) n9
        have sX : Same H3 (upd H9 t9 (.tup [z1, z6, nV (markAt R (laid ms.length R st).2 j).2])) := s39.trans (same_upd n9)
        have tX : SameT H3 (upd (upd H9 t9 (.tup [z1, z6, nV (markAt R (laid ms.length R st).2 j).2])) D (.lst (zs ++ [.ref t9]))) := (Same.toT sX).tr (sameT_lst ((upd_ne nDt).trans (s39 _ _ hD3)))
        refine ⟨D, zs, _, rfl, rfl, (upd_ne nDt).trans (s39 _ _ hD3), ?_, ?_⟩
        · have hgl := grow_len ms.length (S.take i)
          rw [dpAll_mapLen hzs, List.length_append, List.length_map, List.length_range, hgl, List.length_take, Nat.min_eq_left (Nat.le_of_lt hi2)]
          have : (i + 1) * ms.length ≤ S.length * ms.length := Nat.mul_le_mul_right _ hi2
          rw [Nat.succ_mul] at this
          exact small5 (by omega)
        · refine ⟨_, _, _, rfl, ?_, t3.tr tX, _, upd_same, ?_⟩
          · exact same_own (s3.trans sX) hD
          · have er : (grow ms.length (S.take i) ++ (List.range (j + 1)).map fun h => st ++ [h]).map (itemD ms.length R) = (grow ms.length (S.take i) ++ (List.range j).map fun h => st ++ [h]).map (itemD ms.length R) ++ [itemD ms.length R (st ++ [j])] := by
              rw [List.range_succ]
              simp
            rw [er]
            refine dpAll_snoc (dpAll_tt tX (tupAll_map (tt_item _ _) _) hzs) (.tup (.inl (.inl ((upd_ne nDt.symm).trans upd_same))) (.cons ?_ (.cons ?_ (.cons ?_ .nil))))
            · have e1 : storyD (st ++ [j]) = .tuple (st.map (fun n : Nat => PyData.int (n : Int)) ++ [.int (j : Int)]) := by
                unfold storyD
                rw [List.map_append]
                rfl
              have tq : SameT H4 (upd (upd H9 t9 (.tup [z1, z6, nV (markAt R (laid ms.length R st).2 j).2])) D (.lst (zs ++ [.ref t9]))) := (Same.toT (s5.trans (s59.trans (same_upd n9)))).tr (sameT_lst ((upd_ne nDt).trans (s39 _ _ hD3)))
              refine dp_tt tq (tt_story _) ?_
              rw [e1]
              exact d1
            · have e1 : logsD (laid ms.length R (st ++ [j])).1 = .tuple (((laid ms.length R st).1.map storyD).take j ++ [.tuple (((laid ms.length R st).1[j]).map (fun n : Nat => PyData.int (n : Int)) ++ [.int ((markAt R (laid ms.length R st).2 j).1 : Int)])] ++ ((laid ms.length R st).1.map storyD).drop (j + 1)) := by
                rw [laid_snoc]
                show logsD (put _ _ _) = _
                rw [← put_parts _ _ _ hjl, eL]
                unfold logsD
                simp [storyD]
              have tq : SameT H9 (upd (upd H9 t9 (.tup [z1, z6, nV (markAt R (laid ms.length R st).2 j).2])) D (.lst (zs ++ [.ref t9]))) := (Same.toT (same_upd n9)).tr (sameT_lst ((upd_ne nDt).trans (s39 _ _ hD3)))
              refine dp_tt tq (tt_logs _) ?_
              rw [e1]
              exact d6
            · rw [laid_snoc]
              exact .int _
      · rintro σ3 H3 ⟨v4, v5, v6, rfl, s3, t3, zs, hD3, hzs⟩
        refine ⟨_, _, _, _, _, _, rfl, s3, zs, hD3, ?_⟩
        rw [takeS hst1, grow_snoc]
        exact hzs
    · rintro σ' H2 ⟨u1, u2, u3, u4, u5, u6, rfl, s2, ys, hD2, hys⟩
      rw [lx, List.take_length] at hys
      exact ⟨_, rfl, k _ D s2 (.lst (.inl (.inl hD2)) hys)⟩
end
end Lg
set_option Elab.async false
set_option maxRecDepth 100000
namespace Lg
open PySem PySem.Spec PyProof.Rows L2
open PySem.W (alike alikeAll AlikeAll minD dataLt)
/-! ### stories that leave the same -/
abbrev Story := List Nat
section
variable {κ : Type} [DecidableEq κ]
def alStep (key : Story → κ) (st : List (κ × Story) × List (Story × Story)) (s : Story) : List (κ × Story) × List (Story × Story) :=
  match st.1.find? (fun x => decide (x.1 = key s)) with
  | some x => (st.1, st.2 ++ [(x.2, s)])
  | none => (st.1 ++ [(key s, s)], st.2)
def alGo (key : Story → κ) (S : List Story) : List (κ × Story) × List (Story × Story) := S.foldl (alStep key) ([], [])
def alikes (key : Story → κ) (S : List Story) : List (Story × Story) := (alGo key S).2
theorem alGo_snoc (key : Story → κ) (S : List Story) (s : Story) : alGo key (S ++ [s]) = alStep key (alGo key S) s := by
  unfold alGo
  rw [List.foldl_append]
  rfl
theorem alStep_len (key : Story → κ) (st : List (κ × Story) × List (Story × Story)) (s : Story) : (alStep key st s).1.length + (alStep key st s).2.length = st.1.length + st.2.length + 1 := by
  unfold alStep
  split
  · rw [List.length_append]
    show st.1.length + (st.2.length + 1) = _
    omega
  · rw [List.length_append]
    show st.1.length + 1 + st.2.length = _
    omega
theorem alGo_len (key : Story → κ) (S : List Story) : (alGo key S).1.length + (alGo key S).2.length = S.length := by
  have h : ∀ (S : List Story) (st : List (κ × Story) × List (Story × Story)), (S.foldl (alStep key) st).1.length + (S.foldl (alStep key) st).2.length = st.1.length + st.2.length + S.length := by
    intro S
    induction S with
    | nil => intro st; rfl
    | cons s S ih =>
      intro st
      rw [List.foldl_cons, ih, alStep_len, List.length_cons]
      omega
  have z := h S ([], [])
  unfold alGo
  simpa using z
end
def pairOf (p : Story × Story) : PyData := .tuple [storyD p.1, storyD p.2]
theorem tt_pairOf (p : Story × Story) : tupOnly (pairOf p) = true := by
  unfold pairOf
  rw [tupOnly, tupAll, tupAll, tupAll, tt_story, tt_story]
  rfl
def bestD : List (Story × Story) → PyData
  | [] => .none
  | p :: r => minD (pairOf p) (r.map pairOf)
theorem alike_nums : ∀ l m : List Nat, alikeAll (l.map fun n : Nat => PyData.int (n : Int)) (m.map fun n : Nat => PyData.int (n : Int)) = true
  | [], m => by
    cases m <;> rfl
  | a :: l, [] => rfl
  | a :: l, b :: m => by
    show (true && alikeAll _ _) = true
    rw [Bool.true_and]
    exact alike_nums l m
theorem alike_story (l m : List Nat) : alike (storyD l) (storyD m) = true := alike_nums l m
theorem alike_pair (p q : Story × Story) : alike (pairOf p) (pairOf q) = true := by
  show (alike (storyD p.1) (storyD q.1) && (alike (storyD p.2) (storyD q.2) && true)) = true
  rw [alike_story, alike_story]
  rfl
theorem alike_pairs (ps : List (Story × Story)) : AlikeAll (ps.map pairOf) := by
  refine ⟨fun x hx y hy => ?_, fun x hx => ?_⟩
  · obtain ⟨p, _, rfl⟩ := List.mem_map.mp hx
    obtain ⟨q, _, rfl⟩ := List.mem_map.mp hy
    exact alike_pair p q
  · obtain ⟨p, _, rfl⟩ := List.mem_map.mp hx
    exact fun z => by cases z
theorem deep_nums : ∀ l : List Nat, PyData.depthAll (l.map fun n : Nat => PyData.int (n : Int)) = 0
  | [] => rfl
  | a :: l => by
    show max 0 (PyData.depthAll _) = 0
    rw [deep_nums l]
    rfl
theorem deep_story (l : List Nat) : (storyD l).depth = 1 := by
  show PyData.depthAll _ + 1 = 1
  rw [deep_nums]
theorem deep_pair (p : Story × Story) : (pairOf p).depth = 2 := by
  show max (storyD p.1).depth (max (storyD p.2).depth 0) + 1 = 2
  rw [deep_story, deep_story]
  rfl
theorem deep_pairs : ∀ ps : List (Story × Story), PyData.depthAll (ps.map pairOf) ≤ 2
  | [] => Nat.zero_le _
  | p :: ps => by
    show max (pairOf p).depth (PyData.depthAll _) ≤ 2
    rw [deep_pair]
    have := deep_pairs ps
    omega
theorem best_mem {ps : List (Story × Story)} (h : ps ≠ []) : ∃ p, p ∈ ps ∧ bestD ps = pairOf p := by
  have key : ∀ (r : List (Story × Story)) (a : Story × Story), ∃ p, p ∈ a :: r ∧ minD (pairOf a) (r.map pairOf) = pairOf p := by
    intro r
    induction r with
    | nil => intro a; exact ⟨a, List.mem_cons_self, rfl⟩
    | cons b r ih =>
      intro a
      show ∃ p, p ∈ a :: b :: r ∧ List.foldl _ (if dataLt (pairOf b) (pairOf a) then pairOf b else pairOf a) (r.map pairOf) = pairOf p
      by_cases q : dataLt (pairOf b) (pairOf a) = true
      · rw [if_pos q]
        obtain ⟨p, h1, h2⟩ := ih b
        exact ⟨p, List.mem_cons_of_mem _ h1, h2⟩
      · rw [if_neg q]
        obtain ⟨p, h1, h2⟩ := ih a
        refine ⟨p, ?_, h2⟩
        rcases List.mem_cons.mp h1 with e | e
        · rw [e]
          exact List.mem_cons_self
        · exact List.mem_cons_of_mem _ (List.mem_cons_of_mem _ e)
  cases ps with
  | nil => exact absurd rfl h
  | cons a r => exact key r a
end Lg
set_option Elab.async false
set_option maxRecDepth 100000
set_option maxHeartbeats 2000000
namespace Lg
open PySem PySem.Spec PyProof.Rows L2
/-! ### first_alike -/
/-- what the dict's values tell -/
def DicRel (K : PySem.W.Frag) (H : Hp) : List (Logs × Addr × V) → List (Logs × Story) → Prop := Paired fun x y => x.1 = y.1 ∧ Dp K H x.2.2 (storyD y.2)
theorem DicRel.tt {K : PySem.W.Frag} {H H' : Hp} {xs : List (Logs × Addr × V)} {ys : List (Logs × Story)} (r : DicRel K H xs ys) (s : SameT H H') : DicRel K H' xs ys := Paired.mapP r fun _ _ h => ⟨h.1, dp_tt s (tt_story _) h.2⟩
theorem DicRel.snoc {K : PySem.W.Frag} {H : Hp} {xs : List (Logs × Addr × V)} {ys : List (Logs × Story)} {L : Logs} {b : Addr} {v : V} {s : Story} (r : DicRel K H xs ys) (h : Dp K H v (storyD s)) : DicRel K H (xs ++ [(L, b, v)]) (ys ++ [(L, s)]) := by
  unfold DicRel at r ⊢
  induction r with
  | nil => exact .cons ⟨rfl, h⟩ .nil
  | cons a _ ih => exact .cons a ih
theorem dic_look {K : PySem.W.Frag} {H : Hp} {L : Logs} {xs : List (Logs × Addr × V)} {ys : List (Logs × Story)} (r : DicRel K H xs ys) :
    (lookN xs L = none ∧ ys.find? (fun y => decide (y.1 = L)) = none) ∨ ∃ v y, lookN xs L = some v ∧ ys.find? (fun y => decide (y.1 = L)) = some y ∧ Dp K H v (storyD y.2) := by
  unfold DicRel at r
  induction r with
  | nil => exact .inl ⟨rfl, rfl⟩
  | @cons x y _ _ a _ ih =>
    unfold lookN at ih ⊢
    by_cases e : y.1 = L
    · refine .inr ⟨x.2.2, y, ?_, ?_, a.2⟩
      · rw [List.find?_cons_of_pos (by simpa using a.1.trans e)]
        rfl
      · rw [List.find?_cons_of_pos (by simpa using e)]
    · rw [List.find?_cons_of_neg (by simpa [a.1] using e), List.find?_cons_of_neg (by simpa using e)]
      exact ih
theorem dn_tt {X : Cx} {H H' : Hp} {d : Addr} {xs : List (Logs × Addr × V)} (n : DN X H d xs) (s : SameT H H') (e : H' d = H d) : DN X H' d xs := ⟨e.trans n.at_, fun x hx => dp_tt s (tt_logs _) (n.key x hx), n.nd⟩
theorem dn_tag {X : Cx} {H : Hp} {d : Addr} {xs : List (Logs × Addr × V)} {o : HO} (n : DN X H d xs) : SameT H (upd H d o) := sameT_upd n.at_ (fun _ z => by unfold dnO at z; cases z) (fun _ _ z => by unfold dnO at z; cases z)
def rMinD' (K : PySem.W.Frag) : List V → Hp → VK → Prop := rMinD K
section
variable {X : Cx} {e : Expr} {es : List Expr} {t : TA} {p pos : Pos}
theorem p_minD (hc : X.calm = true) (hu : X.A.units + 64 < cLine) (hm : X.mg "min" = none) (ha : PA X (e :: es) t) (hg : Gl X "min" := by rfl) (he : starEach (e :: es) X.env = (false, eval e X.env) :: starEach es X.env := by rfl) (hpl : (backTo pos (starEach es X.env)).any (·.1) = false := by rfl) :
    PE X (.Call (.Name "min" p) (e :: es) [] pos) (tCB (rMinD X.K) t) := pe_callB (cr_minD hc hu) hg hm (by decide +kernel) ha (by decide) (by decide) he hpl
end
section
variable {P : Program} {w : World} {K : PySem.W.Frag} {mg : Str → Option Value} {base : Heap}
def spAlike (K : PySem.W.Frag) : Sp := fun vs H Q _ => ∃ (x : V) (k : Nat) (R : Rows) (S : List Story), vs = [x] ∧ Dp K H x (.list (S.map (itemD k R))) ∧ S.length ≤ 20000 ∧
  ∀ H' z, Same H H' → Dp K H' z (bestD (alikes (fun s => (laid k R s).1) S)) → Q z H'
theorem ok_alike (F : FunAt K mg "first_alike" (top 29) ["layer"]) (T : Txt K mg) : Fd P w K mg base "first_alike" 1 ["layer"] (spAlike K) := by
  have sc : FnScope ["layer", "firsts", "found", "story", "logs", "standing"] ["layer"] (defScope (top 29)) := ⟨rfl, rfl, rfl, by decide +kernel, rfl, by decide +kernel, by decide +kernel⟩
  refine Fd.mk' F fun f fd F => F.ok sc (fun vs H Q E h => ?_) (fun cdv A outer s H vs Q E hr h => ?_)
  · obtain ⟨x, k, R, S, rfl, _⟩ := h
    rfl
  · obtain ⟨x, k, R, S, rfl, hx, hsz, q⟩ := h
    refine ⟨_, pss_cons (ps_set (i := 1) sc.nd rfl (.inl rfl) pe_dnewN)
      (pss_cons (ps_set (i := 2) sc.nd rfl (.inl rfl) (pe_lst pa_nil))
      (pss_cons (ps_for PassesOwn.never rfl (pi_list (pv 0)) (pg_tup rfl (pgs_cons (pg_name (i := 3) sc.nd rfl (.inl rfl)) (pgs_cons (pg_name (i := 4) sc.nd rfl (.inl rfl)) (pgs_cons (pg_name (i := 5) sc.nd rfl (.inl rfl)) pgs_nil))))
        (pss_one (ps_if (pt_cmp (pc_dinN hr.units (pv 4) (pv 1)))
          (pss_one (ps_expr (pe_bm PySem.F.plainAttrs_list PySem.F.slot_list_append PySem.F.type_list_append mt_append (pv 2) (pa_cons (pe_tup (pa_cons (pe_dgetN hr.units (pv 1) (pv 4) (fun _ _ => rfl)) (pa_cons (pv 3) pa_nil))) pa_nil))))
          (pss_one (ps_dputN hr.units (pv 1) (pv 4) (pv 3) rfl)))))
      (pss_one (ps_ret (pe_ifExp (pt_cmpR op_gt (p_len T.len (pa_cons (pv 2) pa_nil)) pe_int (nomark _)) (p_minD rfl hr.units T.min (pa_cons (pv 2) pa_nil)) pe_non))))), ?_⟩
    obtain ⟨p, vs, rfl, hp, hvs⟩ := dp_lst hx
    have lx : vs.length = S.length := dpAll_mapLen hvs
    refine fun d nd => ⟨(by show 0 ≤ sizeLine; exact Nat.zero_le _), fun D hD => ?_⟩
    have hd0 : H d = none := nd
    have hD0 : H D = none := (same_upd nd).free hD
    have nDd : d ≠ D := ne_of_none upd_same hD
    refine ⟨_, rfl, p, rfl, ⟨_, (same_up (same_upd nd) hD).seq hp⟩, for_list (K := K) (a := p) (xs := vs)
      (fun i σ' H' => ∃ u3 u4 u5 xs ys, σ' = [some (.ref p), some (.ref d), some (.ref D), u3, u4, u5] ∧ Same H H' ∧
        DN (cxOf CX0 P w K mg base ["layer", "firsts", "found", "story", "logs", "standing"] "first_alike" (defScope (top 29)) f cdv A outer s H E).nox H' d xs ∧
        DicRel K H' xs (alGo (fun s => (laid k R s).1) (S.take i)).1 ∧ H' D = some (.lst ys) ∧ DpAll K H' ys ((alGo (fun s => (laid k R s).1) (S.take i)).2.map pairOf))
      ⟨_, _, _, [], [], rfl, same_up (same_upd nd) hD, ⟨(upd_ne nDd).trans upd_same, fun _ h => absurd h (by simp), List.nodup_nil⟩, .nil, upd_same, .nil⟩ (fun i σ' H' _ h => by obtain ⟨_, _, _, _, _, _, s2, _⟩ := h; exact s2.seq hp) ?_ ?_⟩
    · rintro i y σ' H2 hi ⟨u3, u4, u5, xs, ys, rfl, s2, N, DR, hF, hys⟩
      obtain ⟨st, hst1, hdi⟩ := dpAll_map hvs hi
      have hi2 : i < S.length := (List.getElem?_eq_some_iff.mp hst1).1
      obtain ⟨c0, vs0, rfl, hc0, hvs0⟩ := dp_tup (dp_same s2 hdi)
      cases hvs0 with | cons e1 hvs0 => ?_
      cases hvs0 with | cons e2 hvs0 => ?_
      cases hvs0 with | cons e3 hvs0 => ?_
      cases hvs0
      rename_i sv lv stv
      obtain ⟨lp, ls, rfl, hl1, hls⟩ := dp_tup e2
      have e2' : Dp K H2 (.ref lp) (logsD (laid k R st).1) := e2
      have hlen := alGo_len (fun s => (laid k R s).1) (S.take i)
      rw [List.length_take, Nat.min_eq_left (Nat.le_of_lt hi2)] at hlen
      refine ⟨c0, _, rfl, hc0, rfl, _, _, rfl, _, _, rfl, _, _, rfl, rfl, ?_⟩
      have hgo : alGo (fun s => (laid k R s).1) (S.take (i + 1)) = alStep (fun s => (laid k R s).1) (alGo (fun s => (laid k R s).1) (S.take i)) st := by
        rw [takeS hst1, alGo_snoc]
      refine ⟨_, rfl, _, rfl, d, lp, _, xs, rfl, rfl, e2', N, _, rfl, ?_⟩
      rcases dic_look (L := (laid k R st).1) DR with ⟨l1, l2⟩ | ⟨v, yy, l1, l2, dv⟩
      · rw [l1]
        refine iteF ?_
        have hgo2 : alStep (fun s => (laid k R s).1) (alGo (fun s => (laid k R s).1) (S.take i)) st = ((alGo (fun s => (laid k R s).1) (S.take i)).1 ++ [((laid k R st).1, st)], (alGo (fun s => (laid k R s).1) (S.take i)).2) := by
          unfold alStep
          rw [l2]
        refine ⟨_, rfl, _, rfl, _, rfl, d, lp, _, xs, rfl, rfl, e2', N, l1, ?_, ?_⟩
        · have z : xs.length = _ := Paired.length DR
          rw [z]
          exact small5 (by omega)
        · have tt := dn_tag (o := dnO P w d (xs ++ [((laid k R st).1, lp, sv)])) N
          refine ⟨_, _, _, _, ys, rfl, same_own s2 hd0, N.put e2' l1 (fun x M h => dp_tt tt (tt_logs M) h), ?_, ?_, ?_⟩
          · rw [hgo, hgo2]
            exact (DR.tt tt).snoc (dp_tt tt (tt_story _) e1)
          · rw [upd_ne nDd.symm]
            exact hF
          · rw [hgo, hgo2]
            exact dpAll_tt tt (tupAll_map tt_pairOf _) hys
      · rw [l1]
        refine iteT ?_
        have hgo2 : alStep (fun s => (laid k R s).1) (alGo (fun s => (laid k R s).1) (S.take i)) st = ((alGo (fun s => (laid k R s).1) (S.take i)).1, (alGo (fun s => (laid k R s).1) (S.take i)).2 ++ [(yy.2, st)]) := by
          unfold alStep
          rw [l2]
        refine ⟨_, rfl, .inl ⟨rfl, _, .inl (.inl hF)⟩, _, rfl, _, rfl, d, lp, _, xs, v, rfl, rfl, e2', N, l1, _, rfl, (by show 2 ≤ sizeLine; decide), fun t nt => ?_⟩
        have nDt : D ≠ t := ne_of_none hF nt
        have ndt : d ≠ t := ne_of_none N.at_ nt
        have tX : SameT H2 (upd (upd H2 t (.tup [v, sv])) D (.lst (ys ++ [.ref t]))) := (Same.toT (same_upd nt)).tr (sameT_lst ((upd_ne nDt).trans hF))
        refine ⟨D, ys, _, rfl, rfl, (upd_ne nDt).trans hF, ?_, ?_⟩
        · rw [dpAll_mapLen hys]
          exact small5 (by omega)
        · refine ⟨_, _, _, xs, _, rfl, same_own (same_up s2 nt) hD0, dn_tt N tX ?_, ?_, upd_same, ?_⟩
          · rw [upd_ne nDd, upd_ne ndt]
          · rw [hgo, hgo2]
            exact DR.tt tX
          · rw [hgo, hgo2, List.map_append]
            exact dpAll_snoc (dpAll_tt tX (tupAll_map tt_pairOf _) hys) (.tup (.inl (.inl ((upd_ne nDt.symm).trans upd_same))) (.cons (dp_tt tX (tt_story _) dv) (.cons (dp_tt tX (tt_story _) e1) .nil)))
    · rintro σ' H2 ⟨u3, u4, u5, xs, ys, rfl, s2, N, DR, hF, hys⟩
      rw [lx, List.take_length] at hys
      refine ⟨_, rfl, D, ys, rfl, .inl (.inl (.inl hF)), _, _, rfl, rfl, _, rfl, ?_⟩
      have ly : ys.length = (alikes (fun s => (laid k R s).1) S).length := dpAll_mapLen hys
      have hys2 : DpAll K H2 ys ((alikes (fun s => (laid k R s).1) S).map pairOf) := hys
      cases e : alikes (fun s => (laid k R s).1) S with
      | nil =>
        rw [e] at ly
        refine iteN (by rw [ly]; simp) ?_
        refine q _ _ s2 ?_
        rw [e]
        exact .non
      | cons a r =>
        rw [e] at ly hys2
        refine iteD (by rw [ly]; simp) ?_
        have ha := alike_pairs (a :: r)
        have hd := deep_pairs (a :: r)
        refine ⟨_, rfl, D, ys, pairOf a, r.map pairOf, rfl, .inl (.inl hF), hys2, ha, by simpa using Nat.le_trans hd (by omega), fun z _ hz => q _ _ s2 ?_⟩
        rw [e]
        exact hz
end
end Lg
set_option Elab.async false
set_option maxRecDepth 100000
namespace Lg
open PySem PySem.Spec PyProof.Rows L2
/-! ### all stories, layer by layer -/
def layerS (k : Nat) : Nat → List Story
  | 0 => [[]]
  | n + 1 => grow k (layerS k n)
def sumTo (k : Nat) : Nat → Nat
  | 0 => 1
  | n + 1 => sumTo k n + (layerS k (n + 1)).length
def keyL (k : Nat) (R : Rows) : Story → Logs := fun s => (laid k R s).1
theorem mem_grow {k : Nat} {S : List Story} {s : Story} : s ∈ grow k S ↔ ∃ t h, t ∈ S ∧ h < k ∧ s = t ++ [h] := by
  unfold grow
  rw [List.mem_flatMap]
  constructor
  · rintro ⟨t, ht, h2⟩
    obtain ⟨h, hh, e⟩ := List.mem_map.mp h2
    exact ⟨t, h, ht, List.mem_range.mp hh, e.symm⟩
  · rintro ⟨t, h, ht, hh, rfl⟩
    exact ⟨t, ht, List.mem_map.mpr ⟨h, List.mem_range.mpr hh, rfl⟩⟩
theorem mem_layer {k : Nat} : ∀ {n : Nat} {s : Story}, s ∈ layerS k n ↔ s.length = n ∧ ∀ x, x ∈ s → x < k
  | 0, s => by
    show s ∈ [[]] ↔ _
    rw [List.mem_singleton]
    constructor
    · rintro rfl
      exact ⟨rfl, fun x h => absurd h (by simp)⟩
    · rintro ⟨h, _⟩
      exact List.length_eq_zero_iff.mp h
  | n + 1, s => by
    show s ∈ grow k (layerS k n) ↔ _
    rw [mem_grow]
    constructor
    · rintro ⟨t, h, ht, hh, rfl⟩
      obtain ⟨h1, h2⟩ := mem_layer.mp ht
      refine ⟨by rw [List.length_append, h1]; rfl, fun x hx => ?_⟩
      rcases List.mem_append.mp hx with hx | hx
      · exact h2 x hx
      · rw [List.mem_singleton.mp hx]
        exact hh
    · rintro ⟨h1, h2⟩
      have hne : s ≠ [] := fun z => by
        rw [z] at h1
        cases h1
      have e := (List.dropLast_concat_getLast hne).symm
      refine ⟨s.dropLast, s.getLast hne, mem_layer.mpr ⟨by rw [List.length_dropLast, h1]; rfl, fun x hx => h2 x (by rw [e]; exact List.mem_append_left _ hx)⟩, h2 _ (List.getLast_mem hne), e⟩
theorem layer_len {k : Nat} (hk : k ≤ 3) : ∀ n, (layerS k n).length ≤ 3 ^ n
  | 0 => Nat.le_refl _
  | n + 1 => by
    show (grow k (layerS k n)).length ≤ _
    rw [grow_len, Nat.pow_succ]
    exact Nat.mul_le_mul (layer_len hk n) hk
theorem layer_small {k n : Nat} (hk : k ≤ 3) (hn : n ≤ 6) : (layerS k n).length ≤ 729 :=
  Nat.le_trans (layer_len hk n) (Nat.le_trans (Nat.pow_le_pow_right (by decide) hn) (by decide))
theorem sum_small {k : Nat} (hk : k ≤ 3) : ∀ n, n ≤ 6 → sumTo k n ≤ 1 + 729 * n
  | 0, _ => Nat.le_refl _
  | n + 1, h => by
    have a := sum_small hk n (by omega)
    have b := layer_small (n := n + 1) hk h
    show sumTo k n + (layerS k (n + 1)).length ≤ _
    omega
/-- what is told of these pairs -/
def toldD (ps : List (Story × Story)) : PyData :=
  match bestD ps with
  | .tuple ds => .tuple (.str "stories" :: ds)
  | _ => .none
theorem told_of {ps : List (Story × Story)} {p : Story × Story} (h : bestD ps = pairOf p) : toldD ps = .tuple [.str "stories", storyD p.1, storyD p.2] := by
  unfold toldD
  rw [h]
  rfl
theorem told_nil : toldD [] = .none := rfl
/-- the search: none where it is too great -/
def twoGo (k : Nat) (R : Rows) (most : Int) : Nat → Nat → Option PyData
  | 0, _ => some .none
  | r + 1, i => if most < (sumTo k i : Int) + ((layerS k i).length : Int) * (k : Int) then none else
    if alikes (keyL k R) (layerS k (i + 1)) = [] then twoGo k R most r (i + 1) else some (toldD (alikes (keyL k R) (layerS k (i + 1))))
def two (k : Nat) (R : Rows) (most : Int) (len : Nat) : Option PyData := twoGo k R most len 0
end Lg
set_option Elab.async false
set_option maxRecDepth 100000
set_option maxHeartbeats 2000000
namespace Lg
open PySem PySem.Spec PyProof.Rows L2
theorem flat_rep (k : Nat) (x : V) : (List.replicate k [x]).flatten = List.replicate k x := by
  induction k with
  | zero => rfl
  | succ k ih => rw [List.replicate_succ, List.flatten_cons, ih, List.replicate_succ]; rfl
theorem dpAll_rep {K : PySem.W.Frag} {H : Hp} {x : V} {d : PyData} (h : Dp K H x d) : ∀ k, DpAll K H (List.replicate k x) (List.replicate k d)
  | 0 => .nil
  | k + 1 => .cons h (dpAll_rep h k)
theorem item0 (k : Nat) (R : Rows) : itemD k R [] = .tuple [.tuple [], .tuple (List.replicate k (.tuple [])), .int 0] := by
  unfold itemD logsD storyD laid
  simp [storyD]
theorem twoGo_step {k : Nat} {R : Rows} {most : Int} {r i : Nat} (h : ¬ most < (sumTo k i : Int) + ((layerS k i).length : Int) * (k : Int)) :
    twoGo k R most (r + 1) i = if alikes (keyL k R) (layerS k (i + 1)) = [] then twoGo k R most r (i + 1) else some (toldD (alikes (keyL k R) (layerS k (i + 1)))) := by
  rw [twoGo, if_neg h]
section
variable {P : Program} {w : World} {K : PySem.W.Frag} {mg : Str → Option Value} {base : Heap}
/-! ### two_stories -/
def spTwo (K : PySem.W.Frag) (CH CM CR CT : Addr) : Sp := fun vs H Q E => ∃ (a : Addr) (x : V) (d : PyData) (ms : List Nat) (R : Rows) (most : Int), vs = [.ref a, x, .int most] ∧ MarkerAt K CH CM H a ms R ∧ MarksOk ms ∧ RowsOk ms R ∧ Dp K H x d ∧
  ((withinD 0 400 d = false ∧ ∀ dd, H dd = none → E (.ref CR) (some dd) (upd H dd (.xd [("at", x)]))) ∨
   ∃ n : Nat, d = .int (n : Int) ∧ n ≤ 6 ∧ (two ms.length R most n = none → ∀ H' dd, Same H H' → H' dd = none → E (.ref CT) (some dd) (upd H' dd (.xd [("most", .int most)]))) ∧
     ∀ D, two ms.length R most n = some D → ∀ H' z, Same H H' → Dp K H' z D → Q z H')
abbrev DLong (P : Program) (w : World) (K : PySem.W.Frag) (mg : Str → Option Value) (base : Heap) (CH CM : Addr) : Prop := Fd P w K mg base "longer_stories" 1 ["marker", "layer"] (spLong K CH CM)
abbrev DAlike (P : Program) (w : World) (K : PySem.W.Frag) (mg : Str → Option Value) (base : Heap) : Prop := Fd P w K mg base "first_alike" 1 ["layer"] (spAlike K)
theorem ok_two {CH CM CR fR CT fT : Addr} {f : Addr} {fd : FuncData} (F : FunD K "two_stories" "two_stories" (defArgs (top 30)) (defBody (top 30)) (defScope (top 30)) [] [("most", .int 20000)] f fd) (T : Txt K mg) (HC : Flds K CH fsH) (MC : Flds K CM fsM)
    (ER : ErrTxt P K mg "Refused" "at" CR fR) (ET : ErrTxt P K mg "TooGreat" "most" CT fT) (DW : DWithin P w K mg base) (DL : DLong P w K mg base CH CM) (DA : DAlike P w K mg base) :
    FnOk P w K mg base (L2.CX P w) 3 f fd ["marker", "length", "most"] (spTwo K CH CM CR CT) := by
  have sc : FnScope ["marker", "length", "most", "layer", "many", "turn", "found"] ["marker", "length", "most"] (defScope (top 30)) := ⟨rfl, rfl, rfl, by decide +kernel, rfl, by decide +kernel, by decide +kernel⟩
  refine F.ok sc (fun vs H Q E h => ?_) (fun cdv A outer s H vs Q E hr h => ?_)
  · obtain ⟨a, x, d, ms, R, most, rfl, _⟩ := h
    rfl
  · obtain ⟨a, x, d, ms, R, most, rfl, hM, mok, rok, hx, h⟩ := h
    refine ⟨_, (pss_cons (ps_if (pt_not (pt_val (pf DW hr (pa_cons (pv 1) (pa_cons pe_int (pa_cons pe_int pa_nil)))))) (pss_one (ps_raiseErr rfl ER hr (takes_of rfl rfl rfl rfl) (pa_cons (pv 1) pa_nil) (by rfl) (by decide))) pss_nil)
        (pss_cons (ps_set (i := 3) sc.nd rfl (.inl rfl) (pe_lst (pa_cons (pe_tup (pa_cons (pe_tup pa_nil) (pa_cons (pe_op op_repT (pe_tup (pa_cons (pe_tup pa_nil) pa_nil)) (pe_fld (pe_fld (pv 0) rfl) rfl)) (pa_cons pe_int pa_nil)))) pa_nil)))
        (pss_cons (ps_set (i := 4) sc.nd rfl (.inl rfl) pe_int)
        (pss_cons (ps_for (passes_of rfl) rfl (pi_range1 (by rfl) T.range (pa_cons (pv 1) pa_nil)) (pg_name (i := 5) sc.nd rfl (.inl rfl)) (pss_cons (ps_if (pt_cmpR op_gt (pe_op op_add (pv 4) (pe_op op_mul (p_len T.len (pa_cons (pv 3) pa_nil)) (pe_fld (pe_fld (pv 0) rfl) rfl))) (pv 2) (nomark _)) (pss_one (ps_raiseErr rfl ET hr (takes_of rfl rfl rfl rfl) (pa_cons (pv 2) pa_nil) (by rfl) (by decide))) pss_nil)
        (pss_cons (ps_set (i := 3) sc.nd rfl (.inl rfl) (pf DL (hr.mono (by decide)) (pa_cons (pv 0) (pa_cons (pv 3) pa_nil))))
        (pss_cons (ps_aug (i := 4) sc.nd rfl (.inl rfl) (p_len T.len (pa_cons (pv 3) pa_nil)) ip_add)
        (pss_cons (ps_set (i := 6) sc.nd rfl (.inl rfl) (pf DA (hr.mono (by decide)) (pa_cons (pv 3) pa_nil)))
        (pss_one (ps_if (pt_cmp (pc_notN (pv 6))) (pss_one (ps_ret (pe_tup (pa_cons (pe_cstS T.stories) (pa_cons (pe_ix ix_tup (pv 6) pe_int (fun _ _ => rfl)) (pa_cons (pe_ix ix_tup (pv 6) pe_int (fun _ _ => rfl)) pa_nil)))))) pss_nil)))))))
        (pss_one (ps_ret pe_non)))))), ?_⟩
    obtain ⟨dx, fs, hh, r, b1, b2, b3, b4, b5⟩ := id hM
    have m2 := mok.1
    have m3 := mok.2.1
    refine ⟨_, rfl, x, d, 0, 400, rfl, hx, _, rfl, ?_⟩
    rcases h with ⟨hw, kR⟩ | ⟨n, rfl, hn6, kT, kQ⟩
    · refine iteE (c := true) (by rw [hw]; rfl) (iteT ?_)
      exact ⟨_, rfl, _, rfl, fun dd nd => kR dd nd⟩
    · have ex := dp_int hx
      subst ex
      refine iteE (c := false) (by simp [withinD]; omega) (iteF ?_)
      refine ⟨(by show 0 ≤ sizeLine; exact Nat.zero_le _), fun e1 n1 => ⟨(by show 0 ≤ sizeLine; exact Nat.zero_le _), fun e2 n2 => ⟨(by show 1 ≤ sizeLine; decide), fun e3 n3 => ?_⟩⟩⟩
      have s1 : Same H (upd (upd (upd H e1 (.tup [])) e2 (.tup [])) e3 (.tup [.ref e2])) := same_up (same_up (same_upd n1) n2) n3
      obtain ⟨dy, gs, t, c1, c2, c3, c4⟩ := b3.same s1
      refine ⟨_, rfl, a, CM, dx, fs, _, rfl, s1 _ _ b1, MC.cl, MC.n "hands", b2, hh, CH, dy, gs, _, rfl, c1, HC.cl, HC.n "many", c4, e3, _, [.ref e2], rfl, rfl, .inl (.inl upd_same), by simp, by omega, by omega, by simp, fun e4 n4 => ?_⟩
      refine ⟨(by show 3 ≤ sizeLine; decide), fun e5 n5 => ⟨(by show 1 ≤ sizeLine; decide), fun e6 n6 => ?_⟩⟩
      have e12 : e1 ≠ e2 := ne_of_none upd_same n2
      have sA : Same (upd (upd H e1 (.tup [])) e2 (.tup [])) (upd (upd (upd (upd (upd (upd H e1 (.tup [])) e2 (.tup [])) e3 (.tup [.ref e2])) e4 (.tup (List.replicate ((ms.length : Nat) : Int).toNat [V.ref e2]).flatten)) e5 (.tup [.ref e1, .ref e4, .int 0])) e6 (.lst [.ref e5])) :=
        same_up (same_up (same_up (same_upd n3) n4) n5) n6
      have q1 := sA e1 (.tup []) ((upd_ne e12).trans upd_same)
      have q2 := sA e2 (.tup []) upd_same
      have q4 := same_up (o := .lst [.ref e5]) (same_upd (o := .tup [.ref e1, .ref e4, .int 0]) n5) n6 e4 _ upd_same
      have q5 := same_upd (o := .lst [.ref e5]) n6 e5 _ upd_same
      have s6 : Same H (upd (upd (upd (upd (upd (upd H e1 (.tup [])) e2 (.tup [])) e3 (.tup [.ref e2])) e4 (.tup (List.replicate ((ms.length : Nat) : Int).toNat [V.ref e2]).flatten)) e5 (.tup [.ref e1, .ref e4, .int 0])) e6 (.lst [.ref e5])) := (same_up (same_upd n1) n2).trans sA
      have layer0 : Dp K (upd (upd (upd (upd (upd (upd H e1 (.tup [])) e2 (.tup [])) e3 (.tup [.ref e2])) e4 (.tup (List.replicate ((ms.length : Nat) : Int).toNat [V.ref e2]).flatten)) e5 (.tup [.ref e1, .ref e4, .int 0])) e6 (.lst [.ref e5])) (.ref e6) (.list ((layerS ms.length 0).map (itemD ms.length R))) := by
        show Dp K (upd (upd (upd (upd (upd (upd H e1 (.tup [])) e2 (.tup [])) e3 (.tup [.ref e2])) e4 (.tup (List.replicate ((ms.length : Nat) : Int).toNat [V.ref e2]).flatten)) e5 (.tup [.ref e1, .ref e4, .int 0])) e6 (.lst [.ref e5])) (.ref e6) (.list [itemD ms.length R []])
        rw [item0]
        refine .lst (.inl (.inl upd_same)) (.cons (.tup (.inl (.inl q5)) (.cons (.tup (.inl (.inl q1)) .nil) (.cons (.tup (.inl (.inl q4)) ?_) (.cons (.int 0) .nil)))) .nil)
        have z := dpAll_rep (K := K) (.tup (.inl (.inl q2)) .nil) ms.length
        rw [← flat_rep ms.length (.ref e2)] at z
        exact z
      refine ⟨_, rfl, _, rfl, by omega, by omega, ?_⟩
      rw [show ((n : Nat) : Int).toNat = n from rfl]
      refine for_range (n := n) (fun i σ' H' => ∃ lv u5 u6, σ' = [some (.ref a), some (.int (n : Int)), some (.int most), some lv, some (nV (sumTo ms.length i)), u5, u6] ∧ Same H H' ∧ Dp K H' lv (.list ((layerS ms.length i).map (itemD ms.length R))) ∧
        i ≤ n ∧ twoGo ms.length R most (n - i) i = two ms.length R most n) ⟨_, none, none, rfl, s6, layer0, Nat.zero_le _, rfl⟩ ?_ ?_
      · rintro i σ' H2 hi ⟨lv, u5, u6, rfl, s2, hl, _, htw⟩
        obtain ⟨lp, ls, rfl, hl1, hls⟩ := dp_lst hl
        have ll : ls.length = (layerS ms.length i).length := dpAll_mapLen hls
        have lsz := layer_small (n := i) m3 (by omega)
        have ssz := sum_small m3 i (by omega)
        obtain ⟨dy2, gs2, t2, c12, c22, c32, c42⟩ := b3.same s2
        refine ⟨_, rfl, _, rfl, lp, _, rfl, .inl hl1, _, rfl, a, CM, dx, fs, _, rfl, s2 _ _ b1, MC.cl, MC.n "hands", b2, hh, CH, dy2, gs2, _, rfl, c12, HC.cl, HC.n "many", c42, _, _, rfl, rfl, .inl ⟨by omega, by omega⟩, _, _, rfl, rfl, _, rfl, _, _, rfl, rfl, _, rfl, ?_⟩
        rw [ll]
        obtain ⟨r', hr'⟩ : ∃ r', n - i = r' + 1 := ⟨n - i - 1, by omega⟩
        have hr2 : n - (i + 1) = r' := by omega
        rw [hr'] at htw
        by_cases hg : most < (sumTo ms.length i : Int) + ((layerS ms.length i).length : Int) * (ms.length : Int)
        · refine iteD hg ?_
          rw [twoGo, if_pos hg] at htw
          exact ⟨_, rfl, _, rfl, fun dd nd => kT htw.symm H2 dd s2 nd⟩
        · refine iteN hg ?_
          rw [twoGo_step hg] at htw
          refine ⟨_, rfl, _, rfl, a, _, ms, R, layerS ms.length i, rfl, hM.same s2, mok, rok, hl, fun s hs => ?_, ?_, fun H3 t3 s3 hl3 => ?_⟩
          · obtain ⟨z1, z2⟩ := mem_layer.mp hs
            exact ⟨by omega, z2⟩
          · have : (layerS ms.length i).length * ms.length ≤ 729 * 3 := Nat.mul_le_mul lsz m3
            omega
          · have hl3' : Dp K H3 (.ref t3) (.list ((layerS ms.length (i + 1)).map (itemD ms.length R))) := hl3
            obtain ⟨tp, ts, et, ht1, hts⟩ := dp_lst hl3'
            cases et
            have lt : ts.length = (layerS ms.length (i + 1)).length := dpAll_mapLen hts
            have lsz2 := layer_small (n := i + 1) m3 (by omega)
            refine ⟨_, rfl, _, rfl, t3, _, rfl, .inl ht1, _, _, rfl, rfl, ?_⟩
            refine ⟨_, rfl, _, ms.length, R, layerS ms.length (i + 1), rfl, hl3', by omega, fun H4 z s4 hz => ?_⟩
            refine ⟨_, rfl, _, rfl, ?_⟩
            have s24 := s2.trans (s3.trans s4)
            by_cases hne : alikes (keyL ms.length R) (layerS ms.length (i + 1)) = []
            · rw [if_pos hne] at htw
              have hz' : Dp K H4 z (bestD (alikes (keyL ms.length R) (layerS ms.length (i + 1)))) := hz
              rw [hne] at hz'
              have ez : z = .non := by
                cases hz'
                rfl
              subst ez
              refine iteF ⟨.ref t3, some (.int (i : Nat)), some .non, ?_, s24, dp_same s4 hl3', by omega, ?_⟩
              · show _ = _
                rw [lt]
                simp [sumTo]
              · rw [hr2]
                exact htw
            · rw [if_neg hne] at htw
              obtain ⟨pp, _, hpp⟩ := best_mem hne
              have hz' : Dp K H4 z (pairOf pp) := by
                rw [← hpp]
                exact hz
              obtain ⟨zp, zs, rfl, hz1, hzs⟩ := dp_tup hz'
              cases hzs with | cons f1 hzs => ?_
              cases hzs with | cons f2 hzs => ?_
              cases hzs
              refine iteT ?_
              refine ⟨_, rfl, zp, _, _, _, rfl, rfl, hz1, at0, _, rfl, zp, _, _, _, rfl, rfl, hz1, at1, (by show 3 ≤ sizeLine; decide), fun t9 n9 => ?_⟩
              refine kQ _ htw.symm _ _ (same_up s24 n9) ?_
              rw [told_of hpp]
              exact .tup (.inl (.inl upd_same)) (.cons (.str _) (.cons (dp_same (same_upd n9) f1) (.cons (dp_same (same_upd n9) f2) .nil)))
      · rintro σ' H2 ⟨lv, u5, u6, rfl, s2, hl, _, htw⟩
        rw [Nat.sub_self] at htw
        exact kQ _ htw.symm _ _ s2 .non
end
end Lg
set_option Elab.async false
set_option maxRecDepth 100000
namespace Lg
open PySem PySem.Spec PyProof.Rows L2
/-! ### data that may be a story -/
def itemsOf : PyData → List PyData
  | .list ds => ds
  | .tuple ds => ds
  | _ => []
def isStoryD (k : Nat) (d : PyData) : Bool := isSeqD d && (itemsOf d).all (belowD (k : Int))
def natOf : PyData → Nat
  | .int i => i.toNat
  | _ => 0
def natsOf (d : PyData) : List Nat := (itemsOf d).map natOf
theorem nats_ok {k : Nat} {d : PyData} (h : isStoryD k d = true) : ∀ n, n ∈ natsOf d → n < k := by
  intro n hn
  obtain ⟨e, he, rfl⟩ := List.mem_map.mp hn
  have z := List.all_eq_true.mp (Bool.and_eq_true_iff.mp h).2 e he
  cases e with
  | int i =>
    have z' : (decide (0 ≤ i) && decide (i < (k : Int))) = true := z
    rw [Bool.and_eq_true, decide_eq_true_eq, decide_eq_true_eq] at z'
    show i.toNat < k
    omega
  | _ => exact absurd (show false = true from z) Bool.false_ne_true
theorem items_ints {k : Nat} : ∀ {ds : List PyData}, ds.all (belowD (k : Int)) = true → ds = (ds.map natOf).map fun n : Nat => PyData.int (n : Int)
  | [], _ => rfl
  | d :: ds, h => by
    have h' : (belowD (k : Int) d && ds.all (belowD (k : Int))) = true := h
    obtain ⟨h1, h2⟩ := Bool.and_eq_true_iff.mp h'
    have e : d = PyData.int (natOf d : Int) := by
      cases d with
      | int i =>
        have z' : (decide (0 ≤ i) && decide (i < (k : Int))) = true := h1
        rw [Bool.and_eq_true, decide_eq_true_eq, decide_eq_true_eq] at z'
        show PyData.int i = PyData.int (i.toNat : Int)
        rw [Int.toNat_of_nonneg z'.1]
      | _ => exact absurd (show false = true from h1) Bool.false_ne_true
    rw [List.map_cons, List.map_cons, ← items_ints h2, ← e]
theorem dp_ints_inv {K : PySem.W.Frag} {H : Hp} : ∀ {l : List Nat} {xs : List V}, DpAll K H xs (l.map fun n : Nat => PyData.int (n : Int)) → xs = marksV l
  | [], _, .nil => rfl
  | n :: l, _, .cons h t => by
    rw [dp_int h, dp_ints_inv t]
    rfl
theorem story_of {K : PySem.W.Frag} {H : Hp} {x : V} {k : Nat} {d : PyData} (hx : Dp K H x d) (h : isStoryD k d = true) : StoryV K H x (natsOf d) := by
  have h2 := (Bool.and_eq_true_iff.mp h).2
  cases d with
  | list ds =>
    obtain ⟨a, xs, rfl, h3, h4⟩ := dp_lst hx
    have e : ds = _ := items_ints (ds := ds) h2
    rw [e] at h4
    rw [dp_ints_inv h4] at h3
    exact ⟨a, rfl, .inl h3⟩
  | tuple ds =>
    obtain ⟨a, xs, rfl, h3, h4⟩ := dp_tup hx
    have e : ds = _ := items_ints (ds := ds) h2
    rw [e] at h4
    rw [dp_ints_inv h4] at h3
    exact ⟨a, rfl, .inr h3⟩
  | _ => exact absurd (show false = true from (Bool.and_eq_true_iff.mp h).1) Bool.false_ne_true
/-! ### == -/
theorem eqv_nums : ∀ l m : List Nat, PyData.eqvAll (l.map fun n : Nat => PyData.int (n : Int)) (m.map fun n : Nat => PyData.int (n : Int)) = decide (l = m)
  | [], [] => rfl
  | [], _ :: _ => rfl
  | _ :: _, [] => rfl
  | a :: l, b :: m => by
    show ((a : Int) == (b : Int) && PyData.eqvAll _ _) = _
    rw [eqv_nums l m]
    by_cases e : a = b
    · subst e
      simp
    · have : ¬ (a : Int) = (b : Int) := by omega
      simp [e, this]
theorem eqv_story (l m : List Nat) : PyData.eqv (storyD l) (storyD m) = decide (l = m) := eqv_nums l m
theorem eqv_stories : ∀ L M : Logs, PyData.eqvAll (L.map storyD) (M.map storyD) = decide (L = M)
  | [], [] => rfl
  | [], _ :: _ => rfl
  | _ :: _, [] => rfl
  | a :: l, b :: m => by
    show (PyData.eqv (storyD a) (storyD b) && PyData.eqvAll _ _) = _
    rw [eqv_stories l m, eqv_story]
    by_cases e : a = b
    · subst e
      simp
    · simp [e]
theorem eqv_logs (L M : Logs) : PyData.eqv (logsD L) (logsD M) = decide (L = M) := eqv_stories L M
theorem lay_nums : ∀ l : List Nat, PyData.canLayAll0 (l.map fun n : Nat => PyData.int (n : Int)) = true
  | [] => rfl
  | a :: l => by
    show (true && PyData.canLayAll0 _) = true
    rw [lay_nums l]
    rfl
theorem lay_story (l : List Nat) : (storyD l).canLay0 = true := lay_nums l
theorem lay_stories : ∀ L : Logs, PyData.canLayAll0 (L.map storyD) = true
  | [] => rfl
  | a :: l => by
    show ((storyD a).canLay0 && PyData.canLayAll0 _) = true
    rw [lay_story, lay_stories l]
    rfl
theorem deep_stories : ∀ L : Logs, PyData.depthAll (L.map storyD) ≤ 1
  | [] => Nat.zero_le _
  | a :: l => by
    show max (storyD a).depth (PyData.depthAll _) ≤ 1
    rw [deep_story]
    have := deep_stories l
    omega
theorem shaped_story (l : List Nat) : SeqAt.shaped (storyD l) = true := by
  unfold SeqAt.shaped
  rw [lay_story, deep_story]
  rfl
theorem deep_logs (L : Logs) : (logsD L).depth ≤ 2 := by
  show PyData.depthAll (L.map storyD) + 1 ≤ 2
  have := deep_stories L
  omega
theorem shaped_logs (L : Logs) : SeqAt.shaped (logsD L) = true := by
  unfold SeqAt.shaped
  have : (logsD L).canLay0 = true := lay_stories L
  rw [this, Bool.true_and]
  exact decide_eq_true (Nat.le_trans (deep_logs L) (by decide))
/-! ### what stories_hold says -/
def storiesS : Str := "stories"
def isWord : PyData → Bool
  | .str x => decide (x = storiesS)
  | _ => false
def holds3 (k : Nat) (R : Rows) (a b c : PyData) : Bool := isWord a && (isStoryD k b && (isStoryD k c && (!decide (natsOf b = natsOf c) && decide ((laid k R (natsOf b)).1 = (laid k R (natsOf c)).1))))
def holdsD (k : Nat) (R : Rows) (d : PyData) : Bool := match itemsOf d with
  | [a, b, c] => isSeqD d && holds3 k R a b c
  | _ => false
end Lg
set_option Elab.async false
set_option maxRecDepth 100000
set_option maxHeartbeats 2000000
namespace Lg
open PySem PySem.Spec PyProof.Rows L2
theorem seq_of {K : PySem.W.Frag} {H : Hp} {x : V} {d : PyData} (hx : Dp K H x d) (h : isSeqD d = true) : ∃ p xs, x = .ref p ∧ (SqL K H p xs ∨ SqT K H p xs) ∧ DpAll K H xs (itemsOf d) := by
  cases d with
  | list ds =>
    obtain ⟨a, xs, rfl, h3, h4⟩ := dp_lst hx
    exact ⟨a, xs, rfl, .inl h3, h4⟩
  | tuple ds =>
    obtain ⟨a, xs, rfl, h3, h4⟩ := dp_tup hx
    exact ⟨a, xs, rfl, .inr h3, h4⟩
  | _ => exact absurd (show false = true from h) Bool.false_ne_true
theorem seq_same {K : PySem.W.Frag} {H H' : Hp} {p : Addr} {xs : List V} (s : Same H H') (h : SqL K H p xs ∨ SqT K H p xs) : SqL K H' p xs ∨ SqT K H' p xs := h.elim (fun h => .inl (s.seq h)) fun h => .inr (Same.seqT s h)
theorem ix_at {K : PySem.W.Frag} {H : Hp} {p : Addr} {xs : List V} {i : Int} {v : V} {Q : VK} (h : SqL K H p xs ∨ SqT K H p xs) (e : atI xs i = some v) (q : Q v H) : rIx K (.ref p) (.int i) H Q :=
  h.elim (fun h => .inl ⟨p, xs, i, v, rfl, rfl, h, e, q⟩) fun h => .inr (.inl ⟨p, xs, i, v, rfl, rfl, h, e, q⟩)
theorem nilGo {σ : L2.St} {H : Hp} {Q : List V → Hp → Prop} (h : Q [] H) : tNil σ H Q := h
theorem tup_story {K : PySem.W.Frag} {H : Hp} {x : V} {l : List Nat} {Q : VK} (h : StoryV K H x l) (q : ∀ H' t, Same H H' → SqT K H' t (marksV l) → Q (.ref t) H') : rTupS K [x] H Q := by
  obtain ⟨a, rfl, h | h⟩ := h
  · exact ⟨a, _, rfl, .inl ⟨h, fun l nl => q _ l (same_upd nl) (.inl (.inl upd_same))⟩⟩
  · exact ⟨a, _, rfl, .inr ⟨h, q H a (Same.refl _) h⟩⟩
theorem holds_not {k : Nat} {R : Rows} {d : PyData} (h : (itemsOf d).length ≠ 3) : holdsD k R d = false := by
  unfold holdsD
  split
  · rename_i e
    rw [e] at h
    exact absurd rfl h
  · rfl
theorem holds_seq {k : Nat} {R : Rows} {d : PyData} (h : isSeqD d = false) : holdsD k R d = false := by
  unfold holdsD
  split
  · rw [h]
    rfl
  · rfl
theorem len3 {α : Type} {l : List α} (h : l.length = 3) : ∃ a b c, l = [a, b, c] := by
  match l, h with
  | [a, b, c], _ => exact ⟨a, b, c, rfl⟩
section
variable {P : Program} {w : World} {K : PySem.W.Frag} {mg : Str → Option Value} {base : Heap}
/-! ### is_story -/
def spIsS (K : PySem.W.Frag) (CH CM : Addr) : Sp := fun vs H Q _ => ∃ (a : Addr) (x : V) (d : PyData) (ms : List Nat) (R : Rows), vs = [.ref a, x] ∧ MarkerAt K CH CM H a ms R ∧ Dp K H x d ∧ (itemsOf d).length ≤ 10000 ∧ ∀ H', Same H H' → Q (.bl (isStoryD ms.length d)) H'
theorem ok_isS {CH CM : Addr} (F : FunAt K mg "is_story" (top 31) ["marker", "value"]) (T : Txt K mg) (HC : Flds K CH fsH) (MC : Flds K CM fsM) (DB : DBelow P w K mg base) (DS : DSeq P w K mg base) : Fd P w K mg base "is_story" 4 ["marker", "value"] (spIsS K CH CM) := by
  have sc : FnScope ["marker", "value", "hand"] ["marker", "value"] (defScope (top 31)) := ⟨rfl, rfl, rfl, by decide +kernel, rfl, by decide +kernel, by decide +kernel⟩
  refine Fd.mk' F fun f fd F => F.ok sc (fun vs H Q E h => ?_) (fun cdv A outer s H vs Q E hr h => ?_)
  · obtain ⟨a, x, d, ms, R, rfl, _⟩ := h
    rfl
  · obtain ⟨a, x, d, ms, R, rfl, hM, hx, hl, k⟩ := h
    refine ⟨_, (pss_one (ps_ret (pe_and (pf DS (hr.mono (by decide)) (pa_cons (pv 1) pa_nil)) (pe_and (pe_cmpR op_le (p_len T.len (pa_cons (pv 1) pa_nil)) pe_int (nomark _)) (pe_one (pe_callB (cr_all rfl) (by rfl) T.all (by decide +kernel) (pa_cons (pe_lc (own := [("hand", 2)]) (g := gName 2) (tt := tYes) (te := tCall (fun vs H Q _ => ∃ (x : V) (d : PyData) (n : Int), vs = [x, .int n] ∧ Dp K H x d ∧ Q (.bl (belowD n d)) H) [] E0 (tCons (tVar 2) (tCons (tFld K (tFld K (tVar 0) "hands") "many") tNil))) rfl sc.nd (pi_or (pi_list (pv 1)) (pi_tup (pv 1))) (blkOk_by (N := ["marker", "value", "hand"]) (sc := defScope (top 31)) (by decide +kernel)) (fun _ _ _ _ _ => by exact pg_name (i := 2) sc.nd rfl (.inl rfl)) (fun _ _ _ _ _ => pts_nil) (fun _ _ _ _ _ => by exact (pf DB hr (pa_cons (pv 2) (pa_cons (pe_fld (pe_fld (pv 0) rfl) rfl) pa_nil))))) pa_nil))))))), ?_⟩
    refine ⟨_, rfl, x, d, rfl, hx, fun H1 s1 => ⟨_, rfl, ?_⟩⟩
    by_cases hsq : isSeqD d = true
    · refine iteE (c := true) hsq (iteT ?_)
      obtain ⟨p, xs, rfl, hp, hxs⟩ := seq_of (dp_same s1 hx) hsq
      have lx : xs.length = (itemsOf d).length := dpAll_len hxs
      refine ⟨_, rfl, p, xs, rfl, hp, _, _, rfl, rfl, _, rfl, iteD (by rw [lx]; omega) ?_⟩
      have fin : ∀ (D : Addr) (H2 : Hp), Same H1 H2 → H2 D = some (.lst (((itemsOf d).take xs.length).map fun e => V.bl (belowD (ms.length : Nat) e))) → rAll K [.ref D] H2 Q := by
        intro D H2 s2 hD2
        rw [lx, List.take_length] at hD2
        refine ⟨D, (itemsOf d).map (belowD (ms.length : Nat)), rfl, .inl (.inl ?_), ?_⟩
        · rw [hD2, List.map_map]
          rfl
        · have e : ((itemsOf d).map (belowD (ms.length : Nat))).all id = isStoryD ms.length d := by
            unfold isStoryD
            rw [hsq, Bool.true_and, List.all_map]
            rfl
          rw [e]
          exact k H2 (s1.trans s2)
      have turn : ∀ (i : Nat) (y : V) (D : Addr) (H2 : Hp), xs[i]? = some y → Same H1 H2 → H1 D = none → H2 D = some (.lst (((itemsOf d).take i).map fun e => V.bl (belowD (ms.length : Nat) e))) →
          tCall (fun vs H Q _ => ∃ (x : V) (d : PyData) (n : Int), vs = [x, .int n] ∧ Dp K H x d ∧ Q (.bl (belowD n d)) H) [] E0 (tCons (tVar 2) (tCons (tFld K (tFld K (tVar 0) "hands") "many") tNil)) [some (.ref a), some (.ref p), some y] H2
            fun z H4 => ∃ acc, H4 D = some (.lst acc) ∧ acc.length < sizeLine ∧ (Same H1 (upd H4 D (.lst (acc ++ [z]))) ∧ upd H4 D (.lst (acc ++ [z])) D = some (.lst (((itemsOf d).take (i + 1)).map fun e => V.bl (belowD (ms.length : Nat) e)))) := by
        intro i y D H2 hi s2 hD hD2
        obtain ⟨e, he, hye⟩ := dpAll_at hxs hi
        obtain ⟨dx, fs, h, r, b1, b2, b3, b4, b5⟩ := hM.same (s1.trans s2)
        obtain ⟨dy, gs, t, c1, c2, c3, c4⟩ := b3
        refine ⟨_, rfl, _, rfl, a, CM, dx, fs, _, rfl, b1, MC.cl, MC.n "hands", b2, h, CH, dy, gs, _, rfl, c1, HC.cl, HC.n "many", c4, y, e, _, rfl, dp_same s2 hye, _, hD2, ?_, same_own s2 hD, ?_⟩
        · rw [List.length_map, List.length_take]
          exact small5 (by omega)
        · rw [upd_same, takeS he, List.map_append]
          rfl
      rcases hp with hL | hT
      · refine .inl ⟨_, rfl, p, rfl, ⟨_, hL⟩, fun D hD => ?_⟩
        refine lc_list (K := K) (a := p) (xs := xs) (fun i H' => Same H1 H' ∧ H' D = some (.lst (((itemsOf d).take i).map fun e => V.bl (belowD (ms.length : Nat) e)))) ⟨same_up (Same.refl _) hD, upd_same⟩ (fun i H' _ h => h.1.seq hL) ?_ fun H2 h => fin D H2 h.1 h.2
        rintro i y H2 hi ⟨s2, hD2⟩
        exact ⟨rfl, yes (turn i y D H2 hi s2 hD hD2)⟩
      · refine .inr ⟨_, rfl, p, rfl, ⟨_, hT⟩, fun D hD => ?_⟩
        refine lc_tup (K := K) (a := p) (xs := xs) (fun i H' => Same H1 H' ∧ H' D = some (.lst (((itemsOf d).take i).map fun e => V.bl (belowD (ms.length : Nat) e)))) ⟨same_up (Same.refl _) hD, upd_same⟩ (fun i H' _ h => Same.seqT h.1 hT) ?_ fun H2 h => fin D H2 h.1 h.2
        rintro i y H2 hi ⟨s2, hD2⟩
        exact ⟨rfl, yes (turn i y D H2 hi s2 hD hD2)⟩
    · have e0 : isSeqD d = false := by simpa using hsq
      refine iteE (c := false) e0 (iteF ?_)
      have e : isStoryD ms.length d = false := by
        unfold isStoryD
        rw [e0]
        rfl
      have z := k H1 s1
      rw [e] at z
      exact z
/-! ### stories_hold -/
def spHold (K : PySem.W.Frag) (CH CM : Addr) : Sp := fun vs H Q _ => ∃ (a : Addr) (x : V) (d : PyData) (ms : List Nat) (R : Rows), vs = [.ref a, x] ∧ MarkerAt K CH CM H a ms R ∧ MarksOk ms ∧ RowsOk ms R ∧ Dp K H x d ∧ (∀ e, e ∈ itemsOf d → (itemsOf e).length ≤ 10000) ∧ ∀ H', Same H H' → Q (.bl (holdsD ms.length R d)) H'
abbrev DIsS (P : Program) (w : World) (K : PySem.W.Frag) (mg : Str → Option Value) (base : Heap) (CH CM : Addr) : Prop := Fd P w K mg base "is_story" 4 ["marker", "value"] (spIsS K CH CM)
abbrev DLogs (P : Program) (w : World) (K : PySem.W.Frag) (mg : Str → Option Value) (base : Heap) (CH CM : Addr) : Prop := Fd P w K mg base "marker_logs" 5 ["marker", "story"] (spLogs K CH CM)
theorem fn_hold {CH CM f : Addr} {fd : FuncData} (F : Fun K "stories_hold" "stories_hold" (top 32) f fd) (T : Txt K mg) (DS : DSeq P w K mg base) (DT : Fd P w K mg base "is_text" 1 ["value"] (spD K isTextD)) (DI : DIsS P w K mg base CH CM) (DM : DLogs P w K mg base CH CM) :
    FnOk P w K mg base CX0 6 f fd ["marker", "value"] (spHold K CH CM) := by
  have sc : FnScope ["marker", "value", "one", "other"] ["marker", "value"] (defScope (top 32)) := ⟨rfl, rfl, rfl, by decide +kernel, rfl, by decide +kernel, by decide +kernel⟩
  refine F.ok sc (fun vs H Q E h => ?_) (fun cdv A outer s H vs Q E hr h => ?_)
  · obtain ⟨a, x, d, ms, R, rfl, _⟩ := h
    rfl
  · obtain ⟨a, x, d, ms, R, rfl, hM, mok, rok, hx, hl, k⟩ := h
    refine ⟨_, (pss_cons (ps_if (pw_or (pt_not (pt_val (pf DS (hr.mono (by decide)) (pa_cons (pv 1) pa_nil)))) (pw_or (pt_cmpR op_ne (p_len T.len (pa_cons (pv 1) pa_nil)) pe_int (nomark _)) (pw_or (pt_not (pt_val (pf DT (hr.mono (by decide)) (pa_cons (pe_ix ix_seq (pv 1) pe_int (fun _ _ => rfl)) pa_nil)))) (pw_or1 (pt_cmpR op_ne (pe_ix ix_seq (pv 1) pe_int (fun _ _ => rfl)) (pe_cstS T.stories) (nomark _)))))).pt (pss_one (ps_ret pe_bl)) pss_nil)
        (pss_cons (ps_par (i := 2) (j := 3) rfl sc.nd rfl rfl (by decide) rfl rfl (pa_cons (pe_ix ix_seq (pv 1) pe_int (fun _ _ => rfl)) (pa_cons (pe_ix ix_seq (pv 1) pe_int (fun _ _ => rfl)) pa_nil)) rfl)
        (pss_cons (ps_if (pw_or (pt_not (pt_val (pf DI (hr.mono (by decide)) (pa_cons (pv 0) (pa_cons (pv 2) pa_nil))))) (pw_or (pt_not (pt_val (pf DI (hr.mono (by decide)) (pa_cons (pv 0) (pa_cons (pv 3) pa_nil))))) (pw_or1 (pt_cmpR (op_eqD hr.units) (p_tup T.tuple (pa_cons (pv 2) pa_nil)) (p_tup T.tuple (pa_cons (pv 3) pa_nil)) (nomark _))))).pt (pss_one (ps_ret pe_bl)) pss_nil)
        (pss_one (ps_ret (pe_cmpR (op_eqD hr.units) (pe_ix ix_tup (pf DM hr (pa_cons (pv 0) (pa_cons (pv 2) pa_nil))) pe_int (fun _ _ => rfl)) (pe_ix ix_tup (pf DM hr (pa_cons (pv 0) (pa_cons (pv 3) pa_nil))) pe_int (fun _ _ => rfl)) (nomark _))))))), ?_⟩
    refine ⟨_, rfl, x, d, rfl, hx, fun H1 s1 => ⟨_, rfl, ?_⟩⟩
    by_cases hsq : isSeqD d = true
    · refine iteE (c := false) (by rw [hsq]; rfl) (iteF ?_)
      obtain ⟨p, xs, rfl, hp, hxs⟩ := seq_of (dp_same s1 hx) hsq
      have lx : xs.length = (itemsOf d).length := dpAll_len hxs
      refine ⟨_, rfl, p, xs, rfl, hp, rfl, _, rfl, ?_⟩
      by_cases h3 : (itemsOf d).length = 3
      · refine iteE (c := false) (by rw [lx, h3]; rfl) (iteF ?_)
        obtain ⟨d0, d1, d2, ed⟩ := len3 h3
        have eh : holdsD ms.length R d = holds3 ms.length R d0 d1 d2 := by
          unfold holdsD
          rw [ed]
          show (isSeqD d && holds3 ms.length R d0 d1 d2) = _
          rw [hsq, Bool.true_and]
        rw [eh] at k
        rw [ed] at hxs hl
        cases hxs with | cons f0 hxs => ?_
        cases hxs with | cons f1 hxs => ?_
        cases hxs with | cons f2 hxs => ?_
        cases hxs
        have l1 := hl d1 (by simp)
        have l2 := hl d2 (by simp)
        refine ⟨_, rfl, ix_at hp at0 ⟨_, d0, rfl, f0, _, rfl, ?_⟩⟩
        cases hw : isTextD d0 with
        | false =>
          refine iteT (iteT ?_)
          have e : holds3 ms.length R d0 d1 d2 = false := by
            unfold holds3
            cases d0 <;> first | rfl | exact absurd hw (by simp [isTextD])
          have z := k H1 s1
          rw [e] at z
          exact z
        | true =>
          refine iteF ?_
          obtain ⟨y, rfl⟩ : ∃ y, d0 = .str y := by
            cases d0 <;> first | exact ⟨_, rfl⟩ | exact absurd hw (by simp [isTextD])
          cases f0
          refine ⟨_, rfl, ix_at hp at0 ⟨rfl, _, rfl, ?_⟩⟩
          by_cases hy : y = storiesS
          · refine iteE (c := false) (by rw [hy]; simp [storiesS]) (iteF ?_)
            have e0 : holds3 ms.length R (.str y) d1 d2 = (isStoryD ms.length d1 && (isStoryD ms.length d2 && (!decide (natsOf d1 = natsOf d2) && decide ((laid ms.length R (natsOf d1)).1 = (laid ms.length R (natsOf d2)).1)))) := by
              show (decide (y = storiesS) && _) = _
              rw [decide_eq_true hy, Bool.true_and]
            rw [e0] at k
            refine ⟨_, rfl, ix_at hp at1 ⟨_, rfl, ix_at hp at2 ⟨_, _, rfl, ?_⟩⟩⟩
            refine ⟨_, rfl, _, rfl, a, _, d1, ms, R, rfl, hM.same s1, f1, l1, fun H2 s2 => ⟨_, rfl, ?_⟩⟩
            cases g1 : isStoryD ms.length d1 with
            | false =>
              rw [g1] at k
              exact iteT (iteT (k H2 (s1.trans s2)))
            | true =>
              rw [g1, Bool.true_and] at k
              refine iteF ?_
              refine ⟨_, rfl, _, rfl, a, _, d2, ms, R, rfl, hM.same (s1.trans s2), dp_same s2 f2, l2, fun H3 s3 => ⟨_, rfl, ?_⟩⟩
              cases g2 : isStoryD ms.length d2 with
              | false =>
                rw [g2] at k
                exact iteT (iteT (k H3 (s1.trans (s2.trans s3))))
              | true =>
                rw [g2, Bool.true_and] at k
                refine iteF ?_
                have v1 := story_of (dp_same (s2.trans s3) f1) g1
                have v2 := story_of (dp_same (s2.trans s3) f2) g2
                refine ⟨_, rfl, nilGo (tup_story v1 fun H4 t4 s4 h4 => ⟨_, rfl, nilGo (tup_story (v2.same s4) fun H5 t5 s5 h5 => ?_)⟩)⟩
                refine ⟨storyD (natsOf d1), storyD (natsOf d2), .tup (Same.seqT s5 h4) (dp_ints _), .tup h5 (dp_ints _), shaped_story _, shaped_story _, _, rfl, ?_⟩
                rw [eqv_story]
                have s05 : Same H H5 := (s1.trans (s2.trans s3)).trans (s4.trans s5)
                by_cases hne : natsOf d1 = natsOf d2
                · rw [decide_eq_true hne] at k ⊢
                  exact iteT (k H5 s05)
                · rw [decide_eq_false hne] at k ⊢
                  refine iteF ?_
                  have ll1 : (natsOf d1).length ≤ 10000 := by
                    show (List.map _ _).length ≤ _
                    rw [List.length_map]
                    exact l1
                  have ll2 : (natsOf d2).length ≤ 10000 := by
                    show (List.map _ _).length ≤ _
                    rw [List.length_map]
                    exact l2
                  refine ⟨_, rfl, _, rfl, a, _, ms, natsOf d1, R, rfl, hM.same s05, mok, rok, v1.same (s4.trans s5), ll1, nats_ok g1, fun H6 t6 s6 h6 => ?_⟩
                  obtain ⟨q6, z6, e6, hq6, hz6⟩ := dp_tup h6
                  cases e6
                  cases hz6 with | cons m1 hz6 => ?_
                  refine ⟨t6, _, _, _, rfl, rfl, hq6, at0, ?_⟩
                  refine ⟨_, rfl, _, rfl, a, _, ms, natsOf d2, R, rfl, hM.same (s05.trans s6), mok, rok, v2.same ((s4.trans s5).trans s6), ll2, nats_ok g2, fun H7 t7 s7 h7 => ?_⟩
                  obtain ⟨q7, z7, e7, hq7, hz7⟩ := dp_tup h7
                  cases e7
                  cases hz7 with | cons m2 hz7 => ?_
                  refine ⟨t7, _, _, _, rfl, rfl, hq7, at0, ?_⟩
                  refine ⟨_, _, dp_same s7 m1, m2, shaped_logs _, shaped_logs _, ?_⟩
                  rw [eqv_logs]
                  exact k H7 (s05.trans (s6.trans s7))
          · refine iteE (c := true) (by show (!decide (V.str y = V.str storiesS)) = true; rw [decide_eq_false (fun z => hy (V.str.inj z))]; rfl) (iteT ?_)
            have e : holds3 ms.length R (.str y) d1 d2 = false := by
              show (decide (y = storiesS) && _) = _
              rw [decide_eq_false hy]
              rfl
            have z := k H1 s1
            rw [e] at z
            exact z
      · have hne : ¬ (V.int (xs.length : Nat) = V.int 3) := fun z => by
          have := V.int.inj z
          omega
        refine iteE (c := true) (by rw [decide_eq_false hne]; rfl) (iteT (iteT ?_))
        have z := k H1 s1
        rw [holds_not h3] at z
        exact z
    · have e0 : isSeqD d = false := by simpa using hsq
      refine iteE (c := true) (by rw [e0]; rfl) (iteT (iteT ?_))
      have z := k H1 s1
      rw [holds_seq e0] at z
      exact z
theorem ok_hold {CH CM : Addr} (F : FunAt K mg "stories_hold" (top 32) ["marker", "value"]) (T : Txt K mg) (DS : DSeq P w K mg base) (DT : Fd P w K mg base "is_text" 1 ["value"] (spD K isTextD)) (DI : DIsS P w K mg base CH CM) (DM : DLogs P w K mg base CH CM) :
    Fd P w K mg base "stories_hold" 6 ["marker", "value"] (spHold K CH CM) := Fd.mk' F fun _ _ F => fn_hold F T DS DT DI DM
end
end Lg
set_option Elab.async false
set_option maxRecDepth 100000
set_option maxHeartbeats 2000000
namespace Lg
open PySem PySem.Spec PyProof.Rows L2
def rInt1 : List V → Hp → VK → Prop := fun xs H Q => ∃ i, xs = [.int i] ∧ Q (.int i) H
def rAbs1 : List V → Hp → VK → Prop := fun xs H Q => ∃ i, xs = [.int i] ∧ Q (.int (if i < 0 then -i else i)) H
section
variable {X : Cx} {e : Expr} {es : List Expr} {t : TA} {p pos : Pos}
theorem cr_int1 : CallR X (.type "int") rInt1 := fun pins s σ H xs us Q I r h => call_int1 pins s σ H xs us Q I r (.inl h)
theorem p_int (hm : X.mg "int" = none) (ha : PA X (e :: es) t) (hg : Gl X "int" := by rfl) (he : starEach (e :: es) X.env = (false, eval e X.env) :: starEach es X.env := by rfl) (hpl : (backTo pos (starEach es X.env)).any (·.1) = false := by rfl) :
    PE X (.Call (.Name "int" p) (e :: es) [] pos) (tCB rInt1 t) := pe_callTy cr_int1 hg hm (by decide +kernel) ha (by decide) (by decide) he hpl
theorem p_abs (hm : X.mg "abs" = none) (ha : PA X (e :: es) t) (hg : Gl X "abs" := by rfl) (he : starEach (e :: es) X.env = (false, eval e X.env) :: starEach es X.env := by rfl) (hpl : (backTo pos (starEach es X.env)).any (·.1) = false := by rfl) :
    PE X (.Call (.Name "abs" p) (e :: es) [] pos) (tCB rAbs1 t) := pe_callB call_abs hg hm (by decide +kernel) ha (by decide) (by decide) he hpl
end
theorem box_lo (z : Int) : 1 ≤ z % 2147483563 + 1 := by
  have := Int.emod_nonneg z (show (2147483563 : Int) ≠ 0 by decide)
  omega
theorem box_hi (z : Int) : z % 2147483563 + 1 ≤ 2147483563 := by
  have := Int.emod_lt_of_pos z (show (0 : Int) < 2147483563 by decide)
  omega
/-- the box of digits at p -/
def BoxAt (p : Addr) (H : Hp) : Prop := ∃ g r : Int, H p = some (.lst [.int g, .int r]) ∧ 0 ≤ g ∧ 1 ≤ r ∧ r ≤ 2147483563
/-- all but the box is as it was -/
def But (p : Addr) (H H' : Hp) : Prop := ∀ b, b ≠ p → H' b = H b
section
variable {P : Program} {w : World} {K : PySem.W.Frag} {mg : Str → Option Value} {base : Heap}
/-! ### _law_box -/
def spBox (K : PySem.W.Frag) : Sp := fun vs H Q _ => ∃ (a : Addr) (ns : List Int) (k : Nat), vs = [.ref a, nV k] ∧ SqL K H a (ns.map V.int) ∧ k ≤ 1 ∧ ∀ H' p, Same H H' → H p = none → BoxAt p H' → Q (.ref p) H'
theorem ok_box (F : FunAt K mg "_law_box" (top 34) ["_law_script", "_law_k"]) (T : Txt K mg) : Fd P w K mg base "_law_box" 1 ["_law_script", "_law_k"] (spBox K) := by
  have sc : FnScope ["_law_script", "_law_k", "_law_cell", "_law_great"] ["_law_script", "_law_k"] (defScope (top 34)) := ⟨rfl, rfl, rfl, by decide +kernel, rfl, by decide +kernel, by decide +kernel⟩
  refine Fd.mk' F fun f fd F => F.ok sc (fun vs H Q E h => ?_) (fun cdv A outer s H vs Q E hr h => ?_)
  · obtain ⟨a, ns, k, rfl, _⟩ := h
    rfl
  · obtain ⟨a, ns, k, rfl, hS, hk, q⟩ := h
    refine ⟨_, (pss_cons (ps_set (i := 2) sc.nd rfl (.inl rfl) (pe_op op_add (pe_op op_mul pe_int (pv 1)) pe_int))
        (pss_cons (ps_if (pt_cmpR op_lt (pv 1) (p_len T.len (pa_cons (pv 0) pa_nil)) (nomark _)) (pss_one (ps_set (i := 2) sc.nd rfl (.inl rfl) (p_abs T.abs (pa_cons (p_int T.int (pa_cons (pe_ix ix_list (pv 0) (pv 1) (fun _ _ => rfl)) pa_nil)) pa_nil)))) (pss_one (ps_if (pt_cmpR op_gt (p_len T.len (pa_cons (pv 0) pa_nil)) pe_int (nomark _)) (pss_one (ps_set (i := 2) sc.nd rfl (.inl rfl) (pe_op op_add (pv 2) (pe_op op_mul (pe_op op_mod (p_int T.int (pa_cons (p_abs T.abs (pa_cons (p_int T.int (pa_cons (pe_ix ix_list (pv 0) (pe_op op_mod (p_int T.int (pa_cons (pv 1) pa_nil)) (p_len T.len (pa_cons (pv 0) pa_nil))) (fun _ _ => rfl)) pa_nil)) pa_nil)) pa_nil)) pe_int) pe_int)))) pss_nil)))
        (pss_cons (ps_set (i := 3) sc.nd rfl (.inl rfl) (pe_ifExp (pt_cmpR op_ge (pv 2) (pe_op op_pow pe_int pe_int) (nomark _)) (pv 2) pe_int))
        (pss_one (ps_ret (pe_lst (pa_cons (pv 3) (pa_cons (pe_op op_add (pe_op op_mod (p_int T.int (pa_cons (pe_op op_add (pe_op op_mul (pe_op op_mod (p_int T.int (pa_cons (pv 2) pa_nil)) pe_int) pe_int) (pe_op op_mul pe_int (pv 1))) pa_nil)) pe_int) pe_int) pa_nil)))))))), ?_⟩
    have abs0 : ∀ z : Int, 0 ≤ (if z < 0 then -z else z) := fun z => by
      by_cases h : z < 0
      · rw [if_pos h]
        omega
      · rw [if_neg h]
        omega
    have at_ : ∀ j : Nat, j < ns.length → atI (ns.map V.int) (j : Int) = some (.int (ns.getD j 0)) := fun j hj => by
      refine atN ?_
      rw [List.getElem?_map, List.getElem?_eq_getElem hj, List.getD_eq_getElem?_getD, List.getElem?_eq_getElem hj]
      rfl
    have ll : (ns.map V.int).length = ns.length := List.length_map ..
    refine ⟨_, rfl, _, _, rfl, rfl, .inl ⟨by decide, by decide⟩, _, _, rfl, rfl, ?_⟩
    refine ⟨_, rfl, _, rfl, a, _, rfl, .inl hS, _, _, rfl, rfl, _, rfl, ?_⟩
    rw [ll]
    by_cases c1 : k < ns.length
    · refine iteD (by omega) ?_
      refine ⟨_, rfl, _, rfl, a, _, _, _, rfl, rfl, hS, at_ k c1, _, rfl, _, rfl, ?_⟩
      have hc := abs0 (ns.getD k 0)
      refine ⟨_, rfl, _, _, rfl, rfl, ⟨by decide, by decide, by decide⟩, _, _, rfl, rfl, _, rfl, ?_⟩
      refine ite2 (fun _ => ?_) (fun _ => ?_)
      · refine ⟨_, rfl, _, rfl, _, rfl, _, rfl, _, _, rfl, rfl, (by show (0 : Int) < 2147483563; decide), _, _, rfl, rfl, .inr ⟨by decide, by decide⟩, _, rfl, _, _, rfl, rfl, .inl ⟨by decide, by decide⟩, _, _, rfl, rfl, _, rfl, _, _, rfl, rfl, (by show (0 : Int) < 2147483563; decide), _, _, rfl, rfl, (by show 2 ≤ sizeLine; decide), fun p np => ?_⟩
        exact q _ p (same_upd np) np ⟨_, _, upd_same, hc, box_lo _, box_hi _⟩
      · refine ⟨_, rfl, _, rfl, _, rfl, _, _, rfl, rfl, (by show (0 : Int) < 2147483563; decide), _, _, rfl, rfl, .inr ⟨by decide, by decide⟩, _, rfl, _, _, rfl, rfl, .inl ⟨by decide, by decide⟩, _, _, rfl, rfl, _, rfl, _, _, rfl, rfl, (by show (0 : Int) < 2147483563; decide), _, _, rfl, rfl, (by show 2 ≤ sizeLine; decide), fun p np => ?_⟩
        exact q _ p (same_upd np) np ⟨_, _, upd_same, Int.le_refl 0, box_lo _, box_hi _⟩
    · refine iteN (by omega) ?_
      refine ⟨_, rfl, a, _, rfl, .inl hS, _, _, rfl, rfl, _, rfl, ?_⟩
      rw [ll]
      by_cases c2 : 0 < ns.length
      · refine iteD (by omega) ?_
        have pos : (0 : Int) < (ns.length : Int) := by omega
        obtain ⟨j, hj⟩ : ∃ j : Nat, ((k : Int) % (ns.length : Int)) = (j : Int) := Int.eq_ofNat_of_zero_le (Int.emod_nonneg _ (by omega))
        have hjl : j < ns.length := by
          have := Int.emod_lt_of_pos (k : Int) pos
          omega
        refine ⟨_, rfl, _, rfl, _, rfl, _, rfl, _, rfl, a, _, rfl, .inl hS, _, _, rfl, rfl, ?_, ?_⟩
        · show (0 : Int) < ((ns.map V.int).length : Int)
          rw [ll]
          exact pos
        show rIxL K (.ref a) (.int ((k : Int) % ((ns.map V.int).length : Int))) H _
        rw [ll, hj]
        refine ⟨a, _, _, _, rfl, rfl, hS, at_ j hjl, _, rfl, _, rfl, _, rfl, _, _, rfl, rfl, (by show (0 : Int) < 2147483563; decide), _, _, rfl, rfl, .inr ⟨by decide, by decide⟩, _, _, rfl, rfl, ?_⟩
        have hc : (0 : Int) ≤ 7211 * (k : Int) + 1193 + (if ns.getD j 0 < 0 then -ns.getD j 0 else ns.getD j 0) % 2147483563 * 50087 := by
          have := Int.emod_nonneg (if ns.getD j 0 < 0 then -ns.getD j 0 else ns.getD j 0) (show (2147483563 : Int) ≠ 0 by decide)
          omega
        refine ⟨_, rfl, _, _, rfl, rfl, ⟨by decide, by decide, by decide⟩, _, _, rfl, rfl, _, rfl, ?_⟩
        refine ite2 (fun _ => ?_) (fun _ => ?_)
        · refine ⟨_, rfl, _, rfl, _, rfl, _, rfl, _, _, rfl, rfl, (by show (0 : Int) < 2147483563; decide), _, _, rfl, rfl, .inr ⟨by decide, by decide⟩, _, rfl, _, _, rfl, rfl, .inl ⟨by decide, by decide⟩, _, _, rfl, rfl, _, rfl, _, _, rfl, rfl, (by show (0 : Int) < 2147483563; decide), _, _, rfl, rfl, (by show 2 ≤ sizeLine; decide), fun p np => ?_⟩
          exact q _ p (same_upd np) np ⟨_, _, upd_same, hc, box_lo _, box_hi _⟩
        · refine ⟨_, rfl, _, rfl, _, rfl, _, _, rfl, rfl, (by show (0 : Int) < 2147483563; decide), _, _, rfl, rfl, .inr ⟨by decide, by decide⟩, _, rfl, _, _, rfl, rfl, .inl ⟨by decide, by decide⟩, _, _, rfl, rfl, _, rfl, _, _, rfl, rfl, (by show (0 : Int) < 2147483563; decide), _, _, rfl, rfl, (by show 2 ≤ sizeLine; decide), fun p np => ?_⟩
          exact q _ p (same_upd np) np ⟨_, _, upd_same, Int.le_refl 0, box_lo _, box_hi _⟩
      · refine iteN (by omega) ?_
        have hc : (0 : Int) ≤ 7211 * (k : Int) + 1193 := by omega
        refine ⟨_, rfl, _, _, rfl, rfl, ⟨by decide, by decide, by decide⟩, _, _, rfl, rfl, _, rfl, ?_⟩
        refine ite2 (fun _ => ?_) (fun _ => ?_)
        · refine ⟨_, rfl, _, rfl, _, rfl, _, rfl, _, _, rfl, rfl, (by show (0 : Int) < 2147483563; decide), _, _, rfl, rfl, .inr ⟨by decide, by decide⟩, _, rfl, _, _, rfl, rfl, .inl ⟨by decide, by decide⟩, _, _, rfl, rfl, _, rfl, _, _, rfl, rfl, (by show (0 : Int) < 2147483563; decide), _, _, rfl, rfl, (by show 2 ≤ sizeLine; decide), fun p np => ?_⟩
          exact q _ p (same_upd np) np ⟨_, _, upd_same, hc, box_lo _, box_hi _⟩
        · refine ⟨_, rfl, _, rfl, _, rfl, _, _, rfl, rfl, (by show (0 : Int) < 2147483563; decide), _, _, rfl, rfl, .inr ⟨by decide, by decide⟩, _, rfl, _, _, rfl, rfl, .inl ⟨by decide, by decide⟩, _, _, rfl, rfl, _, rfl, _, _, rfl, rfl, (by show (0 : Int) < 2147483563; decide), _, _, rfl, rfl, (by show 2 ≤ sizeLine; decide), fun p np => ?_⟩
          exact q _ p (same_upd np) np ⟨_, _, upd_same, Int.le_refl 0, box_lo _, box_hi _⟩
/-! ### _law_take -/
def spTake (K : PySem.W.Frag) : Sp := fun vs H Q _ => ∃ (p : Addr) (m : Int), vs = [.ref p, .int m] ∧ BoxAt p H ∧ 0 < m ∧ m < 1073741824 ∧ ∀ H' d, 0 ≤ d → d < m → But p H H' → BoxAt p H' → Q (.int d) H'
theorem ok_take (F : FunAt K mg "_law_take" (top 35) ["_law_box_here", "_law_many"]) (T : Txt K mg) : Fd P w K mg base "_law_take" 1 ["_law_box_here", "_law_many"] (spTake K) := by
  have sc : FnScope ["_law_box_here", "_law_many", "_law_digit", "_law_raw"] ["_law_box_here", "_law_many"] (defScope (top 35)) := ⟨rfl, rfl, rfl, by decide +kernel, rfl, by decide +kernel, by decide +kernel⟩
  refine Fd.mk' F fun f fd F => F.ok sc (fun vs H Q E h => ?_) (fun cdv A outer s H vs Q E hr h => ?_)
  · obtain ⟨p, m, rfl, _⟩ := h
    rfl
  · obtain ⟨p, m, rfl, ⟨g, r, hp, hg, hr1, hr2⟩, hm, hm2, q⟩ := h
    refine ⟨_, (pss_cons (ps_if (pt_cmpR op_gt (pe_ix ix_list (pv 0) pe_int (fun _ _ => rfl)) pe_int (nomark _)) (pss_cons (ps_set (i := 2) sc.nd rfl (.inl rfl) (pe_op op_mod (p_int T.int (pa_cons (pe_ix ix_list (pv 0) pe_int (fun _ _ => rfl)) pa_nil)) (pv 1)))
        (pss_cons (ps_asg (pe_op op_fdiv (pe_ix ix_list (pv 0) pe_int (fun _ _ => rfl)) (pv 1)) (pg_sub (pv 0) pe_int set_list))
        (pss_one (ps_ret (pv 2))))) pss_nil)
        (pss_cons (ps_set (i := 3) sc.nd rfl (.inl rfl) (pe_op op_mod (p_int T.int (pa_cons (pe_op op_add (pe_op op_mul (pe_ix ix_list (pv 0) pe_int (fun _ _ => rfl)) pe_int) pe_int) pa_nil)) pe_int))
        (pss_cons (ps_asg (pe_op op_add (pe_op op_mod (p_int T.int (pa_cons (pe_op op_add (pe_op op_mul (pv 3) pe_int) pe_int) pa_nil)) pe_int) pe_int) (pg_sub (pv 0) pe_int set_list))
        (pss_one (ps_ret (pe_op op_mod (p_int T.int (pa_cons (pe_op op_fdiv (pe_op op_add (pe_op op_mul (pv 3) pe_int) (pe_ix ix_list (pv 0) pe_int (fun _ _ => rfl))) pe_int) pa_nil)) (pv 1))))))), ?_⟩
    have hL : SqL K H p [.int g, .int r] := .inl (.inl hp)
    refine ⟨_, rfl, p, _, 0, .int g, rfl, rfl, hL, at0, _, _, rfl, rfl, _, rfl, ?_⟩
    by_cases c : 0 < g
    · refine iteD c ?_
      refine ⟨_, rfl, p, _, 0, .int g, rfl, rfl, hL, at0, _, rfl, _, rfl, _, _, rfl, rfl, hm, ?_⟩
      refine ⟨_, rfl, p, _, 0, .int g, rfl, rfl, hL, at0, _, rfl, _, _, rfl, rfl, ⟨hm, hm2⟩, _, rfl, p, _, _, 0, rfl, rfl, hp, rfl, ?_⟩
      refine ⟨_, rfl, q _ _ (Int.emod_nonneg _ (by omega)) (Int.emod_lt_of_pos _ hm) (fun b hb => upd_ne hb) ⟨g / m, r, upd_same, Int.ediv_nonneg hg (by omega), hr1, hr2⟩⟩
    · refine iteN c ?_
      refine ⟨_, rfl, p, _, 1, .int r, rfl, rfl, hL, at1, _, _, rfl, rfl, .inr ⟨by decide, by decide⟩, _, _, rfl, rfl, _, rfl, _, _, rfl, rfl, (by show (0 : Int) < 2147483647; decide), ?_⟩
      refine ⟨_, rfl, _, _, rfl, rfl, .inr ⟨by decide, by decide⟩, _, _, rfl, rfl, _, rfl, _, _, rfl, rfl, (by show (0 : Int) < 2147483399; decide), _, _, rfl, rfl, _, rfl, p, _, _, 1, rfl, rfl, hp, rfl, ?_⟩
      have b1 := Int.emod_nonneg ((r * 39373 + 331) % 2147483647 * 40692 + 37) (show (2147483399 : Int) ≠ 0 by decide)
      have b2 := Int.emod_lt_of_pos ((r * 39373 + 331) % 2147483647 * 40692 + 37) (show (0 : Int) < 2147483399 by decide)
      have hL2 : SqL K (upd H p (.lst [.int g, .int (((r * 39373 + 331) % 2147483647 * 40692 + 37) % 2147483399 + 1)])) p [.int g, .int (((r * 39373 + 331) % 2147483647 * 40692 + 37) % 2147483399 + 1)] := .inl (.inl upd_same)
      refine ⟨_, rfl, _, _, rfl, rfl, .inr ⟨by decide, by decide⟩, _, rfl, p, _, 1, _, rfl, rfl, hL2, at1, _, _, rfl, rfl, _, _, rfl, rfl, ⟨by decide, by decide⟩, _, rfl, _, rfl, _, _, rfl, rfl, hm, ?_⟩
      exact q _ _ (Int.emod_nonneg _ (by omega)) (Int.emod_lt_of_pos _ hm) (fun b hb => upd_ne hb) ⟨g, _, upd_same, hg, by omega, by omega⟩
abbrev DTake (P : Program) (w : World) (K : PySem.W.Frag) (mg : Str → Option Value) (base : Heap) : Prop := Fd P w K mg base "_law_take" 1 ["_law_box_here", "_law_many"] (spTake K)
/-! ### _law_pick -/
def spPick (K : PySem.W.Frag) : Sp := fun vs H Q _ => ∃ (p a : Addr) (xs : List V), vs = [.ref p, .ref a] ∧ BoxAt p H ∧ SqL K H a xs ∧ a ≠ p ∧ 0 < xs.length ∧ xs.length ≤ 1000 ∧ ∀ H' x, x ∈ xs → But p H H' → BoxAt p H' → Q x H'
theorem ok_pick (F : FunAt K mg "_law_pick" (top 36) ["_law_box_here", "_law_some"]) (T : Txt K mg) (DT : DTake P w K mg base) : Fd P w K mg base "_law_pick" 2 ["_law_box_here", "_law_some"] (spPick K) := by
  have sc : FnScope ["_law_box_here", "_law_some"] ["_law_box_here", "_law_some"] (defScope (top 36)) := ⟨rfl, rfl, rfl, by decide +kernel, rfl, by decide +kernel, by decide +kernel⟩
  refine Fd.mk' F fun f fd F => F.ok sc (fun vs H Q E h => ?_) (fun cdv A outer s H vs Q E hr h => ?_)
  · obtain ⟨p, a, xs, rfl, _⟩ := h
    rfl
  · obtain ⟨p, a, xs, rfl, hB, hS, na, l1, l2, q⟩ := h
    refine ⟨_, (pss_one (ps_ret (pe_ix ix_list (pv 1) (pf DT hr (pa_cons (pv 0) (pa_cons (p_len T.len (pa_cons (pv 1) pa_nil)) pa_nil))) (fun _ _ => rfl)))), ?_⟩
    refine ⟨_, rfl, _, rfl, _, rfl, a, xs, rfl, .inl hS, p, (xs.length : Nat), rfl, hB, by omega, by omega, fun H' d d0 d1 hb hB' => ?_⟩
    obtain ⟨i, rfl⟩ := Int.eq_ofNat_of_zero_le d0
    have hi : i < xs.length := by omega
    have hx : xs[i]? = some xs[i] := List.getElem?_eq_getElem hi
    refine ⟨a, xs, _, _, rfl, rfl, ?_, atN hx, q H' _ (List.getElem_mem hi) hb hB'⟩
    rcases hS with (h | ⟨o, h⟩) | h
    · exact .inl (.inl ((hb a na).trans h))
    · exact .inl (.inr ⟨o, (hb a na).trans h⟩)
    · exact .inr h
end
end Lg
set_option Elab.async false
set_option maxRecDepth 100000
set_option maxHeartbeats 2000000
namespace Lg
open PySem PySem.Spec PyProof.Rows L2
section
variable {P : Program} {w : World} {K : PySem.W.Frag} {mg : Str → Option Value} {base : Heap}
/-! ### _law_laid -/
def spLaid (K : PySem.W.Frag) : Sp := fun vs H Q _ => ∃ (am : Addr) (rv x : V) (ms l : List Nat) (R : Rows), vs = [.ref am, rv, x] ∧ SqL K H am (marksV ms) ∧ Dp K H rv (rowsL R) ∧ MarksOk ms ∧ RowsOk ms R ∧ StoryV K H x l ∧ l.length ≤ 10000 ∧ (∀ n, n ∈ l → n < ms.length) ∧
  ∀ H' t, Same H H' → Dp K H' (.ref t) (logsD (laid ms.length R l).1) → Q (.ref t) H'
theorem ok_laid (F : FunAt K mg "_law_laid" (top 39) ["_law_marks", "_law_rows", "_law_story"]) (T : Txt K mg) : Fd P w K mg base "_law_laid" 1 ["_law_marks", "_law_rows", "_law_story"] (spLaid K) := by
  have sc : FnScope ["_law_marks", "_law_rows", "_law_story", "_law_logs", "_law_standing", "_law_hand", "_law_many", "_law_log"] ["_law_marks", "_law_rows", "_law_story"] (defScope (top 39)) := ⟨rfl, rfl, rfl, by decide +kernel, rfl, by decide +kernel, by decide +kernel⟩
  refine Fd.mk' F fun f fd F => F.ok sc (fun vs H Q E h => ?_) (fun cdv A outer s H vs Q E hr h => ?_)
  · obtain ⟨am, rv, x, ms, l, R, rfl, _⟩ := h
    rfl
  · obtain ⟨am, rv, x, ms, l, R, rfl, hm, hR, mok, rok, hV, hl, hn, k⟩ := h
    refine ⟨_, (pss_cons (ps_par (i := 3) (j := 4) rfl sc.nd rfl rfl (by decide) rfl rfl (pa_cons (pe_lc (own := [("_law_many", 6)]) (g := gName 6) (tt := tYes) (te := tLst tNil) rfl sc.nd (pi_list (pv 0)) (blkFree (N := ["_law_marks", "_law_rows", "_law_story", "_law_logs", "_law_standing", "_law_hand", "_law_many", "_law_log"]) (by decide +kernel)) (fun _ _ _ _ _ => by exact pg_name (i := 6) sc.nd rfl (.inl rfl)) (fun _ _ _ _ _ => pts_nil) (fun _ _ _ _ _ => by exact pe_lst pa_nil)) (pa_cons pe_int pa_nil)) rfl)
        (pss_cons (ps_for PassesOwn.never rfl (pi_or (pi_list (pv 2)) (pi_tup (pv 2))) (pg_name (i := 5) sc.nd rfl (.inl rfl)) (pss_cons (ps_expr (pe_bm PySem.F.plainAttrs_list PySem.F.slot_list_append PySem.F.type_list_append mt_append (pe_ix ix_list (pv 3) (pv 5) (fun _ _ => rfl)) (pa_cons (pe_ix ix_tup (pe_ix ix_list (pe_ix ix_list (pv 1) (pv 4) (fun _ _ => rfl)) (pv 5) (fun _ _ => rfl)) pe_int (fun _ _ => rfl)) pa_nil)))
        (pss_one (ps_set (i := 4) sc.nd rfl (.inl rfl) (pe_ix ix_tup (pe_ix ix_list (pe_ix ix_list (pv 1) (pv 4) (fun _ _ => rfl)) (pv 5) (fun _ _ => rfl)) pe_int (fun _ _ => rfl))))))
        (pss_one (ps_ret (p_tup T.tuple (pa_cons (pe_lc (own := [("_law_log", 7)]) (g := gName 7) (tt := tYes) (te := tCB (rTupS K) (tCons (tVar 7) tNil)) rfl sc.nd (pi_list (pv 3)) (blkFree (N := ["_law_marks", "_law_rows", "_law_story", "_law_logs", "_law_standing", "_law_hand", "_law_many", "_law_log"]) (by decide +kernel)) (fun _ _ _ _ _ => by exact pg_name (i := 7) sc.nd rfl (.inl rfl)) (fun _ _ _ _ _ => pts_nil) (fun _ _ _ _ _ => by exact p_tup T.tuple (pa_cons (pv 7) pa_nil))) pa_nil)))))), ?_⟩
    have lm : (marksV ms).length = ms.length := List.length_map ..
    have m3 := mok.2.1
    refine ⟨_, rfl, am, rfl, ⟨_, hm⟩, fun D hD => ?_⟩
    refine lc_list (K := K) (a := am) (xs := marksV ms) (fun i H' => ∃ qs : List Addr, Same H H' ∧ H' D = some (.lst (qs.map V.ref)) ∧ D ∉ qs ∧ (∀ q, q ∈ qs → H q = none) ∧ LogsAt H' qs (List.replicate i []))
      ⟨[], same_up (Same.refl _) hD, upd_same, by simp, by simp, ⟨rfl, List.nodup_nil, by simp⟩⟩ (fun i H' _ h => by obtain ⟨_, s2, _⟩ := h; exact s2.seq hm) ?_ ?_
    · rintro i y H2 hi ⟨qs, s2, hD2, nD, fr, LA⟩
      refine ⟨rfl, yes ?_⟩
      refine ⟨(by show 0 ≤ sizeLine; exact Nat.zero_le _), fun q nq => ?_⟩
      have nDq : D ≠ q := ne_of_none hD2 nq
      have hi3 : i < (marksV ms).length := (List.getElem?_eq_some_iff.mp hi).1
      have lq : qs.length = i := by rw [LA.len, List.length_replicate]
      have nin : D ∉ qs ++ [q] := by
        simp only [List.mem_append, List.mem_singleton]
        rintro (z | z)
        · exact nD z
        · exact nDq z
      refine ⟨_, (upd_ne nDq).trans hD2, ?_, qs ++ [q], same_own (same_up s2 nq) hD, ?_, nin, ?_, ?_⟩
      · rw [List.length_map, lq]
        exact small5 (by omega)
      · rw [upd_same, List.map_append]
        rfl
      · intro q' hq'
        rcases List.mem_append.mp hq' with z | z
        · exact fr q' z
        · rw [List.mem_singleton.mp z]
          exact s2.free nq
      · have z := LA.more nq
        rw [rep_snoc] at z
        exact z.off nin
    · rintro H2 ⟨qs, s2, hD2, nD, fr, LA⟩
      rw [lm] at LA
      refine ⟨_, _, rfl, ?_⟩
      have fin : ∀ (H3 : Hp) (sv hv : Option V), Same H H3 → H3 D = some (.lst (qs.map V.ref)) → LogsAt H3 qs (laid ms.length R l).1 →
          tCB (rTupS K) (tCons (tLc (iList K (tVar 3)) (gName 7) tYes (tCB (rTupS K) (tCons (tVar 7) tNil)) [7]) tNil) [some (.ref am), some rv, some x, some (.ref D), sv, hv, none, none] H3 Q := by
        intro H3 sv hv s3 hD3 LA3
        have lqs : qs.length = (laid ms.length R l).1.length := LA3.len
        refine ⟨_, rfl, D, rfl, ⟨_, .inl (.inl hD3)⟩, fun D2 hD2 => ?_⟩
        refine lc_list (K := K) (a := D) (xs := qs.map V.ref) (fun j H' => Same H3 H' ∧ ∃ acc, H' D2 = some (.lst acc) ∧ DpAll K H' acc (((laid ms.length R l).1.take j).map storyD)) ⟨same_up (Same.refl _) hD2, [], upd_same, .nil⟩ (fun i H' _ h => .inl (.inl (h.1 _ _ hD3))) ?_ ?_
        · rintro j y H4 hj ⟨s4, acc, hD4, hacc⟩
          obtain ⟨q, hq, rfl⟩ := map_at hj
          have hjl : j < (laid ms.length R l).1.length := by
            have := (List.getElem?_eq_some_iff.mp hq).1
            omega
          have hL : (laid ms.length R l).1[j]? = some ((laid ms.length R l).1[j]) := List.getElem?_eq_getElem hjl
          refine ⟨rfl, yes ⟨_, rfl, q, _, rfl, .inl ⟨.inl (.inl (s4 _ _ (LA3.at_ j q _ hq hL))), fun t2 nt => ?_⟩⟩⟩
          have nDt : D2 ≠ t2 := ne_of_none hD4 nt
          have t5 : SameT H4 (upd (upd H4 t2 (.tup (marksV ((laid ms.length R l).1[j])))) D2 (.lst (acc ++ [.ref t2]))) := (Same.toT (same_upd nt)).tr (sameT_lst ((upd_ne nDt).trans hD4))
          refine ⟨acc, (upd_ne nDt).trans hD4, ?_, same_own (same_up s4 nt) hD2, _, upd_same, ?_⟩
          · rw [dpAll_mapLen hacc, List.length_take]
            rw [laid_len] at hjl ⊢
            exact small5 (by omega)
          · rw [takeS hL, List.map_append]
            exact dpAll_snoc (dpAll_tt t5 (tupAll_map tt_story _) hacc) (.tup (.inl (.inl ((upd_ne nDt.symm).trans upd_same))) (dp_ints _))
        · rintro H4 ⟨s4, acc, hD4, hacc⟩
          rw [List.length_map, lqs, List.take_length] at hacc
          exact ⟨D2, acc, rfl, .inl ⟨.inl (.inl hD4), fun t2 nt => k _ t2 (same_up (s3.trans s4) nt) (.tup (.inl (.inl upd_same)) (dpAll_same (same_upd nt) hacc))⟩⟩
      have ll : (marksV l).length = l.length := List.length_map ..
      obtain ⟨p, rfl, hp⟩ := hV
      rcases hp with hp | hp
      · refine .inl ⟨_, rfl, p, rfl, ⟨_, s2.seq hp⟩, for_list (K := K) (a := p) (xs := marksV l)
          (fun i σ' H' => ∃ u, σ' = [some (.ref am), some rv, some (.ref p), some (.ref D), some (nV (laid ms.length R (l.take i)).2), u, none, none] ∧ Same H H' ∧ H' D = some (.lst (qs.map V.ref)) ∧ LogsAt H' qs (laid ms.length R (l.take i)).1)
          ⟨none, rfl, s2, hD2, LA⟩ (fun i σ' H' _ h => by obtain ⟨_, _, s3, _⟩ := h; exact s3.seq hp) ?_ ?_⟩
        · rintro i y σ' H3 hi ⟨u, rfl, s3, hD3, LA3⟩
          obtain ⟨n, hn1, rfl⟩ := map_at hi
          have hnk := hn n (List.mem_of_getElem? hn1)
          have hst := laid_st rok (l.take i) (fun z hz => hn z (List.mem_of_mem_take hz))
          obtain ⟨row, e1, e2, e3⟩ := row_at rok hst hnk
          obtain ⟨r', rs, rfl, hr1, hrs⟩ := dp_lst (dp_same s3 hR)
          obtain ⟨wv, g1, g2⟩ := dpAll_get hrs e1
          obtain ⟨pr, ps, rfl, hp1, hps⟩ := dp_lst g2
          obtain ⟨mv, g3, g4⟩ := dpAll_get hps e2
          obtain ⟨c, rfl, hc⟩ := dp_move g4
          have hlq : n < qs.length := by rw [LA3.len, laid_len]; exact hnk
          have hq : qs[n]? = some qs[n] := List.getElem?_eq_getElem hlq
          have hlL : n < (laid ms.length R (l.take i)).1.length := by rw [laid_len]; exact hnk
          have hL : (laid ms.length R (l.take i)).1[n]? = some ((laid ms.length R (l.take i)).1[n]) := List.getElem?_eq_getElem hlL
          have hqv : (qs.map V.ref)[n]? = some (.ref qs[n]) := by rw [List.getElem?_map, hq]; rfl
          have hqH := LA3.at_ n _ _ hq hL
          have hsz : ((laid ms.length R (l.take i)).1[n]).length ≤ 10000 := by
            have z := laid_size ms.length R (l.take i) _ (List.getElem_mem hlL)
            rw [List.length_take] at z
            omega
          have frq := fr _ (List.getElem_mem hlq)
          have nDq : D ≠ qs[n] := fun z => nD (z ▸ List.getElem_mem hlq)
          refine ⟨_, rfl, _, rfl, D, _, _, _, rfl, rfl, .inl (.inl hD3), atN hqv, .inl ⟨rfl, _, .inl (.inl hqH)⟩, _, rfl, _, rfl, r', rs, _, _, rfl, rfl, hr1, atN g1, _, rfl, pr, ps, _, _, rfl, rfl, hp1, atN g3, c, _, _, _, rfl, rfl, hc, at0, _, _, _, rfl, rfl, hqH, ?_, ?_⟩
          · show (List.map _ _).length < _
            rw [List.length_map]
            exact small5 (by omega)
          · have s4 := same_own (o := .lst (marksV (laid ms.length R (l.take i)).1[n] ++ [nV (markAt R (laid ms.length R (l.take i)).2 n).1])) s3 frq
            obtain ⟨r'', rs', er, hr1', hrs'⟩ := dp_lst (dp_same s4 hR)
            cases er
            obtain ⟨wv', g1', g2'⟩ := dpAll_get hrs' e1
            obtain ⟨pr', ps', rfl, hp1', hps'⟩ := dp_lst g2'
            obtain ⟨mv', g3', g4'⟩ := dpAll_get hps' e2
            obtain ⟨c', rfl, hc'⟩ := dp_move g4'
            refine ⟨_, rfl, _, rfl, r', rs', _, _, rfl, rfl, hr1', atN g1', _, rfl, pr', ps', _, _, rfl, rfl, hp1', atN g3', c', _, _, _, rfl, rfl, hc', at1, some (nV n), ?_, s4, ?_, ?_⟩
            · rw [takeS hn1, laid_snoc]
              rfl
            · rw [upd_ne nDq]
              exact hD3
            · rw [takeS hn1, laid_snoc]
              exact LA3.put hq hL
        · rintro σ' H3 ⟨u, rfl, s3, hD3, LA3⟩
          rw [ll, List.take_length] at LA3
          exact fin H3 _ u s3 hD3 LA3
      · refine .inr ⟨_, rfl, p, rfl, ⟨_, Same.seqT s2 hp⟩, for_tup (K := K) (a := p) (xs := marksV l)
          (fun i σ' H' => ∃ u, σ' = [some (.ref am), some rv, some (.ref p), some (.ref D), some (nV (laid ms.length R (l.take i)).2), u, none, none] ∧ Same H H' ∧ H' D = some (.lst (qs.map V.ref)) ∧ LogsAt H' qs (laid ms.length R (l.take i)).1)
          ⟨none, rfl, s2, hD2, LA⟩ (fun i σ' H' _ h => by obtain ⟨_, _, s3, _⟩ := h; exact Same.seqT s3 hp) ?_ ?_⟩
        · rintro i y σ' H3 hi ⟨u, rfl, s3, hD3, LA3⟩
          obtain ⟨n, hn1, rfl⟩ := map_at hi
          have hnk := hn n (List.mem_of_getElem? hn1)
          have hst := laid_st rok (l.take i) (fun z hz => hn z (List.mem_of_mem_take hz))
          obtain ⟨row, e1, e2, e3⟩ := row_at rok hst hnk
          obtain ⟨r', rs, rfl, hr1, hrs⟩ := dp_lst (dp_same s3 hR)
          obtain ⟨wv, g1, g2⟩ := dpAll_get hrs e1
          obtain ⟨pr, ps, rfl, hp1, hps⟩ := dp_lst g2
          obtain ⟨mv, g3, g4⟩ := dpAll_get hps e2
          obtain ⟨c, rfl, hc⟩ := dp_move g4
          have hlq : n < qs.length := by rw [LA3.len, laid_len]; exact hnk
          have hq : qs[n]? = some qs[n] := List.getElem?_eq_getElem hlq
          have hlL : n < (laid ms.length R (l.take i)).1.length := by rw [laid_len]; exact hnk
          have hL : (laid ms.length R (l.take i)).1[n]? = some ((laid ms.length R (l.take i)).1[n]) := List.getElem?_eq_getElem hlL
          have hqv : (qs.map V.ref)[n]? = some (.ref qs[n]) := by rw [List.getElem?_map, hq]; rfl
          have hqH := LA3.at_ n _ _ hq hL
          have hsz : ((laid ms.length R (l.take i)).1[n]).length ≤ 10000 := by
            have z := laid_size ms.length R (l.take i) _ (List.getElem_mem hlL)
            rw [List.length_take] at z
            omega
          have frq := fr _ (List.getElem_mem hlq)
          have nDq : D ≠ qs[n] := fun z => nD (z ▸ List.getElem_mem hlq)
          refine ⟨_, rfl, _, rfl, D, _, _, _, rfl, rfl, .inl (.inl hD3), atN hqv, .inl ⟨rfl, _, .inl (.inl hqH)⟩, _, rfl, _, rfl, r', rs, _, _, rfl, rfl, hr1, atN g1, _, rfl, pr, ps, _, _, rfl, rfl, hp1, atN g3, c, _, _, _, rfl, rfl, hc, at0, _, _, _, rfl, rfl, hqH, ?_, ?_⟩
          · show (List.map _ _).length < _
            rw [List.length_map]
            exact small5 (by omega)
          · have s4 := same_own (o := .lst (marksV (laid ms.length R (l.take i)).1[n] ++ [nV (markAt R (laid ms.length R (l.take i)).2 n).1])) s3 frq
            obtain ⟨r'', rs', er, hr1', hrs'⟩ := dp_lst (dp_same s4 hR)
            cases er
            obtain ⟨wv', g1', g2'⟩ := dpAll_get hrs' e1
            obtain ⟨pr', ps', rfl, hp1', hps'⟩ := dp_lst g2'
            obtain ⟨mv', g3', g4'⟩ := dpAll_get hps' e2
            obtain ⟨c', rfl, hc'⟩ := dp_move g4'
            refine ⟨_, rfl, _, rfl, r', rs', _, _, rfl, rfl, hr1', atN g1', _, rfl, pr', ps', _, _, rfl, rfl, hp1', atN g3', c', _, _, _, rfl, rfl, hc', at1, some (nV n), ?_, s4, ?_, ?_⟩
            · rw [takeS hn1, laid_snoc]
              rfl
            · rw [upd_ne nDq]
              exact hD3
            · rw [takeS hn1, laid_snoc]
              exact LA3.put hq hL
        · rintro σ' H3 ⟨u, rfl, s3, hD3, LA3⟩
          rw [ll, List.take_length] at LA3
          exact fin H3 _ u s3 hD3 LA3
end
end Lg
set_option Elab.async false
set_option maxRecDepth 100000
set_option maxHeartbeats 2000000
namespace Lg
open PySem PySem.Spec PyProof.Rows L2
section
variable {P : Program} {w : World} {K : PySem.W.Frag} {mg : Str → Option Value} {base : Heap}
/-! ### _law_stories -/
def spStories (K : PySem.W.Frag) : Sp := fun vs H Q _ => ∃ k n : Nat, vs = [nV k, nV n] ∧ k ≤ 3 ∧ n ≤ 6 ∧ ∀ H' t, Same H H' → H t = none → Dp K H' (.ref t) (.list ((layerS k n).map storyD)) → Q (.ref t) H'
theorem ok_stories (F : FunAt K mg "_law_stories" (top 40) ["_law_many", "_law_length"]) (T : Txt K mg) : Fd P w K mg base "_law_stories" 1 ["_law_many", "_law_length"] (spStories K) := by
  have sc : FnScope ["_law_many", "_law_length", "_law_found", "_law_turn", "_law_longer", "_law_story", "_law_hand"] ["_law_many", "_law_length"] (defScope (top 40)) := ⟨rfl, rfl, rfl, by decide +kernel, rfl, by decide +kernel, by decide +kernel⟩
  refine Fd.mk' F fun f fd F => F.ok sc (fun vs H Q E h => ?_) (fun cdv A outer s H vs Q E hr h => ?_)
  · obtain ⟨k, n, rfl, _⟩ := h
    rfl
  · obtain ⟨k, n, rfl, hk, hn, q⟩ := h
    refine ⟨_, (pss_cons (ps_set (i := 2) sc.nd rfl (.inl rfl) (pe_lst (pa_cons (pe_tup pa_nil) pa_nil)))
        (pss_cons (ps_for PassesOwn.never rfl (pi_range1 (by rfl) T.range (pa_cons (pv 1) pa_nil)) (pg_name (i := 3) sc.nd rfl (.inl rfl)) (pss_cons (ps_set (i := 4) sc.nd rfl (.inl rfl) (pe_lst pa_nil))
        (pss_cons (ps_for PassesOwn.never rfl (pi_list (pv 2)) (pg_name (i := 5) sc.nd rfl (.inr rfl)) (pss_one (ps_set (i := 4) sc.nd rfl (.inl rfl) (pe_op op_cat (pv 4) (pe_lc (own := [("_law_hand", 6)]) (g := gName 6) (tt := tYes) (te := tOp (rCatD K) (tVar 5) (tTup (tCons (tVar 6) tNil))) rfl sc.nd (pi_range1 (by rfl) T.range (pa_cons (pv 0) pa_nil)) (blkOk_by (N := ["_law_many", "_law_length", "_law_found", "_law_turn", "_law_longer", "_law_story", "_law_hand"]) (sc := defScope (top 40)) (by decide +kernel)) (fun _ _ _ _ _ => by exact pg_name (i := 6) sc.nd rfl (.inl rfl)) (fun _ _ _ _ _ => pts_nil) (fun _ _ _ _ _ => by exact (pe_op op_catD (pv 5) (pe_tup (pa_cons (pv 6) pa_nil)))))))))
        (pss_one (ps_set (i := 2) sc.nd rfl (.inl rfl) (pv 4))))))
        (pss_one (ps_ret (pv 2))))), ?_⟩
    refine ⟨(by show 0 ≤ sizeLine; exact Nat.zero_le _), fun e1 n1 => ⟨(by show 1 ≤ sizeLine; decide), fun e2 n2 => ?_⟩⟩
    refine ⟨_, rfl, _, rfl, by omega, by omega, ?_⟩
    rw [show ((n : Nat) : Int).toNat = n from rfl]
    have s0 : Same H (upd (upd H e1 (.tup [])) e2 (.lst [.ref e1])) := same_up (same_upd n1) n2
    refine for_range (n := n) (fun i σ' H' => ∃ fp u3 u4 u5, σ' = [some (nV k), some (nV n), some (.ref fp), u3, u4, u5, none] ∧ H fp = none ∧ Same H H' ∧ Dp K H' (.ref fp) (.list ((layerS k i).map storyD)))
      ⟨_, _, _, _, rfl, (same_upd n1).free n2, s0, .lst (.inl (.inl upd_same)) (.cons (.tup (.inl (.inl ((upd_ne (ne_of_none upd_same n2)).trans upd_same))) .nil) .nil)⟩ ?_ ?_
    · rintro i σ' H2 hi ⟨p, u3, u4, u5, rfl, nf, s2, hfl⟩
      obtain ⟨p', xs, ep, hp, hxs⟩ := dp_lst hfl
      cases ep
      have lx : xs.length = (layerS k i).length := dpAll_mapLen hxs
      have lsz := layer_small (n := i + 1) hk (by omega)
      refine ⟨(by show 0 ≤ sizeLine; exact Nat.zero_le _), fun D0 n3 => ?_⟩
      refine ⟨_, rfl, p, rfl, ⟨_, (same_upd n3).seq hp⟩, for_list (K := K) (a := p) (xs := xs)
        (fun j σ' H' => ∃ u3 D u5 ys, σ' = [some (nV k), some (nV n), some (.ref p), u3, some (.ref D), u5, none] ∧ H D = none ∧ Same H2 H' ∧ H' D = some (.lst ys) ∧ DpAll K H' ys ((grow k ((layerS k i).take j)).map storyD))
        ⟨_, D0, _, [], rfl, s2.free n3, same_upd n3, upd_same, .nil⟩ (fun i σ' H' _ h => by obtain ⟨_, _, _, _, _, _, s3, _⟩ := h; exact s3.seq hp) ?_ ?_⟩
      · rintro j y σ' H3 hj ⟨u3, D, u5, ys, rfl, nD, s3, hD, hys⟩
        obtain ⟨st, hst, hdy⟩ := dpAll_map hxs hj
        have hj2 : j < (layerS k i).length := (List.getElem?_eq_some_iff.mp hst).1
        have hgl : (grow k ((layerS k i).take (j + 1))).length ≤ 729 := by
          have a : (j + 1) * k ≤ (layerS k i).length * k := Nat.mul_le_mul_right _ hj2
          have b : (layerS k (i + 1)).length = (layerS k i).length * k := grow_len _ _
          rw [grow_len, List.length_take, Nat.min_eq_left hj2]
          show (j + 1) * k ≤ 729
          omega
        have lys : ys.length = (grow k ((layerS k i).take j)).length := dpAll_mapLen hys
        have hgs : grow k ((layerS k i).take (j + 1)) = grow k ((layerS k i).take j) ++ (List.range k).map fun h => st ++ [h] := by rw [takeS hst, grow_snoc]
        have hgl2 := hgl
        rw [hgs, List.length_append, List.length_map, List.length_range] at hgl2
        obtain ⟨m1, _⟩ := mem_layer.mp (List.mem_of_getElem? hst)
        refine ⟨_, rfl, _, rfl, _, rfl, by omega, by omega, ?_⟩
        rw [show ((k : Nat) : Int).toNat = k from rfl]
        refine fun D2 hD2 => ?_
        refine lc_range (n := k) (fun h H' => Same H3 H' ∧ ∃ zs, H' D2 = some (.lst zs) ∧ DpAll K H' zs (((List.range h).map fun h => st ++ [h]).map storyD)) ⟨same_up (Same.refl _) hD2, [], upd_same, .nil⟩ ?_ ?_
        · rintro h H4 hh ⟨s4, zs, hz1, hz2⟩
          rw [Int.zero_add]
          refine ⟨rfl, yes ⟨_, rfl, _, rfl, (by show 1 ≤ sizeLine; decide), fun t nt => ?_⟩⟩
          refine ⟨_, _, dp_same ((s3.trans s4).trans (same_upd nt)) hdy, .tup (.inl (.inl upd_same)) (.cons (.int _) .nil), ?_, fun H5 z s5 hz => ?_⟩
          · rw [List.length_map]
            exact Nat.le_of_lt (small5 (by show st.length + 1 ≤ 20000; omega))
          · have sX := (same_upd nt).trans s5
            have nX := sX _ _ hz1
            refine ⟨zs, nX, ?_, same_own (s4.trans sX) hD2, _, upd_same, ?_⟩
            · rw [dpAll_mapLen hz2, List.length_map, List.length_range]
              exact small5 (by omega)
            · have er : ((List.range (h + 1)).map fun h => st ++ [h]).map storyD = ((List.range h).map fun h => st ++ [h]).map storyD ++ [storyD (st ++ [h])] := by
                rw [List.range_succ]
                simp
              rw [er]
              have tX : SameT H4 (upd H5 D2 (.lst (zs ++ [z]))) := (Same.toT sX).tr (sameT_lst nX)
              refine dpAll_snoc (dpAll_tt tX (tupAll_map tt_story _) hz2) (dp_tt (sameT_lst nX) (tt_story _) ?_)
              have e1 : storyD (st ++ [h]) = .tuple (st.map (fun n : Nat => PyData.int (n : Int)) ++ [.int (h : Int)]) := by
                unfold storyD
                rw [List.map_append]
                rfl
              rw [e1]
              exact hz
        · rintro H4 ⟨s4, zs, hz1, hz2⟩
          have lz : zs.length = k := by rw [dpAll_mapLen hz2, List.length_map, List.length_range]
          refine ⟨D, D2, ys, zs, rfl, rfl, s4 _ _ hD, hz1, ?_, fun t nt => ?_⟩
          · rw [lys, lz]
            exact Nat.le_of_lt (small5 (by omega))
          · refine ⟨_, t, _, _, rfl, (s2.trans (s3.trans s4)).free nt, same_up (s3.trans s4) nt, upd_same, ?_⟩
            rw [hgs, List.map_append]
            exact dpAll_app (dpAll_same (same_up s4 nt) hys) (dpAll_same (same_upd nt) hz2)
      · rintro σ' H3 ⟨u3, D, u5, ys, rfl, nD, s3, hD, hys⟩
        rw [lx, List.take_length] at hys
        exact ⟨_, rfl, D, _, _, _, rfl, nD, s2.trans s3, .lst (.inl (.inl hD)) hys⟩
    · rintro σ' H2 ⟨p, u3, u4, u5, rfl, nf, s2, hfl⟩
      exact ⟨_, rfl, q _ p s2 nf hfl⟩
end
end Lg
set_option Elab.async false
set_option maxRecDepth 100000
namespace Lg
open PySem PySem.Spec PyProof.Rows L2
/-! ### what may be shown -/
structure Fine (d : PyData) : Prop where
  lay : d.canLay0 = true
  sh : d.showable = true
  sm : d.intsShort 13 = true
structure Shows (d : PyData) : Prop where
  sh : d.showable = true
  dp : d.depth ≤ 60
  len : d.shown.length ≤ sizeLine
theorem Fine.shows {d : PyData} (f : Fine d) (h1 : d.depth ≤ 60) (h2 : d.weight ≤ 1000000) : Shows d := by
  refine ⟨f.sh, h1, ?_⟩
  have z : PyData.layable0 d = true := by
    unfold PyData.layable0
    rw [f.lay, decide_eq_true (show d.depth ≤ 64 by omega), decide_eq_true (show d.weight ≤ 2 ^ 20 from Nat.le_trans h2 (by decide))]
    rfl
  have := shown_le13 z f.sm
  rw [sizeLine_eq]
  omega
theorem fine_all {α : Type} {f : α → PyData} : ∀ {l : List α}, (∀ x, x ∈ l → Fine (f x)) → PyData.canLayAll0 (l.map f) = true ∧ PyData.showableAll (l.map f) = true ∧ PyData.intsShortAll 13 (l.map f) = true
  | [], _ => ⟨rfl, rfl, rfl⟩
  | x :: l, h => by
    obtain ⟨a, b, c⟩ := fine_all (l := l) fun y hy => h y (List.mem_cons_of_mem _ hy)
    have z := h x List.mem_cons_self
    refine ⟨?_, ?_, ?_⟩
    · show ((f x).canLay0 && PyData.canLayAll0 _) = true
      rw [z.lay, a]
      rfl
    · show ((f x).showable && PyData.showableAll _) = true
      rw [z.sh, b]
      rfl
    · show ((f x).intsShort 13 && PyData.intsShortAll 13 _) = true
      rw [z.sm, c]
      rfl
theorem fine_tup {α : Type} {f : α → PyData} {l : List α} (h : ∀ x, x ∈ l → Fine (f x)) : Fine (.tuple (l.map f)) := by
  obtain ⟨a, b, c⟩ := fine_all h
  exact ⟨a, b, c⟩
theorem weight_all {α : Type} {f : α → PyData} {B : Nat} : ∀ {l : List α}, (∀ x, x ∈ l → (f x).weight ≤ B) → PyData.weightAll (l.map f) ≤ (B + 1) * l.length
  | [], _ => Nat.zero_le _
  | x :: l, h => by
    have a := weight_all (l := l) fun y hy => h y (List.mem_cons_of_mem _ hy)
    have z := h x List.mem_cons_self
    show (f x).weight + 1 + PyData.weightAll _ ≤ _
    rw [List.length_cons, Nat.mul_succ]
    omega
theorem digit_facts : ∀ n : Nat, n < 10 → (PyData.int (n : Int)).showable = true ∧ (PyData.int (n : Int)).intsShort 13 = true ∧ (PyData.int (n : Int)).weight ≤ 4 ∧ (PyData.int (n : Int)).shown.cps.toList = [48 + n] := by
  decide +kernel
theorem fine_digit {n : Nat} (h : n < 10) : Fine (.int (n : Int)) := ⟨rfl, (digit_facts n h).1, (digit_facts n h).2.1⟩
theorem fine_story {l : List Nat} (h : ∀ n, n ∈ l → n < 10) : Fine (storyD l) := fine_tup fun n hn => fine_digit (h n hn)
theorem weight_story {l : List Nat} (h : ∀ n, n ∈ l → n < 10) : (storyD l).weight ≤ 5 * l.length := weight_all (B := 4) fun n hn => (digit_facts n (h n hn)).2.2.1
theorem shows_logs {L : Logs} {M : Nat} (h : ∀ l, l ∈ L → (∀ n, n ∈ l → n < 10) ∧ l.length ≤ M) (hM : M ≤ 1000) (hL : L.length ≤ 100) : Shows (logsD L) := by
  refine (fine_tup fun l hl => fine_story (h l hl).1).shows (Nat.le_trans (deep_logs L) (by decide)) ?_
  have w : (logsD L).weight ≤ (5 * M + 1) * L.length := weight_all (B := 5 * M) fun l hl => Nat.le_trans (weight_story (h l hl).1) (Nat.mul_le_mul_left _ (h l hl).2)
  have z : (5 * M + 1) * L.length ≤ 5001 * 100 := Nat.mul_le_mul (by omega) hL
  exact Nat.le_trans w (Nat.le_trans z (by decide))
/-! ### what is shown of logs tells the logs -/
/-- the signs but commas and blanks -/
def bare (x : Str) : List Nat := x.cps.toList.filter fun c => !(c == 44 || c == 32)
theorem bare_app (a b : Str) : bare (a ++ b) = bare a ++ bare b := by
  unfold bare
  rw [← List.filter_append]
  congr 1
  show (a.cps ++ b.cps).toList = _
  rw [Array.toList_append]
theorem bare_comma : bare (", " : Str) = [] := by decide +kernel
theorem bare_open : bare ("(" : Str) = [40] := by decide +kernel
theorem bare_end1 : bare ((",)" : String) : Str) = [41] := by decide +kernel
theorem bare_end2 : bare ((")" : String) : Str) = [41] := by decide +kernel
theorem bare_join : ∀ ts : List Str, bare (Str.join ", " ts) = ts.flatMap bare
  | [] => by decide +kernel
  | [x] => by simp [Str.join]
  | x :: y :: r => by
    show bare (x ++ ", " ++ Str.join ", " (y :: r)) = _
    rw [bare_app, bare_app, bare_comma, bare_join (y :: r)]
    simp
theorem bare_tuple (xs : List PyData) : bare (PyData.tuple xs).shown = 40 :: ((PyData.shownAll xs).flatMap bare ++ [41]) := by
  rw [PyData.shown_tuple, bare_app, bare_app, bare_join, bare_open]
  by_cases h : (xs.length == 1) = true
  · rw [if_pos h, bare_end1]
    simp
  · rw [if_neg h, bare_end2]
    simp
theorem bare_digit {n : Nat} (h : n < 10) : bare (PyData.int (n : Int)).shown = [48 + n] := by
  unfold bare
  rw [(digit_facts n h).2.2.2, List.filter_cons]
  have e1 : (48 + n == 44) = false := by
    rw [beq_eq_false_iff_ne]
    omega
  have e2 : (48 + n == 32) = false := by
    rw [beq_eq_false_iff_ne]
    omega
  rw [e1, e2]
  rfl
def encL (l : List Nat) : List Nat := 40 :: (l.map (48 + ·) ++ [41])
theorem bare_story {l : List Nat} (h : ∀ n, n ∈ l → n < 10) : bare (storyD l).shown = encL l := by
  unfold storyD
  rw [bare_tuple]
  have key : ∀ l : List Nat, (∀ n, n ∈ l → n < 10) → (PyData.shownAll (l.map fun n : Nat => PyData.int (n : Int))).flatMap bare = l.map (48 + ·) := by
    intro l
    induction l with
    | nil => intro _; rfl
    | cons a l ih =>
      intro h
      show bare (PyData.int (a : Int)).shown ++ (PyData.shownAll _).flatMap bare = _
      rw [bare_digit (h a List.mem_cons_self), ih fun n hn => h n (List.mem_cons_of_mem _ hn)]
      rfl
  rw [key l h]
  rfl
theorem bare_logs {L : Logs} (h : ∀ l, l ∈ L → ∀ n, n ∈ l → n < 10) : bare (logsD L).shown = 40 :: (L.flatMap encL ++ [41]) := by
  unfold logsD
  rw [bare_tuple]
  have key : ∀ L : Logs, (∀ l, l ∈ L → ∀ n, n ∈ l → n < 10) → (PyData.shownAll (L.map storyD)).flatMap bare = L.flatMap encL := by
    intro L
    induction L with
    | nil => intro _; rfl
    | cons a l ih =>
      intro h
      show bare (storyD a).shown ++ (PyData.shownAll _).flatMap bare = _
      rw [bare_story (h a List.mem_cons_self), ih fun n hn => h n (List.mem_cons_of_mem _ hn)]
      rfl
  rw [key L h]
theorem enc_cut : ∀ (l m : List Nat) (r t : List Nat), l.map (48 + ·) ++ 41 :: r = m.map (48 + ·) ++ 41 :: t → l = m ∧ r = t
  | [], [], r, t, h => ⟨rfl, by simpa using h⟩
  | [], b :: m, r, t, h => by
    have z : 41 = 48 + b := (List.cons.inj h).1
    omega
  | a :: l, [], r, t, h => by
    have z : 48 + a = 41 := (List.cons.inj h).1
    omega
  | a :: l, b :: m, r, t, h => by
    obtain ⟨h1, h2⟩ := List.cons.inj h
    obtain ⟨e1, e2⟩ := enc_cut l m r t h2
    have z : 48 + a = 48 + b := h1
    exact ⟨by rw [e1, show a = b by omega], e2⟩
theorem enc_all : ∀ L M : Logs, L.flatMap encL = M.flatMap encL → L = M
  | [], [], _ => rfl
  | [], b :: M, h => by
    have z := congrArg List.length h
    simp [encL] at z
  | a :: L, [], h => by
    have z := congrArg List.length h
    simp [encL] at z
  | a :: L, b :: M, h => by
    have h' : 40 :: (a.map (48 + ·) ++ 41 :: L.flatMap encL) = 40 :: (b.map (48 + ·) ++ 41 :: M.flatMap encL) := by
      simpa [encL] using h
    obtain ⟨e1, e2⟩ := enc_cut a b _ _ (List.cons.inj h').2
    rw [e1, enc_all L M e2]
theorem logs_inj {L M : Logs} (hL : ∀ l, l ∈ L → ∀ n, n ∈ l → n < 10) (hM : ∀ l, l ∈ M → ∀ n, n ∈ l → n < 10) (h : (logsD L).shown = (logsD M).shown) : L = M := by
  have z := congrArg bare h
  rw [bare_logs hL, bare_logs hM] at z
  exact enc_all L M (List.append_cancel_right (List.cons.inj z).2)
end Lg
set_option Elab.async false
set_option maxRecDepth 100000
namespace Lg
open PySem PySem.Spec PyProof.Rows L2
/-! ### the key does not matter, so long as it tells as much -/
def alS (p : Story → Story → Bool) (st : List Story × List (Story × Story)) (s : Story) : List Story × List (Story × Story) :=
  match st.1.find? (fun x => p x s) with
  | some x => (st.1, st.2 ++ [(x, s)])
  | none => (st.1 ++ [s], st.2)
theorem find_keys {κ : Type} [DecidableEq κ] (key : Story → κ) (q : κ) : ∀ D : List Story, (D.map fun s => (key s, s)).find? (fun x => decide (x.1 = q)) = (D.find? (fun x => decide (key x = q))).map fun s => (key s, s)
  | [] => rfl
  | a :: D => by
    rw [List.map_cons]
    by_cases e : key a = q
    · rw [List.find?_cons_of_pos (by simpa using e), List.find?_cons_of_pos (by simpa using e)]
      rfl
    · rw [List.find?_cons_of_neg (by simpa using e), List.find?_cons_of_neg (by simpa using e)]
      exact find_keys key q D
theorem alGo_alS {κ : Type} [DecidableEq κ] (key : Story → κ) (S : List Story) :
    alGo key S = (((S.foldl (alS fun x s => decide (key x = key s)) ([], [])).1.map fun s => (key s, s)), (S.foldl (alS fun x s => decide (key x = key s)) ([], [])).2) := by
  have h : ∀ (S D : List Story) (F : List (Story × Story)), S.foldl (alStep key) (D.map (fun s => (key s, s)), F) =
      (((S.foldl (alS fun x s => decide (key x = key s)) (D, F)).1.map fun s => (key s, s)), (S.foldl (alS fun x s => decide (key x = key s)) (D, F)).2) := by
    intro S
    induction S with
    | nil => intro D F; rfl
    | cons s S ih =>
      intro D F
      rw [List.foldl_cons, List.foldl_cons]
      have e : alStep key (D.map (fun s => (key s, s)), F) s = ((alS (fun x s => decide (key x = key s)) (D, F) s).1.map (fun s => (key s, s)), (alS (fun x s => decide (key x = key s)) (D, F) s).2) := by
        unfold alStep alS
        rw [find_keys]
        cases D.find? (fun x => decide (key x = key s)) with
        | none =>
          show (D.map _ ++ [(key s, s)], F) = ((D ++ [s]).map _, F)
          rw [List.map_append]
          rfl
        | some x => rfl
      rw [e, ih]
  exact h S [] []
theorem alS_congr {p q : Story → Story → Bool} {S : List Story} (h : ∀ a, a ∈ S → ∀ b, b ∈ S → p a b = q a b) : S.foldl (alS p) ([], []) = S.foldl (alS q) ([], []) := by
  have key : ∀ (T D : List Story) (F : List (Story × Story)), (∀ a, a ∈ T → a ∈ S) → (∀ a, a ∈ D → a ∈ S) → T.foldl (alS p) (D, F) = T.foldl (alS q) (D, F) := by
    intro T
    induction T with
    | nil => intro _ _ _ _; rfl
    | cons s T ih =>
      intro D F hT hD
      have hs := hT s List.mem_cons_self
      have hT' := fun a ha => hT a (List.mem_cons_of_mem _ ha)
      rw [List.foldl_cons, List.foldl_cons]
      have e : D.find? (fun x => p x s) = D.find? (fun x => q x s) := by
        have : ∀ (E : List Story), (∀ a, a ∈ E → a ∈ S) → E.find? (fun x => p x s) = E.find? (fun x => q x s) := by
          intro E
          induction E with
          | nil => intro _; rfl
          | cons a E ihE =>
            intro hE
            rw [List.find?_cons, List.find?_cons, h a (hE a List.mem_cons_self) s hs, ihE fun b hb => hE b (List.mem_cons_of_mem _ hb)]
        exact this D hD
      have e2 : alS p (D, F) s = alS q (D, F) s := by
        unfold alS
        rw [e]
      rw [e2]
      unfold alS
      cases D.find? (fun x => q x s) with
      | none =>
        refine ih _ _ hT' fun a ha => ?_
        rcases List.mem_append.mp ha with z | z
        · exact hD a z
        · rw [List.mem_singleton.mp z]
          exact hs
      | some x => exact ih _ _ hT' hD
  exact key S [] [] (fun _ h => h) fun _ h => absurd h (by simp)
theorem alikes_congr {κ ρ : Type} [DecidableEq κ] [DecidableEq ρ] {k1 : Story → κ} {k2 : Story → ρ} {S : List Story} (h : ∀ a, a ∈ S → ∀ b, b ∈ S → (k1 a = k1 b ↔ k2 a = k2 b)) : alikes k1 S = alikes k2 S := by
  unfold alikes
  rw [alGo_alS, alGo_alS, alS_congr (q := fun x s => decide (k2 x = k2 s)) fun a ha b hb => ?_]
  exact decide_eq_decide.mpr (h a ha b hb)
/-! ### the marks are single digits -/
theorem put_dig {L : Logs} {h m : Nat} (hL : ∀ l, l ∈ L → ∀ n, n ∈ l → n < 10) (hm : m < 10) : ∀ l, l ∈ put L h m → ∀ n, n ∈ l → n < 10 := by
  intro l hl n hn
  unfold put at hl
  rcases List.mem_or_eq_of_mem_set hl with z | z
  · exact hL l z n hn
  · rw [z] at hn
    rcases List.mem_append.mp hn with y | y
    · rw [List.getD_eq_getElem?_getD] at y
      cases e : L[h]? with
      | none =>
        rw [e] at y
        exact absurd y (by simp)
      | some x =>
        rw [e] at y
        exact hL x (List.mem_of_getElem? e) n y
    · rw [List.mem_singleton.mp y]
      exact hm
theorem mark_dig {ms : List Nat} {R : Rows} (mok : MarksOk ms) (ok : RowsOk ms R) {s h : Nat} (hs : s < R.length) (hh : h < ms.length) : (markAt R s h).1 < 10 := by
  have a := (mark_ok ok hs hh).1
  rw [List.getD_eq_getElem?_getD, List.getElem?_eq_getElem hh] at a
  have b := (mok.2.2 _ (List.getElem_mem hh)).2
  have a' : (markAt R s h).1 < ms[h] := a
  omega
theorem laid_dig {ms : List Nat} {R : Rows} (mok : MarksOk ms) (ok : RowsOk ms R) (l : Story) (hl : ∀ n, n ∈ l → n < ms.length) : ∀ x, x ∈ (laid ms.length R l).1 → ∀ n, n ∈ x → n < 10 := by
  have key : ∀ (l : List Nat) (s : Logs × Nat), (∀ n, n ∈ l → n < ms.length) → s.2 < R.length → (∀ x, x ∈ s.1 → ∀ n, n ∈ x → n < 10) → ∀ x, x ∈ (l.foldl (deed R) s).1 → ∀ n, n ∈ x → n < 10 := by
    intro l
    induction l with
    | nil => intro s _ _ h; exact h
    | cons a l ih =>
      intro s h1 h2 h3
      have ha := h1 a List.mem_cons_self
      rw [List.foldl_cons]
      exact ih _ (fun n hn => h1 n (List.mem_cons_of_mem _ hn)) (mark_ok ok h2 ha).2 (put_dig h3 (mark_dig mok ok h2 ha))
  exact key l _ hl ok.1 fun x hx n hn => by
    rw [(List.mem_replicate.mp hx).2] at hn
    exact absurd hn (by simp)
/-! ### the first that leave the same, by all stories -/
def firstGo (k : Nat) (R : Rows) : Nat → Nat → PyData
  | 0, _ => .none
  | r + 1, d => if alikes (keyL k R) (layerS k d) = [] then firstGo k R r (d + 1) else toldD (alikes (keyL k R) (layerS k d))
def first (k : Nat) (R : Rows) (len : Nat) : PyData := firstGo k R len 1
theorem two_some {k : Nat} {R : Rows} {most : Int} : ∀ (r i : Nat) {D : PyData}, twoGo k R most r i = some D → D = firstGo k R r (i + 1)
  | 0, _, D, h => (Option.some.inj h).symm
  | r + 1, i, D, h => by
    rw [twoGo] at h
    by_cases g : most < (sumTo k i : Int) + ((layerS k i).length : Int) * (k : Int)
    · rw [if_pos g] at h
      cases h
    · rw [if_neg g] at h
      rw [firstGo]
      by_cases e : alikes (keyL k R) (layerS k (i + 1)) = []
      · rw [if_pos e] at h ⊢
        exact two_some r (i + 1) h
      · rw [if_neg e] at h ⊢
        exact (Option.some.inj h).symm
theorem sum_step (k i : Nat) : (sumTo k i : Int) + ((layerS k i).length : Int) * (k : Int) = (sumTo k (i + 1) : Int) := by
  show _ = ((sumTo k i + (grow k (layerS k i)).length : Nat) : Int)
  rw [grow_len]
  rw [Int.natCast_add, Int.natCast_mul]
theorem sum_le (k : Nat) : ∀ {i j : Nat}, i ≤ j → sumTo k i ≤ sumTo k j
  | i, 0, h => by
    rw [Nat.le_zero.mp h]
    exact Nat.le_refl _
  | i, j + 1, h => by
    by_cases e : i = j + 1
    · rw [e]
      exact Nat.le_refl _
    · exact Nat.le_trans (sum_le k (show i ≤ j by omega)) (Nat.le_add_right _ _)
theorem two_none {k : Nat} {R : Rows} {most : Int} : ∀ (r i : Nat), twoGo k R most r i = none → most < (sumTo k (i + r) : Int)
  | 0, _, h => by
    cases h
  | r + 1, i, h => by
    rw [twoGo] at h
    by_cases g : most < (sumTo k i : Int) + ((layerS k i).length : Int) * (k : Int)
    · rw [sum_step] at g
      have := sum_le k (show i + 1 ≤ i + (r + 1) by omega)
      omega
    · rw [if_neg g] at h
      by_cases e : alikes (keyL k R) (layerS k (i + 1)) = []
      · rw [if_pos e] at h
        have z := two_none r (i + 1) h
        rw [show i + 1 + r = i + (r + 1) by omega] at z
        exact z
      · rw [if_neg e] at h
        cases h
theorem two_full {k : Nat} {R : Rows} {len : Nat} (hk : k ≤ 3) (hl : len ≤ 6) : two k R 20000 len = some (first k R len) := by
  cases h : two k R 20000 len with
  | none =>
    have z := two_none len 0 h
    have y := sum_small hk (0 + len) (by omega)
    omega
  | some D => rw [two_some len 0 h]; rfl
end Lg
set_option Elab.async false
set_option maxRecDepth 100000
set_option maxHeartbeats 2000000
namespace Lg
open PySem PySem.Spec PyProof.Rows L2
section
variable {X : Cx} {e : Expr} {es : List Expr} {t : TA} {p pos : Pos}
theorem p_repr (hgu : X.A.guards = some []) (hu : X.A.units + 64 < cLine) (hm : X.mg "repr" = none) (ha : PA X (e :: es) t) (hg : Gl X "repr" := by rfl) (he : starEach (e :: es) X.env = (false, eval e X.env) :: starEach es X.env := by rfl) (hpl : (backTo pos (starEach es X.env)).any (·.1) = false := by rfl) :
    PE X (.Call (.Name "repr" p) (e :: es) [] pos) (tCB (rRepr X.K) t) := pe_callB (cr_repr hgu hu) hg hm (by decide +kernel) ha (by decide) (by decide) he hpl
end
/-- what the dict of texts tells -/
def SicRel (K : PySem.W.Frag) (H : Hp) : List (Key × V) → List (Str × Story) → Prop := Paired fun x y => x.1 = Sum.inr y.1 ∧ Dp K H x.2 (storyD y.2)
theorem SicRel.tt {K : PySem.W.Frag} {H H' : Hp} {xs : List (Key × V)} {ys : List (Str × Story)} (r : SicRel K H xs ys) (s : SameT H H') : SicRel K H' xs ys := Paired.mapP r fun _ _ h => ⟨h.1, dp_tt s (tt_story _) h.2⟩
theorem SicRel.snoc {K : PySem.W.Frag} {H : Hp} {xs : List (Key × V)} {ys : List (Str × Story)} {q : Str} {v : V} {s : Story} (r : SicRel K H xs ys) (h : Dp K H v (storyD s)) : SicRel K H (xs ++ [(Sum.inr q, v)]) (ys ++ [(q, s)]) := by
  unfold SicRel at r ⊢
  induction r with
  | nil => exact .cons ⟨rfl, h⟩ .nil
  | cons a _ ih => exact .cons a ih
theorem sic_look {K : PySem.W.Frag} {H : Hp} {q : Str} {xs : List (Key × V)} {ys : List (Str × Story)} (r : SicRel K H xs ys) :
    (valV xs (Sum.inr q) = none ∧ ys.find? (fun y => decide (y.1 = q)) = none) ∨ ∃ v y, valV xs (Sum.inr q) = some v ∧ ys.find? (fun y => decide (y.1 = q)) = some y ∧ Dp K H v (storyD y.2) := by
  unfold SicRel at r
  induction r with
  | nil => exact .inl ⟨rfl, rfl⟩
  | @cons x y _ _ a _ ih =>
    by_cases e : y.1 = q
    · refine .inr ⟨x.2, y, valV_pos (by rw [a.1, e]), ?_, a.2⟩
      rw [List.find?_cons_of_pos (by simpa using e)]
    · rw [valV_neg (fun z => e (by rw [a.1] at z; exact Sum.inr.inj z)), List.find?_cons_of_neg (by simpa using e)]
      exact ih
theorem putK_new {kvs : List (Key × V)} {k : Key} {v : V} (h : valV kvs k = none) : putK kvs k v = kvs ++ [(k, v)] := by
  unfold putK
  rw [valV_any, h]
  rfl
/-- all but the two stay -/
def Keep2 (d D : Addr) (H H' : Hp) : Prop := ∀ b u, b ≠ d → b ≠ D → H b = some u → H' b = some u
theorem tup_storyV {K : PySem.W.Frag} {H : Hp} {y : V} {s : Story} (h : Dp K H y (storyD s)) : StoryV K H y s := by
  obtain ⟨a, xs, rfl, h1, h2⟩ := dp_tup h
  rw [dp_ints_inv h2] at h1
  exact ⟨a, rfl, .inr h1⟩
def keyS (k : Nat) (R : Rows) : Story → Str := fun s => (logsD (laid k R s).1).shown
theorem alikes_S {ms : List Nat} {R : Rows} (mok : MarksOk ms) (rok : RowsOk ms R) (n : Nat) : alikes (keyS ms.length R) (layerS ms.length n) = alikes (keyL ms.length R) (layerS ms.length n) := by
  refine alikes_congr fun a ha b hb => ⟨fun h => ?_, fun h => ?_⟩
  · exact logs_inj (laid_dig mok rok a (mem_layer.mp ha).2) (laid_dig mok rok b (mem_layer.mp hb).2) h
  · show (logsD (keyL ms.length R a)).shown = (logsD (keyL ms.length R b)).shown
    rw [h]
theorem lay_pairs : ∀ ps : List (Story × Story), PyData.canLayAll0 (ps.map pairOf) = true
  | [] => rfl
  | p :: ps => by
    show ((pairOf p).canLay0 && PyData.canLayAll0 _) = true
    rw [lay_pairs ps]
    show (((storyD p.1).canLay0 && ((storyD p.2).canLay0 && true)) && true) = true
    rw [lay_story, lay_story]
    rfl
theorem shaped_pairs (ps : List (Story × Story)) : SeqAt.shaped (.list (ps.map pairOf)) = true := by
  unfold SeqAt.shaped
  have : (PyData.list (ps.map pairOf)).canLay0 = true := lay_pairs ps
  rw [this, Bool.true_and]
  refine decide_eq_true ?_
  have := deep_pairs ps
  show PyData.depthAll _ + 1 ≤ 64
  omega
theorem eqv_empty (ps : List (Story × Story)) : PyData.eqv (.list (ps.map pairOf)) (.list []) = decide (ps = []) := by
  cases ps <;> rfl
section
variable {P : Program} {w : World} {K : PySem.W.Frag} {mg : Str → Option Value} {base : Heap}
abbrev DStories (P : Program) (w : World) (K : PySem.W.Frag) (mg : Str → Option Value) (base : Heap) : Prop := Fd P w K mg base "_law_stories" 1 ["_law_many", "_law_length"] (spStories K)
abbrev DLaid (P : Program) (w : World) (K : PySem.W.Frag) (mg : Str → Option Value) (base : Heap) : Prop := Fd P w K mg base "_law_laid" 1 ["_law_marks", "_law_rows", "_law_story"] (spLaid K)
/-! ### _law_first -/
def spFirst (K : PySem.W.Frag) : Sp := fun vs H Q _ => ∃ (am : Addr) (rv : V) (ms : List Nat) (R : Rows) (n : Nat), vs = [.ref am, rv, nV n] ∧ SqL K H am (marksV ms) ∧ Dp K H rv (rowsL R) ∧ MarksOk ms ∧ RowsOk ms R ∧ n ≤ 6 ∧
  ∀ H' z, Same H H' → Dp K H' z (first ms.length R n) → Q z H'
theorem ok_first (F : FunAt K mg "_law_first" (top 41) ["_law_marks", "_law_rows", "_law_length"]) (T : Txt K mg) (DS : DStories P w K mg base) (DL : DLaid P w K mg base) : FdG P w K mg base "_law_first" 2 ["_law_marks", "_law_rows", "_law_length"] (spFirst K) := by
  have sc : FnScope ["_law_marks", "_law_rows", "_law_length", "_law_deeds", "_law_lots", "_law_found", "_law_story", "_law_key"] ["_law_marks", "_law_rows", "_law_length"] (defScope (top 41)) := ⟨rfl, rfl, rfl, by decide +kernel, rfl, by decide +kernel, by decide +kernel⟩
  refine FdG.mk' F fun f fd F => okG F sc (fun vs H Q E h => ?_) (fun cdv A outer s H vs Q E hr hg h => ?_)
  · obtain ⟨am, rv, ms, R, n, rfl, _⟩ := h
    rfl
  · obtain ⟨am, rv, ms, R, n, rfl, hm, hR, mok, rok, hn, q⟩ := h
    refine ⟨_, (pss_cons (ps_for PassesOwn.never rfl (pi_range2 (by rfl) T.range (pa_cons pe_int (pa_cons (pe_op op_add (pv 2) pe_int) pa_nil))) (pg_name (i := 3) sc.nd rfl (.inl rfl)) (pss_cons (ps_par (i := 4) (j := 5) rfl sc.nd rfl rfl (by decide) rfl rfl (pa_cons pe_dnewK (pa_cons (pe_lst pa_nil) pa_nil)) rfl)
        (pss_cons (ps_for PassesOwn.never rfl (pi_list (pf DS (hr.mono (by decide)) (pa_cons (p_len T.len (pa_cons (pv 0) pa_nil)) (pa_cons (pv 3) pa_nil)))) (pg_name (i := 6) sc.nd rfl (.inl rfl)) (pss_cons (ps_set (i := 7) sc.nd rfl (.inl rfl) (p_repr hg hr.units T.repr (pa_cons (pf DL (hr.mono (by decide)) (pa_cons (pv 0) (pa_cons (pv 1) (pa_cons (pv 6) pa_nil)))) pa_nil)))
        (pss_one (ps_if (pt_cmp (pc_din (hu_of hr) (pv 7) (pv 4))) (pss_one (ps_expr (pe_bm PySem.F.plainAttrs_list PySem.F.slot_list_append PySem.F.type_list_append mt_append (pv 5) (pa_cons (pe_tup (pa_cons (pe_dget (hu_of hr) (pv 4) (pv 7) (fun _ _ => rfl)) (pa_cons (pv 6) pa_nil))) pa_nil)))) (pss_one (ps_dput (hu_of hr) (pv 4) (pv 7) (pv 6) rfl))))))
        (pss_one (ps_if (pt_cmpR (op_neD hr.units) (pv 5) (pe_lst pa_nil) (nomark _)) (pss_one (ps_ret (pe_op op_catD (pe_tup (pa_cons pe_str pa_nil)) (p_minD rfl hr.units T.min (pa_cons (pv 5) pa_nil))))) pss_nil)))))
        (pss_one (ps_ret pe_non))), ?_⟩
    have lm : (marksV ms).length = ms.length := List.length_map ..
    have m3 := mok.2.1
    refine ⟨_, rfl, _, _, rfl, rfl, _, _, rfl, ⟨by decide, by decide, by omega, by omega⟩, ?_⟩
    rw [show (((n : Nat) : Int) + 1 - 1).toNat = n by omega]
    refine for_range (n := n) (fun i σ' H' => ∃ u3 u4 u5 u6 u7, σ' = [some (.ref am), some rv, some (nV n), u3, u4, u5, u6, u7] ∧ Same H H' ∧ i ≤ n ∧ firstGo ms.length R (n - i) (i + 1) = first ms.length R n)
      ⟨_, _, _, _, _, rfl, Same.refl _, Nat.zero_le _, rfl⟩ ?_ ?_
    · rintro i σ' H2 hi ⟨u3, u4, u5, u6, u7, rfl, s2, _, hf⟩
      obtain ⟨r', hr'⟩ : ∃ r', n - i = r' + 1 := ⟨n - i - 1, by omega⟩
      have hr2 : n - (i + 1) = r' := by omega
      rw [hr', firstGo] at hf
      rw [show (1 : Int) + (i : Nat) = ((i + 1 : Nat) : Int) by omega]
      refine fun d nd => ⟨(by show 0 ≤ sizeLine; exact Nat.zero_le _), fun D nD => ⟨_, _, rfl, ?_⟩⟩
      have nDd : d ≠ D := ne_of_none upd_same nD
      have hd0 : H d = none := s2.free nd
      have hD0 : H D = none := s2.free ((same_upd nd).free nD)
      have s3 : Same H (upd (upd H2 d (.dK [])) D (.lst [])) := s2.trans (same_up (same_upd nd) nD)
      refine ⟨_, rfl, am, _, rfl, .inl (s3.seq hm), _, rfl, ms.length, i + 1, by rw [lm]; rfl, m3, by omega, fun H3 t s4 nt hl => ?_⟩
      obtain ⟨t', xs, et, ht, hxs⟩ := dp_lst hl
      cases et
      have lx : xs.length = (layerS ms.length (i + 1)).length := dpAll_mapLen hxs
      have lsz := layer_small (n := i + 1) m3 (by omega)
      have hd3 : H3 d = some (.dK []) := s4 _ _ ((upd_ne nDd).trans upd_same)
      have hD3 : H3 D = some (.lst []) := s4 _ _ upd_same
      have ntd : t ≠ d := fun z => by
        rw [z, upd_ne nDd, upd_same] at nt
        cases nt
      have ntD : t ≠ D := fun z => by
        rw [z, upd_same] at nt
        cases nt
      have s03 : Same H H3 := s3.trans s4
      -- what the turns keep
      have kS : ∀ {H' : Hp}, Keep2 d D H3 H' → Same H H' := fun k b u e => k b u (ne_of_none e hd0) (ne_of_none e hD0) (s03 b u e)
      have kT : ∀ {H' : Hp}, Keep2 d D H3 H' → SameT H3 H' := fun k b u e z => k b u
        (fun w => by rw [w, hd3] at e; rcases z with ⟨_, z⟩ | ⟨_, _, z⟩ <;> (rw [z] at e; cases e))
        (fun w => by rw [w, hD3] at e; rcases z with ⟨_, z⟩ | ⟨_, _, z⟩ <;> (rw [z] at e; cases e)) e
      have kL : ∀ {H' : Hp}, Keep2 d D H3 H' → SqL K H' t xs := fun k => by
        rcases ht with (h | ⟨o, h⟩) | h
        · exact .inl (.inl (k _ _ ntd ntD h))
        · exact .inl (.inr ⟨o, k _ _ ntd ntD h⟩)
        · exact .inr h
      refine ⟨t, rfl, ⟨_, ht⟩, for_list (K := K) (a := t) (xs := xs)
        (fun j σ' H' => ∃ u6 u7 kvs ys, σ' = [some (.ref am), some rv, some (nV n), some (nV (i + 1)), some (.ref d), some (.ref D), u6, u7] ∧ Keep2 d D H3 H' ∧ H' d = some (.dK kvs) ∧ H' D = some (.lst ys) ∧
          SicRel K H' kvs (alGo (keyS ms.length R) ((layerS ms.length (i + 1)).take j)).1 ∧ DpAll K H' ys ((alGo (keyS ms.length R) ((layerS ms.length (i + 1)).take j)).2.map pairOf))
        ⟨_, _, [], [], rfl, fun _ _ _ _ e => e, hd3, hD3, .nil, .nil⟩ (fun j σ' H' _ h => by obtain ⟨_, _, _, _, _, k2, _⟩ := h; exact kL k2) ?_ ?_⟩
      · rintro j y σ' H4 hj ⟨u6, u7, kvs, ys, rfl, k2, hd4, hD4, SR, hys⟩
        obtain ⟨st, hst, hdy⟩ := dpAll_map hxs hj
        have hj2 : j < (layerS ms.length (i + 1)).length := (List.getElem?_eq_some_iff.mp hst).1
        obtain ⟨m1, m2⟩ := mem_layer.mp (List.mem_of_getElem? hst)
        have hdy4 := dp_tt (kT k2) (tt_story st) hdy
        have hlen := alGo_len (keyS ms.length R) ((layerS ms.length (i + 1)).take j)
        rw [List.length_take, Nat.min_eq_left (Nat.le_of_lt hj2)] at hlen
        have hgo : alGo (keyS ms.length R) ((layerS ms.length (i + 1)).take (j + 1)) = alStep (keyS ms.length R) (alGo (keyS ms.length R) ((layerS ms.length (i + 1)).take j)) st := by
          rw [takeS hst, alGo_snoc]
        have s04 := kS k2
        refine ⟨_, rfl, _, rfl, _, rfl, am, rv, y, ms, st, R, rfl, s04.seq hm, dp_same s04 hR, mok, rok, tup_storyV hdy4, by omega, m2, fun H5 t5 s5 h5 => ?_⟩
        have sh : Shows (logsD (laid ms.length R st).1) := shows_logs (M := 1000) (fun l hl => ⟨laid_dig mok rok st m2 l hl, by have := laid_size ms.length R st l hl; omega⟩) (Nat.le_refl _) (by rw [laid_len]; omega)
        refine ⟨_, _, rfl, h5, sh.sh, sh.dp, sh.len, ?_⟩
        have hd5 := s5 _ _ hd4
        have hD5 := s5 _ _ hD4
        have SR5 := SR.tt (Same.toT s5)
        have hys5 := dpAll_same s5 hys
        have hdy5 := dp_same s5 hdy4
        have k5 : Keep2 d D H3 H5 := fun b u n1 n2 e => s5 _ _ (k2 b u n1 n2 e)
        refine ⟨_, rfl, _, rfl, d, _, rfl, DGet.k (k := Sum.inr (keyS ms.length R st)) hd5, _, rfl, ?_⟩
        rcases sic_look (q := keyS ms.length R st) SR5 with ⟨l1, l2⟩ | ⟨v, yy, l1, l2, dv⟩
        · rw [l1]
          refine iteF ?_
          have hgo2 : alStep (keyS ms.length R) (alGo (keyS ms.length R) ((layerS ms.length (i + 1)).take j)) st = ((alGo (keyS ms.length R) ((layerS ms.length (i + 1)).take j)).1 ++ [(keyS ms.length R st, st)], (alGo (keyS ms.length R) ((layerS ms.length (i + 1)).take j)).2) := by
            unfold alStep
            rw [l2]
          have lk : kvs.length = _ := Paired.length SR5
          refine ⟨_, rfl, _, rfl, _, rfl, d, _, rfl, DPut.k (k := Sum.inr (keyS ms.length R st)) hd5 (small5 (by omega)), ?_⟩
          rw [putK_new l1]
          have tt : SameT H5 (upd H5 d (.dK (kvs ++ [(Sum.inr (keyS ms.length R st), y)]))) := sameT_upd hd5 (fun _ z => by cases z) (fun _ _ z => by cases z)
          refine ⟨_, _, _, ys, rfl, fun b u n1 n2 e => (upd_ne n1).trans (k5 b u n1 n2 e), upd_same, (upd_ne nDd.symm).trans hD5, ?_, ?_⟩
          · rw [hgo, hgo2]
            exact (SR5.tt tt).snoc (dp_tt tt (tt_story _) hdy5)
          · rw [hgo, hgo2]
            exact dpAll_tt tt (tupAll_map tt_pairOf _) hys5
        · rw [l1]
          refine iteT ?_
          have hgo2 : alStep (keyS ms.length R) (alGo (keyS ms.length R) ((layerS ms.length (i + 1)).take j)) st = ((alGo (keyS ms.length R) ((layerS ms.length (i + 1)).take j)).1, (alGo (keyS ms.length R) ((layerS ms.length (i + 1)).take j)).2 ++ [(yy.2, st)]) := by
            unfold alStep
            rw [l2]
          have lk := dpAll_mapLen hys5
          refine ⟨_, rfl, .inl ⟨rfl, _, .inl (.inl hD5)⟩, _, rfl, _, rfl, d, v, rfl, ?_, _, rfl, (by show 2 ≤ sizeLine; decide), fun t6 nt6 => ?_⟩
          · rw [← l1]
            exact DGet.k (k := Sum.inr (keyS ms.length R st)) hd5
          · have nDt : D ≠ t6 := ne_of_none hD5 nt6
            have ndt : d ≠ t6 := ne_of_none hd5 nt6
            have tX : SameT H5 (upd (upd H5 t6 (.tup [v, y])) D (.lst (ys ++ [.ref t6]))) := (Same.toT (same_upd nt6)).tr (sameT_lst ((upd_ne nDt).trans hD5))
            refine ⟨D, ys, _, rfl, rfl, (upd_ne nDt).trans hD5, small5 (by omega), ?_⟩
            refine ⟨_, _, kvs, _, rfl, fun b u n1 n2 e => ?_, ?_, upd_same, ?_, ?_⟩
            · have z := k5 b u n1 n2 e
              rw [upd_ne n2, upd_ne (ne_of_none z nt6)]
              exact z
            · rw [upd_ne nDd, upd_ne ndt]
              exact hd5
            · rw [hgo, hgo2]
              exact SR5.tt tX
            · rw [hgo, hgo2, List.map_append]
              exact dpAll_snoc (dpAll_tt tX (tupAll_map tt_pairOf _) hys5) (.tup (.inl (.inl ((upd_ne nDt.symm).trans upd_same))) (.cons (dp_tt tX (tt_story _) dv) (.cons (dp_tt tX (tt_story _) hdy5) .nil)))
      · rintro σ' H4 ⟨u6, u7, kvs, ys, rfl, k2, hd4, hD4, SR, hys⟩
        rw [lx, List.take_length] at hys
        have hys' : DpAll K H4 ys ((alikes (keyS ms.length R) (layerS ms.length (i + 1))).map pairOf) := hys
        rw [alikes_S mok rok] at hys'
        have s04 := kS k2
        refine ⟨_, rfl, (by show 0 ≤ sizeLine; exact Nat.zero_le _), fun e ne => ?_⟩
        refine ⟨.list ((alikes (keyL ms.length R) (layerS ms.length (i + 1))).map pairOf), .list [], .lst (.inl (.inl ((upd_ne (ne_of_none hD4 ne)).trans hD4))) (dpAll_same (same_upd ne) hys'), .lst (.inl (.inl upd_same)) .nil, shaped_pairs _, shaped_pairs [], _, rfl, ?_⟩
        rw [eqv_empty]
        by_cases hne : alikes (keyL ms.length R) (layerS ms.length (i + 1)) = []
        · rw [if_pos hne] at hf
          refine iteE (c := false) (by rw [decide_eq_true hne]; rfl) (iteF ⟨_, _, _, _, _, rfl, s04.trans (same_upd ne), by omega, ?_⟩)
          rw [hr2]
          exact hf
        · rw [if_neg hne] at hf
          refine iteE (c := true) (by rw [decide_eq_false hne]; rfl) (iteT ?_)
          refine ⟨(by show 1 ≤ sizeLine; decide), fun e2 ne2 => ?_⟩
          have hD6 : (upd (upd H4 e (.lst [])) e2 (.tup [.str "stories"])) D = some (.lst ys) := same_up (same_upd ne) ne2 _ _ hD4
          have hys6 := dpAll_same (same_up (o := .tup [.str "stories"]) (same_upd (o := .lst []) ne) ne2) hys'
          cases hps : alikes (keyL ms.length R) (layerS ms.length (i + 1)) with
          | nil => exact absurd hps hne
          | cons a r =>
            rw [hps] at hys6 hf
            have ha := alike_pairs (a :: r)
            have hdp := deep_pairs (a :: r)
            refine ⟨_, rfl, D, ys, pairOf a, r.map pairOf, rfl, .inl (.inl hD6), hys6, ha, by simpa using Nat.le_trans hdp (by omega), fun z _ hz => ?_⟩
            obtain ⟨pp, _, hpp⟩ := best_mem (ps := a :: r) (by simp)
            have hz' : Dp K (upd (upd H4 e (.lst [])) e2 (.tup [.str "stories"])) z (pairOf pp) := by
              rw [← hpp]
              exact hz
            refine ⟨[.str "stories"], [storyD pp.1, storyD pp.2], .tup (.inl (.inl upd_same)) (.cons (.str _) .nil), hz', by show 3 ≤ sizeLine; decide, fun H7 z7 s7 d7 => ?_⟩
            refine q H7 z7 ((s04.trans (same_up (same_upd ne) ne2)).trans s7) ?_
            rw [← hf, told_of hpp]
            exact d7
    · rintro σ' H2 ⟨u3, u4, u5, u6, u7, rfl, s2, _, hf⟩
      rw [Nat.sub_self] at hf
      refine q H2 .non s2 ?_
      rw [← hf]
      exact .non
end
end Lg
set_option Elab.async false
set_option maxRecDepth 100000
set_option maxHeartbeats 2000000
namespace Lg
open PySem PySem.Spec PyProof.Rows L2
theorem lay_filter {p : PyData → Bool} : ∀ {l : List PyData}, PyData.canLayAll0 l = true → PyData.canLayAll0 (l.filter p) = true
  | [], _ => rfl
  | a :: l, h => by
    have h' : (a.canLay0 && PyData.canLayAll0 l) = true := h
    obtain ⟨h1, h2⟩ := Bool.and_eq_true_iff.mp h'
    have z := lay_filter (p := p) h2
    rw [List.filter_cons]
    split
    · show (a.canLay0 && PyData.canLayAll0 _) = true
      rw [h1, z]
      rfl
    · exact z
theorem deep_filter {p : PyData → Bool} : ∀ l : List PyData, PyData.depthAll (l.filter p) ≤ PyData.depthAll l
  | [] => Nat.le_refl _
  | a :: l => by
    have z := deep_filter (p := p) l
    rw [List.filter_cons]
    split
    · show max a.depth (PyData.depthAll _) ≤ max a.depth (PyData.depthAll l)
      omega
    · show _ ≤ max a.depth (PyData.depthAll l)
      omega
theorem eqv_nil (ds : List PyData) : PyData.eqv (.list ds) (.list []) = decide (ds = []) := by
  cases ds <;> rfl
theorem shaped_items {d : PyData} (h : SeqAt.shaped d = true) : PyData.canLayAll0 (itemsOf d) = true ∧ PyData.depthAll (itemsOf d) + 1 ≤ 65 := by
  have h1 := SeqAt.canLay_of_shaped h
  have h2 := SeqAt.depth_of_shaped h
  cases d with
  | list ds =>
    have h2' : PyData.depthAll ds + 1 ≤ 64 := h2
    exact ⟨h1, Nat.le_trans h2' (by decide)⟩
  | tuple ds =>
    have h2' : PyData.depthAll ds + 1 ≤ 64 := h2
    exact ⟨h1, Nat.le_trans h2' (by decide)⟩
  | _ => exact ⟨rfl, show (0 : Nat) + 1 ≤ 65 by decide⟩
theorem shaped_list {ds : List PyData} (h1 : PyData.canLayAll0 ds = true) (h2 : PyData.depthAll ds + 1 ≤ 64) : SeqAt.shaped (.list ds) = true := by
  unfold SeqAt.shaped
  have : (PyData.list ds).canLay0 = true := h1
  rw [this, Bool.true_and]
  exact decide_eq_true h2
theorem take_filter {p : PyData → Bool} {l : List PyData} {i : Nat} {e : PyData} (h : l[i]? = some e) : (l.take (i + 1)).filter p = (l.take i).filter p ++ (if p e = true then [e] else []) := by
  rw [takeS h, List.filter_append, List.filter_cons]
  rfl
def tBad (K : PySem.W.Frag) : TT := tOr (tNot (tB (tCB (rIsi K) (tCons (tVar 2) (tCons (tC (.ty "int")) tNil))))) (tOr (tB (tCB (rIsi K) (tCons (tVar 2) (tCons (tC (.ty "bool")) tNil)))) (tNot (tTest (tChain (rI0 fun i j => .bl (decide (i ≤ j))) (rI0 fun i j => .bl (decide (i < j))) (tC (.int 0)) (tVar 2) (tVar 1)))))
theorem bad_read {K : PySem.W.Frag} {H : Hp} {x : Option V} {y : V} {d : PyData} {k : Nat} {R : Bool → Hp → Prop} (hy : Dp K H y d) (q : R (!belowD (k : Int) d) H) : tBad K [x, some (nV k), some y] H R := by
  refine ⟨_, rfl, ⟨_, _, _, _, _, rfl, .ty _, dp_ty hy, kit_int d, _, rfl, ?_⟩⟩
  cases hy with
  | int i =>
    refine iteF ⟨_, rfl, ⟨_, _, _, _, _, rfl, .ty _, dp_ty (.int i), kit_bool _, _, rfl, iteF ?_⟩⟩
    refine ⟨_, rfl, _, _, rfl, rfl, _, rfl, ?_⟩
    by_cases c : (0 : Int) ≤ i
    · refine iteD c ⟨_, rfl, _, _, rfl, rfl, _, rfl, ?_⟩
      have e : belowD (k : Int) (.int i) = decide (i < (k : Int)) := by
        show (decide _ && decide _) = _
        rw [decide_eq_true c, Bool.true_and]
      rw [e] at q
      exact q
    · refine iteN c ⟨_, rfl, ?_⟩
      have e : belowD (k : Int) (.int i) = false := by
        show (decide _ && decide _) = _
        rw [decide_eq_false c, Bool.false_and]
      rw [e] at q
      exact q
  | bl b => exact iteF ⟨_, rfl, ⟨_, _, _, _, _, rfl, .ty _, dp_ty (.bl b), kit_bool _, _, rfl, iteT q⟩⟩
  | _ => exact iteT q
section
variable {P : Program} {w : World} {K : PySem.W.Frag} {mg : Str → Option Value} {base : Heap}
/-! ### _law_is_story -/
def spIsT (K : PySem.W.Frag) : Sp := fun vs H Q _ => ∃ (x : V) (d : PyData) (k : Nat), vs = [x, nV k] ∧ Dp K H x d ∧ (itemsOf d).length ≤ 10000 ∧ PyData.canLayAll0 (itemsOf d) = true ∧ PyData.depthAll (itemsOf d) + 1 ≤ 64 ∧ ∀ H', Same H H' → Q (.bl (isStoryD k d)) H'
theorem ok_isT (F : FunAt K mg "_law_is_story" (top 42) ["_law_value", "_law_many"]) (T : Txt K mg) : Fd P w K mg base "_law_is_story" 1 ["_law_value", "_law_many"] (spIsT K) := by
  have sc : FnScope ["_law_value", "_law_many", "_law_hand"] ["_law_value", "_law_many"] (defScope (top 42)) := ⟨rfl, rfl, rfl, by decide +kernel, rfl, by decide +kernel, by decide +kernel⟩
  refine Fd.mk' F fun f fd F => F.ok sc (fun vs H Q E h => ?_) (fun cdv A outer s H vs Q E hr h => ?_)
  · obtain ⟨x, d, k, rfl, _⟩ := h
    rfl
  · obtain ⟨x, d, k, rfl, hx, hl, hs, hdp, q⟩ := h
    refine ⟨_, (pss_cons (ps_if (pt_not (pt_val (pe_callB call_isiT (by rfl) T.isi (by decide +kernel) (pa_cons (pv 0) (pa_cons (pe_tup (pa_cons (pe_ty "list" T.list (by decide +kernel)) (pa_cons (pe_ty "tuple" T.tuple (by decide +kernel)) pa_nil))) pa_nil))))) (pss_one (ps_ret pe_bl)) pss_nil)
      (pss_one (ps_ret (pe_cmpR (op_eqD hr.units) (pe_lc (own := [("_law_hand", 2)]) (g := gName 2)
        (tt := tBad K)
        (te := tVar 2) rfl sc.nd (pi_or (pi_list (pv 0)) (pi_tup (pv 0))) (blkOk_by (N := ["_law_value", "_law_many", "_law_hand"]) (sc := defScope (top 42)) (by decide +kernel)) (fun _ _ _ _ _ => by exact pg_name (i := 2) sc.nd rfl (.inl rfl))
        (fun _ _ _ _ _ => by exact pts_one (pw_or (pt_not (pt_val (pe_callB call_isi (by rfl) T.isi (by decide +kernel) (pa_cons (pv 2) (pa_cons (pe_ty "int" T.int (by decide +kernel)) pa_nil))))) (pw_or (pt_val (pe_callB call_isi (by rfl) T.isi (by decide +kernel) (pa_cons (pv 2) (pa_cons (pe_ty "bool" T.bool (by decide +kernel)) pa_nil)))) (pw_or1 (pt_not (pt_chain op_le op_lt pe_int (pv 2) (pv 1)))))).pt)
        (fun _ _ _ _ _ => by exact pv 2)) (pe_lst pa_nil) (nomark _))))), ?_⟩
    refine ⟨_, rfl, (by show 2 ≤ sizeLine; decide), fun p hp => ?_⟩
    refine ⟨_, p, _, _, _, _, rfl, upd_same, .cons (.ty _) (.cons (.ty _) .nil), dp_ty (dp_same (same_upd hp) hx), kit_seq d, _, rfl, ?_⟩
    have s1 : Same H (upd H p (.tup [.ty "list", .ty "tuple"])) := same_upd hp
    generalize upd H p (.tup [.ty "list", .ty "tuple"]) = H1 at s1 ⊢
    by_cases hsq : isSeqD d = true
    · refine iteE (c := false) (by rw [hsq]; rfl) (iteF ?_)
      obtain ⟨a, xs, rfl, ha, hxs⟩ := seq_of (dp_same s1 hx) hsq
      have lx : xs.length = (itemsOf d).length := dpAll_len hxs
      have fin : ∀ (D : Addr) (H2 : Hp), (Same H1 H2 ∧ ∃ ys, H2 D = some (.lst ys) ∧ DpAll K H1 ys (((itemsOf d).take xs.length).filter fun e => !belowD (k : Int) e)) → tLst tNil [some (.ref a), some (nV k), none] H2 fun y H3 => rEqD K (.ref D) y H3 Q := by
        rintro D H2 ⟨s2, ys, hD2, hys⟩
        rw [lx, List.take_length] at hys
        refine ⟨(by show 0 ≤ sizeLine; exact Nat.zero_le _), fun e ne => ?_⟩
        refine ⟨_, _, .lst (.inl (.inl ((upd_ne (ne_of_none hD2 ne)).trans hD2))) (dpAll_same (same_up s2 ne) hys), .lst (.inl (.inl upd_same)) .nil, shaped_list (lay_filter hs) (Nat.le_trans (Nat.succ_le_succ (deep_filter _)) hdp), shaped_list rfl (by decide), ?_⟩
        rw [eqv_nil]
        have z := q (upd H2 e (.lst [])) (same_up (s1.trans s2) ne)
        have e2 : isStoryD k d = decide ((itemsOf d).filter (fun e => !belowD (k : Int) e) = []) := by
          unfold isStoryD
          rw [hsq, Bool.true_and]
          refine (Bool.eq_iff_iff).mpr ?_
          rw [List.all_eq_true, decide_eq_true_eq, List.filter_eq_nil_iff]
          refine forall_congr' fun e => forall_congr' fun _ => ?_
          cases belowD (k : Int) e <;> simp
        rw [e2] at z
        exact z
      have turn : ∀ (i : Nat) (y : V) (D : Addr) (H2 : Hp), xs[i]? = some y → (Same H1 H2 ∧ ∃ ys, H2 D = some (.lst ys) ∧ DpAll K H1 ys (((itemsOf d).take i).filter fun e => !belowD (k : Int) e)) → H1 D = none →
          tBad K [some (.ref a), some (nV k), some y] H2 fun b H3 =>
            if b = true then tVar 2 [some (.ref a), some (nV k), some y] H3 fun y H4 => ∃ acc, H4 D = some (.lst acc) ∧ acc.length < sizeLine ∧ (Same H1 (upd H4 D (.lst (acc ++ [y]))) ∧ ∃ ys, upd H4 D (.lst (acc ++ [y])) D = some (.lst ys) ∧ DpAll K H1 ys (((itemsOf d).take (i + 1)).filter fun e => !belowD (k : Int) e))
            else (Same H1 H3 ∧ ∃ ys, H3 D = some (.lst ys) ∧ DpAll K H1 ys (((itemsOf d).take (i + 1)).filter fun e => !belowD (k : Int) e)) := by
        rintro i y D H2 hi ⟨s2, ys, hD2, hys⟩ hD
        obtain ⟨e, he, hye⟩ := dpAll_at hxs hi
        refine bad_read (dp_same s2 hye) ?_
        have lys : ys.length < sizeLine := by
          have z := List.length_filter_le (fun e => !belowD (k : Int) e) ((itemsOf d).take i)
          rw [dpAll_len hys]
          rw [List.length_take] at z
          exact small5 (by omega)
        rw [take_filter he]
        by_cases c : (!belowD (k : Int) e) = true
        · rw [if_pos c, if_pos c]
          exact ⟨_, rfl, ys, hD2, lys, same_own s2 hD, _, upd_same, dpAll_snoc hys hye⟩
        · rw [if_neg c, if_neg c, List.append_nil]
          exact ⟨s2, ys, hD2, hys⟩
      rcases ha with hL | hT
      · refine .inl ⟨_, rfl, a, rfl, ⟨_, hL⟩, fun D hD => ?_⟩
        refine lc_list (K := K) (a := a) (xs := xs) (fun i H' => Same H1 H' ∧ ∃ ys, H' D = some (.lst ys) ∧ DpAll K H1 ys (((itemsOf d).take i).filter fun e => !belowD (k : Int) e)) ⟨same_up (Same.refl _) hD, [], upd_same, .nil⟩ (fun i H' _ h => h.1.seq hL) ?_ fun H2 h => fin D H2 h
        exact fun i y H2 hi h => ⟨rfl, turn i y D H2 hi h hD⟩
      · refine .inr ⟨_, rfl, a, rfl, ⟨_, hT⟩, fun D hD => ?_⟩
        refine lc_tup (K := K) (a := a) (xs := xs) (fun i H' => Same H1 H' ∧ ∃ ys, H' D = some (.lst ys) ∧ DpAll K H1 ys (((itemsOf d).take i).filter fun e => !belowD (k : Int) e)) ⟨same_up (Same.refl _) hD, [], upd_same, .nil⟩ (fun i H' _ h => Same.seqT h.1 hT) ?_ fun H2 h => fin D H2 h
        exact fun i y H2 hi h => ⟨rfl, turn i y D H2 hi h hD⟩
    · have e0 : isSeqD d = false := by simpa using hsq
      refine iteE (c := true) (by rw [e0]; rfl) (iteT ?_)
      have z := q _ s1
      have e : isStoryD k d = false := by
        unfold isStoryD
        rw [e0]
        rfl
      rw [e] at z
      exact z
end
end Lg
set_option Elab.async false
set_option maxRecDepth 100000
set_option maxHeartbeats 2000000
namespace Lg
open PySem PySem.Spec PyProof.Rows L2
/-! ### what may come to stories_hold -/
def heads : List PyData := [.str "story", .none, .int 0, .str "clash", .str "stories"]
structure ItemOk (e : PyData) : Prop where
  len : (itemsOf e).length ≤ 10000
  lay : PyData.canLayAll0 (itemsOf e) = true
  dp : PyData.depthAll (itemsOf e) + 1 ≤ 64
structure GoodD (d : PyData) : Prop where
  seq : isSeqD d = true
  items : ∀ e, e ∈ itemsOf d → ItemOk e
  head : ∀ a b c, itemsOf d = [a, b, c] → a ∈ heads
theorem heads_shown : ∀ a, a ∈ heads → a.showable = true ∧ a.depth ≤ 60 ∧ a.shown.length ≤ 20 ∧ decide (a.shown = (PyData.str storiesS).shown) = isWord a := by decide +kernel
section
variable {P : Program} {w : World} {K : PySem.W.Frag} {mg : Str → Option Value} {base : Heap}
abbrev DIsT (P : Program) (w : World) (K : PySem.W.Frag) (mg : Str → Option Value) (base : Heap) : Prop := Fd P w K mg base "_law_is_story" 1 ["_law_value", "_law_many"] (spIsT K)
/-! ### _law_due -/
def spDue (K : PySem.W.Frag) : Sp := fun vs H Q _ => ∃ (am : Addr) (rv x : V) (ms : List Nat) (R : Rows) (d : PyData), vs = [.ref am, rv, x] ∧ SqL K H am (marksV ms) ∧ Dp K H rv (rowsL R) ∧ MarksOk ms ∧ RowsOk ms R ∧ Dp K H x d ∧ GoodD d ∧
  ∀ H', Same H H' → Q (.bl (holdsD ms.length R d)) H'
theorem ok_due (F : FunAt K mg "_law_due" (top 43) ["_law_marks", "_law_rows", "_law_value"]) (T : Txt K mg) (DI : DIsT P w K mg base) (DL : DLaid P w K mg base) : FdG P w K mg base "_law_due" 2 ["_law_marks", "_law_rows", "_law_value"] (spDue K) := by
  have sc : FnScope ["_law_marks", "_law_rows", "_law_value"] ["_law_marks", "_law_rows", "_law_value"] (defScope (top 43)) := ⟨rfl, rfl, rfl, by decide +kernel, rfl, by decide +kernel, by decide +kernel⟩
  refine FdG.mk' F fun f fd F => okG F sc (fun vs H Q E h => ?_) (fun cdv A outer s H vs Q E hr hg h => ?_)
  · obtain ⟨am, rv, x, ms, R, d, rfl, _⟩ := h
    rfl
  · obtain ⟨am, rv, x, ms, R, d, rfl, hm, hR, mok, rok, hx, hgd, q⟩ := h
    refine ⟨_, (pss_cons (ps_if (pw_or (pt_not (pt_val (pe_callB call_isiT (by rfl) T.isi (by decide +kernel) (pa_cons (pv 2) (pa_cons (pe_tup (pa_cons (pe_ty "list" T.list (by decide +kernel)) (pa_cons (pe_ty "tuple" T.tuple (by decide +kernel)) pa_nil))) pa_nil))))) (pw_or (pt_cmpR op_ne (p_len T.len (pa_cons (pv 2) pa_nil)) pe_int (nomark _))
          (pw_or1 (pt_cmpR op_ne (p_repr hg hr.units T.repr (pa_cons (pe_ix ix_seq (pv 2) pe_int (fun _ _ => rfl)) pa_nil)) (p_repr hg hr.units T.repr (pa_cons pe_str pa_nil)) (nomark _))))).pt (pss_one (ps_ret pe_bl)) pss_nil)
      (pss_cons (ps_if (pw_or (pt_not (pt_val (pf DI (hr.mono (by decide)) (pa_cons (pe_ix ix_seq (pv 2) pe_int (fun _ _ => rfl)) (pa_cons (p_len T.len (pa_cons (pv 0) pa_nil)) pa_nil))))) (pw_or1 (pt_not (pt_val (pf DI (hr.mono (by decide)) (pa_cons (pe_ix ix_seq (pv 2) pe_int (fun _ _ => rfl)) (pa_cons (p_len T.len (pa_cons (pv 0) pa_nil)) pa_nil))))))).pt (pss_one (ps_ret pe_bl)) pss_nil)
      (pss_one (ps_ret (pe_and (pe_cmpR (op_neD hr.units) (p_tup T.tuple (pa_cons (pe_ix ix_seq (pv 2) pe_int (fun _ _ => rfl)) pa_nil)) (p_tup T.tuple (pa_cons (pe_ix ix_seq (pv 2) pe_int (fun _ _ => rfl)) pa_nil)) (nomark _))
        (pe_one (pe_cmpR (op_eqD hr.units) (pf DL (hr.mono (by decide)) (pa_cons (pv 0) (pa_cons (pv 1) (pa_cons (pe_ix ix_seq (pv 2) pe_int (fun _ _ => rfl)) pa_nil)))) (pf DL (hr.mono (by decide)) (pa_cons (pv 0) (pa_cons (pv 1) (pa_cons (pe_ix ix_seq (pv 2) pe_int (fun _ _ => rfl)) pa_nil)))) (nomark _)))))))), ?_⟩
    have lm : (marksV ms).length = ms.length := List.length_map ..
    refine ⟨_, rfl, (by show 2 ≤ sizeLine; decide), fun p hp => ?_⟩
    refine ⟨_, p, _, _, _, _, rfl, upd_same, .cons (.ty _) (.cons (.ty _) .nil), dp_ty (dp_same (same_upd hp) hx), kit_seq d, _, rfl, ?_⟩
    have s1 : Same H (upd H p (.tup [.ty "list", .ty "tuple"])) := same_upd hp
    generalize upd H p (.tup [.ty "list", .ty "tuple"]) = H1 at s1 ⊢
    have hsq := hgd.seq
    refine iteE (c := false) (by rw [hsq]; rfl) (iteF ?_)
    obtain ⟨a, xs, rfl, ha, hxs⟩ := seq_of (dp_same s1 hx) hsq
    have lx : xs.length = (itemsOf d).length := dpAll_len hxs
    refine ⟨_, rfl, a, xs, rfl, ha, rfl, _, rfl, ?_⟩
    by_cases h3 : (itemsOf d).length = 3
    · refine iteE (c := false) (by rw [lx, h3]; rfl) (iteF ?_)
      obtain ⟨d0, d1, d2, ed⟩ := len3 h3
      have eh : holdsD ms.length R d = holds3 ms.length R d0 d1 d2 := by
        unfold holdsD
        rw [ed]
        show (isSeqD d && holds3 ms.length R d0 d1 d2) = _
        rw [hsq, Bool.true_and]
      rw [eh] at q
      have hd0 := hgd.head d0 d1 d2 ed
      have i1 := hgd.items d1 (by rw [ed]; simp)
      have i2 := hgd.items d2 (by rw [ed]; simp)
      rw [ed] at hxs
      cases hxs with | cons f0 hxs => ?_
      cases hxs with | cons f1 hxs => ?_
      cases hxs with | cons f2 hxs => ?_
      cases hxs
      obtain ⟨w1, w2, w3, w4⟩ := heads_shown d0 hd0
      refine ⟨_, rfl, ix_at ha at0 ⟨_, d0, rfl, f0, w1, w2, by show d0.shown.length ≤ sizeLine; exact Nat.le_of_lt (small5 (by omega)), _, .str storiesS, rfl, .str _, by decide +kernel, by decide +kernel, by decide +kernel, rfl, _, rfl, ?_⟩⟩
      by_cases hw : isWord d0 = true
      · have es : d0.shown = (PyData.str storiesS).shown := of_decide_eq_true (w4.trans hw)
        refine iteE (c := false) (by rw [es]; simp) (iteF ?_)
        have e0 : holds3 ms.length R d0 d1 d2 = (isStoryD ms.length d1 && (isStoryD ms.length d2 && (!decide (natsOf d1 = natsOf d2) && decide ((laid ms.length R (natsOf d1)).1 = (laid ms.length R (natsOf d2)).1)))) := by
          unfold holds3
          rw [hw, Bool.true_and]
        rw [e0] at q
        refine ⟨_, rfl, ix_at ha at1 ⟨_, rfl, am, _, rfl, .inl (s1.seq hm), _, d1, ms.length, by rw [lm]; rfl, f1, i1.len, i1.lay, i1.dp, fun H2 s2 => ⟨_, rfl, ?_⟩⟩⟩
        cases g1 : isStoryD ms.length d1 with
        | false =>
          rw [g1] at q
          exact iteT (iteT (q H2 (s1.trans s2)))
        | true =>
          rw [g1, Bool.true_and] at q
          refine iteF ?_
          refine ⟨_, rfl, ix_at (seq_same s2 ha) at2 ⟨_, rfl, am, _, rfl, .inl ((s1.trans s2).seq hm), _, d2, ms.length, by rw [lm]; rfl, dp_same s2 f2, i2.len, i2.lay, i2.dp, fun H3 s3 => ⟨_, rfl, ?_⟩⟩⟩
          cases g2 : isStoryD ms.length d2 with
          | false =>
            rw [g2] at q
            exact iteT (q H3 (s1.trans (s2.trans s3)))
          | true =>
            rw [g2, Bool.true_and] at q
            refine iteF ?_
            have s13 := s2.trans s3
            have v1 := story_of (dp_same s13 f1) g1
            have v2 := story_of (dp_same s13 f2) g2
            refine ⟨_, rfl, ix_at (seq_same s13 ha) at1 (nilGo (tup_story v1 fun H4 t4 s4 h4 => ⟨_, rfl, ix_at (seq_same (s13.trans s4) ha) at2 (nilGo (tup_story (v2.same s4) fun H5 t5 s5 h5 => ?_))⟩))⟩
            refine ⟨storyD (natsOf d1), storyD (natsOf d2), .tup (Same.seqT s5 h4) (dp_ints _), .tup h5 (dp_ints _), shaped_story _, shaped_story _, _, rfl, ?_⟩
            rw [eqv_story]
            have s15 := s13.trans (s4.trans s5)
            have s05 : Same H H5 := s1.trans s15
            by_cases hne : natsOf d1 = natsOf d2
            · rw [decide_eq_true hne] at q ⊢
              exact iteF (q H5 s05)
            · rw [decide_eq_false hne] at q ⊢
              refine iteT ?_
              have ll1 : (natsOf d1).length ≤ 10000 := by
                show (List.map _ _).length ≤ _
                rw [List.length_map]
                exact i1.len
              have ll2 : (natsOf d2).length ≤ 10000 := by
                show (List.map _ _).length ≤ _
                rw [List.length_map]
                exact i2.len
              refine ⟨_, rfl, _, rfl, _, rfl, ix_at (seq_same s15 ha) at1 ⟨am, rv, _, ms, natsOf d1, R, rfl, s05.seq hm, dp_same s05 hR, mok, rok, v1.same (s4.trans s5), ll1, nats_ok g1, fun H6 t6 s6 h6 => ?_⟩⟩
              have s06 := s05.trans s6
              refine ⟨_, rfl, _, rfl, _, rfl, ix_at (seq_same (s15.trans s6) ha) at2 ⟨am, rv, _, ms, natsOf d2, R, rfl, s06.seq hm, dp_same s06 hR, mok, rok, v2.same ((s4.trans s5).trans s6), ll2, nats_ok g2, fun H7 t7 s7 h7 => ?_⟩⟩
              refine ⟨_, _, dp_same s7 h6, h7, shaped_logs _, shaped_logs _, ?_⟩
              rw [eqv_logs]
              exact q H7 (s06.trans s7)
      · have hw0 : isWord d0 = false := by simpa using hw
        have es : ¬ d0.shown = (PyData.str storiesS).shown := of_decide_eq_false (w4.trans hw0)
        refine iteE (c := true) (by show (!decide (V.str _ = V.str _)) = true; rw [decide_eq_false (fun z => es (V.str.inj z))]; rfl) (iteT ?_)
        have e : holds3 ms.length R d0 d1 d2 = false := by
          unfold holds3
          rw [hw0]
          rfl
        have z := q H1 s1
        rw [e] at z
        exact z
    · have hne : ¬ (V.int (xs.length : Nat) = V.int 3) := fun z => by
        have := V.int.inj z
        omega
      refine iteE (c := true) (by rw [decide_eq_false hne]; rfl) (iteT (iteT ?_))
      have z := q H1 s1
      rw [holds_not h3] at z
      exact z
end
end Lg
set_option Elab.async false
set_option maxRecDepth 100000
set_option maxHeartbeats 2000000
namespace Lg
open PySem PySem.Spec PyProof.Rows L2
/-! ### xs[::0 - 1] -/
section
variable {X : Cx}
def tRevS (K : PySem.W.Frag) (te : TE) : TE := fun σ H Q => te σ H fun x H1 => ∃ a xs, x = .ref a ∧ SqL K H1 a xs ∧ ∀ p, H1 p = none → Q (.ref p) (upd H1 p (.lst xs.reverse))
theorem pe_revS {e st : Expr} {te : TE} {ts : TO} {p3 pos : Pos} (hst : PO X (some st) ts) (h1 : ∀ (σ : L2.St) (H : Hp) (R : Option Int → Hp → Prop), R (some (-1)) H → ts σ H R) (he : PE X e te) : PE X (.Subscript e (.Slice none none (some st) p3) pos) (tRevS X.K te) := by
  refine ⟨fun pins s σ H Q I h => Subscript_ (thn (he.run pins s σ H _ I h) fun v s1 ⟨x, H1, I1, r1, q1⟩ => ?_)⟩
  obtain ⟨a, xs, ex, hx, q⟩ := q1
  subst ex
  cases r1
  refine wpAny_Slice (thn (po_none.run pins s1 σ H1 (fun o Hz => o = none ∧ Hz = H1) I1 ⟨rfl, rfl⟩) fun lv s2 ⟨l, H2, I2, pl, el, e2⟩ => ?_)
  subst el e2
  refine thn (po_none.run pins s2 σ H2 (fun o Hz => o = none ∧ Hz = H2) I2 ⟨rfl, rfl⟩) fun uv s3 ⟨u, H3, I3, pu, eu, e3⟩ => ?_
  subst eu e3
  refine thn (hst.run pins s3 σ H3 (fun o Hz => o = some (-1) ∧ Hz = H3) I3 (h1 _ _ _ ⟨rfl, rfl⟩)) fun sv s4 ⟨o, H4, I4, ps, eo, e4⟩ => ?_
  subst eo e4
  obtain ⟨sl, esl⟩ : ∃ sl : Obj, sl = { cls := .type "slice", data := .fields #[lv, uv, sv] } := ⟨_, rfl⟩
  have I5 : Inv X pins σ H4 { s4 with heap := s4.heap.push sl } := I4.kept (t' := s4.toks) fun b ob z => Heap.get?_push_of_some _ z
  subst esl
  obtain ⟨its, rr, ht, hz⟩ := I5.list hx
  have hlen := rr.length
  refine tail_any (ops := [.ref a, .ref s4.heap.objs.size]) ht.isList.typeIs PySem.slot_list_getitem.lookup ?_ (by with_unfolding_all rfl)
  refine wpAny_getItem_list_slice ht.isList (Heap.IsSliceOf.new _ lv uv sv) pl pu ps (by decide) ?_ (by rw [List.size_toArray]; omega)
  rw [PySem.W.krv_pick]
  have hl2 : xs.reverse.length ≤ sizeLine := (List.length_reverse (as := xs)).symm ▸ hz
  exact ⟨.ref _, _, I5.laid (t' := s4.toks) (o := .lst xs.reverse) (fun b ob z => Heap.get?_push_of_some _ z) (Nat.le_refl _) ⟨hl2, _, 0, rr.reverse, Heap.get?_push_size _ rfl⟩, rfl, q _ (I5.hok.fresh (Nat.le_refl _))⟩
theorem revS {k1 k2 : Nat} {p1 p2 p3 : Pos} : PO X (some (.BinOp (.Constant (.int 0) k1 p1) .Sub (.Constant (.int 1) k2 p2) p3)) (tPart (tOp (rI0 fun i j => .int (i - j)) (tC (.int 0)) (tC (.int 1)))) := po_some (pe_op op_sub pe_int pe_int)
end
/-! ### lists of numbers -/
def FlatV (v : V) : Prop := (∃ i, v = .int i) ∨ ∃ b, v = .bl b
def dOf : V → PyData
  | .int i => .int i
  | .bl b => .bool b
  | _ => .none
theorem flat_dp {K : PySem.W.Frag} {H : Hp} : ∀ {zs : List V}, (∀ z, z ∈ zs → FlatV z) → DpAll K H zs (zs.map dOf)
  | [], _ => .nil
  | z :: zs, h => by
    refine .cons ?_ (flat_dp fun y hy => h y (List.mem_cons_of_mem _ hy))
    rcases h z List.mem_cons_self with ⟨i, rfl⟩ | ⟨b, rfl⟩
    · exact .int i
    · exact .bl b
theorem flat_lay : ∀ {zs : List V}, PyData.canLayAll0 (zs.map dOf) = true
  | [] => rfl
  | z :: zs => by
    show ((dOf z).canLay0 && PyData.canLayAll0 (zs.map dOf)) = true
    rw [flat_lay (zs := zs), Bool.and_true]
    cases z <;> rfl
theorem flat_deep : ∀ {zs : List V}, PyData.depthAll (zs.map dOf) = 0
  | [] => rfl
  | z :: zs => by
    show max (dOf z).depth (PyData.depthAll (zs.map dOf)) = 0
    rw [flat_deep (zs := zs)]
    cases z <;> rfl
theorem flat_item {d : PyData} {zs : List V} (hl : zs.length ≤ 10000) (hd : itemsOf d = zs.map dOf) : ItemOk d := ⟨by rw [hd, List.length_map]; exact hl, by rw [hd]; exact flat_lay, by rw [hd, flat_deep]; decide⟩
theorem flat_marks (l : List Nat) : ∀ z, z ∈ marksV l → FlatV z := fun z h => by
  obtain ⟨n, _, rfl⟩ := List.mem_map.mp h
  exact .inl ⟨_, rfl⟩
theorem flat_app {xs ys : List V} (h1 : ∀ z, z ∈ xs → FlatV z) (h2 : ∀ z, z ∈ ys → FlatV z) : ∀ z, z ∈ xs ++ ys → FlatV z := fun z h => (List.mem_append.mp h).elim (h1 z) (h2 z)
theorem flat_cut {xs : List V} (h1 : ∀ z, z ∈ xs → FlatV z) (lo hi : Option Int) : ∀ z, z ∈ cutV xs lo hi → FlatV z := fun z h => h1 z (List.mem_of_mem_drop (List.mem_of_mem_take h))
theorem flat_one (i : Int) : ∀ z, z ∈ [V.int i] → FlatV z := fun z h => .inl ⟨i, List.mem_singleton.mp h⟩
/-- what may be put in a story's place -/
def Cand (K : PySem.W.Frag) (G : Hp) (v : V) : Prop := v = .non ∨ v = .str "01" ∨ ∃ q zs, v = .ref q ∧ (SqL K G q zs ∨ SqT K G q zs) ∧ zs.length ≤ 1000 ∧ ∀ z, z ∈ zs → FlatV z
theorem Cand.same {K : PySem.W.Frag} {G G' : Hp} {v : V} (h : Cand K G v) (s : Same G G') : Cand K G' v := by
  rcases h with h | h | ⟨q, zs, h1, h2, h3⟩
  · exact .inl h
  · exact .inr (.inl h)
  · exact .inr (.inr ⟨q, zs, h1, seq_same s h2, h3⟩)
theorem Cand.item {K : PySem.W.Frag} {G : Hp} {v : V} (h : Cand K G v) : ∃ e, Dp K G v e ∧ ItemOk e := by
  rcases h with rfl | rfl | ⟨q, zs, rfl, h2, h3, h4⟩
  · exact ⟨_, .non, by decide, rfl, by decide⟩
  · exact ⟨_, .str _, by decide, rfl, by decide⟩
  · rcases h2 with h | h
    · exact ⟨_, .lst h (flat_dp h4), flat_item (zs := zs) (by omega) rfl⟩
    · exact ⟨_, .tup h (flat_dp h4), flat_item (zs := zs) (by omega) rfl⟩
/-- all but p stays -/
def SB (p : Addr) (H H' : Hp) : Prop := ∀ b u, b ≠ p → H b = some u → H' b = some u
/-- where the bending stands: what is laid, but the box p and the list D, is G -/
structure Bend (p D : Addr) (H0 : Hp) (vs : List V) (G H : Hp) : Prop where
  w : Same G H
  gp : G p = none
  gd : G D = none
  box : BoxAt p H
  lst : H D = some (.lst vs)
  ne : D ≠ p
  sb : SB p H0 H
  d0 : H0 D = none
theorem Bend.but {p D : Addr} {H0 G H H' : Hp} {vs : List V} (h : Bend p D H0 vs G H) (b : But p H H') (B : BoxAt p H') : Bend p D H0 vs G H' :=
  ⟨fun c u e => (b c (ne_of_none e h.gp)).trans (h.w c u e), h.gp, h.gd, B, (b D h.ne).trans h.lst, h.ne, fun c u n e => (b c n).trans (h.sb c u n e), h.d0⟩
theorem BoxAt.some {p : Addr} {H : Hp} (h : BoxAt p H) : ∃ u, H p = some u := by
  obtain ⟨g, r, e, _⟩ := h
  exact ⟨_, e⟩
theorem BoxAt.ne {p l : Addr} {H : Hp} (h : BoxAt p H) (n : H l = none) : p ≠ l := by
  obtain ⟨u, e⟩ := h.some
  exact ne_of_none e n
theorem BoxAt.new {p l : Addr} {H : Hp} {o : HO} (h : BoxAt p H) (n : H l = none) : BoxAt p (upd H l o) := by
  obtain ⟨g, r, e, h2⟩ := h
  exact ⟨g, r, (upd_ne (ne_of_none e n)).trans e, h2⟩
theorem Bend.new {p D : Addr} {H0 G H : Hp} {vs : List V} {l : Addr} {o : HO} (h : Bend p D H0 vs G H) (n : H l = none) : Bend p D H0 vs (upd G l o) (upd H l o) ∧ Same G (upd G l o) := by
  have np := h.box.ne n
  have nd : D ≠ l := ne_of_none h.lst n
  have gl : G l = none := by
    cases e : G l with
    | none => rfl
    | some u =>
      have z := h.w l u e
      rw [n] at z
      cases z
  refine ⟨⟨fun c u e => ?_, (upd_ne np).trans h.gp, (upd_ne nd).trans h.gd, h.box.new n, (upd_ne nd).trans h.lst, h.ne, fun c u nc e => ?_, h.d0⟩, same_upd gl⟩
  · by_cases c1 : c = l
    · subst c1
      rw [upd_same] at e ⊢
      exact e
    · rw [upd_ne c1] at e ⊢
      exact h.w c u e
  · have z := h.sb c u nc e
    exact (upd_ne (ne_of_none z n)).trans z
theorem Bend.set {p D : Addr} {H0 G H : Hp} {vs vs' : List V} (h : Bend p D H0 vs G H) : Bend p D H0 vs' G (upd H D (.lst vs')) := by
  refine ⟨fun c u e => (upd_ne (ne_of_none e h.gd)).trans (h.w c u e), h.gp, h.gd, ?_, upd_same, h.ne, fun c u nc e => (upd_ne (ne_of_none e h.d0)).trans (h.sb c u nc e), h.d0⟩
  obtain ⟨g, r, e, h2⟩ := h.box
  exact ⟨g, r, (upd_ne h.ne.symm).trans e, h2⟩
/-- three items: a head, and two that may be stories -/
structure Found (ds : List PyData) : Prop where
  len : ds.length = 3
  head : ∀ a, ds[0]? = some a → a ∈ heads
  ok : ∀ e, e ∈ ds → ItemOk e
theorem heads_ok : ∀ a, a ∈ heads → ItemOk a := fun a h => by
  have h' : a = .str "story" ∨ a = .none ∨ a = .int 0 ∨ a = .str "clash" ∨ a = .str "stories" := by simpa [heads] using h
  rcases h' with rfl | rfl | rfl | rfl | rfl <;> exact ⟨by decide, rfl, by decide⟩
theorem Found.put {ds : List PyData} {j : Nat} {e : PyData} (h : Found ds) (h0 : j = 0 → e ∈ heads) (he : ItemOk e) : Found (ds.set j e) := by
  refine ⟨by rw [List.length_set]; exact h.len, fun a ha => ?_, fun x hx => ?_⟩
  · by_cases c : j = 0
    · subst c
      have z := (List.getElem?_set_self (by rw [h.len]; decide : 0 < ds.length)).symm.trans ha
      rw [← Option.some.inj z]
      exact h0 rfl
    · rw [List.getElem?_set_ne c] at ha
      exact h.head a ha
  · rcases List.mem_or_eq_of_mem_set hx with z | rfl
    · exact h.ok x z
    · exact he
theorem dpAll_set {K : PySem.W.Frag} {H : Hp} : ∀ {xs : List V} {ds : List PyData} {j : Nat} {x : V} {d : PyData}, DpAll K H xs ds → Dp K H x d → DpAll K H (xs.set j x) (ds.set j d)
  | _, _, _, _, _, .nil, _ => .nil
  | _, _, 0, _, _, .cons _ t, h => .cons h t
  | _, _, j + 1, _, _, .cons a t, h => .cons a (dpAll_set (j := j) t h)
theorem good_of {ds : List PyData} {d : PyData} (h : Found ds) (hs : isSeqD d = true) (hd : itemsOf d = ds ∨ itemsOf d = ds.drop 1 ∨ itemsOf d = ds ++ [.int 0]) : GoodD d := by
  refine ⟨hs, fun e he => ?_, fun a b c e => ?_⟩
  · rcases hd with z | z | z
    · exact h.ok e (z ▸ he)
    · exact h.ok e (List.mem_of_mem_drop (z ▸ he))
    · rw [z] at he
      rcases List.mem_append.mp he with y | y
      · exact h.ok e y
      · rw [List.mem_singleton.mp y]
        exact ⟨by decide, rfl, by decide⟩
  · have l3 := h.len
    rcases hd with z | z | z
    · exact h.head a (by rw [← z, e]; rfl)
    · have y := congrArg List.length (z.symm.trans e)
      rw [List.length_drop, l3] at y
      exact absurd (show 2 = 3 from y) (by decide)
    · have y := congrArg List.length (z.symm.trans e)
      rw [List.length_append, l3] at y
      exact absurd (show 4 = 3 from y) (by decide)
end Lg
set_option Elab.async false
set_option maxRecDepth 100000
set_option maxHeartbeats 2000000
namespace Lg
open PySem PySem.Spec PyProof.Rows L2
section
variable {P : Program} {w : World} {K : PySem.W.Frag} {mg : Str → Option Value} {base : Heap}
abbrev DPick (P : Program) (w : World) (K : PySem.W.Frag) (mg : Str → Option Value) (base : Heap) : Prop := Fd P w K mg base "_law_pick" 2 ["_law_box_here", "_law_some"] (spPick K)
theorem lst_story {K : PySem.W.Frag} {H : Hp} {x : V} {l : List Nat} {Q : VK} (h : StoryV K H x l) (q : ∀ S, H S = none → Q (.ref S) (upd H S (.lst (marksV l)))) : rLstS K [x] H Q := by
  obtain ⟨a, rfl, h⟩ := h
  exact ⟨a, _, rfl, h, q⟩
/-! ### _law_bent -/
def askD (a b : List Nat) : PyData := .tuple [.str "stories", storyD a, storyD b]
def spBent (K : PySem.W.Frag) : Sp := fun vs H Q _ => ∃ (p : Addr) (x : V) (a b : List Nat) (m : Nat), vs = [.ref p, x, nV m] ∧ BoxAt p H ∧ Dp K H x (askD a b) ∧ a.length ≤ 100 ∧ b.length ≤ 100 ∧ 1 ≤ m ∧ m ≤ 10 ∧
  ∀ H' y d, SB p H H' → BoxAt p H' → Dp K H' y d → GoodD d → Q y H'
theorem ok_bent (F : FunAt K mg "_law_bent" (top 44) ["_law_box_here", "_law_value", "_law_many"]) (T : Txt K mg) (DT : DTake P w K mg base) (DP : DPick P w K mg base) : Fd P w K mg base "_law_bent" 3 ["_law_box_here", "_law_value", "_law_many"] (spBent K) := by
  have sc : FnScope ["_law_box_here", "_law_value", "_law_many", "_law_found", "_law_at", "_law_story", "_law_spot", "_law_some"] ["_law_box_here", "_law_value", "_law_many"] (defScope (top 44)) := ⟨rfl, rfl, rfl, by decide +kernel, rfl, by decide +kernel, by decide +kernel⟩
  refine Fd.mk' F fun f fd F => F.ok sc (fun vs H Q E h => ?_) (fun cdv A outer s H vs Q E hr h => ?_)
  · obtain ⟨p, x, a, b, m, rfl, _⟩ := h
    rfl
  · obtain ⟨p, x, a, b, m, rfl, hB, hx, la, lb, m1, m2, q⟩ := h
    refine ⟨_, (pss_cons (ps_par (i := 3) (j := 4) rfl sc.nd rfl rfl (by decide) rfl rfl (pa_cons (p_lst T.list (pa_cons (pv 1) pa_nil)) (pa_cons (pf DT (hr.mono (by decide)) (pa_cons (pv 0) (pa_cons pe_int pa_nil))) pa_nil)) rfl)
        (pss_cons (ps_if (pt_cmpR op_eq (pv 4) pe_int (nomark _)) (pss_one (ps_asg (pf DP (hr.mono (by decide)) (pa_cons (pv 0) (pa_cons (pe_lst (pa_cons pe_str (pa_cons pe_non (pa_cons pe_int (pa_cons pe_str (pa_cons pe_str pa_nil)))))) pa_nil))) (pg_sub (pv 3) pe_int set_list))) (pss_cons (ps_set (i := 5) sc.nd rfl (.inl rfl) (p_lst T.list (pa_cons (pe_ix ix_list (pv 3) (pv 4) (fun _ _ => rfl)) pa_nil)))
        (pss_cons (ps_set (i := 6) sc.nd rfl (.inl rfl) (pf DT (hr.mono (by decide)) (pa_cons (pv 0) (pa_cons (pe_op op_add (p_len T.len (pa_cons (pv 5) pa_nil)) pe_int) pa_nil))))
        (pss_cons (ps_set (i := 7) sc.nd rfl (.inl rfl) (pe_lst (pa_cons (pe_op op_cat (pe_op op_cat (pe_slice sl_list (pv 5) po_none (po_some (pv 6))) (pe_lst (pa_cons (pf DT (hr.mono (by decide)) (pa_cons (pv 0) (pa_cons (pv 2) pa_nil))) pa_nil))) (pe_slice sl_list (pv 5) (po_some (pv 6)) po_none)) (pa_cons (pe_op op_cat (pe_slice sl_list (pv 5) po_none (po_some (pv 6))) (pe_slice sl_list (pv 5) (po_some (pe_op op_add (pv 6) pe_int)) po_none)) (pa_cons (pe_revS revS (fun _ _ _ h => ⟨_, _, rfl, rfl, _, rfl, h⟩) (pv 5)) (pa_cons (p_lst T.list (pa_cons (pe_ix ix_list (pv 3) (pe_op op_sub pe_int (pv 4)) (fun _ _ => rfl)) pa_nil)) pa_nil))))))
        (pss_cons (ps_asg (pf DP (hr.mono (by decide)) (pa_cons (pv 0) (pa_cons (pe_op op_cat (pv 7) (pe_lst (pa_cons (p_tup T.tuple (pa_cons (pv 5) pa_nil)) (pa_cons pe_non (pa_cons (pe_op op_cat (pv 5) (pe_lst (pa_cons (pv 2) pa_nil))) (pa_cons (pe_op op_cat (pv 5) (pe_lst (pa_cons pe_bl pa_nil))) (pa_cons pe_str (pa_cons (pe_op op_cat (pv 5) (pe_lst (pa_cons pe_int pa_nil))) pa_nil)))))))) pa_nil))) (pg_sub (pv 3) (pv 4) set_list))
        (pss_one (ps_if (pw_and (pt_cmpR op_eq (pf DT (hr.mono (by decide)) (pa_cons (pv 0) (pa_cons pe_int pa_nil))) pe_int (nomark _)) (pw_and (pt_cmp (pc_notN (pe_ix ix_list (pv 3) (pv 4) (fun _ _ => rfl)))) (pw_and1 (pt_not (pt_val (pe_callB call_isi (by rfl) T.isi (by decide +kernel) (pa_cons (pe_ix ix_list (pv 3) (pv 4) (fun _ _ => rfl)) (pa_cons (pe_ty "str" T.str (by decide +kernel)) pa_nil)))))))).pt (pss_one (ps_asg (pe_op op_cat (p_lst T.list (pa_cons (pe_ix ix_list (pv 3) (pe_op op_sub pe_int (pv 4)) (fun _ _ => rfl)) pa_nil)) (pe_lst (pa_cons (pf DT (hr.mono (by decide)) (pa_cons (pv 0) (pa_cons (pv 2) pa_nil))) pa_nil))) (pg_sub (pv 3) (pe_op op_sub pe_int (pv 4)) set_list))) pss_nil)))))))
        (pss_one (ps_ret (pf DP (hr.mono (by decide)) (pa_cons (pv 0) (pa_cons (pe_lst (pa_cons (pv 3) (pa_cons (p_tup T.tuple (pa_cons (pv 3) pa_nil)) (pa_cons (p_tup T.tuple (pa_cons (pv 3) pa_nil)) (pa_cons (pe_slice sl_list (pv 3) (po_some pe_int) po_none) (pa_cons (pe_op op_cat (pv 3) (pe_lst (pa_cons pe_int pa_nil))) pa_nil)))))) pa_nil))))))), ?_⟩
    have fin : ∀ (D : Addr) (H2 G : Hp) (vs : List V) (ds : List PyData) (u4 u5 u6 u7 : Option V), Bend p D H vs G H2 → DpAll K G vs ds → Found ds →
        tCall (spPick K) [] E0 (tCons (tVar 0) (tCons (tLst (tCons (tVar 3) (tCons (tCB (rTupS K) (tCons (tVar 3) tNil)) (tCons (tCB (rTupS K) (tCons (tVar 3) tNil)) (tCons (tSl (rSlL K) (tVar 3) (tPart (tC (.int 1))) tNoPart) (tCons (tOp rCat (tVar 3) (tLst (tCons (tC (.int 0)) tNil))) tNil)))))) tNil))
          [some (.ref p), some x, some (nV m), some (.ref D), u4, u5, u6, u7] H2 Q := by
      intro D H2 G vs ds u4 u5 u6 u7 hb hds fd
      have lvs : vs.length = 3 := (dpAll_len hds).trans fd.len
      have sz : ∀ {k : Nat}, k ≤ 20000 → k ≤ sizeLine := fun h => Nat.le_of_lt (small5 h)
      refine ⟨_, rfl, _, rfl, _, rfl, D, vs, rfl, .inl ⟨.inl (.inl hb.lst), fun t1 n1 => ?_⟩⟩
      obtain ⟨b1, s1⟩ := hb.new (o := .tup vs) n1
      have g1 := upd_same (H := G) (a := t1) (o := .tup vs)
      generalize upd G t1 _ = G1 at b1 s1 g1
      refine ⟨_, rfl, D, vs, rfl, .inl ⟨.inl (.inl b1.lst), fun t2 n2 => ?_⟩⟩
      obtain ⟨b2, s2⟩ := b1.new (o := .tup vs) n2
      have g2 := upd_same (H := G1) (a := t2) (o := .tup vs)
      generalize upd G1 t2 _ = G2 at b2 s2 g2
      refine ⟨_, rfl, _, rfl, D, vs, rfl, .inl (.inl b2.lst), fun t3 n3 => ?_⟩
      obtain ⟨b3, s3⟩ := b2.new (o := .lst (cutV vs (some 1) none)) n3
      have g3 := upd_same (H := G2) (a := t3) (o := .lst (cutV vs (some 1) none))
      generalize upd G2 t3 _ = G3 at b3 s3 g3
      refine ⟨_, rfl, (by show 1 ≤ sizeLine; decide), fun t4 n4 => ?_⟩
      obtain ⟨b4, s4⟩ := b3.new (o := .lst [.int 0]) n4
      generalize upd G3 t4 _ = G4 at b4 s4
      refine ⟨D, t4, _, _, rfl, rfl, b4.lst, upd_same, sz (by simp; omega), fun t5 n5 => ?_⟩
      obtain ⟨b5, s5⟩ := b4.new (o := .lst (vs ++ [.int 0])) n5
      have g5 := upd_same (H := G4) (a := t5) (o := .lst (vs ++ [.int 0]))
      generalize upd G4 t5 _ = G5 at b5 s5 g5
      refine ⟨(by show 5 ≤ sizeLine; decide), fun t6 n6 => ?_⟩
      obtain ⟨b6, s6⟩ := b5.new (o := .lst [.ref D, .ref t1, .ref t2, .ref t3, .ref t5]) n6
      have nn := b5.box.ne n6
      generalize upd G5 t6 _ = G6 at b6 s6
      refine ⟨p, t6, _, rfl, b6.box, .inl (.inl upd_same), nn.symm, by simp, by simp, fun H7 y hy but7 B7 => ?_⟩
      have b7 := b6.but but7 B7
      have sD : Same G6 (upd G6 D (.lst vs)) := same_upd b6.gd
      have sH : Same (upd G6 D (.lst vs)) H7 := fun c u e => by
        by_cases c1 : c = D
        · subst c1
          rw [upd_same] at e
          cases e
          exact b7.lst
        · rw [upd_ne c1] at e
          exact b7.w c u e
      have s36 := s3.trans (s4.trans (s5.trans s6))
      have dH : DpAll K H7 vs ds := dpAll_same (s1.trans (s2.trans (s36.trans (sD.trans sH)))) hds
      have sGH := sD.trans sH
      have hy' : y = .ref D ∨ y = .ref t1 ∨ y = .ref t2 ∨ y = .ref t3 ∨ y = .ref t5 := by simpa using hy
      rcases hy' with rfl | rfl | rfl | rfl | rfl
      · exact q H7 _ (.list ds) b7.sb B7 (.lst (.inl (.inl b7.lst)) dH) (good_of fd rfl (.inl rfl))
      · exact q H7 _ (.tuple ds) b7.sb B7 (.tup (.inl (.inl ((s2.trans (s36.trans sGH)) _ _ g1))) dH) (good_of fd rfl (.inl rfl))
      · exact q H7 _ (.tuple ds) b7.sb B7 (.tup (.inl (.inl ((s36.trans sGH) _ _ g2))) dH) (good_of fd rfl (.inl rfl))
      · refine q H7 _ (.list (cutL ds (some 1) none)) b7.sb B7 (.lst (.inl (.inl (((s4.trans (s5.trans s6)).trans sGH) _ _ g3))) (dpAll_cut dH _ _)) (good_of fd rfl (.inr (.inl ?_)))
        exact cutL_from ds 1
      · exact q H7 _ (.list (ds ++ [.int 0])) b7.sb B7 (.lst (.inl (.inl ((s6.trans sGH) _ _ g5))) (dpAll_snoc dH (.int 0))) (good_of fd rfl (.inr (.inr rfl)))
    obtain ⟨t0, xs0, rfl, hT, hxs⟩ := dp_tup hx
    have tG : SameT H (fun c => if c = p then none else H c) := fun c u e z => by
      have : c ≠ p := fun w => by
        obtain ⟨g, r, e2, _⟩ := hB
        rw [w, e2] at e
        rcases z with ⟨_, z⟩ | ⟨_, _, z⟩ <;> (rw [z] at e; cases e)
      show (if c = p then none else H c) = some u
      rw [if_neg this]
      exact e
    have hxs0 := hxs
    cases hxs with | cons f0 hxs => ?_
    cases hxs with | cons f1 hxs => ?_
    cases hxs with | cons f2 hxs => ?_
    cases hxs
    rename_i v0 v1 v2
    refine ⟨_, rfl, t0, _, rfl, .inr hT, fun D hD => ?_⟩
    have nD := hB.ne hD
    generalize eG : (fun c => if c = p then none else H c) = G0 at tG
    have b0 : Bend p D H [v0, v1, v2] G0 (upd H D (.lst [v0, v1, v2])) := by
      refine ⟨fun c u e => ?_, by rw [← eG]; exact if_pos rfl, ?_, hB.new hD, upd_same, nD.symm, fun c u n e => (upd_ne (ne_of_none e hD)).trans e, hD⟩
      · have e' : (if c = p then none else H c) = some u := by rw [← eG] at e; exact e
        by_cases c1 : c = p
        · rw [if_pos c1] at e'
          cases e'
        · rw [if_neg c1] at e'
          exact (upd_ne (ne_of_none e' hD)).trans e'
      · rw [← eG]
        show (if D = p then none else H D) = none
        rw [if_neg nD.symm]
        exact hD
    have hds0 : DpAll K G0 [v0, v1, v2] [.str "stories", storyD a, storyD b] := .cons (dp_tt tG rfl f0) (.cons (dp_tt tG (tt_story a) f1) (.cons (dp_tt tG (tt_story b) f2) .nil))
    have fd0 : Found [.str "stories", storyD a, storyD b] := by
      refine ⟨rfl, fun z e => ?_, fun z e => ?_⟩
      · rw [← Option.some.inj e]
        simp [heads]
      · have e' : z = .str "stories" ∨ z = storyD a ∨ z = storyD b := by simpa using e
        have sto : ∀ l : List Nat, l.length ≤ 100 → ItemOk (storyD l) := fun l hl => flat_item (zs := marksV l) (by show (List.map _ _).length ≤ _; rw [List.length_map]; omega) (by show _ = List.map dOf (List.map _ l); rw [List.map_map]; rfl)
        rcases e' with rfl | rfl | rfl
        · exact ⟨by decide, rfl, by decide⟩
        · exact sto a la
        · exact sto b lb
    refine ⟨_, rfl, p, 3, rfl, b0.box, by decide, by decide, fun H2 d d0 d1 but2 B2 => ?_⟩
    have b1 := b0.but but2 B2
    obtain ⟨j, rfl⟩ := Int.eq_ofNat_of_zero_le d0
    refine ⟨_, _, rfl, _, rfl, rfl, _, rfl, ?_⟩
    by_cases hj0 : j = 0
    · refine iteD (by rw [hj0]; rfl) ?_
      refine ⟨_, rfl, (by show 5 ≤ sizeLine; decide), fun l nl => ?_⟩
      obtain ⟨b2, s2⟩ := b1.new (o := .lst [.str "story", .non, .int 0, .str "clash", .str "stories"]) nl
      refine ⟨p, l, _, rfl, b2.box, .inl (.inl upd_same), (b1.box.ne nl).symm, by decide, by decide, fun H3 y hy but3 B3 => ?_⟩
      have b3 := b2.but but3 B3
      refine ⟨_, rfl, D, _, 0, 0, rfl, rfl, b3.lst, rfl, ?_⟩
      obtain ⟨e, he, hye⟩ : ∃ e, e ∈ heads ∧ Dp K (upd G0 l (.lst [.str "story", .non, .int 0, .str "clash", .str "stories"])) y e := by
        have hy' : y = .str "story" ∨ y = .non ∨ y = .int 0 ∨ y = .str "clash" ∨ y = .str "stories" := by simpa using hy
        rcases hy' with rfl | rfl | rfl | rfl | rfl
        · exact ⟨.str "story", by simp [heads], .str _⟩
        · exact ⟨.none, by simp [heads], .non⟩
        · exact ⟨.int 0, by simp [heads], .int _⟩
        · exact ⟨.str "clash", by simp [heads], .str _⟩
        · exact ⟨.str "stories", by simp [heads], .str _⟩
      exact fin D _ _ _ _ _ _ _ _ b3.set (dpAll_set (j := 0) (dpAll_same s2 hds0) hye) (fd0.put (fun _ => he) (heads_ok e he))
    · refine iteN (fun z => hj0 (by have := V.int.inj z; omega)) ?_
      obtain ⟨j', xj, xk, sj, sk, hjj, hxj, hxk, vj, vk, lj, lk⟩ : ∃ j' xj xk sj sk, j + j' = 3 ∧ [v0, v1, v2][j]? = some xj ∧ [v0, v1, v2][j']? = some xk ∧ StoryV K G0 xj sj ∧ StoryV K G0 xk sk ∧ sj.length ≤ 100 ∧ sk.length ≤ 100 := by
        cases hds0 with | cons z0 hds0 => ?_
        cases hds0 with | cons z1 hds0 => ?_
        cases hds0 with | cons z2 hds0 => ?_
        have hj : j = 1 ∨ j = 2 := by omega
        rcases hj with rfl | rfl
        · exact ⟨2, v1, v2, a, b, rfl, rfl, rfl, tup_storyV z1, tup_storyV z2, la, lb⟩
        · exact ⟨1, v2, v1, b, a, rfl, rfl, rfl, tup_storyV z2, tup_storyV z1, lb, la⟩
      have j3 : j < 3 := by omega
      have k3 : j' < 3 := by omega
      have kj : (3 : Int) - (j : Int) = (j' : Int) := by omega
      have ixj : ∀ i : Nat, i < 3 → ixN 3 (i : Int) = some i := fun i hi => by
        unfold ixN
        rw [if_pos (by omega), if_pos (by omega)]
        rfl
      obtain ⟨zs, ezs⟩ : ∃ zs, zs = marksV sj := ⟨_, rfl⟩
      have fz : ∀ z, z ∈ zs → FlatV z := by rw [ezs]; exact flat_marks sj
      have lz : zs.length ≤ 100 := by rw [ezs]; show (List.map _ _).length ≤ _; rw [List.length_map]; exact lj
      have lc : ∀ lo hi, (cutV zs lo hi).length ≤ 100 := fun lo hi => Nat.le_trans (cutV_length _ _ _) lz
      have sz : ∀ {k : Nat}, k ≤ 20000 → k ≤ sizeLine := fun h => Nat.le_of_lt (small5 h)
      have mk : ∀ {G : Hp} {q : Addr} {ys : List V}, G q = some (.lst ys) → ys.length ≤ 1000 → (∀ z, z ∈ ys → FlatV z) → Cand K G (.ref q) := fun h1 h2 h3 => .inr (.inr ⟨_, _, rfl, .inl (.inl (.inl h1)), h2, h3⟩)
      refine ⟨_, rfl, _, rfl, D, _, _, xj, rfl, rfl, .inl (.inl b1.lst), atN hxj, nilGo (lst_story (vj.same b1.w) fun S nS => ?_)⟩
      rw [← ezs]
      obtain ⟨b2, s2⟩ := b1.new (o := .lst zs) nS
      have gS := upd_same (H := G0) (a := S) (o := .lst zs)
      generalize upd G0 S (.lst zs) = G2 at b2 s2 gS
      refine ⟨_, rfl, _, rfl, S, zs, rfl, .inl (.inl (.inl upd_same)), _, _, rfl, rfl, p, _, rfl, b2.box, by omega, by omega, fun H3 sp sp0 sp1 but3 B3 => ?_⟩
      have b3 := b2.but but3 B3
      -- the first: a deed put in
      refine ⟨_, rfl, _, rfl, _, rfl, S, zs, rfl, .inl (.inl (b3.w _ _ gS)), fun L1 n1 => ?_⟩
      obtain ⟨b4, s4⟩ := b3.new (o := .lst (cutV zs none (some sp))) n1
      have g1 := upd_same (H := G2) (a := L1) (o := .lst (cutV zs none (some sp)))
      generalize upd G2 L1 _ = G4 at b4 s4 g1
      refine ⟨_, rfl, _, rfl, p, _, rfl, b4.box, by omega, by omega, fun H5 dd dd0 dd1 but5 B5 => ⟨(by show 1 ≤ sizeLine; decide), fun L2 n2 => ?_⟩⟩
      have b5 := b4.but but5 B5
      obtain ⟨b6, s6⟩ := b5.new (o := .lst [.int dd]) n2
      generalize upd G4 L2 _ = G6 at b6 s6
      refine ⟨L1, L2, _, _, rfl, rfl, b6.w _ _ (s6 _ _ g1), upd_same, sz (by have := lc none (some sp); simp; omega), fun L3 n3 => ?_⟩
      obtain ⟨b7, s7⟩ := b6.new (o := .lst (cutV zs none (some sp) ++ [.int dd])) n3
      have g3 := upd_same (H := G6) (a := L3) (o := .lst (cutV zs none (some sp) ++ [.int dd]))
      generalize upd G6 L3 _ = G7 at b7 s7 g3
      have gS7 := s7 _ _ (s6 _ _ (s4 _ _ gS))
      refine ⟨_, rfl, _, rfl, _, rfl, S, zs, rfl, .inl (.inl (b7.w _ _ gS7)), fun L4 n4 => ?_⟩
      obtain ⟨b8, s8⟩ := b7.new (o := .lst (cutV zs (some sp) none)) n4
      generalize upd G7 L4 _ = G8 at b8 s8
      refine ⟨L3, L4, _, _, rfl, rfl, b8.w _ _ (s8 _ _ g3), upd_same, sz (by have := lc none (some sp); have := lc (some sp) none; simp; omega), fun L5 n5 => ?_⟩
      obtain ⟨b9, s9⟩ := b8.new (o := .lst (cutV zs none (some sp) ++ [.int dd] ++ cutV zs (some sp) none)) n5
      have g5 := upd_same (H := G8) (a := L5) (o := .lst (cutV zs none (some sp) ++ [.int dd] ++ cutV zs (some sp) none))
      generalize upd G8 L5 _ = G9 at b9 s9 g5
      have gS9 := s9 _ _ (s8 _ _ gS7)
      have c5 : Cand K G9 (.ref L5) := mk g5 (by have := lc none (some sp); have := lc (some sp) none; simp; omega) (flat_app (flat_app (flat_cut fz _ _) (flat_one _)) (flat_cut fz _ _))
      -- the second: a deed left out
      refine ⟨_, rfl, _, rfl, _, rfl, S, zs, rfl, .inl (.inl (b9.w _ _ gS9)), fun L6 n6 => ?_⟩
      obtain ⟨b10, s10⟩ := b9.new (o := .lst (cutV zs none (some sp))) n6
      have g6 := upd_same (H := G9) (a := L6) (o := .lst (cutV zs none (some sp)))
      generalize upd G9 L6 _ = G10 at b10 s10 g6
      refine ⟨_, rfl, _, rfl, _, _, rfl, rfl, _, rfl, S, zs, rfl, .inl (.inl (b10.w _ _ (s10 _ _ gS9))), fun L7 n7 => ?_⟩
      obtain ⟨b11, s11⟩ := b10.new (o := .lst (cutV zs (some (sp + 1)) none)) n7
      generalize upd G10 L7 _ = G11 at b11 s11
      refine ⟨L6, L7, _, _, rfl, rfl, b11.w _ _ (s11 _ _ g6), upd_same, sz (by have := lc none (some sp); have := lc (some (sp + 1)) none; simp; omega), fun L8 n8 => ?_⟩
      obtain ⟨b12, s12⟩ := b11.new (o := .lst (cutV zs none (some sp) ++ cutV zs (some (sp + 1)) none)) n8
      have g8 := upd_same (H := G11) (a := L8) (o := .lst (cutV zs none (some sp) ++ cutV zs (some (sp + 1)) none))
      generalize upd G11 L8 _ = G12 at b12 s12 g8
      have gS12 := s12 _ _ (s11 _ _ (s10 _ _ gS9))
      have c8 : Cand K G12 (.ref L8) := mk g8 (by have := lc none (some sp); have := lc (some (sp + 1)) none; simp; omega) (flat_app (flat_cut fz _ _) (flat_cut fz _ _))
      -- the third: backwards
      refine ⟨_, rfl, S, zs, rfl, .inl (.inl (b12.w _ _ gS12)), fun L9 n9 => ?_⟩
      obtain ⟨b13, s13⟩ := b12.new (o := .lst zs.reverse) n9
      have g9 := upd_same (H := G12) (a := L9) (o := .lst zs.reverse)
      generalize upd G12 L9 _ = G13 at b13 s13 g9
      have c9 : Cand K G13 (.ref L9) := mk g9 (by rw [List.length_reverse]; omega) fun z hz => fz z (List.mem_reverse.mp hz)
      -- the fourth: the other
      have s03 : Same G0 G13 := s2.trans (s4.trans (s6.trans (s7.trans (s8.trans (s9.trans (s10.trans (s11.trans (s12.trans s13))))))))
      refine ⟨_, rfl, _, rfl, _, _, rfl, rfl, D, _, _, xk, rfl, rfl, .inl (.inl b13.lst), by rw [kj]; exact atN hxk, nilGo (lst_story ((vk.same s03).same b13.w) fun L10 n10 => ?_)⟩
      obtain ⟨b14, s14⟩ := b13.new (o := .lst (marksV sk)) n10
      have g10 := upd_same (H := G13) (a := L10) (o := .lst (marksV sk))
      generalize upd G13 L10 _ = G14 at b14 s14 g10
      have c10 : Cand K G14 (.ref L10) := mk g10 (by show (List.map _ _).length ≤ _; rw [List.length_map]; omega) (flat_marks sk)
      refine ⟨(by show 4 ≤ sizeLine; decide), fun M nM => ?_⟩
      obtain ⟨b15, s15⟩ := b14.new (o := .lst [.ref L5, .ref L8, .ref L9, .ref L10]) nM
      have gM := upd_same (H := G14) (a := M) (o := .lst [.ref L5, .ref L8, .ref L9, .ref L10])
      generalize upd G14 M _ = G15 at b15 s15 gM
      have gS15 := s15 _ _ (s14 _ _ (s13 _ _ gS12))
      -- what else may be picked
      refine ⟨_, rfl, _, rfl, _, rfl, S, zs, rfl, .inl ⟨.inl (.inl (b15.w _ _ gS15)), fun t nt => ?_⟩⟩
      obtain ⟨b16, s16⟩ := b15.new (o := .tup zs) nt
      have gt := upd_same (H := G15) (a := t) (o := .tup zs)
      generalize upd G15 t _ = G16 at b16 s16 gt
      have ct : Cand K G16 (.ref t) := .inr (.inr ⟨_, _, rfl, .inr (.inl (.inl gt)), by omega, fz⟩)
      have gS16 := s16 _ _ gS15
      refine ⟨_, rfl, _, rfl, (by show 1 ≤ sizeLine; decide), fun a1 na1 => ?_⟩
      obtain ⟨b17, s17⟩ := b16.new (o := .lst [nV m]) na1
      generalize upd G16 a1 _ = G17 at b17 s17
      refine ⟨S, a1, _, _, rfl, rfl, b17.w _ _ (s17 _ _ gS16), upd_same, sz (by simp; omega), fun a2 na2 => ?_⟩
      obtain ⟨b18, s18⟩ := b17.new (o := .lst (zs ++ [nV m])) na2
      have g2 := upd_same (H := G17) (a := a2) (o := .lst (zs ++ [nV m]))
      generalize upd G17 a2 _ = G18 at b18 s18 g2
      have c2 : Cand K G18 (.ref a2) := mk g2 (by simp; omega) (flat_app fz (flat_one _))
      have gS18 := s18 _ _ (s17 _ _ gS16)
      refine ⟨_, rfl, (by show 1 ≤ sizeLine; decide), fun a3 na3 => ?_⟩
      obtain ⟨b19, s19⟩ := b18.new (o := .lst [.bl true]) na3
      generalize upd G18 a3 _ = G19 at b19 s19
      refine ⟨S, a3, _, _, rfl, rfl, b19.w _ _ (s19 _ _ gS18), upd_same, sz (by simp; omega), fun a4 na4 => ?_⟩
      obtain ⟨b20, s20⟩ := b19.new (o := .lst (zs ++ [.bl true])) na4
      have g4 := upd_same (H := G19) (a := a4) (o := .lst (zs ++ [.bl true]))
      generalize upd G19 a4 _ = G20 at b20 s20 g4
      have c4 : Cand K G20 (.ref a4) := mk g4 (by simp; omega) (flat_app fz fun z hz => .inr ⟨true, List.mem_singleton.mp hz⟩)
      have gS20 := s20 _ _ (s19 _ _ gS18)
      refine ⟨_, rfl, (by show 1 ≤ sizeLine; decide), fun a5 na5 => ?_⟩
      obtain ⟨b21, s21⟩ := b20.new (o := .lst [.int 0]) na5
      generalize upd G20 a5 _ = G21 at b21 s21
      refine ⟨S, a5, _, _, rfl, rfl, b21.w _ _ (s21 _ _ gS20), upd_same, sz (by simp; omega), fun a6 na6 => ?_⟩
      obtain ⟨b22, s22⟩ := b21.new (o := .lst (zs ++ [.int 0])) na6
      have g6' := upd_same (H := G21) (a := a6) (o := .lst (zs ++ [.int 0]))
      generalize upd G21 a6 _ = G22 at b22 s22 g6'
      have c6 : Cand K G22 (.ref a6) := mk g6' (by simp; omega) (flat_app fz (flat_one _))
      refine ⟨(by show 6 ≤ sizeLine; decide), fun a7 na7 => ?_⟩
      obtain ⟨b23, s23⟩ := b22.new (o := .lst [.ref t, .non, .ref a2, .ref a4, .str "01", .ref a6]) na7
      generalize upd G22 a7 _ = G23 at b23 s23
      have sM : Same G15 G23 := s16.trans (s17.trans (s18.trans (s19.trans (s20.trans (s21.trans (s22.trans s23))))))
      refine ⟨M, a7, _, _, rfl, rfl, b23.w _ _ (sM _ _ gM), upd_same, sz (by simp), fun a8 na8 => ?_⟩
      obtain ⟨b24, s24⟩ := b23.new (o := .lst ([.ref L5, .ref L8, .ref L9, .ref L10] ++ [.ref t, .non, .ref a2, .ref a4, .str "01", .ref a6])) na8
      have n8' := b23.box.ne na8
      generalize upd G23 a8 _ = G24 at b24 s24
      refine ⟨p, a8, _, rfl, b24.box, .inl (.inl upd_same), n8'.symm, by simp, by simp, fun H25 y hy but25 B25 => ?_⟩
      have b25 := b24.but but25 B25
      have sM' : Same G14 G24 := s15.trans (sM.trans s24)
      have cy : Cand K G24 y := by
        have hy' : y = .ref L5 ∨ y = .ref L8 ∨ y = .ref L9 ∨ y = .ref L10 ∨ y = .ref t ∨ y = .non ∨ y = .ref a2 ∨ y = .ref a4 ∨ y = .str "01" ∨ y = .ref a6 := by simpa using hy
        rcases hy' with rfl | rfl | rfl | rfl | rfl | rfl | rfl | rfl | rfl | rfl
        · exact c5.same (s10.trans (s11.trans (s12.trans (s13.trans (s14.trans sM')))))
        · exact c8.same (s13.trans (s14.trans sM'))
        · exact c9.same (s14.trans sM')
        · exact c10.same sM'
        · exact ct.same (s17.trans (s18.trans (s19.trans (s20.trans (s21.trans (s22.trans (s23.trans s24)))))))
        · exact .inl rfl
        · exact c2.same (s19.trans (s20.trans (s21.trans (s22.trans (s23.trans s24)))))
        · exact c4.same (s21.trans (s22.trans (s23.trans s24)))
        · exact .inr (.inl rfl)
        · exact c6.same (s23.trans s24)
      have s04 : Same G0 G24 := s03.trans (s14.trans sM')
      obtain ⟨e, hye, oke⟩ := cy.item
      refine ⟨_, rfl, _, rfl, D, _, _, j, rfl, rfl, b25.lst, ixj j j3, ?_⟩
      have b26 := b25.set (vs' := [v0, v1, v2].set j y)
      have hds1 : DpAll K G24 ([v0, v1, v2].set j y) ([.str "stories", storyD a, storyD b].set j e) := dpAll_set (dpAll_same s04 hds0) hye
      have fd1 : Found ([.str "stories", storyD a, storyD b].set j e) := fd0.put (fun z => absurd z hj0) oke
      have hxj' : ([v0, v1, v2].set j y)[j]? = some y := List.getElem?_set_self (by simpa using j3)
      have hxk' : ([v0, v1, v2].set j y)[j']? = some xk := by rw [List.getElem?_set_ne (by omega)]; exact hxk
      refine ⟨_, rfl, p, 3, rfl, b26.box, by decide, by decide, fun H27 d3 _ _ but27 B27 => ?_⟩
      have b27 := b26.but but27 B27
      refine ⟨rfl, _, rfl, ?_⟩
      by_cases h0 : d3 = 0
      · refine iteD (by rw [h0]) ?_
        refine ⟨_, rfl, _, rfl, D, _, _, y, rfl, rfl, .inl (.inl b27.lst), atN hxj', _, rfl, ?_⟩
        by_cases hn : y = .non
        · refine iteE (c := false) (by rw [decide_eq_true hn]; rfl) (iteF ?_)
          exact fin D _ _ _ _ _ _ _ _ b27 hds1 fd1
        · refine iteE (c := true) (by rw [decide_eq_false hn]; rfl) (iteT ?_)
          refine ⟨_, rfl, _, rfl, D, _, _, y, rfl, rfl, .inl (.inl b27.lst), atN hxj', ⟨_, _, _, _, _, rfl, .ty _, dp_ty (dp_same b27.w hye), kit_str e, _, rfl, ?_⟩⟩
          cases isTextD e with
          | true => exact iteF (fin D _ _ _ _ _ _ _ _ b27 hds1 fd1)
          | false =>
            refine iteT ?_
            refine ⟨_, rfl, _, rfl, _, _, rfl, rfl, D, _, _, xk, rfl, rfl, .inl (.inl b27.lst), by rw [kj]; exact atN hxk', nilGo (lst_story ((vk.same s04).same b27.w) fun e1 ne1 => ?_)⟩
            obtain ⟨b28, s28⟩ := b27.new (o := .lst (marksV sk)) ne1
            have h1 := upd_same (H := G24) (a := e1) (o := .lst (marksV sk))
            generalize upd G24 e1 _ = G28 at b28 s28 h1
            refine ⟨_, rfl, _, rfl, p, _, rfl, b28.box, by omega, by omega, fun H29 d9 _ _ but29 B29 => ⟨(by show 1 ≤ sizeLine; decide), fun e2 ne2 => ?_⟩⟩
            have b29 := b28.but but29 B29
            obtain ⟨b30, s30⟩ := b29.new (o := .lst [.int d9]) ne2
            generalize upd G28 e2 _ = G30 at b30 s30
            have lsk : (marksV sk).length = sk.length := List.length_map ..
            refine ⟨e1, e2, _, _, rfl, rfl, b30.w _ _ (s30 _ _ h1), upd_same, sz (by rw [lsk]; simp; omega), fun e3 ne3 => ?_⟩
            obtain ⟨b31, s31⟩ := b30.new (o := .lst (marksV sk ++ [.int d9])) ne3
            have h3 := upd_same (H := G30) (a := e3) (o := .lst (marksV sk ++ [.int d9]))
            generalize upd G30 e3 _ = G31 at b31 s31 h3
            refine ⟨_, rfl, _, rfl, _, _, rfl, rfl, D, _, _, j', rfl, congrArg V.int kj, b31.lst, by rw [List.length_set]; exact ixj j' k3, ?_⟩
            obtain ⟨e', hye', oke'⟩ := (mk h3 (by rw [List.length_append, lsk]; simp; omega) (flat_app (flat_marks sk) (flat_one _))).item
            exact fin D _ _ _ _ _ _ _ _ b31.set (dpAll_set (dpAll_same (s28.trans (s30.trans s31)) hds1) hye') (fd1.put (fun z => absurd z (by omega)) oke')
      · refine iteN (fun z => h0 (V.int.inj z)) (iteF ?_)
        exact fin D _ _ _ _ _ _ _ _ b27 hds1 fd1
end
end Lg
set_option Elab.async false
set_option maxRecDepth 100000
namespace Lg
open PySem PySem.Spec PyProof.Rows L2
/-! ### where no two are alike, all keys differ -/
section
variable {κ : Type} [DecidableEq κ]
theorem alGo_apart (key : Story → κ) : ∀ T : List Story, (alGo key T.reverse).2 = [] → (alGo key T.reverse).1 = T.reverse.map (fun s => (key s, s)) ∧ T.reverse.Pairwise fun a b => key a ≠ key b
  | [], _ => ⟨rfl, .nil⟩
  | s :: T, h => by
    rw [List.reverse_cons, alGo_snoc] at h ⊢
    unfold alStep at h ⊢
    split at h
    · rename_i x e
      exact absurd (congrArg List.length h) (by simp)
    · rename_i e
      obtain ⟨h1, h2⟩ := alGo_apart key T h
      refine ⟨by show _ ++ _ = _; rw [h1, List.map_append]; rfl, List.pairwise_append.mpr ⟨h2, List.pairwise_singleton _ _, fun a ha b hb => ?_⟩⟩
      rw [List.mem_singleton.mp hb]
      intro z
      rw [h1] at e
      have := List.find?_eq_none.mp e (key a, a) (List.mem_map.mpr ⟨a, ha, rfl⟩)
      exact this (decide_eq_true z)
theorem apart {key : Story → κ} {S : List Story} (h : alikes key S = []) {a b : Story} (ha : a ∈ S) (hb : b ∈ S) (e : key a = key b) : a = b := by
  have z := (alGo_apart key S.reverse (by rw [List.reverse_reverse]; exact h)).2
  rw [List.reverse_reverse] at z
  obtain ⟨i, hi, ei⟩ := List.mem_iff_getElem.mp ha
  obtain ⟨j, hj, ej⟩ := List.mem_iff_getElem.mp hb
  have p := List.pairwise_iff_getElem.mp z
  rcases Nat.lt_trichotomy i j with c | c | c
  · exact absurd (by rw [ei, ej]; exact e) (p i j hi hj c)
  · subst c
    exact ei.symm.trans ej
  · exact absurd (by rw [ei, ej]; exact e.symm) (p j i hj hi c)
theorem alGo_from (key : Story → κ) : ∀ T : List Story, (∀ x, x ∈ (alGo key T.reverse).1 → x.2 ∈ T.reverse) ∧ ∀ p, p ∈ (alGo key T.reverse).2 → p.1 ∈ T.reverse ∧ p.2 ∈ T.reverse
  | [] => ⟨fun x h => absurd (show x ∈ ([] : List (κ × Story)) from h) (by simp), fun p h => absurd (show p ∈ ([] : List (Story × Story)) from h) (by simp)⟩
  | s :: T => by
    obtain ⟨h1, h2⟩ := alGo_from key T
    rw [List.reverse_cons, alGo_snoc]
    have up : ∀ {y : Story}, y ∈ T.reverse → y ∈ T.reverse ++ [s] := fun h => List.mem_append_left _ h
    have own : s ∈ T.reverse ++ [s] := List.mem_append_right _ (List.mem_singleton.mpr rfl)
    unfold alStep
    split
    · rename_i x e
      have hx := h1 x (List.mem_of_find?_eq_some e)
      refine ⟨fun y hy => up (h1 y hy), fun p hp => ?_⟩
      rcases List.mem_append.mp hp with q | q
      · exact ⟨up (h2 p q).1, up (h2 p q).2⟩
      · rw [List.mem_singleton.mp q]
        exact ⟨up hx, own⟩
    · refine ⟨fun y hy => ?_, fun p hp => ⟨up (h2 p hp).1, up (h2 p hp).2⟩⟩
      rcases List.mem_append.mp hy with q | q
      · exact up (h1 y q)
      · rw [List.mem_singleton.mp q]
        exact own
theorem alikes_from {key : Story → κ} {S : List Story} {p : Story × Story} (h : p ∈ alikes key S) : p.1 ∈ S ∧ p.2 ∈ S := by
  have z := (alGo_from key S.reverse).2
  rw [List.reverse_reverse] at z
  exact z p h
end
theorem told_from {k n : Nat} {R : Rows} (h : alikes (keyL k R) (layerS k n) ≠ []) : ∃ a b, toldD (alikes (keyL k R) (layerS k n)) = askD a b ∧ (a.length = n ∧ ∀ x, x ∈ a → x < k) ∧ b.length = n ∧ ∀ x, x ∈ b → x < k := by
  obtain ⟨p, hp, e⟩ := best_mem h
  obtain ⟨h1, h2⟩ := alikes_from hp
  exact ⟨p.1, p.2, told_of e, mem_layer.mp h1, mem_layer.mp h2⟩
/-- what is due: none, or two stories -/
theorem firstGo_form {k : Nat} {R : Rows} : ∀ (r d : Nat), firstGo k R r d = .none ∨ ∃ a b, firstGo k R r d = askD a b ∧ (a.length ≤ d + r ∧ ∀ x, x ∈ a → x < k) ∧ b.length ≤ d + r ∧ ∀ x, x ∈ b → x < k
  | 0, _ => .inl rfl
  | r + 1, d => by
    rw [firstGo]
    by_cases e : alikes (keyL k R) (layerS k d) = []
    · rw [if_pos e]
      rcases firstGo_form (k := k) (R := R) r (d + 1) with h | ⟨a, b, h1, ⟨h2, h3⟩, h4, h5⟩
      · exact .inl h
      · exact .inr ⟨a, b, h1, ⟨by omega, h3⟩, by omega, h5⟩
    · rw [if_neg e]
      obtain ⟨a, b, h1, ⟨h2, h3⟩, h4, h5⟩ := told_from e
      exact .inr ⟨a, b, h1, ⟨by omega, h3⟩, by omega, h5⟩
theorem first_form {k : Nat} {R : Rows} {len : Nat} (hl : len ≤ 6) : first k R len = .none ∨ ∃ a b, first k R len = askD a b ∧ (a.length ≤ 100 ∧ ∀ x, x ∈ a → x < k) ∧ b.length ≤ 100 ∧ ∀ x, x ∈ b → x < k := by
  rcases firstGo_form (k := k) (R := R) len 1 with h | ⟨a, b, h1, ⟨h2, h3⟩, h4, h5⟩
  · exact .inl h
  · exact .inr ⟨a, b, h1, ⟨by omega, h3⟩, by omega, h5⟩
theorem firstGo_none {k : Nat} {R : Rows} : ∀ (r d : Nat), firstGo k R r d = .none → ∀ e, d ≤ e → e < d + r → alikes (keyL k R) (layerS k e) = []
  | 0, _, _, e, h1, h2 => by omega
  | r + 1, d, h, e, h1, h2 => by
    rw [firstGo] at h
    by_cases c : alikes (keyL k R) (layerS k d) = []
    · rw [if_pos c] at h
      by_cases q : e = d
      · rw [q]
        exact c
      · exact firstGo_none r (d + 1) h e (by omega) (by omega)
    · rw [if_neg c] at h
      obtain ⟨a, b, h1, _⟩ := told_from c
      rw [h1] at h
      cases h
/-! ### pigeons -/
theorem pigeon : ∀ (M n : Nat) (f : Nat → Nat), (∀ j, j < n → f j < M) → M < n → ∃ i j, i < j ∧ j < n ∧ f i = f j
  | 0, n, f, h, hn => absurd (h 0 hn) (Nat.not_lt_zero _)
  | M + 1, 0, f, h, hn => absurd hn (Nat.not_lt_zero _)
  | M + 1, n + 1, f, h, hn => by
    by_cases c : ∃ i, i < n ∧ f i = f n
    · obtain ⟨i, hi, e⟩ := c
      exact ⟨i, n, hi, Nat.lt_succ_self n, e⟩
    · have ne : ∀ i, i < n → f i ≠ f n := fun i hi e => c ⟨i, hi, e⟩
      have hv := h n (Nat.lt_succ_self n)
      obtain ⟨i, j, h1, h2, h3⟩ := pigeon M n (fun j => if f n < f j then f j - 1 else f j) (fun j hj => by
        have a := h j (by omega)
        have b := ne j hj
        show (if f n < f j then f j - 1 else f j) < M
        split <;> omega) (by omega)
      have h3' : (if f n < f i then f i - 1 else f i) = if f n < f j then f j - 1 else f j := h3
      have b1 := ne i (by omega)
      have b2 := ne j h2
      refine ⟨i, j, h1, by omega, ?_⟩
      split at h3' <;> split at h3' <;> omega
/-! ### how many marks a story leaves on a hand -/
theorem put_get {L : Logs} {h m i : Nat} (hh : h < L.length) : (put L h m).getD i [] = if i = h then L.getD h [] ++ [m] else L.getD i [] := by
  unfold put
  by_cases c : i = h
  · subst c
    rw [if_pos rfl, List.getD_eq_getElem?_getD, List.getElem?_set_self hh]
    rfl
  · rw [if_neg c, List.getD_eq_getElem?_getD, List.getElem?_set_ne (fun z => c z.symm), ← List.getD_eq_getElem?_getD]
theorem laid_logs {ms : List Nat} {R : Rows} (ok : RowsOk ms R) : ∀ T : List Nat, (∀ n, n ∈ T.reverse → n < ms.length) → ∀ i, i < ms.length → ((laid ms.length R T.reverse).1.getD i []).length = T.reverse.count i ∧ ∀ x, x ∈ (laid ms.length R T.reverse).1.getD i [] → x < ms.getD i 0
  | [], _, i, hi => by
    show ((List.replicate ms.length ([] : List Nat)).getD i []).length = 0 ∧ ∀ x, x ∈ (List.replicate ms.length ([] : List Nat)).getD i [] → x < ms.getD i 0
    rw [List.getD_eq_getElem?_getD, List.getElem?_replicate]
    rw [if_pos hi]
    exact ⟨rfl, fun x h => absurd (show x ∈ ([] : List Nat) from h) (by simp)⟩
  | n :: T, h, i, hi => by
    rw [List.reverse_cons] at h ⊢
    have h' : ∀ m, m ∈ T.reverse → m < ms.length := fun m hm => h m (List.mem_append_left _ hm)
    have hn : n < ms.length := h n (List.mem_append_right _ (List.mem_singleton.mpr rfl))
    obtain ⟨a, b⟩ := laid_logs ok T h' i hi
    have mo := (mark_ok ok (laid_st ok T.reverse h') hn).1
    rw [laid_snoc]
    show ((put (laid ms.length R T.reverse).1 n _).getD i []).length = _ ∧ ∀ x, x ∈ (put (laid ms.length R T.reverse).1 n _).getD i [] → _
    rw [put_get (by rw [laid_len]; exact hn)]
    by_cases c : i = n
    · subst c
      rw [if_pos rfl]
      refine ⟨by rw [List.length_append, a, List.count_append, List.count_singleton_self]; rfl, fun x hx => ?_⟩
      rcases List.mem_append.mp hx with q | q
      · exact b x q
      · rw [List.mem_singleton.mp q]
        exact mo
    · rw [if_neg c]
      refine ⟨by rw [a, List.count_append, List.count_eq_zero_of_not_mem (l := [n]) (by simpa using c)]; rfl, b⟩
theorem laid_log {ms : List Nat} {R : Rows} (ok : RowsOk ms R) (l : List Nat) (h : ∀ n, n ∈ l → n < ms.length) {i : Nat} (hi : i < ms.length) : ((laid ms.length R l).1.getD i []).length = l.count i ∧ ∀ x, x ∈ (laid ms.length R l).1.getD i [] → x < ms.getD i 0 := by
  have z := laid_logs ok l.reverse
  rw [List.reverse_reverse] at z
  exact z h i hi
/-- s in its place j among t's -/
def lone (s t n j : Nat) : Story := List.replicate j t ++ s :: List.replicate (n - j) t
theorem lone_inj {s t n i j : Nat} (hst : s ≠ t) (hij : i < j) (e : lone s t n i = lone s t n j) : False := by
  have a : (lone s t n i)[i]? = some s := by
    unfold lone
    rw [List.getElem?_append_right (by simp)]
    simp
  have b : (lone s t n j)[i]? = some t := by
    unfold lone
    rw [List.getElem?_append_left (by simpa using hij), List.getElem?_replicate, if_pos hij]
  rw [e, b] at a
  exact hst (Option.some.inj a).symm
/-- two hands, t of one mark: more places than s has marks make two alike -/
theorem crowd {ms : List Nat} {R : Rows} {s t M : Nat} (ok : RowsOk ms R) (h2 : ms.length = 2) (hs : s < 2) (ht : t < 2) (hst : s ≠ t) (h1 : ms.getD t 0 = 1) (hM : ms.getD s 0 = M) : alikes (keyL ms.length R) (layerS ms.length (M + 1)) ≠ [] := by
  intro h
  have mem : ∀ j, j < M + 1 → ∀ x, x ∈ lone s t M j → x < ms.length := fun j hj x hx => by
    unfold lone at hx
    rcases List.mem_append.mp hx with q | q
    · rw [(List.mem_replicate.mp q).2]; omega
    · rcases List.mem_cons.mp q with q | q
      · rw [q]; omega
      · rw [(List.mem_replicate.mp q).2]; omega
  have len : ∀ j, j < M + 1 → (lone s t M j).length = M + 1 := fun j hj => by
    unfold lone
    simp
    omega
  have cs : ∀ j, j < M + 1 → (lone s t M j).count s = 1 := fun j hj => by
    unfold lone
    rw [List.count_append, List.count_cons_self, List.count_replicate, List.count_replicate]
    simp [Ne.symm hst]
  have ct : ∀ j, j < M + 1 → (lone s t M j).count t = M := fun j hj => by
    unfold lone
    rw [List.count_append, List.count_cons_of_ne hst, List.count_replicate_self, List.count_replicate_self]
    omega
  obtain ⟨i, j, hij, hj, e⟩ := pigeon M (M + 1) (fun j => ((laid ms.length R (lone s t M j)).1.getD s []).getD 0 0) (fun j hj => by
    obtain ⟨a, b⟩ := laid_log ok (lone s t M j) (mem j hj) (i := s) (by omega)
    rw [cs j hj] at a
    match hl : (laid ms.length R (lone s t M j)).1.getD s [], a with
    | [m], _ =>
      rw [hl] at b
      show ([m] : List Nat).getD 0 0 < M
      have z := b m (List.mem_singleton.mpr rfl)
      rw [hM] at z
      exact z) (Nat.lt_succ_self M)
  have hi : i < M + 1 := by omega
  have key : ∀ c, c < 2 → (laid ms.length R (lone s t M i)).1.getD c [] = (laid ms.length R (lone s t M j)).1.getD c [] := by
    intro c hc
    by_cases q : c = s
    · subst q
      obtain ⟨a1, _⟩ := laid_log ok (lone c t M i) (mem i hi) (i := c) (by omega)
      obtain ⟨a2, _⟩ := laid_log ok (lone c t M j) (mem j hj) (i := c) (by omega)
      rw [cs i hi] at a1
      rw [cs j hj] at a2
      match l1 : (laid ms.length R (lone c t M i)).1.getD c [], l2 : (laid ms.length R (lone c t M j)).1.getD c [], a1, a2 with
      | [x], [y], _, _ =>
        have e' : ((laid ms.length R (lone c t M i)).1.getD c []).getD 0 0 = ((laid ms.length R (lone c t M j)).1.getD c []).getD 0 0 := e
        rw [l1, l2] at e'
        have e'' : x = y := e'
        rw [e'']
    · have qt : c = t := by omega
      subst qt
      obtain ⟨a1, b1⟩ := laid_log ok (lone s c M i) (mem i hi) (i := c) (by omega)
      obtain ⟨a2, b2⟩ := laid_log ok (lone s c M j) (mem j hj) (i := c) (by omega)
      rw [ct i hi] at a1
      rw [ct j hj] at a2
      have z1 := List.eq_replicate_iff.mpr ⟨a1, fun x hx => (by have := b1 x hx; omega : x = 0)⟩
      have z2 := List.eq_replicate_iff.mpr ⟨a2, fun x hx => (by have := b2 x hx; omega : x = 0)⟩
      rw [z1, z2]
  have ek : keyL ms.length R (lone s t M i) = keyL ms.length R (lone s t M j) := by
    refine List.ext_getElem? fun c => ?_
    show (laid ms.length R (lone s t M i)).1[c]? = (laid ms.length R (lone s t M j)).1[c]?
    have l1 := laid_len ms.length R (lone s t M i)
    have l2 := laid_len ms.length R (lone s t M j)
    by_cases hc : c < 2
    · have z := key c hc
      rw [List.getD_eq_getElem?_getD, List.getD_eq_getElem?_getD, List.getElem?_eq_getElem (by omega), List.getElem?_eq_getElem (by omega)] at z
      rw [List.getElem?_eq_getElem (by omega), List.getElem?_eq_getElem (by omega)]
      exact congrArg some z
    · rw [List.getElem?_eq_none (by omega), List.getElem?_eq_none (by omega)]
  exact lone_inj hst hij (apart h (mem_layer.mpr ⟨len i hi, mem i hi⟩) (mem_layer.mpr ⟨len j hj, mem j hj⟩) ek)
theorem first_due {ms : List Nat} {R : Rows} {s t M len : Nat} (ok : RowsOk ms R) (h2 : ms.length = 2) (hs : s < 2) (ht : t < 2) (hst : s ≠ t) (h1 : ms.getD t 0 = 1) (hM : ms.getD s 0 = M) (hl : M + 1 ≤ len) : first ms.length R len ≠ .none := fun z =>
  crowd ok h2 hs ht hst h1 hM (firstGo_none len 1 z (M + 1) (by omega) (by omega))
end Lg
set_option Elab.async false
set_option maxRecDepth 100000
namespace Lg
open PySem PySem.Spec PyProof.Rows L2
/-! ### what is due, as data -/
structure DueOk (D : PyData) : Prop where
  sh : Shows D
  sp : SeqAt.shaped D = true
  eq : PyData.eqv D D = true
  tt : tupOnly D = true
theorem fine_word : Fine (.str "stories") := ⟨by decide +kernel, by decide +kernel, by decide +kernel⟩
theorem ask_fine {a b : List Nat} (ha : ∀ n, n ∈ a → n < 10) (hb : ∀ n, n ∈ b → n < 10) : Fine (askD a b) := by
  have fa := fine_story ha
  have fb := fine_story hb
  have fw := fine_word
  refine ⟨?_, ?_, ?_⟩
  · show ((PyData.str "stories").canLay0 && ((storyD a).canLay0 && ((storyD b).canLay0 && true))) = true
    rw [fw.lay, fa.lay, fb.lay]
    rfl
  · show ((PyData.str "stories").showable && ((storyD a).showable && ((storyD b).showable && true))) = true
    rw [fw.sh, fa.sh, fb.sh]
    rfl
  · show ((PyData.str "stories").intsShort 13 && ((storyD a).intsShort 13 && ((storyD b).intsShort 13 && true))) = true
    rw [fw.sm, fa.sm, fb.sm]
    rfl
theorem ask_deep (a b : List Nat) : (askD a b).depth = 2 := by
  show max (PyData.str "stories").depth (max (storyD a).depth (max (storyD b).depth 0)) + 1 = 2
  rw [deep_story, deep_story]
  rfl
theorem word_weight : (PyData.str "stories").weight ≤ 100 := by decide +kernel
theorem ask_ok {a b : List Nat} (ha : ∀ n, n ∈ a → n < 10) (hb : ∀ n, n ∈ b → n < 10) (la : a.length ≤ 100) (lb : b.length ≤ 100) : DueOk (askD a b) := by
  have fi := ask_fine ha hb
  refine ⟨fi.shows (by rw [ask_deep]; decide) ?_, ?_, ?_, ?_⟩
  · have wa := weight_story ha
    have wb := weight_story hb
    have ww := word_weight
    have e : (askD a b).weight = (PyData.str "stories").weight + 1 + ((storyD a).weight + 1 + ((storyD b).weight + 1 + 0)) := rfl
    rw [e]
    omega
  · unfold SeqAt.shaped
    rw [fi.lay, Bool.true_and]
    exact decide_eq_true (by rw [ask_deep]; decide)
  · show (PyData.eqv (.str "stories") (.str "stories") && (PyData.eqv (storyD a) (storyD a) && (PyData.eqv (storyD b) (storyD b) && true))) = true
    rw [eqv_story, eqv_story]
    simp
    decide +kernel
  · unfold askD
    rw [tupOnly, tupAll, tupAll, tupAll, tupAll, tt_story, tt_story]
    rfl
theorem none_ok : DueOk .none := ⟨⟨rfl, by decide +kernel, by rw [sizeLine_eq]; decide +kernel⟩, by decide +kernel, rfl, rfl⟩
theorem first_ok {k len : Nat} {R : Rows} (hk : k ≤ 3) (hl : len ≤ 6) : DueOk (first k R len) := by
  rcases first_form (k := k) (R := R) hl with h | ⟨a, b, h, ⟨h1, h2⟩, h3, h4⟩
  · rw [h]
    exact none_ok
  · rw [h]
    exact ask_ok (fun n hn => by have := h2 n hn; omega) (fun n hn => by have := h4 n hn; omega) h1 h3
theorem ask_good {a b : List Nat} (la : a.length ≤ 100) (lb : b.length ≤ 100) : GoodD (askD a b) := by
  have sto : ∀ l : List Nat, l.length ≤ 100 → ItemOk (storyD l) := fun l hl => flat_item (zs := marksV l) (by show (List.map _ _).length ≤ _; rw [List.length_map]; omega) (by show _ = List.map dOf (List.map _ l); rw [List.map_map]; rfl)
  refine ⟨rfl, fun e he => ?_, fun x y z e => ?_⟩
  · have he' : e = .str "stories" ∨ e = storyD a ∨ e = storyD b := by simpa [askD, itemsOf] using he
    rcases he' with rfl | rfl | rfl
    · exact ⟨by decide, rfl, by decide⟩
    · exact sto a la
    · exact sto b lb
  · have e' : [PyData.str "stories", storyD a, storyD b] = [x, y, z] := e
    cases e'
    simp [heads]
end Lg
set_option Elab.async false
set_option maxRecDepth 100000
set_option maxHeartbeats 2000000
namespace Lg
open PySem PySem.Spec PyProof.Rows L2 LamX
section
variable {X : Cx}
theorem takes_len {W : WX} (t : Takes X W) : Takes X (fun cls d σ H => σ.length = X.N.length → W cls d σ H) := fun u s' ⟨a, B, sI, pins, σ, H, cls, d, e, I, nb, up, sky, na, os, ag, w⟩ =>
  t u s' ⟨a, B, sI, pins, σ, H, cls, d, e, I, nb, up, sky, na, os, ag, w I.len⟩
/-- isinstance of the error in hand, its class and dict being told later -/
def rIsA (K : PySem.W.Frag) (cls : Value) (d : Option Addr) (a : Addr) : List V → Hp → VK → Prop := fun xs H Q => ∃ D dx, cls = .ref D ∧ d = some dx ∧ ExcC K D ∧ (∃ fs, H dx = some (.xd fs)) ∧ rIsE K D a xs H Q
theorem call_isA {a : Addr} {oe : Obj} {cls : Value} {d : Option Addr} {pn : List (Addr × Obj)} (hz : Zc cls d oe) (hf : ∃ vs, oe.data = .fields vs) : CallR (X.suite a ((a, oe) :: pn)) (.builtin "isinstance") (rIsA X.K cls d a) := by
  intro pins s σ H xs us Q I r h
  obtain ⟨D, dx, rfl, rfl, T, hfs, h⟩ := h
  exact call_isD T hz hf pins s σ H xs us Q I r ⟨hfs, h⟩
end
/-- what _law_heard makes of an error -/
def EHeard (K : PySem.W.Frag) (CT CR : Addr) (Q : VK) : XK := fun cls d H' => ∃ dd, d = some dd ∧ ((cls = .ref CT ∧ ∃ m, H' dd = some (.xd [("most", .int m)]) ∧ ∀ H2 t, Same H' H2 → H2 t = some (.tup [.str "great", .int m, .bl true]) → Q (.ref t) H2) ∨
  (cls = .ref CR ∧ ∃ x dx, H' dd = some (.xd [("at", x)]) ∧ Dp K H' x dx ∧ dx.showable = true ∧ dx.depth ≤ 60 ∧ dx.shown.length ≤ 1000 ∧ ∀ H2 t, Same H' H2 → H2 t = some (.tup [.str "refused", .str dx.shown, .bl true]) → Q (.ref t) H2))
def TTHeard (K : PySem.W.Frag) (CT CR : Addr) : (XK → Hp → VK → Prop) → Hp → VK → Prop := fun tl H Q => tl (EHeard K CT CR Q) H fun v H1 => 2 ≤ sizeLine ∧ ∀ t, H1 t = none → Q (.ref t) (upd H1 t (.tup [.str "told", v]))
/-- the errors' classes, as _law_heard asks of them -/
structure ErrIs (K : PySem.W.Frag) (CT CR CL : Addr) : Prop where
  tt : PySem.W.exmOne K (.ref CT) (.ref CT) = some true
  rt : PySem.W.exmOne K (.ref CR) (.ref CT) = some false
  rr : PySem.W.exmOne K (.ref CR) (.ref CR) = some true
  xT : XfC K CT
  xR : XfC K CR
  nT : PySem.W.findIn K (.ref CT) "most" = some none
  nR : PySem.W.findIn K (.ref CR) "at" = some none
  eT : ExcC K CT
  eR : ExcC K CR
  kT : PySem.W.kitOne K (.ref CT) (.ref CL) = some true
  kR : PySem.W.kitOne K (.ref CR) (.ref CL) = some true
def tsT (K : PySem.W.Frag) (CT CL : Addr) : Addr → Value → Option Addr → TS := fun a cls d => tRet (tTup (tCons (tC (.str "great")) (tCons (tXf a cls d CT "most" (tVar 1)) (tCons (tCB (rIsA K cls d a) (tCons (tVar 1) (tCons (tC (.ref CL)) tNil))) tNil))))
def tsR (K : PySem.W.Frag) (CR CL : Addr) : Addr → Value → Option Addr → TS := fun a cls d => tRet (tTup (tCons (tC (.str "refused")) (tCons (tCB (rRepr K) (tCons (tXf a cls d CR "at" (tVar 1)) tNil)) (tCons (tCB (rIsA K cls d a) (tCons (tVar 1) (tCons (tC (.ref CL)) tNil))) tNil))))
def heardN : List Str := ["_law_ask", "fault"]
theorem heard_gives {X : Cx} {q : Str} {g CT CR CL : Addr} {cdg : Value} {k : Nat} (hr : Room (k + 1) X.A) (hgu : X.A.guards = some []) (mT : X.mg "TooGreat" = some (.ref CT)) (mR : X.mg "Refused" = some (.ref CR)) (mL : X.mg "LogError" = some (.ref CL)) (mi : X.mg "isinstance" = none)
    (mr : X.mg "repr" = none) (EI : ErrIs X.K CT CR CL) : GivesTo X heardN "_law_heard" (defScope (top 45)) g cdg (defBody (top 45)) "_law_ask" q (TTHeard X.K CT CR) := by
  intro f c' s H Q tl act hc h
  have hr' : Room k (X.A.deeper (envOfC "_law_heard" (defScope (top 45)) s.heap.objs.size g cdg)) := hr.deeper _
  have hu : ∀ a : Addr, ((X.A.deeper (envOfC "_law_heard" (defScope (top 45)) s.heap.objs.size g cdg)).mark (some (.ref a))).units + 64 < cLine := fun a => by
    have := hr'.un
    show (X.A.deeper (envOfC "_law_heard" (defScope (top 45)) s.heap.objs.size g cdg)).units + 64 < cLine
    omega
  refine ⟨_, pss_one (ps_try_all (X := (cxOf C8.CX0 X.prog X.w X.K X.mg X.base heardN "_law_heard" (defScope (top 45)) g cdg X.A X.stack s H C8.E0).nox) (i := 1) (n := "fault")
      (l := [(.ref CT, tsT X.K CT CL), (.ref CR, tsR X.K CR CL)])
      (tb := fun W D σ H => ∃ Ech : XK, (∀ cls d σ' H', Ech cls d H' → σ'.length = 2 → W cls d σ' H') ∧ σ[0]? = some (some (.ref f)) ∧ H c' = some (CodeO c' q) ∧ tl Ech H (fun v H1 => 2 ≤ sizeLine ∧ ∀ t, H1 t = none → D.rt (.ref t) (upd H1 t (.tup [.str "told", v]))))
      rfl rfl (show heardN.Nodup by decide) rfl rfl (fun W pn xe tk _ => ?_)
      (.cons ⟨rfl, by decide, .inl mT⟩ (fun a oe cls d pn hz hf => pss_one (ps_ret (pe_tup (pa_cons pe_str (pa_cons (pe_xf EI.xT EI.nT hz hf (pv 1)) (pa_cons (pe_callB (call_isA hz hf) (by rfl) mi (by decide +kernel) (pa_cons (pv 1) (pa_cons (pe_glob (by rfl) mL (v := .ref CL) rfl (by decide)) pa_nil))) pa_nil))))))
        (.cons ⟨rfl, by decide, .inl mR⟩ (fun a oe cls d pn hz hf => pss_one (ps_ret (pe_tup (pa_cons pe_str (pa_cons (p_repr (X := ((cxOf C8.CX0 X.prog X.w X.K X.mg X.base heardN "_law_heard" (defScope (top 45)) g cdg X.A X.stack s H C8.E0).nox).suite a ((a, oe) :: pn)) hgu (hu a) mr (pa_cons (pe_xf EI.xR EI.nR hz hf (pv 1)) pa_nil)) (pa_cons (pe_callB (call_isA hz hf) (by rfl) mi (by decide +kernel) (pa_cons (pv 1) (pa_cons (pe_glob (by rfl) mL (v := .ref CL) rfl (by decide)) pa_nil))) pa_nil)))))) .nil))), ?_⟩
  · refine ⟨fun pins s' σ H' D I h' => ?_⟩
    obtain ⟨Ech, hW, h1, h2, h3⟩ := h'
    exact PSs.run (pss_one (ps_ret (pe_tup (pa_cons pe_str (pa_cons (act _ pn xe Ech _ _ (takes_len tk) fun cls d σ' H' e l => hW cls d σ' H' e l) pa_nil))))) pins s' σ H' D I ⟨h1, h2, h3⟩
  · refine ⟨EHeard X.K CT CR Q, fun cls d σ' H' he hl => ?_, rfl, hc, h⟩
    obtain ⟨dd, rfl, he⟩ := he
    obtain ⟨x0, x1, rfl⟩ : ∃ x0 x1, σ' = [x0, x1] := by
      match σ', hl with
      | [x0, x1], _ => exact ⟨x0, x1, rfl⟩
    rcases he with ⟨rfl, m, hm, k⟩ | ⟨rfl, x, dx, hm, hdx, e1, e2, e3, k⟩
    · refine ⟨true, EI.tt, fun _ a na => ?_, fun z => absurd z (by decide)⟩
      refine ⟨_, rfl, rfl, rfl, dd, _, _, rfl, hm, rfl, ?_⟩
      refine ⟨_, rfl, CT, dd, rfl, rfl, EI.eT, ⟨_, hm⟩, .ref CL, .ref CL, true, rfl, fun u e => e, EI.kT, ?_⟩
      exact ⟨by show 3 ≤ sizeLine; decide, fun t nt => k _ t (same_upd nt) upd_same⟩
    · refine ⟨false, EI.rt, fun z => absurd z (by decide), fun _ => ⟨true, EI.rr, fun _ a na => ?_, fun z => absurd z (by decide)⟩⟩
      refine ⟨_, rfl, rfl, rfl, dd, _, _, rfl, hm, rfl, _, _, rfl, hdx, e1, e2, by show _ ≤ sizeLine; exact Nat.le_of_lt (small5 (by omega)), ?_⟩
      refine ⟨_, rfl, CR, dd, rfl, rfl, EI.eR, ⟨_, hm⟩, .ref CL, .ref CL, true, rfl, fun u e => e, EI.kR, ?_⟩
      exact ⟨by show 3 ≤ sizeLine; decide, fun t nt => k _ t (same_upd nt) upd_same⟩
end Lg
set_option Elab.async false
set_option maxRecDepth 100000
set_option maxHeartbeats 2000000
namespace Lg
open PySem PySem.Spec PyProof.Rows L2 LamX
/-! ### what lasts through the law's steps: G, of which neither the box nor a table is part -/
structure Wd (T : List (Addr × Str)) (p : Addr) (G H : Hp) : Prop where
  w : Same G H
  gp : G p = none
  nt : ∀ b ps, G b ≠ some (.tbl ps)
  box : BoxAt p H
  tabs : Tabs T H
/-- what may be told of H for good -/
def strip (p : Addr) (H : Hp) : Hp := fun b => if b = p then none else match H b with
  | some (.tbl _) => none
  | o => o
theorem strip_at {p b : Addr} {H : Hp} {u : HO} (hb : b ≠ p) (h : H b = some u) (n : ∀ ps, u ≠ .tbl ps) : strip p H b = some u := by
  unfold strip
  rw [if_neg hb, h]
  cases u <;> first | rfl | exact absurd rfl (n _)
theorem strip_of {p b : Addr} {H : Hp} {u : HO} (h : strip p H b = some u) : b ≠ p ∧ H b = some u ∧ ∀ ps, u ≠ .tbl ps := by
  unfold strip at h
  by_cases c : b = p
  · rw [if_pos c] at h
    cases h
  · rw [if_neg c] at h
    refine ⟨c, ?_⟩
    cases e : H b with
    | none =>
      rw [e] at h
      cases h
    | some v =>
      rw [e] at h
      cases v <;> first | (cases h; exact ⟨rfl, fun ps z => by cases z⟩) | cases h
theorem tabS_sb {H H' : Hp} {p P : Addr} {q : Str} {xs : List V} (t : TabS H P q) (hp : H p = some (.lst xs)) (k : SB p H H') : TabS H' P q := by
  obtain ⟨ps, h1, h2, h3⟩ := t
  refine ⟨ps, k _ _ (fun z => by rw [z, hp] at h1; cases h1) h1, h2, fun pos cv hc => ?_⟩
  obtain ⟨c, e1, e2⟩ := h3 pos cv hc
  exact ⟨c, e1, k _ _ (fun z => by rw [z, hp] at e2; unfold CodeO at e2; cases e2) e2⟩
section
variable {T : List (Addr × Str)} {p : Addr} {G H H' : Hp}
theorem Wd.same (h : Wd T p G H) (s : Same H H') : Wd T p G H' := by
  refine ⟨h.w.trans s, h.gp, h.nt, ?_, h.tabs.ext s⟩
  obtain ⟨g, r, e, h2⟩ := h.box
  exact ⟨g, r, s _ _ e, h2⟩
theorem Wd.sb (h : Wd T p G H) (k : SB p H H') (B : BoxAt p H') : Wd T p G H' := by
  refine ⟨fun c u e => k c u (ne_of_none e h.gp) (h.w c u e), h.gp, h.nt, B, fun q hq => ?_⟩
  obtain ⟨g, r, e, _⟩ := h.box
  exact tabS_sb (h.tabs q hq) e k
theorem Wd.but (h : Wd T p G H) (b : But p H H') (B : BoxAt p H') : Wd T p G H' := h.sb (fun c u n e => (b c n).trans e) B
theorem Wd.ext (h : Wd T p G H) (x : ExtN H H') (t : Tabs T H') : Wd T p G H' := by
  refine ⟨fun c u e => x c u (h.w c u e) (fun ps z => h.nt c ps (z ▸ e)), h.gp, h.nt, ?_, t⟩
  obtain ⟨g, r, e, h2⟩ := h.box
  exact ⟨g, r, x _ _ e (fun ps z => by cases z), h2⟩
theorem Wd.up (h : Wd T p G H) {l : Addr} {o : HO} (n : H l = none) : Wd T p G (upd H l o) := h.same (same_upd n)
theorem Wd.new (h : Wd T p G H) {l : Addr} {o : HO} (n : H l = none) (no : ∀ ps, o ≠ .tbl ps) : Wd T p (upd G l o) (upd H l o) ∧ Same G (upd G l o) := by
  have np := h.box.ne n
  have gl : G l = none := h.w.free n
  refine ⟨⟨fun c u e => ?_, (upd_ne np).trans h.gp, fun b ps e => ?_, h.box.new n, h.tabs.ext (same_upd n)⟩, same_upd gl⟩
  · by_cases c1 : c = l
    · subst c1
      rw [upd_same] at e ⊢
      exact e
    · rw [upd_ne c1] at e ⊢
      exact h.w c u e
  · by_cases c1 : b = l
    · rw [c1, upd_same] at e
      exact no ps (Option.some.inj e)
    · rw [upd_ne c1] at e
      exact h.nt b ps e
/-- a list of our own, out of G, is changed -/
theorem Wd.own (h : Wd T p G H) {D : Addr} {xs ys : List V} (gd : G D = none) (hD : H D = some (.lst xs)) (ne : D ≠ p) : Wd T p G (upd H D (.lst ys)) := by
  refine ⟨fun c u e => (upd_ne (ne_of_none e gd)).trans (h.w c u e), h.gp, h.nt, ?_, fun q hq => tabS_sb (h.tabs q hq) hD fun c u n e => (upd_ne n).trans e⟩
  obtain ⟨g, r, e, h2⟩ := h.box
  exact ⟨g, r, (upd_ne ne.symm).trans e, h2⟩
theorem Wd.grow (h : Wd T p G H) : Wd T p (strip p H) H ∧ Same G (strip p H) :=
  ⟨⟨fun b u e => (strip_of e).2.1, if_pos rfl, fun b ps e => (strip_of e).2.2 ps rfl, h.box, h.tabs⟩, fun b u e => strip_at (ne_of_none e h.gp) (h.w b u e) (fun ps z => h.nt b ps (z ▸ e))⟩
theorem Wd.dp (h : Wd T p G H) : SameT H (strip p H) := fun b u e z => strip_at (fun q => by
    obtain ⟨g, r, e2, _⟩ := h.box
    rw [q, e2] at e
    rcases z with ⟨_, z⟩ | ⟨_, _, z⟩ <;> (rw [z] at e; cases e)) e (fun ps q => by rcases z with ⟨_, z⟩ | ⟨_, _, z⟩ <;> (rw [z] at q; cases q))
theorem Wd.ins (h : Wd T p G H) {b C dx : Addr} {fs : List (Str × V)} (e : H b = some (.ins C dx fs)) : strip p H b = some (.ins C dx fs) := strip_at (fun q => by
    obtain ⟨g, r, e2, _⟩ := h.box
    rw [q, e2] at e
    cases e) e (fun ps z => by cases z)
theorem Wd.marker (h : Wd T p G H) {K : PySem.W.Frag} {CH CM a : Addr} {ms : List Nat} {R : Rows} (m : MarkerAt K CH CM H a ms R) : MarkerAt K CH CM (strip p H) a ms R := by
  obtain ⟨dx, fs, hh, r, h1, h2, ⟨dy, gs, t, c1, c2, c3, c4⟩, h4, h5⟩ := m
  exact ⟨dx, fs, hh, r, h.ins h1, h2, ⟨dy, gs, t, h.ins c1, c2, h.dp _ _ c3 (.inl ⟨_, rfl⟩), c4⟩, h4, dp_tt h.dp (tt_rows R) h5⟩
end
/-! ### steps by what holds ahead and behind -/
def tPP (Pre Post : L2.St → Hp → Prop) : TS := fun D σ H => Pre σ H ∧ ∀ σ' H', Post σ' H' → D.nx σ' H'
section
variable {X : Cx} {Pre Post : L2.St → Hp → Prop}
theorem ps_pp {st : Stmt} {t : TS} (h : PS X st t) (q : ∀ D σ H, Pre σ H → (∀ σ' H', Post σ' H' → D.nx σ' H') → t D σ H) : PS X st (tPP Pre Post) := ⟨fun pins s σ H D I z => h.run pins s σ H D I (q D σ H z.1 z.2)⟩
end
/-! ### the law's frame -/
def lawN : List Str := ["_law_script", "_law_k", "_law_box_here", "_law_marks", "_law_rows", "_law_many", "_law_place", "_law_due_here", "_law_told", "_law_less", "_law_value", "_law_turn", "_law_right", "_law_bad", "_law_length", "_law_marker", "_law_most", "_law_one", "_law_deeds"]
theorem lawS : FnScope lawN ["_law_script"] (defScope (top 46)) := ⟨rfl, rfl, rfl, by decide +kernel, rfl, by decide +kernel, by decide +kernel⟩
abbrev LX (P : Program) (w : World) (K : PySem.W.Frag) (mg : Str → Option Value) (base : Heap) (f cL : Addr) (A : Around) (outer : List Env) (s : Shared) (H : Hp) (E : XK) : Cx := (cxOf CX0 P w K mg base lawN "law" (defScope (top 46)) f (.ref cL) A outer s H E).nox
def forBody : Stmt → List Stmt
  | .For (body := b) .. => b
  | _ => []
def step (i : Nat) : Stmt := (forBody ((defBody (top 46)).getD 0 (.Pass ⟨0, 0, 0, 0⟩))).getD i (.Pass ⟨0, 0, 0, 0⟩)
/-- σ after i names -/
abbrev LSt := L2.St
end Lg
set_option Elab.async false
set_option maxRecDepth 100000
set_option maxHeartbeats 2000000
namespace Lg
open PySem PySem.Spec PyProof.Rows L2 LamX
def menus : List (List Nat) := [[2, 2], [1, 3], [2, 1], [2, 3], [1, 1], [2, 2, 2], [1, 5], [3, 3]]
theorem menu_ok : ∀ ms, ms ∈ menus → 2 ≤ ms.length ∧ ms.length ≤ 3 ∧ (ms.all fun m => decide (1 ≤ m) && decide (m ≤ 5)) = true := by decide
theorem menu_marks {ms : List Nat} (h : ms ∈ menus) : MarksOk ms := by
  obtain ⟨h1, h2, h3⟩ := menu_ok ms h
  refine ⟨h1, h2, fun m hm => ?_⟩
  have z := List.all_eq_true.mp h3 m hm
  rw [Bool.and_eq_true, decide_eq_true_eq, decide_eq_true_eq] at z
  exact z
section
variable {P : Program} {w : World} {K : PySem.W.Frag} {mg : Str → Option Value} {base : Heap} {f cL : Addr} {A : Around} {outer : List Env} {s : Shared} {H : Hp} {E : XK} {T : List (Addr × Str)} {a : Addr} {ns : List Int}
/-- what is known at a turn's start -/
def S0 (K : PySem.W.Frag) (T : List (Addr × Str)) (a : Addr) (ns : List Int) : LSt → Hp → Prop := fun σ H => ∃ (G : Hp) (k : Nat) (u2 u3 u4 u5 u6 u7 u8 u9 u10 u11 u12 u13 u14 u15 u16 u17 u18 : Option V), σ = [some (.ref a), some (nV k), u2, u3, u4, u5, u6, u7, u8, u9, u10, u11, u12, u13, u14, u15, u16, u17, u18] ∧
  k ≤ 1 ∧ Same G H ∧ (∀ b ps, G b ≠ some (.tbl ps)) ∧ Tabs T H ∧ SqL K G a (ns.map V.int)
def S1 (K : PySem.W.Frag) (T : List (Addr × Str)) (a : Addr) (ns : List Int) : LSt → Hp → Prop := fun σ H => ∃ (G : Hp) (p : Addr) (u1 u3 u4 u5 u6 u7 u8 u9 u10 u11 u12 u13 u14 u15 u16 u17 u18 : Option V), σ = [some (.ref a), u1, some (.ref p), u3, u4, u5, u6, u7, u8, u9, u10, u11, u12, u13, u14, u15, u16, u17, u18] ∧
  Wd T p G H ∧ SqL K G a (ns.map V.int)
def S2 (K : PySem.W.Frag) (T : List (Addr × Str)) (a : Addr) (ns : List Int) : LSt → Hp → Prop := fun σ H => ∃ (G : Hp) (p am : Addr) (ms : List Nat) (u1 u4 u5 u6 u7 u8 u9 u10 u11 u12 u13 u14 u15 u16 u17 u18 : Option V), σ = [some (.ref a), u1, some (.ref p), some (.ref am), u4, u5, u6, u7, u8, u9, u10, u11, u12, u13, u14, u15, u16, u17, u18] ∧
  Wd T p G H ∧ SqL K G a (ns.map V.int) ∧ SqL K G am (marksV ms) ∧ ms ∈ menus
def S3 (K : PySem.W.Frag) (T : List (Addr × Str)) (a : Addr) (ns : List Int) : LSt → Hp → Prop := fun σ H => ∃ (G : Hp) (p am D : Addr) (ms : List Nat) (m : Nat) (u1 u6 u7 u8 u9 u10 u11 u12 u13 u14 u15 u16 u17 u18 : Option V), σ = [some (.ref a), u1, some (.ref p), some (.ref am), some (.ref D), some (nV m), u6, u7, u8, u9, u10, u11, u12, u13, u14, u15, u16, u17, u18] ∧
  Wd T p G H ∧ SqL K G a (ns.map V.int) ∧ SqL K G am (marksV ms) ∧ ms ∈ menus ∧ 1 ≤ m ∧ m ≤ 4 ∧ G D = none ∧ H D = some (.lst []) ∧ D ≠ p
def S4 (K : PySem.W.Frag) (T : List (Addr × Str)) (a : Addr) (ns : List Int) : LSt → Hp → Prop := fun σ H => ∃ (G : Hp) (p am : Addr) (rv : V) (ms : List Nat) (R : Rows) (u1 u5 u6 u7 u8 u9 u10 u11 u12 u13 u14 u15 u16 u17 u18 : Option V), σ = [some (.ref a), u1, some (.ref p), some (.ref am), some rv, u5, u6, u7, u8, u9, u10, u11, u12, u13, u14, u15, u16, u17, u18] ∧
  Wd T p G H ∧ SqL K G a (ns.map V.int) ∧ SqL K G am (marksV ms) ∧ ms ∈ menus ∧ Dp K G rv (rowsL R) ∧ RowsOk ms R
theorem st0 (hr : Room 8 (LX P w K mg base f cL A outer s H E).A) (DB : Fd P w K mg base "_law_box" 1 ["_law_script", "_law_k"] (spBox K)) : PS (LX P w K mg base f cL A outer s H E) (step 0) (tPP (S0 K T a ns) (S1 K T a ns)) := by
  refine ps_pp (ps_set (i := 2) lawS.nd rfl (.inr rfl) (pf DB (hr.mono (by decide)) (pa_cons (pv 0) (pa_cons (pv 1) pa_nil)))) ?_
  rintro D σ H1 ⟨G, k, u2, u3, u4, u5, u6, u7, u8, u9, u10, u11, u12, u13, u14, u15, u16, u17, u18, rfl, hk, sg, nt, tb, hs⟩ q
  refine ⟨_, rfl, _, rfl, a, ns, k, rfl, sg.seq hs, hk, fun H2 p s2 np B => ?_⟩
  exact q _ _ ⟨G, p, _, _, _, _, _, _, _, _, _, _, _, _, _, _, _, _, _, rfl, ⟨sg.trans s2, sg.free np, nt, B, tb.ext s2⟩, hs⟩
theorem st1 (hr : Room 8 (LX P w K mg base f cL A outer s H E).A) (DP : DPick P w K mg base) : PS (LX P w K mg base f cL A outer s H E) (step 1) (tPP (S1 K T a ns) (S2 K T a ns)) := by
  refine ps_pp (ps_set (i := 3) lawS.nd rfl (.inr rfl) (pf DP (hr.mono (by decide)) (pa_cons (pv 2) (pa_cons (pe_lst (pa_cons (pe_lst (pa_cons pe_int (pa_cons pe_int pa_nil))) (pa_cons (pe_lst (pa_cons pe_int (pa_cons pe_int pa_nil))) (pa_cons (pe_lst (pa_cons pe_int (pa_cons pe_int pa_nil)))
    (pa_cons (pe_lst (pa_cons pe_int (pa_cons pe_int pa_nil))) (pa_cons (pe_lst (pa_cons pe_int (pa_cons pe_int pa_nil))) (pa_cons (pe_lst (pa_cons pe_int (pa_cons pe_int (pa_cons pe_int pa_nil)))) (pa_cons (pe_lst (pa_cons pe_int (pa_cons pe_int pa_nil))) (pa_cons (pe_lst (pa_cons pe_int (pa_cons pe_int pa_nil))) pa_nil))))))))) pa_nil)))) ?_
  rintro D σ H1 ⟨G, p, u1, u3, u4, u5, u6, u7, u8, u9, u10, u11, u12, u13, u14, u15, u16, u17, u18, rfl, wd, hs⟩ q
  refine ⟨_, rfl, (by show 2 ≤ sizeLine; decide), fun l1 n1 => ⟨(by show 2 ≤ sizeLine; decide), fun l2 n2 => ⟨(by show 2 ≤ sizeLine; decide), fun l3 n3 => ⟨(by show 2 ≤ sizeLine; decide), fun l4 n4 => ⟨(by show 2 ≤ sizeLine; decide), fun l5 n5 => ⟨(by show 3 ≤ sizeLine; decide), fun l6 n6 => ⟨(by show 2 ≤ sizeLine; decide), fun l7 n7 => ⟨(by show 2 ≤ sizeLine; decide), fun l8 n8 => ⟨(by show 8 ≤ sizeLine; decide), fun l9 n9 => ?_⟩⟩⟩⟩⟩⟩⟩⟩⟩
  obtain ⟨w1, s1⟩ := wd.new (o := .lst (marksV [2, 2])) n1 (fun ps z => by cases z)
  have g1 := upd_same (H := G) (a := l1) (o := .lst (marksV [2, 2]))
  generalize upd G l1 _ = G1 at w1 s1 g1
  obtain ⟨w2, s2⟩ := w1.new (o := .lst (marksV [1, 3])) n2 (fun ps z => by cases z)
  have g2 := upd_same (H := G1) (a := l2) (o := .lst (marksV [1, 3]))
  generalize upd G1 l2 _ = G2 at w2 s2 g2
  obtain ⟨w3, s3⟩ := w2.new (o := .lst (marksV [2, 1])) n3 (fun ps z => by cases z)
  have g3 := upd_same (H := G2) (a := l3) (o := .lst (marksV [2, 1]))
  generalize upd G2 l3 _ = G3 at w3 s3 g3
  obtain ⟨w4, s4⟩ := w3.new (o := .lst (marksV [2, 3])) n4 (fun ps z => by cases z)
  have g4 := upd_same (H := G3) (a := l4) (o := .lst (marksV [2, 3]))
  generalize upd G3 l4 _ = G4 at w4 s4 g4
  obtain ⟨w5, s5⟩ := w4.new (o := .lst (marksV [1, 1])) n5 (fun ps z => by cases z)
  have g5 := upd_same (H := G4) (a := l5) (o := .lst (marksV [1, 1]))
  generalize upd G4 l5 _ = G5 at w5 s5 g5
  obtain ⟨w6, s6⟩ := w5.new (o := .lst (marksV [2, 2, 2])) n6 (fun ps z => by cases z)
  have g6 := upd_same (H := G5) (a := l6) (o := .lst (marksV [2, 2, 2]))
  generalize upd G5 l6 _ = G6 at w6 s6 g6
  obtain ⟨w7, s7⟩ := w6.new (o := .lst (marksV [1, 5])) n7 (fun ps z => by cases z)
  have g7 := upd_same (H := G6) (a := l7) (o := .lst (marksV [1, 5]))
  generalize upd G6 l7 _ = G7 at w7 s7 g7
  obtain ⟨w8, s8⟩ := w7.new (o := .lst (marksV [3, 3])) n8 (fun ps z => by cases z)
  have g8 := upd_same (H := G7) (a := l8) (o := .lst (marksV [3, 3]))
  generalize upd G7 l8 _ = G8 at w8 s8 g8
  have nb := w8.box.ne n9
  refine ⟨p, l9, _, rfl, w8.box.new n9, .inl (.inl upd_same), nb.symm, by simp, by simp, fun H3 x hx but3 B3 => ?_⟩
  have w9 := (w8.up n9 (o := .lst [.ref l1, .ref l2, .ref l3, .ref l4, .ref l5, .ref l6, .ref l7, .ref l8])).but but3 B3
  have sG : Same G G8 := s1.trans (s2.trans (s3.trans (s4.trans (s5.trans (s6.trans (s7.trans s8))))))
  have fin : ∀ (l : Addr) (ms : List Nat), ms ∈ menus → G8 l = some (.lst (marksV ms)) → x = .ref l → tNext D ([some (.ref a), u1, some (.ref p), some x, u4, u5, u6, u7, u8, u9, u10, u11, u12, u13, u14, u15, u16, u17, u18]) H3 := by
    rintro l ms hm hl rfl
    exact q _ _ ⟨G8, p, l, ms, _, _, _, _, _, _, _, _, _, _, _, _, _, _, _, _, rfl, w9, sG.seq hs, .inl (.inl hl), hm⟩
  have hx' : x = .ref l1 ∨ x = .ref l2 ∨ x = .ref l3 ∨ x = .ref l4 ∨ x = .ref l5 ∨ x = .ref l6 ∨ x = .ref l7 ∨ x = .ref l8 := by simpa using hx
  rcases hx' with h | h | h | h | h | h | h | h
  · exact fin _ _ (by decide) ((s2.trans (s3.trans (s4.trans (s5.trans (s6.trans (s7.trans s8)))))) _ _ g1) h
  · exact fin _ _ (by decide) ((s3.trans (s4.trans (s5.trans (s6.trans (s7.trans s8))))) _ _ g2) h
  · exact fin _ _ (by decide) ((s4.trans (s5.trans (s6.trans (s7.trans s8)))) _ _ g3) h
  · exact fin _ _ (by decide) ((s5.trans (s6.trans (s7.trans s8))) _ _ g4) h
  · exact fin _ _ (by decide) ((s6.trans (s7.trans s8)) _ _ g5) h
  · exact fin _ _ (by decide) ((s7.trans s8) _ _ g6) h
  · exact fin _ _ (by decide) (s8 _ _ g7) h
  · exact fin _ _ (by decide) g8 h
theorem st2 (hr : Room 8 (LX P w K mg base f cL A outer s H E).A) (DT : DTake P w K mg base) : PS (LX P w K mg base f cL A outer s H E) (step 2) (tPP (S2 K T a ns) (S3 K T a ns)) := by
  refine ps_pp (ps_asg (pe_tup (pa_cons (pe_lst pa_nil) (pa_cons (pe_op op_add pe_int (pf DT (hr.mono (by decide)) (pa_cons (pv 2) (pa_cons pe_int pa_nil)))) pa_nil))) (pg_tup rfl (pgs_cons (pg_name (i := 4) lawS.nd rfl (.inl rfl)) (pgs_cons (pg_name (i := 5) lawS.nd rfl (.inr rfl)) pgs_nil)))) ?_
  rintro D σ H1 ⟨G, p, am, ms, u1, u4, u5, u6, u7, u8, u9, u10, u11, u12, u13, u14, u15, u16, u17, u18, rfl, wd, hs, hm, hmm⟩ q
  refine ⟨(by show 0 ≤ sizeLine; exact Nat.zero_le _), fun D1 n1 => ?_⟩
  have w1 := wd.up (o := .lst []) n1
  have nD := wd.box.ne n1
  have gD := wd.w.free n1
  refine ⟨_, rfl, p, 4, rfl, w1.box, by decide, by decide, fun H2 d d0 d1 but2 B2 => ?_⟩
  obtain ⟨i, rfl⟩ := Int.eq_ofNat_of_zero_le d0
  have w2 := w1.but but2 B2
  have hD2 : H2 D1 = some (.lst []) := (but2 D1 nD.symm).trans upd_same
  refine ⟨_, _, rfl, rfl, (by show 2 ≤ sizeLine; decide), fun t nt => ?_⟩
  refine ⟨t, _, rfl, .inl (.inl upd_same), rfl, _, _, rfl, _, _, rfl, rfl, ?_⟩
  have e1 : (1 : Int) + (i : Int) = ((i + 1 : Nat) : Int) := by omega
  exact q _ _ ⟨G, p, am, D1, ms, i + 1, u1, u6, u7, u8, u9, u10, u11, u12, u13, u14, u15, u16, u17, u18, congrArg (fun z => [some (V.ref a), u1, some (V.ref p), some (V.ref am), some (V.ref D1), some (V.int z), u6, u7, u8, u9, u10, u11, u12, u13, u14, u15, u16, u17, u18]) e1, w2.up nt, hs, hm, hmm, by omega, by omega, gD, (upd_ne (ne_of_none hD2 nt)).trans hD2, nD.symm⟩
end
end Lg
set_option Elab.async false
set_option maxRecDepth 100000
set_option maxHeartbeats 2000000
namespace Lg
open PySem PySem.Spec PyProof.Rows L2 LamX
theorem Wd.put {T : List (Addr × Str)} {p : Addr} {G H : Hp} (h : Wd T p G H) {D : Addr} {o : HO} (gd : G D = none) (hD : H D = some o) (ne : D ≠ p) (no : ∀ ps, o ≠ .tbl ps) : Wd T p (upd G D o) H ∧ Same G (upd G D o) := by
  refine ⟨⟨fun c u e => ?_, (upd_ne ne.symm).trans h.gp, fun b ps e => ?_, h.box, h.tabs⟩, same_upd gd⟩
  · by_cases c1 : c = D
    · subst c1
      rw [upd_same] at e
      rw [hD]
      exact e
    · rw [upd_ne c1] at e
      exact h.w c u e
  · by_cases c1 : b = D
    · rw [c1, upd_same] at e
      exact no ps (Option.some.inj e)
    · rw [upd_ne c1] at e
      exact h.nt b ps e
theorem snoc_at {α : Type} {l : List α} {x y : α} {i : Nat} (h : (l ++ [x])[i]? = some y) : l[i]? = some y ∨ (i = l.length ∧ y = x) := by
  by_cases c : i < l.length
  · rw [List.getElem?_append_left c] at h
    exact .inl h
  · rw [List.getElem?_append_right (by omega)] at h
    have z : i - l.length = 0 := by
      have := (List.getElem?_eq_some_iff.mp h).1
      simp at this
      omega
    rw [z] at h
    exact .inr ⟨by omega, (Option.some.inj h).symm⟩
section
variable {P : Program} {w : World} {K : PySem.W.Frag} {mg : Str → Option Value} {base : Heap} {f cL : Addr} {A : Around} {outer : List Env} {s : Shared} {H : Hp} {E : XK} {T : List (Addr × Str)} {a : Addr} {ns : List Int}
theorem st3 (hr : Room 8 (LX P w K mg base f cL A outer s H E).A) (tx : Txt K mg) (DT : DTake P w K mg base) : PS (LX P w K mg base f cL A outer s H E) (step 3) (tPP (S3 K T a ns) (S4 K T a ns)) := by
  refine ps_pp (ps_for PassesOwn.never rfl (pi_range1 (by rfl) tx.range (pa_cons (pv 5) pa_nil)) (pg_name (i := 6) lawS.nd rfl (.inl rfl)) (pss_one (ps_expr (pe_bm PySem.F.plainAttrs_list PySem.F.slot_list_append PySem.F.type_list_append mt_append (pv 4) (pa_cons
    (pe_lc (own := [("_law_one", 17)]) (g := gName 17) (tt := tYes) (te := tTup (tCons (tCall (spTake K) [] E0 (tCons (tVar 2) (tCons (tVar 17) tNil))) (tCons (tCall (spTake K) [] E0 (tCons (tVar 2) (tCons (tVar 5) tNil))) tNil))) rfl lawS.nd (pi_list (pv 3)) (blkOk_by (N := lawN) (sc := defScope (top 46)) (by decide +kernel))
      (fun _ _ _ _ _ => by exact pg_name (i := 17) lawS.nd rfl (.inl rfl)) (fun _ _ _ _ _ => pts_nil) (fun _ _ _ _ _ => by exact pe_tup (pa_cons (pf DT (hr.mono (by decide)) (pa_cons (pv 2) (pa_cons (pv 17) pa_nil))) (pa_cons (pf DT (hr.mono (by decide)) (pa_cons (pv 2) (pa_cons (pv 5) pa_nil))) pa_nil)))) pa_nil))))) ?_
  rintro Dn σ H1 ⟨G, p, am, D, ms, m, u1, u6, u7, u8, u9, u10, u11, u12, u13, u14, u15, u16, u17, u18, rfl, wd, hs, hm, hmm, m1, m4, gD, hD, nD⟩ q
  have mok := menu_marks hmm
  have lm : (marksV ms).length = ms.length := List.length_map ..
  refine ⟨_, rfl, _, rfl, by omega, by omega, ?_⟩
  rw [show ((m : Nat) : Int).toNat = m from rfl]
  refine for_range (n := m) (fun i σ' H' => ∃ G' rs R' v6 v17, σ' = [some (.ref a), u1, some (.ref p), some (.ref am), some (.ref D), some (nV m), v6, u7, u8, u9, u10, u11, u12, u13, u14, u15, u16, v17, u18] ∧
      Wd T p G' H' ∧ Same G G' ∧ G' D = none ∧ H' D = some (.lst rs) ∧ DpAll K G' rs ((R' : Rows).map rowL) ∧ R'.length = i ∧ ∀ r, r ∈ R' → r.length = ms.length ∧ ∀ (i : Nat) (pm : Nat × Nat) (m' : Nat), r[i]? = some pm → ms[i]? = some m' → pm.1 < m' ∧ pm.2 < m) ?_ ?_ ?_
  · exact ⟨G, [], [], u6, u17, rfl, wd, Same.refl _, gD, hD, .nil, rfl, fun r h => absurd h (by simp)⟩
  · rintro i σ' H2 hi ⟨G', rs, R', v6, v17, rfl, wd2, sG, gD2, hD2, hrs, lR, okR⟩
    refine ⟨_, rfl, .inl ⟨rfl, _, .inl (.inl hD2)⟩, ?_⟩
    refine ⟨_, rfl, am, rfl, ⟨_, wd2.w.seq (sG.seq hm)⟩, fun D2 hn2 => ?_⟩
    have nD2p := wd2.box.ne hn2
    have nDD2 : D ≠ D2 := ne_of_none hD2 hn2
    have gD2' : G' D2 = none := wd2.w.free hn2
    refine lc_list (K := K) (a := am) (xs := marksV ms) (fun j H' => ∃ G2 acc mv, Wd T p G2 H' ∧ Same G' G2 ∧ G2 D = none ∧ G2 D2 = none ∧ H' D = some (.lst rs) ∧ H' D2 = some (.lst acc) ∧ DpAll K G2 acc ((mv : List (Nat × Nat)).map moveD) ∧ mv.length = j ∧
        ∀ (i : Nat) (pm : Nat × Nat) (m' : Nat), mv[i]? = some pm → ms[i]? = some m' → pm.1 < m' ∧ pm.2 < m)
      ⟨G', [], [], wd2.up hn2, Same.refl _, gD2, gD2', (upd_ne nDD2).trans hD2, upd_same, .nil, rfl, fun i pm m' h => absurd h (by simp)⟩ (fun j H' _ h => ?_) ?_ ?_
    · obtain ⟨G2, _, _, w3, s3, _⟩ := h
      exact w3.w.seq (s3.seq (sG.seq hm))
    · rintro j y H3 hj ⟨G2, acc, mv, w3, s3, g1, g2, h1, h2, hacc, lmv, okm⟩
      obtain ⟨mk, hmk, rfl⟩ := map_at hj
      have hmb := mok.2.2 mk (List.mem_of_getElem? hmk)
      refine ⟨rfl, yes ?_⟩
      refine ⟨_, rfl, _, rfl, p, _, rfl, w3.box, by omega, by omega, fun H4 d d0 d1 but4 B4 => ⟨_, rfl, _, rfl, p, _, rfl, B4, by omega, by omega, fun H5 d' e0 e1 but5 B5 => ⟨(by show 2 ≤ sizeLine; decide), fun t nt => ?_⟩⟩⟩
      have w5 := (w3.but but4 B4).but but5 B5
      have k1 : H5 D = some (.lst rs) := (but5 D nD).trans ((but4 D nD).trans h1)
      have k2 : H5 D2 = some (.lst acc) := (but5 D2 nD2p.symm).trans ((but4 D2 nD2p.symm).trans h2)
      obtain ⟨x, rfl⟩ := Int.eq_ofNat_of_zero_le d0
      obtain ⟨z, rfl⟩ := Int.eq_ofNat_of_zero_le e0
      obtain ⟨w6, s6⟩ := w5.new (o := .tup [nV x, nV z]) nt (fun ps q => by cases q)
      have n1 : D ≠ t := ne_of_none k1 nt
      have n2 : D2 ≠ t := ne_of_none k2 nt
      have hj3 : j < (marksV ms).length := (List.getElem?_eq_some_iff.mp hj).1
      have m3 := mok.2.1
      refine ⟨acc, (upd_ne n2).trans k2, ?_, upd G2 t (.tup [nV x, nV z]), acc ++ [.ref t], mv ++ [(x, z)], ?_, s3.trans s6, (upd_ne n1).trans g1, (upd_ne n2).trans g2, ?_, upd_same, ?_, ?_, ?_⟩
      · rw [dpAll_mapLen hacc]
        exact small5 (by omega)
      · exact w6.own ((upd_ne n2).trans g2) ((upd_ne n2).trans k2) nD2p.symm
      · rw [upd_ne nDD2, upd_ne n1]
        exact k1
      · rw [List.map_append]
        exact dpAll_snoc (dpAll_same s6 hacc) (.tup (.inl (.inl upd_same)) (.cons (.int _) (.cons (.int _) .nil)))
      · rw [List.length_append, lmv]
        rfl
      · intro i pm m' hp hm'
        rcases snoc_at hp with h | ⟨rfl, rfl⟩
        · exact okm i pm m' h hm'
        · rw [lmv, hmk] at hm'
          cases hm'
          exact ⟨by show x < mk; omega, by show z < m; omega⟩
    · rintro H3 ⟨G2, acc, mv, w3, s3, g1, g2, h1, h2, hacc, lmv, okm⟩
      obtain ⟨w4, s4⟩ := w3.put g2 h2 nD2p.symm (fun ps q => by cases q)
      refine ⟨D, rs, _, rfl, rfl, h1, ?_, ?_⟩
      · rw [dpAll_mapLen hrs, lR]
        exact small5 (by omega)
      · have gD4 : upd G2 D2 (.lst acc) D = none := (upd_ne nDD2).trans g1
        refine ⟨upd G2 D2 (.lst acc), rs ++ [.ref D2], R' ++ [mv], _, _, rfl, w4.own gD4 h1 nD, sG.trans (s3.trans s4), gD4, upd_same, ?_, ?_, ?_⟩
        · rw [List.map_append]
          exact dpAll_snoc (dpAll_same (s3.trans s4) hrs) (.lst (.inl (.inl upd_same)) (dpAll_same s4 hacc))
        · rw [List.length_append, lR]
          rfl
        · intro r hr
          rcases List.mem_append.mp hr with h | h
          · exact okR r h
          · rw [List.mem_singleton.mp h]
            exact ⟨lmv.trans lm, okm⟩
  · rintro σ' H2 ⟨G', rs, R', v6, v17, rfl, wd2, sG, gD2, hD2, hrs, lR, okR⟩
    obtain ⟨w3, s3⟩ := wd2.put gD2 hD2 nD (fun ps q => by cases q)
    exact q _ _ ⟨_, p, am, .ref D, ms, R', _, _, _, _, _, _, _, _, _, _, _, _, _, _, _, rfl, w3, (sG.trans s3).seq hs, (sG.trans s3).seq hm, hmm, .lst (.inl (.inl upd_same)) (dpAll_same s3 hrs), ⟨by omega, by omega, fun r hr => by rw [lR]; exact okR r hr⟩⟩
end
end Lg
set_option Elab.async false
set_option maxRecDepth 100000
set_option maxHeartbeats 2000000
namespace Lg
open PySem PySem.Spec PyProof.Rows L2 LamX
section
variable {X : Cx} {e : Expr} {es : List Expr} {t : TA} {p pos : Pos}
theorem p_min1 (hc : X.calm = true) (hm : X.mg "min" = none) (ha : PA X (e :: es) t) (hg : Gl X "min" := by rfl) (he : starEach (e :: es) X.env = (false, eval e X.env) :: starEach es X.env := by rfl) (hpl : (backTo pos (starEach es X.env)).any (·.1) = false := by rfl) :
    PE X (.Call (.Name "min" p) (e :: es) [] pos) (tCB (rMin X.K) t) := pe_callB (cr_min hc) hg hm (by decide +kernel) ha (by decide) (by decide) he hpl
theorem p_sum1 (hc : X.calm = true) (hm : X.mg "sum" = none) (ha : PA X (e :: es) t) (hg : Gl X "sum" := by rfl) (he : starEach (e :: es) X.env = (false, eval e X.env) :: starEach es X.env := by rfl) (hpl : (backTo pos (starEach es X.env)).any (·.1) = false := by rfl) :
    PE X (.Call (.Name "sum" p) (e :: es) [] pos) (tCB (rSum X.K) t) := pe_callB (cr_sum hc) hg hm (by decide +kernel) ha (by decide) (by decide) he hpl
end
def square : Rows := [[(0, 0), (0, 1)], [(1, 0), (1, 1)]]
theorem square_ok {ms : List Nat} (h : ms.length = 2) (h1 : ∀ m, m ∈ ms → 1 < m) : RowsOk ms square := by
  refine ⟨by decide, by decide, fun r hr => ?_⟩
  have hr' : r = [(0, 0), (0, 1)] ∨ r = [(1, 0), (1, 1)] := by simpa [square] using hr
  rcases hr' with rfl | rfl
  · refine ⟨h.symm, fun i pm m hp hm => ?_⟩
    have z := h1 m (List.mem_of_getElem? hm)
    have y : pm = (0, 0) ∨ pm = (0, 1) := by simpa using List.mem_of_getElem? hp
    rcases y with rfl | rfl
    · exact ⟨by show 0 < m; omega, by decide⟩
    · exact ⟨by show 0 < m; omega, by decide⟩
  · refine ⟨h.symm, fun i pm m hp hm => ?_⟩
    have z := h1 m (List.mem_of_getElem? hm)
    have y : pm = (1, 0) ∨ pm = (1, 1) := by simpa using List.mem_of_getElem? hp
    rcases y with rfl | rfl
    · exact ⟨by show 1 < m; omega, by decide⟩
    · exact ⟨by show 1 < m; omega, by decide⟩
section
variable {P : Program} {w : World} {K : PySem.W.Frag} {mg : Str → Option Value} {base : Heap} {f cL CH CM : Addr} {A : Around} {outer : List Env} {s : Shared} {H : Hp} {E : XK} {T : List (Addr × Str)} {a : Addr} {ns : List Int}
theorem marks_int (ms : List Nat) : marksV ms = (ms.map fun n : Nat => (n : Int)).map V.int := by
  unfold marksV
  rw [List.map_map]
  rfl
theorem st4 (hr : Room 8 (LX P w K mg base f cL A outer s H E).A) (tx : Txt K mg) (DT : DTake P w K mg base) : PS (LX P w K mg base f cL A outer s H E) (step 4) (tPP (S4 K T a ns) (S4 K T a ns)) := by
  refine ps_pp (ps_if (pw_and (pt_cmpR op_eq (p_len tx.len (pa_cons (pv 3) pa_nil)) pe_int (nomark _)) (pw_and (pt_cmpR op_gt (p_min1 rfl tx.min (pa_cons (pv 3) pa_nil)) pe_int (nomark _)) (pw_and1 (pt_cmpR op_eq (pf DT (hr.mono (by decide)) (pa_cons (pv 2) (pa_cons pe_int pa_nil))) pe_int (nomark _))))).pt
    (pss_one (ps_set (i := 4) lawS.nd rfl (.inl rfl) (pe_lst (pa_cons (pe_lst (pa_cons (pe_tup (pa_cons pe_int (pa_cons pe_int pa_nil))) (pa_cons (pe_tup (pa_cons pe_int (pa_cons pe_int pa_nil))) pa_nil))) (pa_cons (pe_lst (pa_cons (pe_tup (pa_cons pe_int (pa_cons pe_int pa_nil))) (pa_cons (pe_tup (pa_cons pe_int (pa_cons pe_int pa_nil))) pa_nil))) pa_nil))))) pss_nil) ?_
  rintro Dn σ H1 ⟨G, p, am, rv, ms, R, u1, u5, u6, u7, u8, u9, u10, u11, u12, u13, u14, u15, u16, u17, u18, rfl, wd, hs, hm, hmm, hR, rok⟩ q
  have lm : (marksV ms).length = ms.length := List.length_map ..
  have mok := menu_marks hmm
  refine ⟨_, rfl, am, _, rfl, .inl (wd.w.seq hm), rfl, _, rfl, ?_⟩
  have same : ∀ H2, Wd T p G H2 → Dn.nx [some (.ref a), u1, some (.ref p), some (.ref am), some rv, u5, u6, u7, u8, u9, u10, u11, u12, u13, u14, u15, u16, u17, u18] H2 := fun H2 w2 =>
    q _ _ ⟨G, p, am, rv, ms, R, _, _, _, _, _, _, _, _, _, _, _, _, _, _, _, rfl, w2, hs, hm, hmm, hR, rok⟩
  by_cases c2 : ms.length = 2
  · refine iteD (by rw [lm, c2]; rfl) ?_
    refine ⟨_, rfl, am, ms.map fun n : Nat => (n : Int), rfl, marks_int ms ▸ wd.w.seq hm, by rw [List.length_map]; omega, fun mn hmn hle => ⟨_, _, rfl, rfl, _, rfl, ?_⟩⟩
    by_cases c1 : (1 : Int) < mn
    · refine iteD c1 ?_
      have h1 : ∀ m, m ∈ ms → 1 < m := fun m hmem => by
        have := hle m (List.mem_map.mpr ⟨m, hmem, rfl⟩)
        omega
      refine ⟨_, rfl, p, 3, rfl, wd.box, by decide, by decide, fun H2 d d0 d1 but2 B2 => ⟨rfl, _, rfl, ?_⟩⟩
      have w2 := wd.but but2 B2
      by_cases c0 : d = 0
      · refine iteD (by rw [c0]) ?_
        refine ⟨(by show 2 ≤ sizeLine; decide), fun t1 n1 => ⟨(by show 2 ≤ sizeLine; decide), fun t2 n2 => ⟨(by show 2 ≤ sizeLine; decide), fun l1 n3 => ⟨(by show 2 ≤ sizeLine; decide), fun t3 n4 => ⟨(by show 2 ≤ sizeLine; decide), fun t4 n5 => ⟨(by show 2 ≤ sizeLine; decide), fun l2 n6 => ⟨(by show 2 ≤ sizeLine; decide), fun l3 n7 => ?_⟩⟩⟩⟩⟩⟩⟩
        obtain ⟨w3, s3⟩ := w2.new (o := .tup [nV 0, nV 0]) n1 (fun ps z => by cases z)
        have g3 := upd_same (H := G) (a := t1) (o := .tup [nV 0, nV 0])
        generalize upd G t1 _ = G3 at w3 s3 g3
        obtain ⟨w4, s4⟩ := w3.new (o := .tup [nV 0, nV 1]) n2 (fun ps z => by cases z)
        have g4 := upd_same (H := G3) (a := t2) (o := .tup [nV 0, nV 1])
        generalize upd G3 t2 _ = G4 at w4 s4 g4
        obtain ⟨w5, s5⟩ := w4.new (o := .lst [.ref t1, .ref t2]) n3 (fun ps z => by cases z)
        have g5 := upd_same (H := G4) (a := l1) (o := .lst [.ref t1, .ref t2])
        generalize upd G4 l1 _ = G5 at w5 s5 g5
        obtain ⟨w6, s6⟩ := w5.new (o := .tup [nV 1, nV 0]) n4 (fun ps z => by cases z)
        have g6 := upd_same (H := G5) (a := t3) (o := .tup [nV 1, nV 0])
        generalize upd G5 t3 _ = G6 at w6 s6 g6
        obtain ⟨w7, s7⟩ := w6.new (o := .tup [nV 1, nV 1]) n5 (fun ps z => by cases z)
        have g7 := upd_same (H := G6) (a := t4) (o := .tup [nV 1, nV 1])
        generalize upd G6 t4 _ = G7 at w7 s7 g7
        obtain ⟨w8, s8⟩ := w7.new (o := .lst [.ref t3, .ref t4]) n6 (fun ps z => by cases z)
        have g8 := upd_same (H := G7) (a := l2) (o := .lst [.ref t3, .ref t4])
        generalize upd G7 l2 _ = G8 at w8 s8 g8
        obtain ⟨w9, s9⟩ := w8.new (o := .lst [.ref l1, .ref l2]) n7 (fun ps z => by cases z)
        have g9 := upd_same (H := G8) (a := l3) (o := .lst [.ref l1, .ref l2])
        generalize upd G8 l3 _ = G9 at w9 s9 g9
        have sG : Same G G9 := s3.trans (s4.trans (s5.trans (s6.trans (s7.trans (s8.trans s9)))))
        have mv : ∀ {t : Addr} {x z : Nat}, G9 t = some (.tup [nV x, nV z]) → Dp K G9 (.ref t) (moveD (x, z)) := fun h => .tup (.inl (.inl h)) (.cons (.int _) (.cons (.int _) .nil))
        have d1 := mv (x := 0) (z := 0) ((s4.trans (s5.trans (s6.trans (s7.trans (s8.trans s9))))) _ _ g3)
        have d2 := mv (x := 0) (z := 1) ((s5.trans (s6.trans (s7.trans (s8.trans s9)))) _ _ g4)
        have d3 := mv (x := 1) (z := 0) ((s7.trans (s8.trans s9)) _ _ g6)
        have d4 := mv (x := 1) (z := 1) ((s8.trans s9) _ _ g7)
        have r1 : Dp K G9 (.ref l1) (rowL [(0, 0), (0, 1)]) := .lst (.inl (.inl ((s6.trans (s7.trans (s8.trans s9))) _ _ g5))) (.cons d1 (.cons d2 .nil))
        have r2 : Dp K G9 (.ref l2) (rowL [(1, 0), (1, 1)]) := .lst (.inl (.inl (s9 _ _ g8))) (.cons d3 (.cons d4 .nil))
        exact q _ _ ⟨G9, p, am, .ref l3, ms, square, _, _, _, _, _, _, _, _, _, _, _, _, _, _, _, rfl, w9, sG.seq hs, sG.seq hm, hmm, .lst (.inl (.inl g9)) (.cons r1 (.cons r2 .nil)), square_ok c2 h1⟩
      · exact iteN (fun z => c0 (V.int.inj z)) (same H2 w2)
    · exact iteN c1 (iteF (same H1 wd))
  · refine iteN (fun z => c2 (by have := V.int.inj z; rw [lm] at this; omega)) (iteF (same H1 wd))
/-- .. with the marker and the length -/
def S6 (K : PySem.W.Frag) (CH CM : Addr) (T : List (Addr × Str)) (a : Addr) (ns : List Int) : LSt → Hp → Prop := fun σ H => ∃ (G : Hp) (p am mk : Addr) (rv : V) (ms : List Nat) (R : Rows) (n : Nat) (u1 u5 u6 u7 u8 u9 u10 u11 u12 u13 u16 u17 u18 : Option V), σ = [some (.ref a), u1, some (.ref p), some (.ref am), some rv, u5, u6, u7, u8, u9, u10, u11, u12, u13, some (nV n), some (.ref mk), u16, u17, u18] ∧
  Wd T p G H ∧ SqL K G a (ns.map V.int) ∧ SqL K G am (marksV ms) ∧ ms ∈ menus ∧ Dp K G rv (rowsL R) ∧ RowsOk ms R ∧ MarkerAt K CH CM G mk ms R ∧ n ≤ 6
theorem st5 (hr : Room 8 (LX P w K mg base f cL A outer s H E).A) (tx : Txt K mg) (DT : DTake P w K mg base) (DH : MkAt P w K mg base "Hands" CH 4 ["self", "marks"] (spHandsI K CH)) (DM : MkAt P w K mg base "Marker" CM 6 ["self", "hands", "rows"] (spMarkerI K CH CM)) :
    PS (LX P w K mg base f cL A outer s H E) (step 5) (tPP (S4 K T a ns) (S6 K CH CM T a ns)) := by
  refine ps_pp (ps_asg (pe_tup (pa_cons (pmake DM (hr.mono (by decide)) (pa_cons (pmake DH (hr.mono (by decide)) (pa_cons (pv 3) pa_nil)) (pa_cons (pv 4) pa_nil))) (pa_cons (pe_op op_add (pe_ifExp (pt_cmpR op_gt (p_len tx.len (pa_cons (pv 3) pa_nil)) pe_int (nomark _)) pe_int pe_int) (pf DT (hr.mono (by decide)) (pa_cons (pv 2) (pa_cons pe_int pa_nil)))) pa_nil)))
    (pg_tup rfl (pgs_cons (pg_name (i := 15) lawS.nd rfl (.inr rfl)) (pgs_cons (pg_name (i := 14) lawS.nd rfl (.inr rfl)) pgs_nil)))) ?_
  rintro Dn σ H1 ⟨G, p, am, rv, ms, R, u1, u5, u6, u7, u8, u9, u10, u11, u12, u13, u14, u15, u16, u17, u18, rfl, wd, hs, hm, hmm, hR, rok⟩ q
  have lm : (marksV ms).length = ms.length := List.length_map ..
  have mok := menu_marks hmm
  have fresh : ∀ {H0 H' : Hp} {x dx C : Addr}, H0 x = none → H0 dx = none → dx ≠ x → (∀ b o, b ≠ x → upd (upd H0 dx (.own x)) x (.ins C dx []) b = some o → H' b = some o) → Same H0 H' := fun n1 n2 n3 k b u e => k b u (ne_of_none e n1) (by rw [upd_ne (ne_of_none e n1), upd_ne (ne_of_none e n2)]; exact e)
  refine ⟨_, rfl, fun x dx nx ndx nxx => ?_⟩
  have sA : Same H1 (upd (upd H1 dx (.own x)) x (.ins CH dx [])) := same_up (same_upd ndx) ((upd_ne nxx.symm).trans nx)
  refine ⟨x, am, dx, ms, rfl, upd_same, (wd.w.trans sA).seq hm, mok, fun H2 k2 hA => ⟨rfl, _, rfl, fun y dy ny ndy nyy => ?_⟩⟩
  have s2 : Same H1 H2 := fresh nx ndx nxx k2
  have sB : Same H2 (upd (upd H2 dy (.own y)) y (.ins CM dy [])) := same_up (same_upd ndy) ((upd_ne nyy.symm).trans ny)
  refine ⟨y, x, dy, rv, ms, R, rfl, upd_same, hA.same sB, dp_same (wd.w.trans (s2.trans sB)) hR, mok, rok, fun H3 k3 hM => ⟨rfl, ?_⟩⟩
  have s3 : Same H2 H3 := fresh ny ndy nyy k3
  have w3 := wd.same (s2.trans s3)
  obtain ⟨w3', sG⟩ := w3.grow
  have hMG := w3.marker hM
  refine ⟨_, rfl, am, _, rfl, .inl (w3.w.seq hm), _, _, rfl, rfl, _, rfl, ?_⟩
  have fin : ∀ (b : Int), 3 ≤ b → b ≤ 4 → tCall (spTake K) [] E0 (tCons (tVar 2) (tCons (tC (.int 3)) tNil)) [some (.ref a), u1, some (.ref p), some (.ref am), some rv, u5, u6, u7, u8, u9, u10, u11, u12, u13, u14, u15, u16, u17, u18] H3 fun v H4 => rI0 (fun i j => .int (i + j)) (.int b) v H4 fun z H5 =>
      2 ≤ sizeLine ∧ ∀ t, H5 t = none → gTup K 2 (gCons (gName 15) (gCons (gName 14) gNil)) (.ref t) [some (.ref a), u1, some (.ref p), some (.ref am), some rv, u5, u6, u7, u8, u9, u10, u11, u12, u13, u14, u15, u16, u17, u18] (upd H5 t (.tup [.ref y, z])) Dn.nx := by
    intro b b3 b4
    refine ⟨_, rfl, p, 3, rfl, w3.box, by decide, by decide, fun H4 d d0 d1 but4 B4 => ⟨_, _, rfl, rfl, (by decide), fun t nt => ?_⟩⟩
    refine ⟨t, _, rfl, .inl (.inl upd_same), rfl, _, _, rfl, _, _, rfl, rfl, ?_⟩
    obtain ⟨i, hi⟩ := Int.eq_ofNat_of_zero_le (show 0 ≤ b + d by omega)
    have e : some (V.int (b + d)) = some (nV i) := congrArg (fun z => some (V.int z)) hi
    refine q _ _ ⟨_, p, am, y, rv, ms, R, i, u1, u5, u6, u7, u8, u9, u10, u11, u12, u13, u16, u17, u18, congrArg (fun z => [some (V.ref a), u1, some (V.ref p), some (V.ref am), some rv, u5, u6, u7, u8, u9, u10, u11, u12, u13, z, some (V.ref y), u16, u17, u18]) e, (w3'.but but4 B4).up nt, sG.seq hs, sG.seq hm, hmm, dp_same sG hR, rok, hMG, by omega⟩
  exact ite2 (fun _ => fin 3 (by decide) (by decide)) (fun _ => fin 4 (by decide) (by decide))
end
end Lg
set_option Elab.async false
set_option maxRecDepth 100000
set_option maxHeartbeats 2000000
namespace Lg
open PySem PySem.Spec PyProof.Rows L2 LamX
/-! ### two_stories, stories_hold: how they may be called -/
structure TwoAt (P : Program) (w : World) (K : PySem.W.Frag) (mg : Str → Option Value) (base : Heap) (CH CM CR CT : Addr) (ft : Addr) (ftd : FuncData) : Prop where
  ok : FnOk P w K mg base (L2.CX P w) 3 ft ftd ["marker", "length", "most"] (spTwo K CH CM CR CT)
  gl : mg "two_stories" = some (.ref ft)
  kp : PySem.W.keepIn K (.ref ft) = true
  bd : ∃ ds, Vals [V.int 20000] ds ∧ Binds K ftd ["marker", "length", "most"] ds
  kO : ∃ g gV, KBn K ftd ["marker", "length", "most"] 0 ["length", "marker", "most"] g gV ∧ ∀ l m o : V, gV [] [l, m, o] = [m, l, o]
  kM : ∃ g gV, KBn K ftd ["marker", "length", "most"] 2 ["most"] g gV ∧ ∀ m l o : V, gV [m, l] [o] = [m, l, o]
structure HoldAt (P : Program) (w : World) (K : PySem.W.Frag) (mg : Str → Option Value) (base : Heap) (CH CM : Addr) (fh : Addr) (fhd : FuncData) : Prop where
  ok : FnOk P w K mg base CX0 6 fh fhd ["marker", "value"] (spHold K CH CM)
  gl : mg "stories_hold" = some (.ref fh)
  kp : PySem.W.keepIn K (.ref fh) = true
  bd : Binds K fhd ["marker", "value"] []
  kO : ∃ g gV, KBn K fhd ["marker", "value"] 0 ["value", "marker"] g gV ∧ ∀ v m : V, gV [] [v, m] = [m, v]
theorem passF {X : Cx} : Passes (L2.CX X.prog X.w) X (fun _ _ _ => False) := fun pins σ H s e s' I c => by
  obtain ⟨_, _, _, _, _, _, _, _, _, _, _, _, h⟩ := c
  exact h.elim
section
variable {P : Program} {w : World} {K : PySem.W.Frag} {mg : Str → Option Value} {base : Heap} {f cL CH CM CR CT : Addr} {A : Around} {outer : List Env} {s : Shared} {H : Hp} {E : XK} {T : List (Addr × Str)} {a : Addr} {ns : List Int}
/-- .. with what is due -/
def S7 (K : PySem.W.Frag) (CH CM : Addr) (T : List (Addr × Str)) (a : Addr) (ns : List Int) : LSt → Hp → Prop := fun σ H => ∃ (G : Hp) (p am mk : Addr) (rv dv : V) (ms : List Nat) (R : Rows) (n : Nat) (u1 u5 u6 u8 u9 u10 u11 u12 u13 u16 u17 u18 : Option V), σ = [some (.ref a), u1, some (.ref p), some (.ref am), some rv, u5, u6, some dv, u8, u9, u10, u11, u12, u13, some (nV n), some (.ref mk), u16, u17, u18] ∧
  Wd T p G H ∧ SqL K G a (ns.map V.int) ∧ SqL K G am (marksV ms) ∧ ms ∈ menus ∧ Dp K G rv (rowsL R) ∧ RowsOk ms R ∧ MarkerAt K CH CM G mk ms R ∧ n ≤ 6 ∧ Dp K G dv (first ms.length R n)
def S8 (K : PySem.W.Frag) (CH CM : Addr) (T : List (Addr × Str)) (a : Addr) (ns : List Int) : LSt → Hp → Prop := fun σ H => ∃ (G : Hp) (p am mk : Addr) (rv dv tv : V) (ms : List Nat) (R : Rows) (n : Nat) (u1 u5 u6 u9 u10 u11 u12 u13 u16 u17 u18 : Option V), σ = [some (.ref a), u1, some (.ref p), some (.ref am), some rv, u5, u6, some dv, some tv, u9, u10, u11, u12, u13, some (nV n), some (.ref mk), u16, u17, u18] ∧
  Wd T p G H ∧ SqL K G a (ns.map V.int) ∧ SqL K G am (marksV ms) ∧ ms ∈ menus ∧ Dp K G rv (rowsL R) ∧ RowsOk ms R ∧ MarkerAt K CH CM G mk ms R ∧ n ≤ 6 ∧ Dp K G dv (first ms.length R n) ∧ Dp K H tv (first ms.length R n)
theorem st6 (hr : Room 8 (LX P w K mg base f cL A outer s H E).A) (hgu : (LX P w K mg base f cL A outer s H E).A.guards = some []) (DF : FdG P w K mg base "_law_first" 2 ["_law_marks", "_law_rows", "_law_length"] (spFirst K)) :
    PS (LX P w K mg base f cL A outer s H E) (step 6) (tPP (S6 K CH CM T a ns) (S7 K CH CM T a ns)) := by
  refine ps_pp (ps_set (i := 7) lawS.nd rfl (.inl rfl) (pfG DF (hr.mono (by decide)) hgu (pa_cons (pv 3) (pa_cons (pv 4) (pa_cons (pv 14) pa_nil))))) ?_
  rintro Dn σ H1 ⟨G, p, am, mk, rv, ms, R, n, u1, u5, u6, u7, u8, u9, u10, u11, u12, u13, u16, u17, u18, rfl, wd, hs, hm, hmm, hR, rok, hM, hn⟩ q
  have mok := menu_marks hmm
  refine ⟨_, rfl, _, rfl, _, rfl, am, rv, ms, R, n, rfl, wd.w.seq hm, dp_same wd.w hR, mok, rok, hn, fun H2 z s2 hz => ?_⟩
  have w2 := wd.same s2
  obtain ⟨w3, sG⟩ := w2.grow
  exact q _ _ ⟨_, p, am, mk, rv, z, ms, R, n, _, _, _, _, _, _, _, _, _, _, _, _, rfl, w3, sG.seq hs, sG.seq hm, hmm, dp_same sG hR, rok, hM.same sG, hn, dp_tt w2.dp (first_ok mok.2.1 hn).tt hz⟩
/-- what a call that is allowed enough gives -/
theorem two_read {H : Hp} {mk : Addr} {ms : List Nat} {R : Rows} {n : Nat} {Q : VK} (hM : MarkerAt K CH CM H mk ms R) (mok : MarksOk ms) (rok : RowsOk ms R) (hn : n ≤ 6) (q : ∀ H' z, Same H H' → Dp K H' z (first ms.length R n) → Q z H') :
    spTwo K CH CM CR CT [.ref mk, nV n, .int 20000] H Q (fun _ _ _ => False) := by
  have h2 := two_full (k := ms.length) (R := R) mok.2.1 hn
  refine ⟨mk, _, .int (n : Int), ms, R, 20000, rfl, hM, mok, rok, .int _, .inr ⟨n, rfl, hn, fun z => ?_, fun D hD H' z s' hz => ?_⟩⟩
  · rw [h2] at z
    cases z
  · rw [h2] at hD
    cases hD
    exact q H' z s' hz
theorem st7 (hr : Room 8 (LX P w K mg base f cL A outer s H E).A) {ft : Addr} {ftd : FuncData} (DT : TwoAt P w K mg base CH CM CR CT ft ftd) :
    PS (LX P w K mg base f cL A outer s H E) (step 7) (tPP (S7 K CH CM T a ns) (S8 K CH CM T a ns)) := by
  obtain ⟨ds, vds, bd⟩ := DT.bd
  refine ps_pp (ps_set (i := 8) lawS.nd rfl (.inl rfl) (pe_call DT.ok (hr.mono (by decide)) (by rfl) DT.gl DT.kp bd vds passF (pa_cons (pv 15) (pa_cons (pv 14) pa_nil)))) ?_
  rintro Dn σ H1 ⟨G, p, am, mk, rv, dv, ms, R, n, u1, u5, u6, u8, u9, u10, u11, u12, u13, u16, u17, u18, rfl, wd, hs, hm, hmm, hR, rok, hM, hn, hd⟩ q
  have mok := menu_marks hmm
  refine ⟨_, rfl, _, rfl, two_read (CR := CR) (CT := CT) (hM.same wd.w) mok rok hn fun H2 z s2 hz => ?_⟩
  exact q _ _ ⟨G, p, am, mk, rv, dv, z, ms, R, n, _, _, _, _, _, _, _, _, _, _, _, rfl, wd.same s2, hs, hm, hmm, hR, rok, hM, hn, hd, hz⟩
theorem st8 (hr : Room 8 (LX P w K mg base f cL A outer s H E).A) (hgu : (LX P w K mg base f cL A outer s H E).A.guards = some []) (tx : Txt K mg) {ft : Addr} {ftd : FuncData} (DT : TwoAt P w K mg base CH CM CR CT ft ftd) :
    PS (LX P w K mg base f cL A outer s H E) (step 8) (tPP (S8 K CH CM T a ns) (S7 K CH CM T a ns)) := by
  obtain ⟨g, gV, kb, hgV⟩ := DT.kO
  refine ps_pp (ps_if (pw_or (pt_cmpR op_ne (p_repr hgu hr.units tx.repr (pa_cons (pv 8) pa_nil)) (p_repr hgu hr.units tx.repr (pa_cons (pv 7) pa_nil)) (nomark _))
    (pw_or1 (pt_cmpR (op_neD hr.units) (pe_kwOnly DT.ok (hr.mono (by decide)) (by rfl) DT.gl DT.kp kb passF (pk_cons (pv 14) (pk_cons (pv 15) (pk_cons pe_int pk_nil)))) (pv 7) (nomark _)))).pt (pss_one (ps_ret pe_bl)) pss_nil) ?_
  rintro Dn σ H1 ⟨G, p, am, mk, rv, dv, tv, ms, R, n, u1, u5, u6, u9, u10, u11, u12, u13, u16, u17, u18, rfl, wd, hs, hm, hmm, hR, rok, hM, hn, hd, ht⟩ q
  have mok := menu_marks hmm
  have ok := first_ok (R := R) mok.2.1 hn
  refine ⟨_, rfl, tv, _, rfl, ht, ok.sh.sh, ok.sh.dp, ok.sh.len, _, rfl, dv, _, rfl, dp_same wd.w hd, ok.sh.sh, ok.sh.dp, ok.sh.len, rfl, _, rfl, ?_⟩
  refine iteE (c := false) (by simp) (iteF ?_)
  refine ⟨_, rfl, _, rfl, rfl, ?_⟩
  rw [hgV]
  refine two_read (CR := CR) (CT := CT) (hM.same wd.w) mok rok hn fun H2 z s2 hz => ⟨_, rfl, _, _, hz, dp_same s2 (dp_same wd.w hd), ok.sp, ok.sp, _, rfl, ?_⟩
  refine iteE (c := false) (by rw [ok.eq]; rfl) (iteF ?_)
  exact q _ _ ⟨G, p, am, mk, rv, dv, ms, R, n, _, _, _, _, _, _, _, _, _, _, _, _, rfl, wd.same s2, hs, hm, hmm, hR, rok, hM, hn, hd⟩
end
end Lg
set_option Elab.async false
set_option maxRecDepth 100000
set_option maxHeartbeats 2000000
namespace Lg
open PySem PySem.Spec PyProof.Rows L2 LamX
def natsL (l : List Nat) : PyData := .list (l.map fun n : Nat => PyData.int (n : Int))
theorem shaped_nats (l : List Nat) : SeqAt.shaped (natsL l) = true := shaped_list (lay_nums l) (by rw [deep_nums]; decide)
theorem eqv_natsL (l m : List Nat) : PyData.eqv (natsL l) (natsL m) = decide (l = m) := eqv_nums l m
theorem dp_nats {K : PySem.W.Frag} {H : Hp} {am : Addr} {l : List Nat} (h : SqL K H am (marksV l)) : Dp K H (.ref am) (natsL l) := .lst h (dp_ints l)
theorem not_non {K : PySem.W.Frag} {H : Hp} {v : V} {D : PyData} (h : Dp K H v D) (n : D ≠ .none) : v ≠ .non := fun z => by
  subst z
  cases h
  exact n rfl
/-- marks == [x, y] and length >= k and due is None -/
def tPig (K : PySem.W.Frag) (x y : Nat) (k : Int) : TT := tAnd (tTest (tOp (rEqD K) (tVar 3) (tLst (tCons (tC (nV x)) (tCons (tC (nV y)) tNil))))) (tAnd (tTest (tOp (rI0 fun i j => .bl (decide (j ≤ i))) (tVar 14) (tC (.int k)))) (tB (tIsN (tVar 7))))
theorem pig_no {K : PySem.W.Frag} {σ : LSt} {H : Hp} {am : Addr} {dv : V} {ms : List Nat} {n x y : Nat} {k : Int} {R : Bool → Hp → Prop} (e3 : σ[3]? = some (some (.ref am))) (e14 : σ[14]? = some (some (nV n))) (e7 : σ[7]? = some (some dv)) (hm : SqL K H am (marksV ms))
    (no : ms = [x, y] → k ≤ (n : Int) → dv ≠ .non) (q : ∀ H', Same H H' → R false H') : tPig K x y k σ H R := by
  refine ⟨_, e3, (by show 2 ≤ sizeLine; decide), fun l nl => ?_⟩
  refine ⟨natsL ms, natsL [x, y], dp_nats ((same_upd nl).seq hm), dp_nats (.inl (.inl upd_same)), shaped_nats _, shaped_nats _, _, rfl, ?_⟩
  rw [eqv_natsL]
  have q1 := q (upd H l (.lst [nV x, nV y])) (same_upd nl)
  by_cases c1 : ms = [x, y]
  · refine iteD c1 ⟨_, e14, _, _, rfl, rfl, _, rfl, ?_⟩
    by_cases c2 : k ≤ (n : Int)
    · refine iteD c2 ⟨_, e7, _, rfl, ?_⟩
      rw [decide_eq_false (no c1 c2)]
      exact q1
    · exact iteN c2 q1
  · exact iteN c1 q1
section
variable {P : Program} {w : World} {K : PySem.W.Frag} {mg : Str → Option Value} {base : Heap} {f cL CH CM CR CT : Addr} {A : Around} {outer : List Env} {s : Shared} {H : Hp} {E : XK} {T : List (Addr × Str)} {a : Addr} {ns : List Int}
theorem st9 (hr : Room 8 (LX P w K mg base f cL A outer s H E).A) : PS (LX P w K mg base f cL A outer s H E) (step 9) (tPP (S7 K CH CM T a ns) (S7 K CH CM T a ns)) := by
  refine ps_pp (t := tIfS (tOr (tPig K 1 1 2) (tPig K 2 1 3)) (tRet (tC (.bl false))) tNext) (ps_if (pw_or (pw_and (pt_cmpR (op_eqD hr.units) (pv 3) (pe_lst (pa_cons pe_int (pa_cons pe_int pa_nil))) (nomark _)) (pw_and (pt_cmpR op_ge (pv 14) pe_int (nomark _)) (pw_and1 (pt_cmp (pc_isN (pv 7)))))).pt
    (pw_or1 (pw_and (pt_cmpR (op_eqD hr.units) (pv 3) (pe_lst (pa_cons pe_int (pa_cons pe_int pa_nil))) (nomark _)) (pw_and (pt_cmpR op_ge (pv 14) pe_int (nomark _)) (pw_and1 (pt_cmp (pc_isN (pv 7)))))).pt)).pt (pss_one (ps_ret pe_bl)) pss_nil) ?_
  rintro Dn σ H1 ⟨G, p, am, mk, rv, dv, ms, R, n, u1, u5, u6, u8, u9, u10, u11, u12, u13, u16, u17, u18, rfl, wd, hs, hm, hmm, hR, rok, hM, hn, hd⟩ q
  refine pig_no rfl rfl rfl (wd.w.seq hm) (fun e k => not_non hd ?_) fun H2 s2 => ?_
  · subst e
    exact first_due (s := 0) (t := 1) (M := 1) rok rfl (by decide) (by decide) (by decide) rfl rfl (by omega)
  · refine iteF (pig_no rfl rfl rfl (s2.seq (wd.w.seq hm)) (fun e k => not_non hd ?_) fun H3 s3 => iteF ?_)
    · subst e
      exact first_due (s := 0) (t := 1) (M := 2) rok rfl (by decide) (by decide) (by decide) rfl rfl (by omega)
    · exact q _ _ ⟨G, p, am, mk, rv, dv, ms, R, n, _, _, _, _, _, _, _, _, _, _, _, _, rfl, (wd.same s2).same s3, hs, hm, hmm, hR, rok, hM, hn, hd⟩
theorem st10 (hr : Room 8 (LX P w K mg base f cL A outer s H E).A) : PS (LX P w K mg base f cL A outer s H E) (step 10) (tPP (S7 K CH CM T a ns) (S7 K CH CM T a ns)) := by
  refine ps_pp (t := tIfS (tOr (tPig K 1 3 4) (tPig K 1 5 6)) (tRet (tC (.bl false))) tNext) (ps_if (pw_or (pw_and (pt_cmpR (op_eqD hr.units) (pv 3) (pe_lst (pa_cons pe_int (pa_cons pe_int pa_nil))) (nomark _)) (pw_and (pt_cmpR op_ge (pv 14) pe_int (nomark _)) (pw_and1 (pt_cmp (pc_isN (pv 7)))))).pt
    (pw_or1 (pw_and (pt_cmpR (op_eqD hr.units) (pv 3) (pe_lst (pa_cons pe_int (pa_cons pe_int pa_nil))) (nomark _)) (pw_and (pt_cmpR op_ge (pv 14) pe_int (nomark _)) (pw_and1 (pt_cmp (pc_isN (pv 7)))))).pt)).pt (pss_one (ps_ret pe_bl)) pss_nil) ?_
  rintro Dn σ H1 ⟨G, p, am, mk, rv, dv, ms, R, n, u1, u5, u6, u8, u9, u10, u11, u12, u13, u16, u17, u18, rfl, wd, hs, hm, hmm, hR, rok, hM, hn, hd⟩ q
  refine pig_no rfl rfl rfl (wd.w.seq hm) (fun e k => not_non hd ?_) fun H2 s2 => ?_
  · subst e
    exact first_due (s := 1) (t := 0) (M := 3) rok rfl (by decide) (by decide) (by decide) rfl rfl (by omega)
  · refine iteF (pig_no rfl rfl rfl (s2.seq (wd.w.seq hm)) (fun e k => not_non hd ?_) fun H3 s3 => iteF ?_)
    · subst e
      exact first_due (s := 1) (t := 0) (M := 5) rok rfl (by decide) (by decide) (by decide) rfl rfl (by omega)
    · exact q _ _ ⟨G, p, am, mk, rv, dv, ms, R, n, _, _, _, _, _, _, _, _, _, _, _, _, rfl, (wd.same s2).same s3, hs, hm, hmm, hR, rok, hM, hn, hd⟩
/-- .. with what is allowed -/
def S11 (K : PySem.W.Frag) (CH CM : Addr) (T : List (Addr × Str)) (a : Addr) (ns : List Int) : LSt → Hp → Prop := fun σ H => ∃ (G : Hp) (p am mk : Addr) (rv dv : V) (ms : List Nat) (R : Rows) (n : Nat) (m : Int) (u1 u5 u6 u8 u9 u10 u11 u12 u13 u17 u18 : Option V), σ = [some (.ref a), u1, some (.ref p), some (.ref am), some rv, u5, u6, some dv, u8, u9, u10, u11, u12, u13, some (nV n), some (.ref mk), some (.int m), u17, u18] ∧
  Wd T p G H ∧ SqL K G a (ns.map V.int) ∧ SqL K G am (marksV ms) ∧ ms ∈ menus ∧ Dp K G rv (rowsL R) ∧ RowsOk ms R ∧ MarkerAt K CH CM G mk ms R ∧ n ≤ 6 ∧ Dp K G dv (first ms.length R n) ∧ 1 ≤ m ∧ m ≤ 40
theorem st11 (hr : Room 8 (LX P w K mg base f cL A outer s H E).A) (DT : DTake P w K mg base) : PS (LX P w K mg base f cL A outer s H E) (step 11) (tPP (S7 K CH CM T a ns) (S11 K CH CM T a ns)) := by
  refine ps_pp (ps_set (i := 16) lawS.nd rfl (.inr rfl) (pe_op op_add pe_int (pf DT (hr.mono (by decide)) (pa_cons (pv 2) (pa_cons pe_int pa_nil))))) ?_
  rintro Dn σ H1 ⟨G, p, am, mk, rv, dv, ms, R, n, u1, u5, u6, u8, u9, u10, u11, u12, u13, u16, u17, u18, rfl, wd, hs, hm, hmm, hR, rok, hM, hn, hd⟩ q
  refine ⟨_, rfl, p, 40, rfl, wd.box, by decide, by decide, fun H2 d d0 d1 but2 B2 => ⟨_, _, rfl, rfl, ?_⟩⟩
  exact q _ _ ⟨G, p, am, mk, rv, dv, ms, R, n, 1 + d, _, _, _, _, _, _, _, _, _, _, _, rfl, wd.but but2 B2, hs, hm, hmm, hR, rok, hM, hn, hd, by omega, by omega⟩
end
end Lg
set_option Elab.async false
set_option maxRecDepth 100000
set_option maxHeartbeats 2000000
namespace Lg
open PySem PySem.Spec PyProof.Rows L2 LamX
/-- _law_heard, where it stands -/
structure HeardAt (K : PySem.W.Frag) (mg : Str → Option Value) : Prop where
  ex : ∃ (g : Addr) (oc kV doc pm cdv ct : Value) (od an : Option Addr) (osl : Array (Option Value)), mg "_law_heard" = some (.ref g) ∧ PySem.W.keepIn K (.ref g) = true ∧
    K.lookup g = some ⟨oc, od, .func (PySem.W.fnOf "_law_heard" "_law_heard" (defArgs (top 45)) (defBody (top 45)) (defScope (top 45)) .none kV doc pm an cdv ct), osl⟩ ∧ PySem.W.codeIn K cdv "_law_heard" = true
theorem heardS : FnScope heardN ["_law_ask"] (defScope (top 45)) := ⟨rfl, rfl, rfl, by decide +kernel, rfl, by decide +kernel, by decide +kernel⟩
/-- the names of the law's lambdas -/
def lamQ : Str := (envOfC "law" (defScope (top 46)) 0 0 .none).qual ++ "<lambda>"
def lamT : List (Addr × Str) := [(354, lamQ)]
section
variable {P : Program} {w : World} {K : PySem.W.Frag} {mg : Str → Option Value} {base : Heap} {f cL CH CM CR CT CE : Addr} {A : Around} {outer : List Env} {s : Shared} {H : Hp} {E : XK} {a : Addr} {ns : List Int}
/-- _law_heard(lambda: body) -/
theorem pe_heard {params : Arguments} {body : Expr} {scope : Scope} {t : XK → TE} {p lpos pos : Pos} {k : Nat} (HA : HeardAt K mg) (EI : ErrIs K CT CR CE) (mT : mg "TooGreat" = some (.ref CT)) (mR : mg "Refused" = some (.ref CR)) (mL : mg "LogError" = some (.ref CE)) (tx : Txt K mg)
    (TB : TabB base mg cL 354) (hr : Room (k + 2) (LX P w K mg base f cL A outer s H E).A) (hgu : (LX P w K mg base f cL A outer s H E).A.guards = some []) (L : LamS (defScope (top 46)) scope) (hdef : defaultsOf params (LX P w K mg base f cL A outer s H E).env = ([], []))
    (hbind : ∀ (q : Str) (cl : List (Str × Addr)) (pm cv ctv : Value), bindArgs (PySem.W.kla_fn "<lambda>" q params body scope cl pm cv ctv) ⟨[], []⟩ = pure [])
    (hbody : ∀ (A' : Around) (outer' : List Env) (s' : Shared) (H' : Hp) (E' : XK) (g c' : Addr), Room k (A'.deeper (lamEnv (LX P w K mg base f cL A outer s H E) scope s'.heap.objs.size g c')) → PE (lamCx (LX P w K mg base f cL A outer s H E) A' outer' s' H' E' scope g c') body (t E')) :
    PE (LX P w K mg base f cL A outer s H E) (.Call (.Name "_law_heard" p) [.Lambda params body scope lpos] [] pos) (tLam lamT (TTHeard K CT CR) t) := by
  obtain ⟨g, oc, kV, doc, pm, cdv, ct, od, an, osl, hm, hk, lk, hcd⟩ := HA.ex
  exact pe_lamcall (X := LX P w K mg base f cL A outer s H E) (T := lamT) (c := cL) (P := 354) (Ng := heardN) (a := "_law_ask") (by rfl) hm hk lk hcd
    (.all fun us hl => match us, hl with | [_], _ => by with_unfolding_all rfl) heardS rfl (.inl rfl)
    (heard_gives (X := LX P w K mg base f cL A outer s H E) (k := k + 1) hr hgu mT mR mL tx.isi tx.repr EI) TB rfl (List.mem_singleton.mpr rfl) (fun p hp _ => by rw [List.mem_singleton.mp hp]; rfl) hr L hdef hbind hbody (by decide) (by decide) (by decide)
end
end Lg
set_option Elab.async false
set_option maxRecDepth 100000
set_option maxHeartbeats 2000000
namespace Lg
open PySem PySem.Spec PyProof.Rows L2 LamX
/-- what was heard -/
def LessOk (K : PySem.W.Frag) (H : Hp) (lv : V) (k : Nat) (R : Rows) (n : Nat) (m : Int) : Prop := Dp K H lv (.tuple [.str "told", first k R n]) ∨ (Dp K H lv (.tuple [.str "great", .int m, .bool true]) ∧ two k R m n = none)
theorem two_first {k : Nat} {R : Rows} {m : Int} {n : Nat} {D : PyData} (h : two k R m n = some D) : D = first k R n := two_some n 0 h
section
variable {P : Program} {w : World} {K : PySem.W.Frag} {mg : Str → Option Value} {base : Heap} {f cL CH CM CR CT CE : Addr} {A : Around} {outer : List Env} {s : Shared} {H : Hp} {E : XK} {a : Addr} {ns : List Int}
def S12 (K : PySem.W.Frag) (CH CM : Addr) (T : List (Addr × Str)) (a : Addr) (ns : List Int) : LSt → Hp → Prop := fun σ H => ∃ (G : Hp) (p am mk : Addr) (rv dv lv : V) (ms : List Nat) (R : Rows) (n : Nat) (m : Int) (u1 u5 u6 u8 u10 u11 u12 u13 u17 u18 : Option V), σ = [some (.ref a), u1, some (.ref p), some (.ref am), some rv, u5, u6, some dv, u8, some lv, u10, u11, u12, u13, some (nV n), some (.ref mk), some (.int m), u17, u18] ∧
  Wd T p G H ∧ SqL K G a (ns.map V.int) ∧ SqL K G am (marksV ms) ∧ ms ∈ menus ∧ Dp K G rv (rowsL R) ∧ RowsOk ms R ∧ MarkerAt K CH CM G mk ms R ∧ n ≤ 6 ∧ Dp K G dv (first ms.length R n) ∧ 1 ≤ m ∧ m ≤ 40 ∧ LessOk K H lv ms.length R n m
theorem st12 (HA : HeardAt K mg) (EI : ErrIs K CT CR CE) (mT : mg "TooGreat" = some (.ref CT)) (mR : mg "Refused" = some (.ref CR)) (mL : mg "LogError" = some (.ref CE)) (tx : Txt K mg) (TB : TabB base mg cL 354)
    (hr : Room 8 (LX P w K mg base f cL A outer s H E).A) (hgu : (LX P w K mg base f cL A outer s H E).A.guards = some []) {ft : Addr} {ftd : FuncData} (DT : TwoAt P w K mg base CH CM CR CT ft ftd) :
    PS (LX P w K mg base f cL A outer s H E) (step 12) (tPP (S11 K CH CM lamT a ns) (S12 K CH CM lamT a ns)) := by
  obtain ⟨g, gV, kb, hgV⟩ := DT.kM
  refine ps_pp (ps_set (i := 9) lawS.nd rfl (.inl rfl) (pe_heard (k := 6) (t := fun E' => tCallN 2 1 (spTwo K CH CM CR CT) gV E' (tCons (tVar 15) (tCons (tVar 14) tNil)) (tCons (tVar 16) tNil)) HA EI mT mR mL tx TB hr hgu (lamS_by (by decide +kernel)) rfl (fun _ _ _ _ _ => by with_unfolding_all rfl)
    (fun A' outer' s' H' E' g' c' hr2 => by exact pe_callN (X := lamCx (LX P w K mg base f cL A outer s H E) A' outer' s' H' E' _ g' c') DT.ok (hr2.mono (by decide)) (by rfl) DT.gl DT.kp kb (passes_call (takes_of rfl rfl rfl rfl) fun _ _ _ _ h => h) (pa_cons (pv 15) (pa_cons (pv 14) pa_nil)) (pk_cons (pv 16) pk_nil)))) ?_
  rintro Dn σ H1 ⟨G, p, am, mk, rv, dv, ms, R, n, m, u1, u5, u6, u8, u9, u10, u11, u12, u13, u17, u18, rfl, wd, hs, hm, hmm, hR, rok, hM, hn, hd, m1, m2⟩ q
  have mok := menu_marks hmm
  refine ⟨wd.tabs, fun H2 x2 t2 => ?_⟩
  have w2 := wd.ext x2 t2
  have fin : ∀ (H3 : Hp) (lv : V), Wd lamT p G H3 → LessOk K H3 lv ms.length R n m → Dn.nx [some (.ref a), u1, some (.ref p), some (.ref am), some rv, u5, u6, some dv, u8, some lv, u10, u11, u12, u13, some (nV n), some (.ref mk), some (.int m), u17, u18] H3 := fun H3 lv w3 hl =>
    q _ _ ⟨G, p, am, mk, rv, dv, lv, ms, R, n, m, _, _, _, _, _, _, _, _, _, _, rfl, w3, hs, hm, hmm, hR, rok, hM, hn, hd, m1, m2, hl⟩
  refine ⟨_, rfl, _, rfl, _, rfl, rfl, rfl, ?_⟩
  rw [hgV]
  refine ⟨mk, _, .int (n : Int), ms, R, m, rfl, hM.same w2.w, mok, rok, .int _, .inr ⟨n, rfl, hn, fun hnone H3 dd s3 nd => ?_, fun D hD H3 z s3 hz => ?_⟩⟩
  · refine ⟨dd, rfl, .inl ⟨rfl, m, upd_same, fun H4 t s4 ht => ?_⟩⟩
    exact fin _ _ (((w2.same s3).up nd).same s4) (.inr ⟨.tup (.inl (.inl ht)) (.cons (.str _) (.cons (.int _) (.cons (.bl _) .nil))), hnone⟩)
  · have e := two_first hD
    subst e
    exact ⟨by show 2 ≤ sizeLine; decide, fun t nt => fin _ _ ((w2.same s3).up nt) (.inl (.tup (.inl (.inl upd_same)) (.cons (.str _) (.cons (dp_same (same_upd nt) hz) .nil))))⟩
end
end Lg
set_option Elab.async false
set_option maxRecDepth 100000
set_option maxHeartbeats 2000000
namespace Lg
open PySem PySem.Spec PyProof.Rows L2 LamX
theorem sum_layers (k : Nat) : ∀ n, ((List.range (n + 1)).map fun j => ((layerS k j).length : Int)).sum = (sumTo k n : Int)
  | 0 => rfl
  | n + 1 => by
    rw [List.range_succ, List.map_append, List.sum_append, sum_layers k n]
    show (sumTo k n : Int) + (((layerS k (n + 1)).length : Int) + 0) = ((sumTo k n + (layerS k (n + 1)).length : Nat) : Int)
    omega
theorem shaped_told {D : PyData} (h : DueOk D) : SeqAt.shaped (.tuple [.str "told", D]) = true := by
  unfold SeqAt.shaped
  have e : (PyData.tuple [.str "told", D]).canLay0 = true := by
    show ((PyData.str "told").canLay0 && (D.canLay0 && true)) = true
    rw [SeqAt.canLay_of_shaped h.sp]
    decide +kernel
  rw [e, Bool.true_and]
  refine decide_eq_true ?_
  show max 0 (max D.depth 0) + 1 ≤ 64
  have := h.sh.dp
  omega
theorem shaped_great (m : Int) : SeqAt.shaped (.tuple [.str "great", .int m, .bool true]) = true := by
  unfold SeqAt.shaped
  have e : (PyData.tuple [.str "great", .int m, .bool true]).canLay0 = true := by
    show ((PyData.str "great").canLay0 && (true && (true && true))) = true
    decide +kernel
  rw [e, Bool.true_and]
  exact decide_eq_true (show (1 : Nat) ≤ 64 by decide)
theorem eqv_told {D : PyData} (h : DueOk D) : PyData.eqv (.tuple [.str "told", D]) (.tuple [.str "told", D]) = true := by
  show (PyData.eqv (.str "told") (.str "told") && (PyData.eqv D D && true)) = true
  rw [h.eq]
  decide +kernel
theorem eqv_gt (m : Int) (D : PyData) : PyData.eqv (.tuple [.str "great", .int m, .bool true]) (.tuple [.str "told", D]) = false := by
  show (PyData.eqv (.str "great") (.str "told") && PyData.eqvAll [.int m, .bool true] [D]) = false
  rw [show PyData.eqv (.str "great") (.str "told") = false by decide +kernel]
  rfl
theorem eqv_great (m : Int) : PyData.eqv (.tuple [.str "great", .int m, .bool true]) (.tuple [.str "great", .int m, .bool true]) = true := by
  show (PyData.eqv (.str "great") (.str "great") && ((m == m) && (true && true))) = true
  rw [show PyData.eqv (.str "great") (.str "great") = true by decide +kernel]
  simp
section
variable {P : Program} {w : World} {K : PySem.W.Frag} {mg : Str → Option Value} {base : Heap} {f cL CH CM CR CT CE : Addr} {A : Around} {outer : List Env} {s : Shared} {H : Hp} {E : XK} {T : List (Addr × Str)} {a : Addr} {ns : List Int}
theorem st13 (tx : Txt K mg) (hr : Room 8 (LX P w K mg base f cL A outer s H E).A) (DS : DStories P w K mg base) : PS (LX P w K mg base f cL A outer s H E) (step 13) (tPP (S12 K CH CM T a ns) (S11 K CH CM T a ns)) := by
  refine ps_pp (ps_if (pw_and (pt_cmpR (op_neD hr.units) (pv 9) (pe_tup (pa_cons pe_str (pa_cons (pv 7) pa_nil))) (nomark _)) (pw_and1 (pw_or (pt_cmpR (op_neD hr.units) (pv 9) (pe_tup (pa_cons pe_str (pa_cons (pv 16) (pa_cons pe_bl pa_nil)))) (nomark _))
    (pw_or1 (pt_cmpR op_le (p_sum1 rfl tx.sum (pa_cons (pe_lc (own := [("_law_deeds", 18)]) (g := gName 18) (tt := tYes) (te := tCB (rLenS K) (tCons (tCall (spStories K) [] E0 (tCons (tCB (rLenS K) (tCons (tVar 3) tNil)) (tCons (tVar 18) tNil))) tNil)) rfl lawS.nd (pi_range1 (by rfl) tx.range (pa_cons (pe_op op_add (pv 14) pe_int) pa_nil))
      (blkOk_by (N := lawN) (sc := defScope (top 46)) (by decide +kernel)) (fun _ _ _ _ _ => by exact pg_name (i := 18) lawS.nd rfl (.inl rfl)) (fun _ _ _ _ _ => pts_nil) (fun _ _ _ _ _ => by exact p_len tx.len (pa_cons (pf DS (hr.mono (by decide)) (pa_cons (p_len tx.len (pa_cons (pv 3) pa_nil)) (pa_cons (pv 18) pa_nil))) pa_nil))) pa_nil)) (pv 16) (nomark _)))).pt)).pt (pss_one (ps_ret pe_bl)) pss_nil) ?_
  rintro Dn σ H1 ⟨G, p, am, mk, rv, dv, lv, ms, R, n, m, u1, u5, u6, u8, u10, u11, u12, u13, u17, u18, rfl, wd, hs, hm, hmm, hR, rok, hM, hn, hd, m1, m2, hl⟩ q
  have mok := menu_marks hmm
  have ok := first_ok (R := R) mok.2.1 hn
  have fin : ∀ H2, Wd T p G H2 → Dn.nx [some (.ref a), u1, some (.ref p), some (.ref am), some rv, u5, u6, some dv, u8, some lv, u10, u11, u12, u13, some (nV n), some (.ref mk), some (.int m), u17, u18] H2 := fun H2 w2 =>
    q _ _ ⟨G, p, am, mk, rv, dv, ms, R, n, m, _, _, _, _, _, _, _, _, _, _, _, rfl, w2, hs, hm, hmm, hR, rok, hM, hn, hd, m1, m2⟩
  refine ⟨_, rfl, _, rfl, (by show 2 ≤ sizeLine; decide), fun t1 n1 => ?_⟩
  have told : Dp K (upd H1 t1 (.tup [.str "told", dv])) (.ref t1) (.tuple [.str "told", first ms.length R n]) := .tup (.inl (.inl upd_same)) (.cons (.str _) (.cons (dp_same (same_upd n1) (dp_same wd.w hd)) .nil))
  have w1 := wd.up (o := .tup [.str "told", dv]) n1
  rcases hl with hl | ⟨hl, hnone⟩
  · refine ⟨_, _, dp_same (same_upd n1) hl, told, shaped_told ok, shaped_told ok, _, rfl, ?_⟩
    refine iteE (c := false) (by rw [eqv_told ok]; rfl) (iteF ?_)
    exact fin _ w1
  · refine ⟨_, _, dp_same (same_upd n1) hl, told, shaped_great m, shaped_told ok, _, rfl, ?_⟩
    refine iteE (c := true) (by rw [eqv_gt]; rfl) (iteT ?_)
    refine ⟨_, rfl, _, rfl, (by show 3 ≤ sizeLine; decide), fun t2 n2 => ?_⟩
    have w2 := w1.up (o := .tup [.str "great", .int m, .bl true]) n2
    refine ⟨_, _, dp_same (same_upd n2) (dp_same (same_upd n1) hl), .tup (.inl (.inl upd_same)) (.cons (.str _) (.cons (.int _) (.cons (.bl _) .nil))), shaped_great m, shaped_great m, _, rfl, ?_⟩
    refine iteE (c := false) (by rw [eqv_great]; rfl) (iteF ?_)
    generalize upd (upd H1 t1 _) t2 _ = H3 at w2
    refine ⟨_, rfl, _, _, rfl, rfl, _, rfl, by omega, by omega, ?_⟩
    rw [show (((n : Nat) : Int) + 1).toNat = n + 1 by omega]
    refine fun D2 hD2 => ?_
    refine lc_range (n := n + 1) (fun i H' => Same H3 H' ∧ H' D2 = some (.lst ((List.range i).map fun j => nV (layerS ms.length j).length))) ⟨same_up (Same.refl _) hD2, upd_same⟩ ?_ ?_
    · rintro i H4 hi ⟨s4, h4⟩
      rw [Int.zero_add]
      have lm : (marksV ms).length = ms.length := List.length_map ..
      refine ⟨rfl, yes ⟨_, rfl, am, _, rfl, .inl (s4.seq (w2.w.seq hm)), _, rfl, ms.length, i, by rw [lm]; rfl, mok.2.1, by omega, fun H5 t s5 nt ht => ?_⟩⟩
      obtain ⟨t', xs, et, hx, hxs⟩ := dp_lst ht
      cases et
      have lx : xs.length = (layerS ms.length i).length := dpAll_mapLen hxs
      refine ⟨t, xs, rfl, .inl hx, _, s5 _ _ h4, ?_, same_own (s4.trans s5) hD2, ?_⟩
      · rw [List.length_map, List.length_range]
        exact small5 (by omega)
      · rw [lx, List.range_succ, List.map_append, upd_same]
        rfl
    · rintro H4 ⟨s4, h4⟩
      refine ⟨D2, (List.range (n + 1)).map fun j => ((layerS ms.length j).length : Int), rfl, .inl (.inl ?_), ?_⟩
      · rw [h4, List.map_map]
        rfl
      · have z := two_none n 0 hnone
        rw [Nat.zero_add] at z
        refine ⟨_, rfl, _, _, rfl, rfl, _, rfl, ?_⟩
        rw [sum_layers]
        exact iteN (by omega) (fin _ (w2.same s4))
end
end Lg
set_option Elab.async false
set_option maxRecDepth 100000
set_option maxHeartbeats 2000000
namespace Lg
open PySem PySem.Spec PyProof.Rows L2 LamX
theorem showB : ∀ b : Bool, (PyData.list [.bool b, .bool b]).showable = true ∧ (PyData.list [.bool b, .bool b]).depth ≤ 60 ∧ (PyData.list [.bool b, .bool b]).shown.length ≤ 100 := by decide +kernel
section
variable {P : Program} {w : World} {K : PySem.W.Frag} {mg : Str → Option Value} {base : Heap} {f cL CH CM CR CT CE : Addr} {A : Around} {outer : List Env} {s : Shared} {H : Hp} {E : XK} {T : List (Addr × Str)} {a : Addr} {ns : List Int}
/-- .. with a value that may hold -/
def S14 (K : PySem.W.Frag) (CH CM : Addr) (T : List (Addr × Str)) (a : Addr) (ns : List Int) : LSt → Hp → Prop := fun σ H => ∃ (G : Hp) (p am mk : Addr) (rv dv vv : V) (ms : List Nat) (R : Rows) (n : Nat) (d : PyData) (u1 u5 u6 u8 u9 u11 u12 u13 u16 u17 u18 : Option V), σ = [some (.ref a), u1, some (.ref p), some (.ref am), some rv, u5, u6, some dv, u8, u9, some vv, u11, u12, u13, some (nV n), some (.ref mk), u16, u17, u18] ∧
  Wd T p G H ∧ SqL K G a (ns.map V.int) ∧ SqL K G am (marksV ms) ∧ ms ∈ menus ∧ Dp K G rv (rowsL R) ∧ RowsOk ms R ∧ MarkerAt K CH CM G mk ms R ∧ n ≤ 6 ∧ Dp K G dv (first ms.length R n) ∧ Dp K H vv d ∧ GoodD d
theorem st14 : PS (LX P w K mg base f cL A outer s H E) (step 14) (tPP (S11 K CH CM T a ns) (S14 K CH CM T a ns)) := by
  refine ps_pp (ps_set (i := 10) lawS.nd rfl (.inl rfl) (pe_ifExp (pt_cmp (pc_notN (pv 7))) (pv 7) (pe_tup (pa_cons pe_str (pa_cons (pe_tup (pa_cons pe_int (pa_cons pe_int pa_nil))) (pa_cons (pe_tup (pa_cons pe_int (pa_cons pe_int pa_nil))) pa_nil)))))) ?_
  rintro Dn σ H1 ⟨G, p, am, mk, rv, dv, ms, R, n, m, u1, u5, u6, u8, u9, u10, u11, u12, u13, u17, u18, rfl, wd, hs, hm, hmm, hR, rok, hM, hn, hd, m1, m2⟩ q
  have mok := menu_marks hmm
  have fin : ∀ (H2 : Hp) (vv : V) (d : PyData), Wd T p G H2 → Dp K H2 vv d → GoodD d → Dn.nx [some (.ref a), u1, some (.ref p), some (.ref am), some rv, u5, u6, some dv, u8, u9, some vv, u11, u12, u13, some (nV n), some (.ref mk), some (.int m), u17, u18] H2 := fun H2 vv d w2 h1 h2 =>
    q _ _ ⟨G, p, am, mk, rv, dv, vv, ms, R, n, d, _, _, _, _, _, _, _, _, _, _, _, rfl, w2, hs, hm, hmm, hR, rok, hM, hn, hd, h1, h2⟩
  refine ⟨_, rfl, _, rfl, ?_⟩
  rcases first_form (k := ms.length) (R := R) hn with h | ⟨x, y, h, ⟨h1, h2⟩, h3, h4⟩
  · rw [h] at hd
    cases hd
    refine iteE (c := false) rfl (iteF ?_)
    refine ⟨(by show 2 ≤ sizeLine; decide), fun t1 n1 => ⟨(by show 2 ≤ sizeLine; decide), fun t2 n2 => ⟨(by show 3 ≤ sizeLine; decide), fun t3 n3 => ?_⟩⟩⟩
    have k1 : Dp K (upd (upd H1 t1 (.tup [.int 0, .int 1])) t2 (.tup [.int 1, .int 0])) (.ref t1) (storyD [0, 1]) := dp_same (same_upd n2) (.tup (.inl (.inl upd_same)) (dp_ints [0, 1]))
    have k2 : Dp K (upd (upd H1 t1 (.tup [.int 0, .int 1])) t2 (.tup [.int 1, .int 0])) (.ref t2) (storyD [1, 0]) := .tup (.inl (.inl upd_same)) (dp_ints [1, 0])
    exact fin _ _ (askD [0, 1] [1, 0]) (((wd.up n1).up n2).up n3) (.tup (.inl (.inl upd_same)) (.cons (.str _) (.cons (dp_same (same_upd n3) k1) (.cons (dp_same (same_upd n3) k2) .nil)))) (ask_good (by decide) (by decide))
  · have hd' := hd
    rw [h] at hd'
    refine iteE (c := true) (by rw [decide_eq_false (not_non hd' (fun z => by cases z))]; rfl) (iteT ⟨_, rfl, ?_⟩)
    exact fin _ _ (askD x y) wd (dp_same wd.w hd') (ask_good h1 h3)
theorem st15 (tx : Txt K mg) (hr : Room 8 (LX P w K mg base f cL A outer s H E).A) (hgu : (LX P w K mg base f cL A outer s H E).A.guards = some []) (DD : FdG P w K mg base "_law_due" 2 ["_law_marks", "_law_rows", "_law_value"] (spDue K)) {fh : Addr} {fhd : FuncData} (DH : HoldAt P w K mg base CH CM fh fhd)
    (DB : Fd P w K mg base "_law_bent" 3 ["_law_box_here", "_law_value", "_law_many"] (spBent K)) : PS (LX P w K mg base f cL A outer s H E) (step 15) (tPP (S14 K CH CM T a ns) (S14 K CH CM T a ns)) := by
  obtain ⟨g, gV, kb, hgV⟩ := DH.kO
  refine ps_pp (ps_for PassesOwn.never rfl (pi_range1 (by rfl) tx.range (pa_cons pe_int pa_nil)) (pg_name (i := 11) lawS.nd rfl (.inl rfl)) (pss_cons (ps_set (i := 12) lawS.nd rfl (.inl rfl) (pfG DD (hr.mono (by decide)) hgu (pa_cons (pv 3) (pa_cons (pv 4) (pa_cons (pv 10) pa_nil)))))
    (pss_cons (ps_if (pt_cmpR op_ne (p_repr hgu hr.units tx.repr (pa_cons (pe_lst (pa_cons (pe_call DH.ok (hr.mono (by decide)) (by rfl) DH.gl DH.kp DH.bd .nil pass0 (pa_cons (pv 15) (pa_cons (pv 10) pa_nil))) (pa_cons (pe_kwOnly DH.ok (hr.mono (by decide)) (by rfl) DH.gl DH.kp kb pass0 (pk_cons (pv 10) (pk_cons (pv 15) pk_nil))) pa_nil))) pa_nil))
        (p_repr hgu hr.units tx.repr (pa_cons (pe_lst (pa_cons (pv 12) (pa_cons (pv 12) pa_nil))) pa_nil)) (nomark _)) (pss_one (ps_ret pe_bl)) pss_nil)
    (pss_one (ps_set (i := 10) lawS.nd rfl (.inl rfl) (pf DB (hr.mono (by decide)) (pa_cons (pv 2) (pa_cons (pe_ifExp (pt_cmp (pc_notN (pv 7))) (pv 7) (pe_tup (pa_cons pe_str (pa_cons (pe_tup (pa_cons pe_int (pa_cons pe_int (pa_cons pe_int pa_nil)))) (pa_cons (pe_tup (pa_cons pe_int (pa_cons pe_int (pa_cons pe_int pa_nil)))) pa_nil)))))
      (pa_cons (p_len tx.len (pa_cons (pv 3) pa_nil)) pa_nil))))))))) ?_
  rintro Dn σ H1 ⟨G, p, am, mk, rv, dv, vv, ms, R, n, d, u1, u5, u6, u8, u9, u11, u12, u13, u16, u17, u18, rfl, wd, hs, hm, hmm, hR, rok, hM, hn, hd, hv, good⟩ q
  have mok := menu_marks hmm
  have lm : (marksV ms).length = ms.length := List.length_map ..
  refine ⟨8, rfl, by decide, by decide, ?_⟩
  rw [show ((8 : Int)).toNat = 8 from rfl]
  refine for_range (n := 8) (fun i σ' H' => ∃ vv d u11 u12, σ' = [some (.ref a), u1, some (.ref p), some (.ref am), some rv, u5, u6, some dv, u8, u9, some vv, u11, u12, u13, some (nV n), some (.ref mk), u16, u17, u18] ∧ Wd T p G H' ∧ Dp K H' vv d ∧ GoodD d)
    ⟨vv, d, u11, u12, rfl, wd, hv, good⟩ ?_ ?_
  · rintro i σ' H2 hi ⟨vv, d, u11, u12, rfl, w2, hv, good⟩
    refine ⟨_, rfl, _, rfl, _, rfl, am, rv, vv, ms, R, d, rfl, w2.w.seq hm, dp_same w2.w hR, mok, rok, hv, good, fun H3 s3 => ?_⟩
    have w3 := w2.same s3
    have hi' : ∀ e, e ∈ itemsOf d → (itemsOf e).length ≤ 10000 := fun e he => (good.items e he).len
    refine ⟨_, rfl, _, rfl, mk, vv, d, ms, R, rfl, hM.same w3.w, mok, rok, dp_same s3 hv, hi', fun H4 s4 => ?_⟩
    have w4 := w3.same s4
    refine ⟨_, rfl, _, rfl, rfl, ?_⟩
    rw [hgV]
    refine ⟨mk, vv, d, ms, R, rfl, hM.same w4.w, mok, rok, dp_same (s3.trans s4) hv, hi', fun H5 s5 => ?_⟩
    have w5 := w4.same s5
    obtain ⟨b1, b2, b3⟩ := showB (holdsD ms.length R d)
    have b4 : (PyData.list [.bool (holdsD ms.length R d), .bool (holdsD ms.length R d)]).shown.length ≤ sizeLine := Nat.le_of_lt (small5 (by omega))
    refine ⟨(by show 2 ≤ sizeLine; decide), fun l1 n1 => ?_⟩
    refine ⟨_, _, rfl, .lst (.inl (.inl upd_same)) (.cons (.bl _) (.cons (.bl _) .nil)), b1, b2, b4, ?_⟩
    refine ⟨_, rfl, _, rfl, (by show 2 ≤ sizeLine; decide), fun l2 n2 => ?_⟩
    refine ⟨_, _, rfl, .lst (.inl (.inl upd_same)) (.cons (.bl _) (.cons (.bl _) .nil)), b1, b2, b4, rfl, _, rfl, ?_⟩
    refine iteE (c := false) (by simp) (iteF ?_)
    have w6 := (w5.up (o := .lst [.bl (holdsD ms.length R d), .bl (holdsD ms.length R d)]) n1).up (o := .lst [.bl (holdsD ms.length R d), .bl (holdsD ms.length R d)]) n2
    generalize upd (upd H5 l1 _) l2 _ = H6 at w6
    have fin : ∀ (H7 : Hp) (x : V) (y z : List Nat), Wd T p G H7 → Dp K H7 x (askD y z) → y.length ≤ 100 → z.length ≤ 100 → spBent K [.ref p, x, nV ms.length] H7 (fun v H8 => gName 10 v [some (.ref a), u1, some (.ref p), some (.ref am), some rv, u5, u6, some dv, u8, u9, some vv, some (.int ((0 : Int) + (i : Nat))), some (.bl (holdsD ms.length R d)), u13, some (nV n), some (.ref mk), u16, u17, u18] H8
        fun σ' H' => ∃ vv d u11 u12, σ' = [some (.ref a), u1, some (.ref p), some (.ref am), some rv, u5, u6, some dv, u8, u9, some vv, u11, u12, u13, some (nV n), some (.ref mk), u16, u17, u18] ∧ Wd T p G H' ∧ Dp K H' vv d ∧ GoodD d) E0 := by
      intro H7 x y z w7 hx l1 l2
      refine ⟨p, x, y, z, ms.length, rfl, w7.box, hx, l1, l2, by have := mok.1; omega, by have := mok.2.1; omega, fun H8 v d' sb B8 hv' good' => ?_⟩
      exact ⟨v, d', _, _, rfl, w7.sb sb B8, hv', good'⟩
    refine ⟨_, rfl, _, rfl, _, rfl, ?_⟩
    rcases first_form (k := ms.length) (R := R) hn with h | ⟨x, y, h, ⟨h1, h2⟩, h3, h4⟩
    · have hd' := hd
      rw [h] at hd'
      cases hd'
      refine iteE (c := false) rfl (iteF ?_)
      refine ⟨(by show 3 ≤ sizeLine; decide), fun t1 n1 => ⟨(by show 3 ≤ sizeLine; decide), fun t2 n2 => ⟨(by show 3 ≤ sizeLine; decide), fun t3 n3 => ?_⟩⟩⟩
      have k1 : Dp K (upd (upd H6 t1 (.tup [.int 0, .int 1, .int 1])) t2 (.tup [.int 1, .int 0, .int 1])) (.ref t1) (storyD [0, 1, 1]) := dp_same (same_upd n2) (.tup (.inl (.inl upd_same)) (dp_ints [0, 1, 1]))
      have k2 : Dp K (upd (upd H6 t1 (.tup [.int 0, .int 1, .int 1])) t2 (.tup [.int 1, .int 0, .int 1])) (.ref t2) (storyD [1, 0, 1]) := .tup (.inl (.inl upd_same)) (dp_ints [1, 0, 1])
      have w7 := ((w6.up n1).up n2).up n3 (o := .tup [.str "stories", .ref t1, .ref t2])
      refine ⟨_, rfl, am, _, rfl, .inl (w7.w.seq hm), ?_⟩
      rw [lm]
      exact fin _ _ [0, 1, 1] [1, 0, 1] w7 (.tup (.inl (.inl upd_same)) (.cons (.str _) (.cons (dp_same (same_upd n3) k1) (.cons (dp_same (same_upd n3) k2) .nil)))) (by decide) (by decide)
    · have hd' := hd
      rw [h] at hd'
      refine iteE (c := true) (by rw [decide_eq_false (not_non hd' (fun z => by cases z))]; rfl) (iteT ⟨_, rfl, ?_⟩)
      refine ⟨_, rfl, am, _, rfl, .inl (w6.w.seq hm), ?_⟩
      rw [lm]
      exact fin _ _ x y w6 (dp_same w6.w hd') h1 h3
  · rintro σ' H2 ⟨vv, d, u11, u12, rfl, w2, hv, good⟩
    exact q _ _ ⟨G, p, am, mk, rv, dv, vv, ms, R, n, d, _, _, _, _, _, _, _, _, _, _, _, rfl, w2, hs, hm, hmm, hR, rok, hM, hn, hd, hv, good⟩
end
end Lg
set_option Elab.async false
set_option maxRecDepth 100000
set_option maxHeartbeats 2000000
namespace Lg
open PySem PySem.Spec PyProof.Rows L2 LamX
/-- a value that holds for no marker -/
structure NoHold (K : PySem.W.Frag) (H : Hp) (x : V) : Prop where
  ex : ∃ d, Dp K H x d ∧ (∀ e, e ∈ itemsOf d → (itemsOf e).length ≤ 10000) ∧ ∀ k R, holdsD k R d = false
theorem NoHold.same {K : PySem.W.Frag} {H H' : Hp} {x : V} (h : NoHold K H x) (s : Same H H') : NoHold K H' x := by
  obtain ⟨d, h1, h2, h3⟩ := h.ex
  exact ⟨d, dp_same s h1, h2, h3⟩
theorem no_twice (k : Nat) (R : Rows) : holdsD k R (.tuple [.str "stories", .tuple [], .tuple []]) = false := by
  show (true && holds3 k R (.str "stories") (.tuple []) (.tuple [])) = false
  rw [Bool.true_and]
  unfold holds3
  rw [decide_eq_true (rfl : natsOf (.tuple []) = natsOf (.tuple []))]
  simp
def bads : List V := [.int 401, .int (0 - 1), .non, .bl true, .str "2"]
structure BadOk (x : V) (d : PyData) : Prop where
  dp : ∀ (K : PySem.W.Frag) (H : Hp), Dp K H x d
  no : withinD 0 400 d = false
  sh : d.showable = true
  dpt : d.depth ≤ 60
  len : d.shown.length ≤ 1000
  lay : (PyData.str d.shown).canLay0 = true
theorem bad_ok {x : V} (h : x ∈ bads) : ∃ d, BadOk x d := by
  have h' : x = .int 401 ∨ x = .int (0 - 1) ∨ x = .non ∨ x = .bl true ∨ x = .str "2" := by simpa [bads] using h
  rcases h' with rfl | rfl | rfl | rfl | rfl
  · exact ⟨.int 401, fun _ _ => .int _, by decide +kernel, by decide +kernel, by decide +kernel, by decide +kernel, by decide +kernel⟩
  · exact ⟨.int (0 - 1), fun _ _ => .int _, by decide +kernel, by decide +kernel, by decide +kernel, by decide +kernel, by decide +kernel⟩
  · exact ⟨.none, fun _ _ => .non, by decide +kernel, by decide +kernel, by decide +kernel, by decide +kernel, by decide +kernel⟩
  · exact ⟨.bool true, fun _ _ => .bl _, by decide +kernel, by decide +kernel, by decide +kernel, by decide +kernel, by decide +kernel⟩
  · exact ⟨.str "2", fun _ _ => .str _, by decide +kernel, by decide +kernel, by decide +kernel, by decide +kernel, by decide +kernel⟩
section
variable {P : Program} {w : World} {K : PySem.W.Frag} {mg : Str → Option Value} {base : Heap} {f cL CH CM CR CT CE : Addr} {A : Around} {outer : List Env} {s : Shared} {H : Hp} {E : XK} {T : List (Addr × Str)} {a : Addr} {ns : List Int}
/-- the end's state: the marker is known -/
def S16 (K : PySem.W.Frag) (CH CM : Addr) (T : List (Addr × Str)) (a : Addr) (ns : List Int) : LSt → Hp → Prop := fun σ H => ∃ (G : Hp) (p mk : Addr) (ms : List Nat) (R : Rows) (u1 u3 u4 u5 u6 u7 u8 u9 u10 u11 u12 u13 u14 u16 u17 u18 : Option V), σ = [some (.ref a), u1, some (.ref p), u3, u4, u5, u6, u7, u8, u9, u10, u11, u12, u13, u14, some (.ref mk), u16, u17, u18] ∧
  Wd T p G H ∧ SqL K G a (ns.map V.int) ∧ ms ∈ menus ∧ RowsOk ms R ∧ MarkerAt K CH CM G mk ms R
theorem st16 (hr : Room 8 (LX P w K mg base f cL A outer s H E).A) {fh : Addr} {fhd : FuncData} (DH : HoldAt P w K mg base CH CM fh fhd) : PS (LX P w K mg base f cL A outer s H E) (step 16) (tPP (S14 K CH CM T a ns) (S16 K CH CM T a ns)) := by
  refine ps_pp (ps_for PassesOwn.never rfl (pi_tup (pe_tup (pa_cons pe_non (pa_cons (pe_tup pa_nil) (pa_cons pe_str (pa_cons pe_int (pa_cons (pe_tup (pa_cons pe_str pa_nil)) (pa_cons (pe_tup (pa_cons pe_str (pa_cons (pe_tup pa_nil) (pa_cons (pe_tup pa_nil) pa_nil)))) pa_nil)))))))) (pg_name (i := 10) lawS.nd rfl (.inl rfl))
    (pss_one (ps_if (pt_cmpR op_isnot_bl (pe_call DH.ok (hr.mono (by decide)) (by rfl) DH.gl DH.kp DH.bd .nil pass0 (pa_cons (pv 15) (pa_cons (pv 10) pa_nil))) pe_bl (by rfl)) (pss_one (ps_ret pe_bl)) pss_nil))) ?_
  rintro Dn σ H1 ⟨G, p, am, mk, rv, dv, vv, ms, R, n, d, u1, u5, u6, u8, u9, u11, u12, u13, u16, u17, u18, rfl, wd, hs, hm, hmm, hR, rok, hM, hn, hd, hv, good⟩ q
  have mok := menu_marks hmm
  refine ⟨(by show 0 ≤ sizeLine; exact Nat.zero_le _), fun t1 n1 => ⟨(by show 1 ≤ sizeLine; decide), fun t2 n2 => ⟨(by show 0 ≤ sizeLine; exact Nat.zero_le _), fun t3 n3 => ⟨(by show 0 ≤ sizeLine; exact Nat.zero_le _), fun t4 n4 => ⟨(by show 3 ≤ sizeLine; decide), fun t5 n5 => ⟨(by show 6 ≤ sizeLine; decide), fun t6 n6 => ?_⟩⟩⟩⟩⟩⟩
  have w1 := wd.up (o := .tup []) n1
  have k1 := upd_same (H := H1) (a := t1) (o := .tup [])
  generalize upd H1 t1 _ = H2 at w1 k1 n2 n3 n4 n5 n6 ⊢
  have w2 := w1.up (o := .tup [.str "stories"]) n2
  have s2 := same_upd (o := .tup [.str "stories"]) n2
  have k2 := upd_same (H := H2) (a := t2) (o := .tup [.str "stories"])
  generalize upd H2 t2 _ = H3 at w2 s2 k2 n3 n4 n5 n6 ⊢
  have w3 := w2.up (o := .tup []) n3
  have s3 := same_upd (o := .tup []) n3
  have k3 := upd_same (H := H3) (a := t3) (o := .tup [])
  generalize upd H3 t3 _ = H4 at w3 s3 k3 n4 n5 n6 ⊢
  have w4 := w3.up (o := .tup []) n4
  have s4 := same_upd (o := .tup []) n4
  have k4 := upd_same (H := H4) (a := t4) (o := .tup [])
  generalize upd H4 t4 _ = H5 at w4 s4 k4 n5 n6 ⊢
  have w5 := w4.up (o := .tup [.str "stories", .ref t3, .ref t4]) n5
  have s5 := same_upd (o := .tup [.str "stories", .ref t3, .ref t4]) n5
  have k5 := upd_same (H := H5) (a := t5) (o := .tup [.str "stories", .ref t3, .ref t4])
  generalize upd H5 t5 _ = H6 at w5 s5 k5 n6 ⊢
  have w6 := w5.up (o := .tup [.non, .ref t1, .str "stories", .int 5, .ref t2, .ref t5]) n6
  have s6 := same_upd (o := .tup [.non, .ref t1, .str "stories", .int 5, .ref t2, .ref t5]) n6
  have k6 := upd_same (H := H6) (a := t6) (o := .tup [.non, .ref t1, .str "stories", .int 5, .ref t2, .ref t5])
  generalize upd H6 t6 _ = H7 at w6 s6 k6 ⊢
  have nest : ∀ {t : Addr} {K : PySem.W.Frag} {H : Hp}, H t = some (.tup []) → Dp K H (.ref t) (.tuple []) := fun h => .tup (.inl (.inl h)) .nil
  have all : ∀ x, x ∈ [V.non, .ref t1, .str "stories", .int 5, .ref t2, .ref t5] → NoHold K H7 x := by
    intro x hx
    have hx' : x = .non ∨ x = .ref t1 ∨ x = .str "stories" ∨ x = .int 5 ∨ x = .ref t2 ∨ x = .ref t5 := by simpa using hx
    rcases hx' with rfl | rfl | rfl | rfl | rfl | rfl
    · exact ⟨_, .non, fun e h => absurd (show e ∈ ([] : List PyData) from h) (by simp), fun _ _ => rfl⟩
    · exact ⟨_, nest ((s2.trans (s3.trans (s4.trans (s5.trans s6)))) _ _ k1), fun e h => absurd (show e ∈ ([] : List PyData) from h) (by simp), fun _ _ => rfl⟩
    · exact ⟨_, .str _, fun e h => absurd (show e ∈ ([] : List PyData) from h) (by simp), fun _ _ => rfl⟩
    · exact ⟨_, .int _, fun e h => absurd (show e ∈ ([] : List PyData) from h) (by simp), fun _ _ => rfl⟩
    · refine ⟨_, .tup (.inl (.inl ((s3.trans (s4.trans (s5.trans s6))) _ _ k2))) (.cons (.str _) .nil), fun e h => ?_, fun _ _ => rfl⟩
      rw [List.mem_singleton.mp (show e ∈ [PyData.str "stories"] from h)]
      decide
    · refine ⟨_, .tup (.inl (.inl (s6 _ _ k5))) (.cons (.str _) (.cons (nest ((s4.trans (s5.trans s6)) _ _ k3)) (.cons (nest ((s5.trans s6) _ _ k4)) .nil))), fun e h => ?_, no_twice⟩
      have h' : e = .str "stories" ∨ e = .tuple [] := by simpa [itemsOf] using h
      rcases h' with rfl | rfl <;> decide
  have hT : SqT K H7 t6 [V.non, .ref t1, .str "stories", .int 5, .ref t2, .ref t5] := .inl (.inl k6)
  refine ⟨t6, rfl, ⟨_, hT⟩, for_tup (K := K) (a := t6) (xs := [V.non, .ref t1, .str "stories", .int 5, .ref t2, .ref t5])
    (fun i σ' H' => ∃ u10, σ' = [some (.ref a), u1, some (.ref p), some (.ref am), some rv, u5, u6, some dv, u8, u9, u10, u11, u12, u13, some (nV n), some (.ref mk), u16, u17, u18] ∧ Same H7 H') ⟨_, rfl, Same.refl _⟩ (fun i σ' H' _ h => by obtain ⟨_, _, s8⟩ := h; exact Same.seqT s8 hT) ?_ ?_⟩
  · rintro i x σ' H8 hi ⟨u10, rfl, s8⟩
    obtain ⟨d, h1, h2, h3⟩ := ((all x (List.mem_of_getElem? hi)).same s8).ex
    have w8 := w6.same s8
    refine ⟨_, rfl, _, rfl, mk, x, d, ms, R, rfl, hM.same w8.w, mok, rok, h1, h2, fun H9 s9 => ⟨_, _, rfl, rfl, _, rfl, ?_⟩⟩
    refine iteE (c := false) (by rw [h3]; rfl) (iteF ?_)
    exact ⟨_, rfl, s8.trans s9⟩
  · rintro σ' H8 ⟨u10, rfl, s8⟩
    exact q _ _ ⟨G, p, mk, ms, R, _, _, _, _, _, _, _, _, _, _, _, _, _, _, _, _, rfl, w6.same s8, hs, hmm, rok, hM⟩
def S17 (K : PySem.W.Frag) (CH CM : Addr) (T : List (Addr × Str)) (a : Addr) (ns : List Int) : LSt → Hp → Prop := fun σ H => ∃ (G : Hp) (p mk : Addr) (ms : List Nat) (R : Rows) (x : V) (u1 u3 u4 u5 u6 u7 u8 u9 u10 u11 u12 u14 u16 u17 u18 : Option V), σ = [some (.ref a), u1, some (.ref p), u3, u4, u5, u6, u7, u8, u9, u10, u11, u12, some x, u14, some (.ref mk), u16, u17, u18] ∧
  Wd T p G H ∧ SqL K G a (ns.map V.int) ∧ ms ∈ menus ∧ RowsOk ms R ∧ MarkerAt K CH CM G mk ms R ∧ x ∈ bads
theorem st17 (hr : Room 8 (LX P w K mg base f cL A outer s H E).A) (DP : DPick P w K mg base) : PS (LX P w K mg base f cL A outer s H E) (step 17) (tPP (S16 K CH CM T a ns) (S17 K CH CM T a ns)) := by
  refine ps_pp (ps_set (i := 13) lawS.nd rfl (.inr rfl) (pf DP (hr.mono (by decide)) (pa_cons (pv 2) (pa_cons (pe_lst (pa_cons pe_int (pa_cons (pe_op op_sub pe_int pe_int) (pa_cons pe_non (pa_cons pe_bl (pa_cons pe_str pa_nil)))))) pa_nil)))) ?_
  rintro Dn σ H1 ⟨G, p, mk, ms, R, u1, u3, u4, u5, u6, u7, u8, u9, u10, u11, u12, u13, u14, u16, u17, u18, rfl, wd, hs, hmm, rok, hM⟩ q
  refine ⟨_, rfl, _, _, rfl, rfl, (by show 5 ≤ sizeLine; decide), fun l nl => ?_⟩
  refine ⟨p, l, bads, rfl, wd.box.new nl, .inl (.inl upd_same), (wd.box.ne nl).symm, by decide, by decide, fun H3 x hx but3 B3 => ?_⟩
  exact q _ _ ⟨G, p, mk, ms, R, x, _, _, _, _, _, _, _, _, _, _, _, _, _, _, _, rfl, (wd.up nl).but but3 B3, hs, hmm, rok, hM, hx⟩
/-- a turn's end -/
def SE (K : PySem.W.Frag) (T : List (Addr × Str)) (a : Addr) (ns : List Int) : LSt → Hp → Prop := fun σ H => ∃ (G : Hp) (u1 u2 u3 u4 u5 u6 u7 u8 u9 u10 u11 u12 u13 u14 u15 u16 u17 u18 : Option V), σ = [some (.ref a), u1, u2, u3, u4, u5, u6, u7, u8, u9, u10, u11, u12, u13, u14, u15, u16, u17, u18] ∧
  Same G H ∧ (∀ b ps, G b ≠ some (.tbl ps)) ∧ Tabs T H ∧ SqL K G a (ns.map V.int)
end
end Lg
set_option Elab.async false
set_option maxRecDepth 100000
set_option maxHeartbeats 2000000
namespace Lg
open PySem PySem.Spec PyProof.Rows L2 LamX
theorem shaped_refused {y : Str} (h : (PyData.str y).canLay0 = true) : SeqAt.shaped (.tuple [.str "refused", .str y, .bool true]) = true := by
  unfold SeqAt.shaped
  have e : (PyData.tuple [.str "refused", .str y, .bool true]).canLay0 = true := by
    show ((PyData.str "refused").canLay0 && ((PyData.str y).canLay0 && (true && true))) = true
    rw [h]
    decide +kernel
  rw [e, Bool.true_and]
  exact decide_eq_true (show (1 : Nat) ≤ 64 by decide)
theorem eqv_refused (y : Str) : PyData.eqv (.tuple [.str "refused", .str y, .bool true]) (.tuple [.str "refused", .str y, .bool true]) = true := by
  show (PyData.eqv (.str "refused") (.str "refused") && ((y == y) && (true && true))) = true
  rw [show PyData.eqv (.str "refused") (.str "refused") = true by decide +kernel]
  simp
section
variable {P : Program} {w : World} {K : PySem.W.Frag} {mg : Str → Option Value} {base : Heap} {f cL CH CM CR CT CE : Addr} {A : Around} {outer : List Env} {s : Shared} {H : Hp} {E : XK} {a : Addr} {ns : List Int}
theorem st18 (HA : HeardAt K mg) (EI : ErrIs K CT CR CE) (mT : mg "TooGreat" = some (.ref CT)) (mR : mg "Refused" = some (.ref CR)) (mL : mg "LogError" = some (.ref CE)) (tx : Txt K mg) (TB : TabB base mg cL 354)
    (hr : Room 8 (LX P w K mg base f cL A outer s H E).A) (hgu : (LX P w K mg base f cL A outer s H E).A.guards = some []) {ft : Addr} {ftd : FuncData} (DT : TwoAt P w K mg base CH CM CR CT ft ftd) :
    PS (LX P w K mg base f cL A outer s H E) (step 18) (tPP (S17 K CH CM lamT a ns) (SE K lamT a ns)) := by
  obtain ⟨ds, vds, bd⟩ := DT.bd
  refine ps_pp (ps_if (pw_or (pt_cmpR (op_neD hr.units) (pe_heard (k := 6) (t := fun E' => tCall (spTwo K CH CM CR CT) [.int 20000] E' (tCons (tVar 15) (tCons (tVar 13) tNil))) HA EI mT mR mL tx TB hr hgu (lamS_by (by decide +kernel)) rfl (fun _ _ _ _ _ => by with_unfolding_all rfl)
      (fun A' outer' s' H' E' g' c' hr2 => by exact pe_call (X := lamCx (LX P w K mg base f cL A outer s H E) A' outer' s' H' E' _ g' c') DT.ok (hr2.mono (by decide)) (by rfl) DT.gl DT.kp bd vds (passes_call (takes_of rfl rfl rfl rfl) fun _ _ _ _ h => h) (pa_cons (pv 15) (pa_cons (pv 13) pa_nil))))
      (pe_tup (pa_cons pe_str (pa_cons (p_repr hgu hr.units tx.repr (pa_cons (pv 13) pa_nil)) (pa_cons pe_bl pa_nil)))) (nomark _))
    (pw_or1 (pt_cmp (pc_notN (pe_call DT.ok (hr.mono (by decide)) (by rfl) DT.gl DT.kp bd vds passF (pa_cons (pv 15) (pa_cons pe_int pa_nil))))))).pt (pss_one (ps_ret pe_bl)) pss_nil) ?_
  rintro Dn σ H1 ⟨G, p, mk, ms, R, x, u1, u3, u4, u5, u6, u7, u8, u9, u10, u11, u12, u14, u16, u17, u18, rfl, wd, hs, hmm, rok, hM, hx⟩ q
  have mok := menu_marks hmm
  obtain ⟨d, bo⟩ := bad_ok hx
  refine ⟨wd.tabs, fun H2 x2 t2 => ?_⟩
  have w2 := wd.ext x2 t2
  refine ⟨_, rfl, _, rfl, mk, x, d, ms, R, 20000, rfl, hM.same w2.w, mok, rok, bo.dp _ _, .inl ⟨bo.no, fun dd nd => ⟨dd, rfl, .inr ⟨rfl, x, d, upd_same, bo.dp _ _, bo.sh, bo.dpt, bo.len, fun H4 t s4 ht => ?_⟩⟩⟩⟩
  have w4 := (w2.up (o := .xd [("at", x)]) nd).same s4
  refine ⟨_, rfl, x, d, rfl, bo.dp _ _, bo.sh, bo.dpt, by show _ ≤ sizeLine; exact Nat.le_of_lt (small5 (by have := bo.len; omega)), (by show 3 ≤ sizeLine; decide), fun t2' n2 => ?_⟩
  refine ⟨_, _, .tup (.inl (.inl ((same_upd n2) _ _ ht))) (.cons (.str _) (.cons (.str _) (.cons (.bl _) .nil))), .tup (.inl (.inl upd_same)) (.cons (.str _) (.cons (.str _) (.cons (.bl _) .nil))), shaped_refused bo.lay, shaped_refused bo.lay, _, rfl, ?_⟩
  refine iteE (c := false) (by rw [eqv_refused]; rfl) (iteF ?_)
  have w5 := w4.up (o := .tup [.str "refused", .str d.shown, .bl true]) n2
  refine ⟨_, rfl, two_read (CR := CR) (CT := CT) (n := 0) (hM.same w5.w) mok rok (by decide) fun H6 z s6 hz => ?_⟩
  have hz' : Dp K H6 z .none := hz
  cases hz'
  refine ⟨_, rfl, iteE (c := false) rfl (iteF ?_)⟩
  have w6 := w5.same s6
  exact q _ _ ⟨G, _, _, _, _, _, _, _, _, _, _, _, _, _, _, _, _, _, _, rfl, w6.w, w6.nt, w6.tabs, hs⟩
end
end Lg
set_option Elab.async false
set_option maxRecDepth 100000
set_option maxHeartbeats 2000000
namespace Lg
open PySem PySem.Spec PyProof.Rows L2 LamX
/-- H without its tables -/
def clean (H : Hp) : Hp := fun b => match H b with
  | some (.tbl _) => none
  | o => o
theorem clean_of {b : Addr} {H : Hp} {u : HO} (h : clean H b = some u) : H b = some u ∧ ∀ ps, u ≠ .tbl ps := by
  unfold clean at h
  cases e : H b with
  | none =>
    rw [e] at h
    cases h
  | some v =>
    rw [e] at h
    cases v <;> first | (cases h; exact ⟨rfl, fun ps z => by cases z⟩) | cases h
theorem clean_seq {K : PySem.W.Frag} {H : Hp} {a : Addr} {xs : List V} (h : SqL K H a xs) : SqL K (clean H) a xs := by
  rcases h with (h | ⟨o, h⟩) | h
  · refine .inl (.inl ?_)
    unfold clean
    rw [h]
  · refine .inl (.inr ⟨o, ?_⟩)
    unfold clean
    rw [h]
  · exact .inr h
/-- all that the law calls -/
structure Parts (P : Program) (w : World) (K : PySem.W.Frag) (mg : Str → Option Value) (base : Heap) (cL CH CM CR CT CE : Addr) (ft fh : Addr) (ftd fhd : FuncData) : Prop where
  tx : Txt K mg
  box : Fd P w K mg base "_law_box" 1 ["_law_script", "_law_k"] (spBox K)
  pick : DPick P w K mg base
  take : DTake P w K mg base
  hands : MkAt P w K mg base "Hands" CH 4 ["self", "marks"] (spHandsI K CH)
  marker : MkAt P w K mg base "Marker" CM 6 ["self", "hands", "rows"] (spMarkerI K CH CM)
  first : FdG P w K mg base "_law_first" 2 ["_law_marks", "_law_rows", "_law_length"] (spFirst K)
  two : TwoAt P w K mg base CH CM CR CT ft ftd
  hold : HoldAt P w K mg base CH CM fh fhd
  stories : DStories P w K mg base
  due : FdG P w K mg base "_law_due" 2 ["_law_marks", "_law_rows", "_law_value"] (spDue K)
  bent : Fd P w K mg base "_law_bent" 3 ["_law_box_here", "_law_value", "_law_many"] (spBent K)
  heard : HeardAt K mg
  errs : ErrIs K CT CR CE
  mT : mg "TooGreat" = some (.ref CT)
  mR : mg "Refused" = some (.ref CR)
  mL : mg "LogError" = some (.ref CE)
  tab : TabB base mg cL 354
def spLaw (K : PySem.W.Frag) : Sp := fun vs H Q _ => ∃ (a : Addr) (ns : List Int), vs = [.ref a] ∧ SqL K H a (ns.map V.int) ∧ H 354 = some (.tbl #[]) ∧ ∀ H', Q (.bl true) H'
theorem ok_law {P : Program} {w : World} {K : PySem.W.Frag} {mg : Str → Option Value} {base : Heap} {fl cL CH CM CR CT CE ft fh : Addr} {ftd fhd : FuncData} {oc dV kV doc pm ct : Value} {od an : Option Addr} {osl : Array (Option Value)}
    (lk : K.lookup fl = some ⟨oc, od, .func (PySem.W.fnOf "law" "law" (defArgs (top 46)) (defBody (top 46)) (defScope (top 46)) dV kV doc pm an (.ref cL) ct), osl⟩) (hcd : PySem.W.codeIn K (.ref cL) "law" = true) (D : Parts P w K mg base cL CH CM CR CT CE ft fh ftd fhd) :
    FnG P w K mg base 9 fl (PySem.W.fnOf "law" "law" (defArgs (top 46)) (defBody (top 46)) (defScope (top 46)) dV kV doc pm an (.ref cL) ct) ["_law_script"] (spLaw K) := by
  refine ⟨fun vs H Q E h => ?_, fun A outer s H args us vs Q E hr hg e0 hb r hsp => ?_⟩
  · obtain ⟨a, ns, rfl, _⟩ := h
    rfl
  refine LamX.run_ofS lk hcd lawS hr e0 hb r (by obtain ⟨a, ns, rfl, _⟩ := hsp; rfl) fun hr' => ?_
  obtain ⟨a, ns, rfl, hs, ht, q⟩ := hsp
  have hg' : (LX P w K mg base fl cL A outer s H E).A.guards = some [] := hg
  have hr8 : Room 8 (LX P w K mg base fl cL A outer s H E).A := hr'
  have body : PSs (LX P w K mg base fl cL A outer s H E) (defBody (top 46)) _ := pss_cons (ps_for PassesOwn.never rfl (pi_range1 (by rfl) D.tx.range (pa_cons pe_int pa_nil)) (pg_name (i := 1) lawS.nd rfl (.inl rfl))
    (pss_cons (st0 (T := lamT) (a := a) (ns := ns) hr8 D.box) (pss_cons (st1 (T := lamT) (a := a) (ns := ns) hr8 D.pick) (pss_cons (st2 (T := lamT) (a := a) (ns := ns) hr8 D.take) (pss_cons (st3 (T := lamT) (a := a) (ns := ns) hr8 D.tx D.take) (pss_cons (st4 (T := lamT) (a := a) (ns := ns) hr8 D.tx D.take)
    (pss_cons (st5 (T := lamT) (a := a) (ns := ns) hr8 D.tx D.take D.hands D.marker) (pss_cons (st6 (CH := CH) (CM := CM) (T := lamT) (a := a) (ns := ns) hr8 hg' D.first) (pss_cons (st7 (T := lamT) (a := a) (ns := ns) hr8 D.two) (pss_cons (st8 (T := lamT) (a := a) (ns := ns) hr8 hg' D.tx D.two) (pss_cons (st9 (CH := CH) (CM := CM) (T := lamT) (a := a) (ns := ns) hr8)
    (pss_cons (st10 (CH := CH) (CM := CM) (T := lamT) (a := a) (ns := ns) hr8) (pss_cons (st11 (CH := CH) (CM := CM) (T := lamT) (a := a) (ns := ns) hr8 D.take) (pss_cons (st12 (a := a) (ns := ns) D.heard D.errs D.mT D.mR D.mL D.tx D.tab hr8 hg' D.two) (pss_cons (st13 (CH := CH) (CM := CM) (T := lamT) (a := a) (ns := ns) D.tx hr8 D.stories) (pss_cons (st14 (CH := CH) (CM := CM) (T := lamT) (a := a) (ns := ns))
    (pss_cons (st15 (T := lamT) (a := a) (ns := ns) D.tx hr8 hg' D.due D.hold D.bent) (pss_cons (st16 (T := lamT) (a := a) (ns := ns) hr8 D.hold) (pss_cons (st17 (CH := CH) (CM := CM) (T := lamT) (a := a) (ns := ns) hr8 D.pick) (pss_one (st18 (a := a) (ns := ns) D.heard D.errs D.mT D.mR D.mL D.tx D.tab hr8 hg' D.two))))))))))))))))))))) (pss_one (ps_ret pe_bl))
  refine ⟨_, body.nox, ?_⟩
  refine ⟨2, rfl, by decide, by decide, ?_⟩
  rw [show ((2 : Int)).toNat = 2 from rfl]
  refine for_range (n := 2) (fun _ σ' H' => SE K lamT a ns σ' H') ?_ ?_ ?_
  · refine ⟨clean H, _, _, _, _, _, _, _, _, _, _, _, _, _, _, _, _, _, _, rfl, fun b u e => (clean_of e).1, fun b ps e => (clean_of e).2 ps rfl, fun p hp => ?_, clean_seq hs⟩
    rw [List.mem_singleton.mp hp]
    exact TabS.nil ht
  · rintro i σ' H2 hi ⟨G, u1, u2, u3, u4, u5, u6, u7, u8, u9, u10, u11, u12, u13, u14, u15, u16, u17, u18, rfl, sg, nt, tb, hsG⟩
    rw [Int.zero_add]
    exact ⟨⟨G, i, _, _, _, _, _, _, _, _, _, _, _, _, _, _, _, _, _, rfl, by omega, sg, nt, tb, hsG⟩, fun _ _ h => ⟨h, fun _ _ h => ⟨h, fun _ _ h => ⟨h, fun _ _ h => ⟨h, fun _ _ h => ⟨h, fun _ _ h => ⟨h, fun _ _ h => ⟨h, fun _ _ h => ⟨h, fun _ _ h => ⟨h, fun _ _ h => ⟨h,
      fun _ _ h => ⟨h, fun _ _ h => ⟨h, fun _ _ h => ⟨h, fun _ _ h => ⟨h, fun _ _ h => ⟨h, fun _ _ h => ⟨h, fun _ _ h => ⟨h, fun _ _ h => ⟨h, fun _ _ h => h⟩⟩⟩⟩⟩⟩⟩⟩⟩⟩⟩⟩⟩⟩⟩⟩⟩⟩⟩
  · exact fun σ' H2 _ => q H2
end Lg
set_option Elab.async false
set_option maxRecDepth 100000
set_option maxHeartbeats 0
namespace Lg
open PySem PySem.Spec PyProof.Rows L2 LamX
/-! ### the calls of two_stories and of stories_hold, by how they bind -/
theorem two_at {P : Program} {w : World} {K : PySem.W.Frag} {mg : Str → Option Value} {base : Heap} {CH CM CR CT f : Addr} {fd : FuncData} (F : FunD K "two_stories" "two_stories" (defArgs (top 30)) (defBody (top 30)) (defScope (top 30)) [] [("most", .int 20000)] f fd)
    (ok : FnOk P w K mg base (L2.CX P w) 3 f fd ["marker", "length", "most"] (spTwo K CH CM CR CT)) (m : mg "two_stories" = some (.ref f)) : TwoAt P w K mg base CH CM CR CT f fd := by
  refine ⟨ok, m, F.kp, F.binds0 2 (by simp) rfl fun D doc pm an cdv ct us ks h1 h2 => ?_, ?_, ?_⟩
  · match us, ks, h1, h2 with
    | [x, y], [z], _, _ => exact ⟨_, _, _, _, _, _, by with_unfolding_all rfl, by with_unfolding_all rfl, by with_unfolding_all rfl⟩
  · obtain ⟨mv, kb⟩ := F.kbinds0 (ps := ["marker", "length", "most"]) 0 ["length", "marker", "most"] [] (fun _ _ zs => match zs with | [l, m, o] => [m, l, o] | _ => []) (by simp) (fun q hq => absurd hq (by simp)) (fun {vs mz zs us mv ws} r1 r2 r3 => by
        match zs, ws, r3 with
        | [], [], _ => exact .nil
        | [_], [_], _ => exact .nil
        | [_, _], [_, _], _ => exact .nil
        | [_, _, _], [_, _, _], .cons a (.cons b (.cons c .nil)) => exact .cons b (.cons a (.cons c .nil))
        | _ :: _ :: _ :: _ :: _, _ :: _ :: _ :: _ :: _, _ => exact .nil) (fun D doc pm an cdv ct us mv ws h1 h2 h3 => by
      match us, mv, ws, h1, h2, h3 with
      | [], [], [x, y, z], _, _, _ => exact (by with_unfolding_all rfl))
    exact ⟨_, _, kb, fun l m o => rfl⟩
  · obtain ⟨mv, kb⟩ := F.kbinds0 (ps := ["marker", "length", "most"]) 2 ["most"] [] (fun vs _ zs => vs ++ zs) (by simp) (fun q hq => absurd hq (by simp)) (fun {vs mz zs us mv ws} r1 r2 r3 => r1.append r3) (fun D doc pm an cdv ct us mv ws h1 h2 h3 => by
      match us, mv, ws, h1, h2, h3 with
      | [x, y], [], [z], _, _, _ => exact (by with_unfolding_all rfl))
    exact ⟨_, _, kb, fun m l o => rfl⟩
theorem hold_at {P : Program} {w : World} {K : PySem.W.Frag} {mg : Str → Option Value} {base : Heap} {CH CM f : Addr} {fd : FuncData} (F : Fun K "stories_hold" "stories_hold" (top 32) f fd) (ok : FnOk P w K mg base CX0 6 f fd ["marker", "value"] (spHold K CH CM)) (m : mg "stories_hold" = some (.ref f)) : HoldAt P w K mg base CH CM f fd := by
  have b := F.binds (ps := ["marker", "value"]) fun _ _ _ _ _ _ us hl => match us, hl with | [_, _], _ => by with_unfolding_all rfl
  obtain ⟨oc, od, kV, doc, pm, an, cdv, ct, osl, rfl, lk, hcd⟩ := F.ex
  refine ⟨ok, m, F.kp, b, fun _ zs => match zs with | [v, m] => [m, v] | _ => [], fun _ zs => match zs with | [v, m] => [m, v] | _ => [], ⟨fun s us ws X l1 l2 => ?_, fun {vs us zs ws} r1 r2 => ?_⟩, fun v m => rfl⟩
  · match us, ws, l1, l2 with
    | [], [x, y], _, _ => exact .of_eq (by with_unfolding_all rfl)
  · match zs, ws, r2 with
    | [], [], _ => exact .nil
    | [_], [_], _ => exact .nil
    | [_, _], [_, _], .cons a (.cons b .nil) => exact .cons b (.cons a .nil)
    | _ :: _ :: _ :: _, _ :: _ :: _ :: _, _ => exact .nil
end Lg
set_option Elab.async false
set_option maxRecDepth 100000
set_option maxHeartbeats 0
namespace Lg
open PySem PySem.Spec PyProof.Rows L2 LamX
theorem all_mk {l : PySem.W.OpenLaw} {w : World} {K : PySem.W.Frag} {h : Heap} {mg : Str → Option Value} {fa : Addr} (X : K.In h) (G : h.Ns mainGlobals mg) (hfa : mg "law" = some (.ref fa)) (hT : h.get? 354 = some { cls := .none, data := .fields #[] })
    {fisInteger : Addr}
    {ocisInteger kVisInteger dcisInteger pmisInteger cdisInteger ctisInteger : Value} {odisInteger anisInteger : Option Addr} {slisInteger : Array (Option Value)}
    {fisNumber : Addr}
    {ocisNumber kVisNumber dcisNumber pmisNumber cdisNumber ctisNumber : Value} {odisNumber anisNumber : Option Addr} {slisNumber : Array (Option Value)}
    {fisBelow : Addr}
    {ocisBelow kVisBelow dcisBelow pmisBelow cdisBelow ctisBelow : Value} {odisBelow anisBelow : Option Addr} {slisBelow : Array (Option Value)}
    {fisWithin : Addr}
    {ocisWithin kVisWithin dcisWithin pmisWithin cdisWithin ctisWithin : Value} {odisWithin anisWithin : Option Addr} {slisWithin : Array (Option Value)}
    {fisSeq : Addr}
    {ocisSeq kVisSeq dcisSeq pmisSeq cdisSeq ctisSeq : Value} {odisSeq anisSeq : Option Addr} {slisSeq : Array (Option Value)}
    {fisText : Addr}
    {ocisText kVisText dcisText pmisText cdisText ctisText : Value} {odisText anisText : Option Addr} {slisText : Array (Option Value)}
    {fchMarks : Addr}
    {occhMarks kVchMarks dcchMarks pmchMarks cdchMarks ctchMarks : Value} {odchMarks anchMarks : Option Addr} {slchMarks : Array (Option Value)}
    {fchStory : Addr}
    {occhStory kVchStory dcchStory pmchStory cdchStory ctchStory : Value} {odchStory anchStory : Option Addr} {slchStory : Array (Option Value)}
    {fisMove : Addr}
    {ocisMove kVisMove dcisMove pmisMove cdisMove ctisMove : Value} {odisMove anisMove : Option Addr} {slisMove : Array (Option Value)}
    {fchRows : Addr}
    {occhRows kVchRows dcchRows pmchRows cdchRows ctchRows : Value} {odchRows anchRows : Option Addr} {slchRows : Array (Option Value)}
    {fmLogs : Addr}
    {ocmLogs kVmLogs dcmLogs pmmLogs cdmLogs ctmLogs : Value} {odmLogs anmLogs : Option Addr} {slmLogs : Array (Option Value)}
    {flonger : Addr}
    {oclonger kVlonger dclonger pmlonger cdlonger ctlonger : Value} {odlonger anlonger : Option Addr} {sllonger : Array (Option Value)}
    {falike : Addr}
    {ocalike kValike dcalike pmalike cdalike ctalike : Value} {odalike analike : Option Addr} {slalike : Array (Option Value)}
    {fisStory : Addr}
    {ocisStory kVisStory dcisStory pmisStory cdisStory ctisStory : Value} {odisStory anisStory : Option Addr} {slisStory : Array (Option Value)}
    {fsHold : Addr}
    {ocsHold kVsHold dcsHold pmsHold cdsHold ctsHold : Value} {odsHold ansHold : Option Addr} {slsHold : Array (Option Value)}
    {flBox : Addr}
    {oclBox kVlBox dclBox pmlBox cdlBox ctlBox : Value} {odlBox anlBox : Option Addr} {sllBox : Array (Option Value)}
    {flTake : Addr}
    {oclTake kVlTake dclTake pmlTake cdlTake ctlTake : Value} {odlTake anlTake : Option Addr} {sllTake : Array (Option Value)}
    {flPick : Addr}
    {oclPick kVlPick dclPick pmlPick cdlPick ctlPick : Value} {odlPick anlPick : Option Addr} {sllPick : Array (Option Value)}
    {flLaid : Addr}
    {oclLaid kVlLaid dclLaid pmlLaid cdlLaid ctlLaid : Value} {odlLaid anlLaid : Option Addr} {sllLaid : Array (Option Value)}
    {flStories : Addr}
    {oclStories kVlStories dclStories pmlStories cdlStories ctlStories : Value} {odlStories anlStories : Option Addr} {sllStories : Array (Option Value)}
    {flFirst : Addr}
    {oclFirst kVlFirst dclFirst pmlFirst cdlFirst ctlFirst : Value} {odlFirst anlFirst : Option Addr} {sllFirst : Array (Option Value)}
    {flIsS : Addr}
    {oclIsS kVlIsS dclIsS pmlIsS cdlIsS ctlIsS : Value} {odlIsS anlIsS : Option Addr} {sllIsS : Array (Option Value)}
    {flDue : Addr}
    {oclDue kVlDue dclDue pmlDue cdlDue ctlDue : Value} {odlDue anlDue : Option Addr} {sllDue : Array (Option Value)}
    {flBent : Addr}
    {oclBent kVlBent dclBent pmlBent cdlBent ctlBent : Value} {odlBent anlBent : Option Addr} {sllBent : Array (Option Value)}
    {fHd : Addr}
    {ocHd kVHd dcHd pmHd cdHd ctHd : Value} {odHd anHd : Option Addr} {slHd : Array (Option Value)}
    {fTw D2 : Addr} {ocTw dcTw pmTw cdTw ctTw : Value} {odTw anTw : Option Addr} {slTw : Array (Option Value)} {tTw : Tok}
    {cL fLw : Addr} {ocLw kVLw dcLw pmLw ctLw : Value} {odLw anLw : Option Addr} {slLw : Array (Option Value)}
    {CHC fHC : Addr}
    {ocHC kVHC dcHC pmHC cdHC ctHC : Value} {odHC anHC : Option Addr} {slHC : Array (Option Value)}
    {CMC fMC : Addr}
    {ocMC kVMC dcMC pmMC cdMC ctMC : Value} {odMC anMC : Option Addr} {slMC : Array (Option Value)}
    {CLE : Addr}
    {CRF fRF : Addr} {nRF : Str} {qRF : Str} {NRF : Addr} {bsRF bmRF : List Value} {snRF : List Str} {subRF : List Value} {abRF : Bool} {colRF : Option Bool} {ddRF : Option Addr} {k0RF k1RF k2RF k3RF k5RF : Option Value}
    {ocRF dcRF pmRF ctRF : Value} {odRF anRF : Option Addr} {slRF : Array (Option Value)} {quRF : Str} {cdaRF ccRF : Addr} {vsRF : Array Value} {fileRF : Str} {tfRF : Tok} {cclRF clRF : Value} {cddRF cldRF : Option Addr} {ccsRF cslRF : Array (Option Value)}
    {CTG fTG : Addr} {nTG : Str} {qTG : Str} {NTG : Addr} {bsTG bmTG : List Value} {snTG : List Str} {subTG : List Value} {abTG : Bool} {colTG : Option Bool} {ddTG : Option Addr} {k0TG k1TG k2TG k3TG k5TG : Option Value}
    {ocTG dcTG pmTG ctTG : Value} {odTG anTG : Option Addr} {slTG : Array (Option Value)} {quTG : Str} {cdaTG ccTG : Addr} {vsTG : Array Value} {fileTG : Str} {tfTG : Tok} {cclTG clTG : Value} {cddTG cldTG : Option Addr} {ccsTG cslTG : Array (Option Value)}
    {thands : Tok}
    {tmarks : Tok}
    {tstory : Tok}
    {tstand : Tok}
    {tstories : Tok}
    (aisInteger : PySem.W.nsIn K mainGlobals "is_integer" = some (some (.ref fisInteger)))
    (lisInteger : K.lookup fisInteger = some ⟨ocisInteger, odisInteger, .func (PySem.W.fnOf "is_integer" "is_integer" (defArgs (top 10)) (defBody (top 10)) (defScope (top 10)) .none kVisInteger dcisInteger pmisInteger anisInteger cdisInteger ctisInteger), slisInteger⟩)
    (cisInteger : PySem.W.codeIn K cdisInteger "is_integer" = true)
    (kisInteger : PySem.W.keepIn K (.ref fisInteger) = true)
    (aisNumber : PySem.W.nsIn K mainGlobals "is_number" = some (some (.ref fisNumber)))
    (lisNumber : K.lookup fisNumber = some ⟨ocisNumber, odisNumber, .func (PySem.W.fnOf "is_number" "is_number" (defArgs (top 11)) (defBody (top 11)) (defScope (top 11)) .none kVisNumber dcisNumber pmisNumber anisNumber cdisNumber ctisNumber), slisNumber⟩)
    (cisNumber : PySem.W.codeIn K cdisNumber "is_number" = true)
    (kisNumber : PySem.W.keepIn K (.ref fisNumber) = true)
    (aisBelow : PySem.W.nsIn K mainGlobals "is_below" = some (some (.ref fisBelow)))
    (lisBelow : K.lookup fisBelow = some ⟨ocisBelow, odisBelow, .func (PySem.W.fnOf "is_below" "is_below" (defArgs (top 12)) (defBody (top 12)) (defScope (top 12)) .none kVisBelow dcisBelow pmisBelow anisBelow cdisBelow ctisBelow), slisBelow⟩)
    (cisBelow : PySem.W.codeIn K cdisBelow "is_below" = true)
    (kisBelow : PySem.W.keepIn K (.ref fisBelow) = true)
    (aisWithin : PySem.W.nsIn K mainGlobals "is_within" = some (some (.ref fisWithin)))
    (lisWithin : K.lookup fisWithin = some ⟨ocisWithin, odisWithin, .func (PySem.W.fnOf "is_within" "is_within" (defArgs (top 13)) (defBody (top 13)) (defScope (top 13)) .none kVisWithin dcisWithin pmisWithin anisWithin cdisWithin ctisWithin), slisWithin⟩)
    (cisWithin : PySem.W.codeIn K cdisWithin "is_within" = true)
    (kisWithin : PySem.W.keepIn K (.ref fisWithin) = true)
    (aisSeq : PySem.W.nsIn K mainGlobals "is_sequence" = some (some (.ref fisSeq)))
    (lisSeq : K.lookup fisSeq = some ⟨ocisSeq, odisSeq, .func (PySem.W.fnOf "is_sequence" "is_sequence" (defArgs (top 14)) (defBody (top 14)) (defScope (top 14)) .none kVisSeq dcisSeq pmisSeq anisSeq cdisSeq ctisSeq), slisSeq⟩)
    (cisSeq : PySem.W.codeIn K cdisSeq "is_sequence" = true)
    (kisSeq : PySem.W.keepIn K (.ref fisSeq) = true)
    (aisText : PySem.W.nsIn K mainGlobals "is_text" = some (some (.ref fisText)))
    (lisText : K.lookup fisText = some ⟨ocisText, odisText, .func (PySem.W.fnOf "is_text" "is_text" (defArgs (top 15)) (defBody (top 15)) (defScope (top 15)) .none kVisText dcisText pmisText anisText cdisText ctisText), slisText⟩)
    (cisText : PySem.W.codeIn K cdisText "is_text" = true)
    (kisText : PySem.W.keepIn K (.ref fisText) = true)
    (achMarks : PySem.W.nsIn K mainGlobals "check_marks" = some (some (.ref fchMarks)))
    (lchMarks : K.lookup fchMarks = some ⟨occhMarks, odchMarks, .func (PySem.W.fnOf "check_marks" "check_marks" (defArgs (top 17)) (defBody (top 17)) (defScope (top 17)) .none kVchMarks dcchMarks pmchMarks anchMarks cdchMarks ctchMarks), slchMarks⟩)
    (cchMarks : PySem.W.codeIn K cdchMarks "check_marks" = true)
    (kchMarks : PySem.W.keepIn K (.ref fchMarks) = true)
    (achStory : PySem.W.nsIn K mainGlobals "check_story" = some (some (.ref fchStory)))
    (lchStory : K.lookup fchStory = some ⟨occhStory, odchStory, .func (PySem.W.fnOf "check_story" "check_story" (defArgs (top 19)) (defBody (top 19)) (defScope (top 19)) .none kVchStory dcchStory pmchStory anchStory cdchStory ctchStory), slchStory⟩)
    (cchStory : PySem.W.codeIn K cdchStory "check_story" = true)
    (kchStory : PySem.W.keepIn K (.ref fchStory) = true)
    (aisMove : PySem.W.nsIn K mainGlobals "is_move" = some (some (.ref fisMove)))
    (lisMove : K.lookup fisMove = some ⟨ocisMove, odisMove, .func (PySem.W.fnOf "is_move" "is_move" (defArgs (top 24)) (defBody (top 24)) (defScope (top 24)) .none kVisMove dcisMove pmisMove anisMove cdisMove ctisMove), slisMove⟩)
    (cisMove : PySem.W.codeIn K cdisMove "is_move" = true)
    (kisMove : PySem.W.keepIn K (.ref fisMove) = true)
    (achRows : PySem.W.nsIn K mainGlobals "check_rows" = some (some (.ref fchRows)))
    (lchRows : K.lookup fchRows = some ⟨occhRows, odchRows, .func (PySem.W.fnOf "check_rows" "check_rows" (defArgs (top 25)) (defBody (top 25)) (defScope (top 25)) .none kVchRows dcchRows pmchRows anchRows cdchRows ctchRows), slchRows⟩)
    (cchRows : PySem.W.codeIn K cdchRows "check_rows" = true)
    (kchRows : PySem.W.keepIn K (.ref fchRows) = true)
    (amLogs : PySem.W.nsIn K mainGlobals "marker_logs" = some (some (.ref fmLogs)))
    (lmLogs : K.lookup fmLogs = some ⟨ocmLogs, odmLogs, .func (PySem.W.fnOf "marker_logs" "marker_logs" (defArgs (top 27)) (defBody (top 27)) (defScope (top 27)) .none kVmLogs dcmLogs pmmLogs anmLogs cdmLogs ctmLogs), slmLogs⟩)
    (cmLogs : PySem.W.codeIn K cdmLogs "marker_logs" = true)
    (kmLogs : PySem.W.keepIn K (.ref fmLogs) = true)
    (alonger : PySem.W.nsIn K mainGlobals "longer_stories" = some (some (.ref flonger)))
    (llonger : K.lookup flonger = some ⟨oclonger, odlonger, .func (PySem.W.fnOf "longer_stories" "longer_stories" (defArgs (top 28)) (defBody (top 28)) (defScope (top 28)) .none kVlonger dclonger pmlonger anlonger cdlonger ctlonger), sllonger⟩)
    (clonger : PySem.W.codeIn K cdlonger "longer_stories" = true)
    (klonger : PySem.W.keepIn K (.ref flonger) = true)
    (aalike : PySem.W.nsIn K mainGlobals "first_alike" = some (some (.ref falike)))
    (lalike : K.lookup falike = some ⟨ocalike, odalike, .func (PySem.W.fnOf "first_alike" "first_alike" (defArgs (top 29)) (defBody (top 29)) (defScope (top 29)) .none kValike dcalike pmalike analike cdalike ctalike), slalike⟩)
    (calike : PySem.W.codeIn K cdalike "first_alike" = true)
    (kalike : PySem.W.keepIn K (.ref falike) = true)
    (aisStory : PySem.W.nsIn K mainGlobals "is_story" = some (some (.ref fisStory)))
    (lisStory : K.lookup fisStory = some ⟨ocisStory, odisStory, .func (PySem.W.fnOf "is_story" "is_story" (defArgs (top 31)) (defBody (top 31)) (defScope (top 31)) .none kVisStory dcisStory pmisStory anisStory cdisStory ctisStory), slisStory⟩)
    (cisStory : PySem.W.codeIn K cdisStory "is_story" = true)
    (kisStory : PySem.W.keepIn K (.ref fisStory) = true)
    (asHold : PySem.W.nsIn K mainGlobals "stories_hold" = some (some (.ref fsHold)))
    (lsHold : K.lookup fsHold = some ⟨ocsHold, odsHold, .func (PySem.W.fnOf "stories_hold" "stories_hold" (defArgs (top 32)) (defBody (top 32)) (defScope (top 32)) .none kVsHold dcsHold pmsHold ansHold cdsHold ctsHold), slsHold⟩)
    (csHold : PySem.W.codeIn K cdsHold "stories_hold" = true)
    (ksHold : PySem.W.keepIn K (.ref fsHold) = true)
    (alBox : PySem.W.nsIn K mainGlobals "_law_box" = some (some (.ref flBox)))
    (llBox : K.lookup flBox = some ⟨oclBox, odlBox, .func (PySem.W.fnOf "_law_box" "_law_box" (defArgs (top 34)) (defBody (top 34)) (defScope (top 34)) .none kVlBox dclBox pmlBox anlBox cdlBox ctlBox), sllBox⟩)
    (clBox : PySem.W.codeIn K cdlBox "_law_box" = true)
    (klBox : PySem.W.keepIn K (.ref flBox) = true)
    (alTake : PySem.W.nsIn K mainGlobals "_law_take" = some (some (.ref flTake)))
    (llTake : K.lookup flTake = some ⟨oclTake, odlTake, .func (PySem.W.fnOf "_law_take" "_law_take" (defArgs (top 35)) (defBody (top 35)) (defScope (top 35)) .none kVlTake dclTake pmlTake anlTake cdlTake ctlTake), sllTake⟩)
    (clTake : PySem.W.codeIn K cdlTake "_law_take" = true)
    (klTake : PySem.W.keepIn K (.ref flTake) = true)
    (alPick : PySem.W.nsIn K mainGlobals "_law_pick" = some (some (.ref flPick)))
    (llPick : K.lookup flPick = some ⟨oclPick, odlPick, .func (PySem.W.fnOf "_law_pick" "_law_pick" (defArgs (top 36)) (defBody (top 36)) (defScope (top 36)) .none kVlPick dclPick pmlPick anlPick cdlPick ctlPick), sllPick⟩)
    (clPick : PySem.W.codeIn K cdlPick "_law_pick" = true)
    (klPick : PySem.W.keepIn K (.ref flPick) = true)
    (alLaid : PySem.W.nsIn K mainGlobals "_law_laid" = some (some (.ref flLaid)))
    (llLaid : K.lookup flLaid = some ⟨oclLaid, odlLaid, .func (PySem.W.fnOf "_law_laid" "_law_laid" (defArgs (top 39)) (defBody (top 39)) (defScope (top 39)) .none kVlLaid dclLaid pmlLaid anlLaid cdlLaid ctlLaid), sllLaid⟩)
    (clLaid : PySem.W.codeIn K cdlLaid "_law_laid" = true)
    (klLaid : PySem.W.keepIn K (.ref flLaid) = true)
    (alStories : PySem.W.nsIn K mainGlobals "_law_stories" = some (some (.ref flStories)))
    (llStories : K.lookup flStories = some ⟨oclStories, odlStories, .func (PySem.W.fnOf "_law_stories" "_law_stories" (defArgs (top 40)) (defBody (top 40)) (defScope (top 40)) .none kVlStories dclStories pmlStories anlStories cdlStories ctlStories), sllStories⟩)
    (clStories : PySem.W.codeIn K cdlStories "_law_stories" = true)
    (klStories : PySem.W.keepIn K (.ref flStories) = true)
    (alFirst : PySem.W.nsIn K mainGlobals "_law_first" = some (some (.ref flFirst)))
    (llFirst : K.lookup flFirst = some ⟨oclFirst, odlFirst, .func (PySem.W.fnOf "_law_first" "_law_first" (defArgs (top 41)) (defBody (top 41)) (defScope (top 41)) .none kVlFirst dclFirst pmlFirst anlFirst cdlFirst ctlFirst), sllFirst⟩)
    (clFirst : PySem.W.codeIn K cdlFirst "_law_first" = true)
    (klFirst : PySem.W.keepIn K (.ref flFirst) = true)
    (alIsS : PySem.W.nsIn K mainGlobals "_law_is_story" = some (some (.ref flIsS)))
    (llIsS : K.lookup flIsS = some ⟨oclIsS, odlIsS, .func (PySem.W.fnOf "_law_is_story" "_law_is_story" (defArgs (top 42)) (defBody (top 42)) (defScope (top 42)) .none kVlIsS dclIsS pmlIsS anlIsS cdlIsS ctlIsS), sllIsS⟩)
    (clIsS : PySem.W.codeIn K cdlIsS "_law_is_story" = true)
    (klIsS : PySem.W.keepIn K (.ref flIsS) = true)
    (alDue : PySem.W.nsIn K mainGlobals "_law_due" = some (some (.ref flDue)))
    (llDue : K.lookup flDue = some ⟨oclDue, odlDue, .func (PySem.W.fnOf "_law_due" "_law_due" (defArgs (top 43)) (defBody (top 43)) (defScope (top 43)) .none kVlDue dclDue pmlDue anlDue cdlDue ctlDue), sllDue⟩)
    (clDue : PySem.W.codeIn K cdlDue "_law_due" = true)
    (klDue : PySem.W.keepIn K (.ref flDue) = true)
    (alBent : PySem.W.nsIn K mainGlobals "_law_bent" = some (some (.ref flBent)))
    (llBent : K.lookup flBent = some ⟨oclBent, odlBent, .func (PySem.W.fnOf "_law_bent" "_law_bent" (defArgs (top 44)) (defBody (top 44)) (defScope (top 44)) .none kVlBent dclBent pmlBent anlBent cdlBent ctlBent), sllBent⟩)
    (clBent : PySem.W.codeIn K cdlBent "_law_bent" = true)
    (klBent : PySem.W.keepIn K (.ref flBent) = true)
    (aHd : PySem.W.nsIn K mainGlobals "_law_heard" = some (some (.ref fHd)))
    (lHd : K.lookup fHd = some ⟨ocHd, odHd, .func (PySem.W.fnOf "_law_heard" "_law_heard" (defArgs (top 45)) (defBody (top 45)) (defScope (top 45)) .none kVHd dcHd pmHd anHd cdHd ctHd), slHd⟩)
    (cHd : PySem.W.codeIn K cdHd "_law_heard" = true)
    (kHd : PySem.W.keepIn K (.ref fHd) = true)
    (aTw : PySem.W.nsIn K mainGlobals "two_stories" = some (some (.ref fTw)))
    (lTw : K.lookup fTw = some ⟨ocTw, odTw, .func (PySem.W.fnOf "two_stories" "two_stories" (defArgs (top 30)) (defBody (top 30)) (defScope (top 30)) .none (.ref D2) dcTw pmTw anTw cdTw ctTw), slTw⟩)
    (cTw : PySem.W.codeIn K cdTw "two_stories" = true)
    (kTw : PySem.W.keepIn K (.ref fTw) = true)
    (dTw : PySem.W.nsIn K D2 "most" = some (some (.int 20000 tTw)))
    (aHC : PySem.W.nsIn K mainGlobals "Hands" = some (some (.ref CHC)))
    (iHC : PySem.W.findIn K (.ref CHC) "__init__" = some (some (.ref fHC)))
    (fnHC : PySem.W.isFn K (.ref fHC) = true)
    (lHC : K.lookup fHC = some ⟨ocHC, odHC, .func (PySem.W.fnOf "__init__" "Hands.__init__" (defArgs (meth 18 0)) (defBody (meth 18 0)) (defScope (meth 18 0)) .none kVHC dcHC pmHC anHC cdHC ctHC), slHC⟩)
    (cHC : PySem.W.codeIn K cdHC "Hands.__init__" = true)
    (kHC : PySem.W.keepIn K (.ref fHC) = true)
    (pgHC : PySem.W.plainGet K CHC Str.empty = true)
    (hdHC : PySem.W.hasDictIn K CHC = true)
    (poHC : PySem.W.plainOver K CHC = true)
    (saHC : PySem.W.findIn K (.ref CHC) "__setattr__" = some (some (.builtin "object.__setattr__")))
    (mkHC : PySem.W.makesIn K CHC = true)
    (kcHC : PySem.W.keepIn K (.ref CHC) = true)
    (nHCmarks : PySem.W.findIn K (.ref CHC) "marks" = some none)
    (nHCmany : PySem.W.findIn K (.ref CHC) "many" = some none)
    (aMC : PySem.W.nsIn K mainGlobals "Marker" = some (some (.ref CMC)))
    (iMC : PySem.W.findIn K (.ref CMC) "__init__" = some (some (.ref fMC)))
    (fnMC : PySem.W.isFn K (.ref fMC) = true)
    (lMC : K.lookup fMC = some ⟨ocMC, odMC, .func (PySem.W.fnOf "__init__" "Marker.__init__" (defArgs (meth 26 0)) (defBody (meth 26 0)) (defScope (meth 26 0)) .none kVMC dcMC pmMC anMC cdMC ctMC), slMC⟩)
    (cMC : PySem.W.codeIn K cdMC "Marker.__init__" = true)
    (kMC : PySem.W.keepIn K (.ref fMC) = true)
    (pgMC : PySem.W.plainGet K CMC Str.empty = true)
    (hdMC : PySem.W.hasDictIn K CMC = true)
    (poMC : PySem.W.plainOver K CMC = true)
    (saMC : PySem.W.findIn K (.ref CMC) "__setattr__" = some (some (.builtin "object.__setattr__")))
    (mkMC : PySem.W.makesIn K CMC = true)
    (kcMC : PySem.W.keepIn K (.ref CMC) = true)
    (nMChands : PySem.W.findIn K (.ref CMC) "hands" = some none)
    (nMCrows : PySem.W.findIn K (.ref CMC) "rows" = some none)
    (nMCstandings : PySem.W.findIn K (.ref CMC) "standings" = some none)
    (aLE : PySem.W.nsIn K mainGlobals "LogError" = some (some (.ref CLE)))
    (noS : PySem.W.nsIn K mainGlobals "super" = some none)
    (thp : PySem.W.nsIn K cStatics "thirdparty.any" = some none)
    (aRF : PySem.W.nsIn K mainGlobals "Refused" = some (some (.ref CRF)))
    (xRF : K.lookup CRF = some (excClassObj nRF qRF CRF NRF bsRF bmRF true snRF subRF abRF colRF ddRF k0RF k1RF k2RF k3RF k5RF "ValueError.__new__"))
    (bmvRF : PySem.HandSPX.refsVE bmRF = true)
    (saRF : PySem.W.findIn K (.ref CRF) "__setattr__" = some (some (.builtin "object.__setattr__")))
    (noRF : PySem.W.findIn K (.ref CRF) "at" = some none)
    (iRF : PySem.W.findIn K (.ref CRF) "__init__" = some (some (.ref fRF)))
    (tRF : PySem.W.typeIn K (.ref fRF) = some (.type "function"))
    (kRF : PySem.W.keepIn K (.ref CRF) = true)
    (eRF : PySem.W.subIn K (.ref CRF) (.type "BaseException") = some true)
    (tyRF : PySem.W.typeIn K (.ref CRF) = some (.type "type"))
    (supRF : PySem.W.ks_superIn K CRF CRF "__init__" = some (some (.builtin "ValueError.__init__")))
    (veRF : PySem.W.subIn K (.ref CRF) (.type "ValueError") = some true)
    (ownRF : PySem.W.mroIn K CRF (.ref CRF) = some true)
    (lRF : K.lookup fRF = some ⟨ocRF, odRF, .func (PySem.W.ksFn "__init__" quRF (eArgs "at" ⟨⟨16, 17, 16, 21⟩, ⟨16, 23, 16, 25⟩, ⟨17, 8, 17, 13⟩, ⟨17, 8, 17, 15⟩, ⟨17, 8, 17, 24⟩, ⟨17, 25, 17, 45⟩, ⟨17, 8, 17, 46⟩, ⟨17, 8, 17, 46⟩, ⟨18, 8, 18, 12⟩, ⟨18, 8, 18, 15⟩, ⟨18, 18, 18, 20⟩, ⟨18, 8, 18, 20⟩⟩) (eBody "at" "no such value here" 0 ⟨⟨16, 17, 16, 21⟩, ⟨16, 23, 16, 25⟩, ⟨17, 8, 17, 13⟩, ⟨17, 8, 17, 15⟩, ⟨17, 8, 17, 24⟩, ⟨17, 25, 17, 45⟩, ⟨17, 8, 17, 46⟩, ⟨17, 8, 17, 46⟩, ⟨18, 8, 18, 12⟩, ⟨18, 8, 18, 15⟩, ⟨18, 18, 18, 20⟩, ⟨18, 8, 18, 20⟩⟩) (eScope "at") .none .none dcRF pmRF anRF (.ref cdaRF) ctRF ccRF), slRF⟩)
    (cRF : PySem.W.codeIn K (.ref cdaRF) quRF = true)
    (lcRF : K.lookup cdaRF = some ⟨cclRF, cddRF, .fields vsRF, ccsRF⟩)
    (vcRF : vsRF[2]? = some (.str fileRF tfRF))
    (fcRF : ((l.prog.main.file : Str) == fileRF) = true)
    (ceRF : K.lookup ccRF = some ⟨clRF, cldRF, .cell (some (.ref CRF)), cslRF⟩)
    (gaRF : PySem.W.findIn K (.ref CRF) "__getattribute__" = some (some (.builtin "BaseException.__getattribute__")))
    (ggRF : PySem.W.findIn K (.ref CRF) "__getattr__" = some none)
    (hdRF : PySem.W.hasDictIn K CRF = true)
    (haRF : PySem.W.findIn K (.ref CRF) "__class__" = some (some (.builtin "object.__class__")))
    (hmRF : PySem.W.mroIn K CRF (.type "object") = some true)
    (kiRF : PySem.W.kitOne K (.ref CRF) (.ref CLE) = some true)
    (aTG : PySem.W.nsIn K mainGlobals "TooGreat" = some (some (.ref CTG)))
    (xTG : K.lookup CTG = some (excClassObj nTG qTG CTG NTG bsTG bmTG true snTG subTG abTG colTG ddTG k0TG k1TG k2TG k3TG k5TG "ValueError.__new__"))
    (bmvTG : PySem.HandSPX.refsVE bmTG = true)
    (saTG : PySem.W.findIn K (.ref CTG) "__setattr__" = some (some (.builtin "object.__setattr__")))
    (noTG : PySem.W.findIn K (.ref CTG) "most" = some none)
    (iTG : PySem.W.findIn K (.ref CTG) "__init__" = some (some (.ref fTG)))
    (tTG : PySem.W.typeIn K (.ref fTG) = some (.type "function"))
    (kTG : PySem.W.keepIn K (.ref CTG) = true)
    (eTG : PySem.W.subIn K (.ref CTG) (.type "BaseException") = some true)
    (tyTG : PySem.W.typeIn K (.ref CTG) = some (.type "type"))
    (supTG : PySem.W.ks_superIn K CTG CTG "__init__" = some (some (.builtin "ValueError.__init__")))
    (veTG : PySem.W.subIn K (.ref CTG) (.type "ValueError") = some true)
    (ownTG : PySem.W.mroIn K CTG (.ref CTG) = some true)
    (lTG : K.lookup fTG = some ⟨ocTG, odTG, .func (PySem.W.ksFn "__init__" quTG (eArgs "most" ⟨⟨21, 17, 21, 21⟩, ⟨21, 23, 21, 27⟩, ⟨22, 8, 22, 13⟩, ⟨22, 8, 22, 15⟩, ⟨22, 8, 22, 24⟩, ⟨22, 25, 22, 49⟩, ⟨22, 8, 22, 50⟩, ⟨22, 8, 22, 50⟩, ⟨23, 8, 23, 12⟩, ⟨23, 8, 23, 17⟩, ⟨23, 20, 23, 24⟩, ⟨23, 8, 23, 24⟩⟩) (eBody "most" "more than is looked at" 0 ⟨⟨21, 17, 21, 21⟩, ⟨21, 23, 21, 27⟩, ⟨22, 8, 22, 13⟩, ⟨22, 8, 22, 15⟩, ⟨22, 8, 22, 24⟩, ⟨22, 25, 22, 49⟩, ⟨22, 8, 22, 50⟩, ⟨22, 8, 22, 50⟩, ⟨23, 8, 23, 12⟩, ⟨23, 8, 23, 17⟩, ⟨23, 20, 23, 24⟩, ⟨23, 8, 23, 24⟩⟩) (eScope "most") .none .none dcTG pmTG anTG (.ref cdaTG) ctTG ccTG), slTG⟩)
    (cTG : PySem.W.codeIn K (.ref cdaTG) quTG = true)
    (lcTG : K.lookup cdaTG = some ⟨cclTG, cddTG, .fields vsTG, ccsTG⟩)
    (vcTG : vsTG[2]? = some (.str fileTG tfTG))
    (fcTG : ((l.prog.main.file : Str) == fileTG) = true)
    (ceTG : K.lookup ccTG = some ⟨clTG, cldTG, .cell (some (.ref CTG)), cslTG⟩)
    (gaTG : PySem.W.findIn K (.ref CTG) "__getattribute__" = some (some (.builtin "BaseException.__getattribute__")))
    (ggTG : PySem.W.findIn K (.ref CTG) "__getattr__" = some none)
    (hdTG : PySem.W.hasDictIn K CTG = true)
    (haTG : PySem.W.findIn K (.ref CTG) "__class__" = some (some (.builtin "object.__class__")))
    (hmTG : PySem.W.mroIn K CTG (.type "object") = some true)
    (kiTG : PySem.W.kitOne K (.ref CTG) (.ref CLE) = some true)
    (hnE : PySem.W.specialIn K (.builtin "object.__class__") "__get__" = some (some (.builtin "getset_descriptor.__get__")))
    (htE : PySem.W.takesIn K (.builtin "object.__class__") = some true)
    (mC : (l.prog.main.scope.names.lookup ("super" : Str)).isSome = false)
    (exTT : PySem.W.exmOne K (.ref CTG) (.ref CTG) = some true)
    (exRT : PySem.W.exmOne K (.ref CRF) (.ref CTG) = some false)
    (exRR : PySem.W.exmOne K (.ref CRF) (.ref CRF) = some true)
    (zisi : PySem.W.nsIn K mainGlobals "isinstance" = some none)
    (zint : PySem.W.nsIn K mainGlobals "int" = some none)
    (zbool : PySem.W.nsIn K mainGlobals "bool" = some none)
    (zstr : PySem.W.nsIn K mainGlobals "str" = some none)
    (zlist : PySem.W.nsIn K mainGlobals "list" = some none)
    (ztuple : PySem.W.nsIn K mainGlobals "tuple" = some none)
    (zlen : PySem.W.nsIn K mainGlobals "len" = some none)
    (zenum : PySem.W.nsIn K mainGlobals "enumerate" = some none)
    (zzip : PySem.W.nsIn K mainGlobals "zip" = some none)
    (zall : PySem.W.nsIn K mainGlobals "all" = some none)
    (zrange : PySem.W.nsIn K mainGlobals "range" = some none)
    (zmin : PySem.W.nsIn K mainGlobals "min" = some none)
    (zsum : PySem.W.nsIn K mainGlobals "sum" = some none)
    (zabs : PySem.W.nsIn K mainGlobals "abs" = some none)
    (zrepr : PySem.W.nsIn K mainGlobals "repr" = some none)
    (yhands : PySem.W.nsIn K mainGlobals "MOST_HANDS" = some (some (.int 8 thands)))
    (ymarks : PySem.W.nsIn K mainGlobals "MOST_MARKS" = some (some (.int 60 tmarks)))
    (ystory : PySem.W.nsIn K mainGlobals "MOST_STORY" = some (some (.int 10000 tstory)))
    (ystand : PySem.W.nsIn K mainGlobals "MOST_STANDINGS" = some (some (.int 4000 tstand)))
    (ystories : PySem.W.nsIn K mainGlobals "STORIES" = some (some (.str "stories" tstories)))
    (tb : PySem.W.tabIn K "law" = some (cL, 354))
    (ch : PySem.W.codeHdIn K cL 354 = true)
    (aLw : PySem.W.nsIn K mainGlobals "law" = some (some (.ref fLw)))
    (lLw : K.lookup fLw = some ⟨ocLw, odLw, .func (PySem.W.fnOf "law" "law" (defArgs (top 46)) (defBody (top 46)) (defScope (top 46)) .none kVLw dcLw pmLw anLw (.ref cL) ctLw), slLw⟩)
    (cLw : PySem.W.codeIn K (.ref cL) "law" = true)
    (zT : K.lookup 354 = none)
    : LawG l w K 9 63 "_law_script" mg fa h := by
  have eL : fLw = fa := by
    have z := (PySem.W.mg_of X G aLw).symm.trans hfa
    cases z
    rfl
  subst eL
  have T : Txt K mg := ⟨PySem.W.mg_none_of X G zisi, PySem.W.mg_none_of X G zint, PySem.W.mg_none_of X G zbool, PySem.W.mg_none_of X G zstr, PySem.W.mg_none_of X G zlist, PySem.W.mg_none_of X G ztuple, PySem.W.mg_none_of X G zlen, PySem.W.mg_none_of X G zenum, PySem.W.mg_none_of X G zzip, PySem.W.mg_none_of X G zall, PySem.W.mg_none_of X G zrange, PySem.W.mg_none_of X G zmin, PySem.W.mg_none_of X G zsum, PySem.W.mg_none_of X G zabs, PySem.W.mg_none_of X G zrepr, ⟨_, PySem.W.mg_of X G yhands⟩, ⟨_, PySem.W.mg_of X G ymarks⟩, ⟨_, PySem.W.mg_of X G ystory⟩, ⟨_, PySem.W.mg_of X G ystand⟩, ⟨_, PySem.W.mg_of X G ystories⟩⟩
  have HC : Flds K CHC fsH := ⟨⟨pgHC, hdHC, poHC, saHC⟩, fun f hf => by
    have hf' : f = ("marks" : Str) ∨ f = ("many" : Str) := by simpa using hf
    rcases hf' with rfl | rfl
    · exact nHCmarks
    · exact nHCmany⟩
  have MC : Flds K CMC fsM := ⟨⟨pgMC, hdMC, poMC, saMC⟩, fun f hf => by
    have hf' : f = ("hands" : Str) ∨ f = ("rows" : Str) ∨ f = ("standings" : Str) := by simpa using hf
    rcases hf' with rfl | rfl | rfl
    · exact nMChands
    · exact nMCrows
    · exact nMCstandings⟩
  have ER : ErrTxt l.prog K mg "Refused" "at" CRF fRF := ⟨PySem.W.mg_of X G aRF, ⟨_, _, _, _, _, _, _, _, _, _, _, _, _, _, _, xRF, bmvRF⟩, saRF, noRF, iRF, tRF, kRF, eRF, tyRF, supRF, veRF, ownRF, PySem.W.mg_none_of X G noS, thp, .inl rfl, ⟨_, _, _, _, _, _, _, _, _, _, _, _, _, _, _, _, _, _, _, _, _, _, rfl, lRF, cRF, lcRF, vcRF, fcRF, mC, ceRF⟩⟩
  have ET : ErrTxt l.prog K mg "TooGreat" "most" CTG fTG := ⟨PySem.W.mg_of X G aTG, ⟨_, _, _, _, _, _, _, _, _, _, _, _, _, _, _, xTG, bmvTG⟩, saTG, noTG, iTG, tTG, kTG, eTG, tyTG, supTG, veTG, ownTG, PySem.W.mg_none_of X G noS, thp, .inr rfl, ⟨_, _, _, _, _, _, _, _, _, _, _, _, _, _, _, _, _, _, _, _, _, _, rfl, lTG, cTG, lcTG, vcTG, fcTG, mC, ceTG⟩⟩
  have EI : ErrIs K CTG CRF CLE := ⟨exTT, exRT, exRR, ⟨gaTG, ggTG, eTG, hdTG⟩, ⟨gaRF, ggRF, eRF, hdRF⟩, noTG, noRF, ⟨gaTG, ggTG, eTG, hdTG, haTG, hnE, htE, hmTG⟩, ⟨gaRF, ggRF, eRF, hdRF, haRF, hnE, htE, hmRF⟩, kiTG, kiRF⟩
  have FisInteger : FunAt K mg "is_integer" (top 10) ["value"] := ⟨⟨_, _, fun_mk lisInteger cisInteger kisInteger, PySem.W.mg_of X G aisInteger, (fun_mk lisInteger cisInteger kisInteger).binds fun _ _ _ _ _ _ us hl => match us, hl with | [_], _ => by with_unfolding_all rfl⟩⟩
  have FisNumber : FunAt K mg "is_number" (top 11) ["value"] := ⟨⟨_, _, fun_mk lisNumber cisNumber kisNumber, PySem.W.mg_of X G aisNumber, (fun_mk lisNumber cisNumber kisNumber).binds fun _ _ _ _ _ _ us hl => match us, hl with | [_], _ => by with_unfolding_all rfl⟩⟩
  have FisBelow : FunAt K mg "is_below" (top 12) ["value", "most"] := ⟨⟨_, _, fun_mk lisBelow cisBelow kisBelow, PySem.W.mg_of X G aisBelow, (fun_mk lisBelow cisBelow kisBelow).binds fun _ _ _ _ _ _ us hl => match us, hl with | [_, _], _ => by with_unfolding_all rfl⟩⟩
  have FisWithin : FunAt K mg "is_within" (top 13) ["value", "least", "most"] := ⟨⟨_, _, fun_mk lisWithin cisWithin kisWithin, PySem.W.mg_of X G aisWithin, (fun_mk lisWithin cisWithin kisWithin).binds fun _ _ _ _ _ _ us hl => match us, hl with | [_, _, _], _ => by with_unfolding_all rfl⟩⟩
  have FisSeq : FunAt K mg "is_sequence" (top 14) ["value"] := ⟨⟨_, _, fun_mk lisSeq cisSeq kisSeq, PySem.W.mg_of X G aisSeq, (fun_mk lisSeq cisSeq kisSeq).binds fun _ _ _ _ _ _ us hl => match us, hl with | [_], _ => by with_unfolding_all rfl⟩⟩
  have FisText : FunAt K mg "is_text" (top 15) ["value"] := ⟨⟨_, _, fun_mk lisText cisText kisText, PySem.W.mg_of X G aisText, (fun_mk lisText cisText kisText).binds fun _ _ _ _ _ _ us hl => match us, hl with | [_], _ => by with_unfolding_all rfl⟩⟩
  have FchMarks : FunAt K mg "check_marks" (top 17) ["value"] := ⟨⟨_, _, fun_mk lchMarks cchMarks kchMarks, PySem.W.mg_of X G achMarks, (fun_mk lchMarks cchMarks kchMarks).binds fun _ _ _ _ _ _ us hl => match us, hl with | [_], _ => by with_unfolding_all rfl⟩⟩
  have FchStory : FunAt K mg "check_story" (top 19) ["hands", "value"] := ⟨⟨_, _, fun_mk lchStory cchStory kchStory, PySem.W.mg_of X G achStory, (fun_mk lchStory cchStory kchStory).binds fun _ _ _ _ _ _ us hl => match us, hl with | [_, _], _ => by with_unfolding_all rfl⟩⟩
  have FisMove : FunAt K mg "is_move" (top 24) ["value", "marks", "standings"] := ⟨⟨_, _, fun_mk lisMove cisMove kisMove, PySem.W.mg_of X G aisMove, (fun_mk lisMove cisMove kisMove).binds fun _ _ _ _ _ _ us hl => match us, hl with | [_, _, _], _ => by with_unfolding_all rfl⟩⟩
  have FchRows : FunAt K mg "check_rows" (top 25) ["hands", "value"] := ⟨⟨_, _, fun_mk lchRows cchRows kchRows, PySem.W.mg_of X G achRows, (fun_mk lchRows cchRows kchRows).binds fun _ _ _ _ _ _ us hl => match us, hl with | [_, _], _ => by with_unfolding_all rfl⟩⟩
  have FmLogs : FunAt K mg "marker_logs" (top 27) ["marker", "story"] := ⟨⟨_, _, fun_mk lmLogs cmLogs kmLogs, PySem.W.mg_of X G amLogs, (fun_mk lmLogs cmLogs kmLogs).binds fun _ _ _ _ _ _ us hl => match us, hl with | [_, _], _ => by with_unfolding_all rfl⟩⟩
  have Flonger : FunAt K mg "longer_stories" (top 28) ["marker", "layer"] := ⟨⟨_, _, fun_mk llonger clonger klonger, PySem.W.mg_of X G alonger, (fun_mk llonger clonger klonger).binds fun _ _ _ _ _ _ us hl => match us, hl with | [_, _], _ => by with_unfolding_all rfl⟩⟩
  have Falike : FunAt K mg "first_alike" (top 29) ["layer"] := ⟨⟨_, _, fun_mk lalike calike kalike, PySem.W.mg_of X G aalike, (fun_mk lalike calike kalike).binds fun _ _ _ _ _ _ us hl => match us, hl with | [_], _ => by with_unfolding_all rfl⟩⟩
  have FisStory : FunAt K mg "is_story" (top 31) ["marker", "value"] := ⟨⟨_, _, fun_mk lisStory cisStory kisStory, PySem.W.mg_of X G aisStory, (fun_mk lisStory cisStory kisStory).binds fun _ _ _ _ _ _ us hl => match us, hl with | [_, _], _ => by with_unfolding_all rfl⟩⟩
  have FsHold : FunAt K mg "stories_hold" (top 32) ["marker", "value"] := ⟨⟨_, _, fun_mk lsHold csHold ksHold, PySem.W.mg_of X G asHold, (fun_mk lsHold csHold ksHold).binds fun _ _ _ _ _ _ us hl => match us, hl with | [_, _], _ => by with_unfolding_all rfl⟩⟩
  have FlBox : FunAt K mg "_law_box" (top 34) ["_law_script", "_law_k"] := ⟨⟨_, _, fun_mk llBox clBox klBox, PySem.W.mg_of X G alBox, (fun_mk llBox clBox klBox).binds fun _ _ _ _ _ _ us hl => match us, hl with | [_, _], _ => by with_unfolding_all rfl⟩⟩
  have FlTake : FunAt K mg "_law_take" (top 35) ["_law_box_here", "_law_many"] := ⟨⟨_, _, fun_mk llTake clTake klTake, PySem.W.mg_of X G alTake, (fun_mk llTake clTake klTake).binds fun _ _ _ _ _ _ us hl => match us, hl with | [_, _], _ => by with_unfolding_all rfl⟩⟩
  have FlPick : FunAt K mg "_law_pick" (top 36) ["_law_box_here", "_law_some"] := ⟨⟨_, _, fun_mk llPick clPick klPick, PySem.W.mg_of X G alPick, (fun_mk llPick clPick klPick).binds fun _ _ _ _ _ _ us hl => match us, hl with | [_, _], _ => by with_unfolding_all rfl⟩⟩
  have FlLaid : FunAt K mg "_law_laid" (top 39) ["_law_marks", "_law_rows", "_law_story"] := ⟨⟨_, _, fun_mk llLaid clLaid klLaid, PySem.W.mg_of X G alLaid, (fun_mk llLaid clLaid klLaid).binds fun _ _ _ _ _ _ us hl => match us, hl with | [_, _, _], _ => by with_unfolding_all rfl⟩⟩
  have FlStories : FunAt K mg "_law_stories" (top 40) ["_law_many", "_law_length"] := ⟨⟨_, _, fun_mk llStories clStories klStories, PySem.W.mg_of X G alStories, (fun_mk llStories clStories klStories).binds fun _ _ _ _ _ _ us hl => match us, hl with | [_, _], _ => by with_unfolding_all rfl⟩⟩
  have FlFirst : FunAt K mg "_law_first" (top 41) ["_law_marks", "_law_rows", "_law_length"] := ⟨⟨_, _, fun_mk llFirst clFirst klFirst, PySem.W.mg_of X G alFirst, (fun_mk llFirst clFirst klFirst).binds fun _ _ _ _ _ _ us hl => match us, hl with | [_, _, _], _ => by with_unfolding_all rfl⟩⟩
  have FlIsS : FunAt K mg "_law_is_story" (top 42) ["_law_value", "_law_many"] := ⟨⟨_, _, fun_mk llIsS clIsS klIsS, PySem.W.mg_of X G alIsS, (fun_mk llIsS clIsS klIsS).binds fun _ _ _ _ _ _ us hl => match us, hl with | [_, _], _ => by with_unfolding_all rfl⟩⟩
  have FlDue : FunAt K mg "_law_due" (top 43) ["_law_marks", "_law_rows", "_law_value"] := ⟨⟨_, _, fun_mk llDue clDue klDue, PySem.W.mg_of X G alDue, (fun_mk llDue clDue klDue).binds fun _ _ _ _ _ _ us hl => match us, hl with | [_, _, _], _ => by with_unfolding_all rfl⟩⟩
  have FlBent : FunAt K mg "_law_bent" (top 44) ["_law_box_here", "_law_value", "_law_many"] := ⟨⟨_, _, fun_mk llBent clBent klBent, PySem.W.mg_of X G alBent, (fun_mk llBent clBent klBent).binds fun _ _ _ _ _ _ us hl => match us, hl with | [_, _, _], _ => by with_unfolding_all rfl⟩⟩
  have FTw : FunD K "two_stories" "two_stories" (defArgs (top 30)) (defBody (top 30)) (defScope (top 30)) [] [("most", .int 20000)] fTw _ := ⟨⟨_, _, _, _, _, _, _, _, _, _, rfl, lTw, cTw, .inl ⟨rfl, rfl⟩, .inr ⟨D2, rfl, fun q hq => by
    rw [List.mem_singleton.mp hq]
    exact ⟨_, dTw, ⟨_, rfl⟩⟩⟩⟩, kTw⟩
  have HD : HeardAt K mg := ⟨_, _, _, _, _, _, _, _, _, _, PySem.W.mg_of X G aHd, kHd, lHd, cHd⟩
  refine ⟨PySem.W.fnOf "law" "law" (defArgs (top 46)) (defBody (top 46)) (defScope (top 46)) .none kVLw dcLw pmLw anLw (.ref cL) ctLw, [(cL, 354)], spLaw K, fun p hp => by rw [List.mem_singleton.mp hp]; exact hT, fun p hp => by rw [List.mem_singleton.mp hp]; exact zT, fun p hp => by rw [List.mem_singleton.mp hp]; exact PySem.W.codeHd_of_K X ch, fun s u => ?_, fun H a ns _ _ hH hS => ⟨a, ns, rfl, hS, hH _ (List.mem_singleton.mpr rfl), fun _ => rfl⟩, fun base KB GB tabs => ?_⟩
  rotate_left
  · have dInt := ok_integer (P := l.prog) (w := w) (base := base) FisInteger T
    have dNum := ok_number FisNumber dInt
    have dBel := ok_below FisBelow dNum
    have dWith := ok_within FisWithin dInt
    have dSeq := ok_sequence (P := l.prog) (w := w) (base := base) FisSeq T
    have dText := ok_text (P := l.prog) (w := w) (base := base) FisText T
    have dMarks := ok_marks FchMarks T dWith dSeq
    have oH := ok_handsI (CH := CHC) (fun_mk (st := meth 18 0) lHC cHC kHC) T HC dMarks
    have mH : MkAt l.prog w K mg base "Hands" CHC 4 ["self", "marks"] (spHandsI K CHC) := ⟨_, _, ⟨mkHC, iHC, fnHC, kcHC⟩, oH, PySem.W.mg_of X G aHC, (fun_mk (st := meth 18 0) lHC cHC kHC).binds fun _ _ _ _ _ _ us hl => match us, hl with | [_, _], _ => by with_unfolding_all rfl⟩
    have dStory := ok_story FchStory T HC dBel dSeq
    have dMove := ok_move FisMove T dBel dSeq
    have dRows := ok_rows FchRows T HC dMove dSeq
    have oM := ok_markerI (CM := CMC) (fun_mk (st := meth 26 0) lMC cMC kMC) T MC dRows
    have mM : MkAt l.prog w K mg base "Marker" CMC 6 ["self", "hands", "rows"] (spMarkerI K CHC CMC) := ⟨_, _, ⟨mkMC, iMC, fnMC, kcMC⟩, oM, PySem.W.mg_of X G aMC, (fun_mk (st := meth 26 0) lMC cMC kMC).binds fun _ _ _ _ _ _ us hl => match us, hl with | [_, _, _], _ => by with_unfolding_all rfl⟩
    have dLogs := ok_logs FmLogs T HC MC dStory
    have dLong := ok_long (P := l.prog) (w := w) (base := base) Flonger T HC MC
    have dAlike := ok_alike (P := l.prog) (w := w) (base := base) Falike T
    have oT := ok_two (base := base) (w := w) FTw T HC MC ER ET dWith dLong dAlike
    have tT := two_at FTw oT (PySem.W.mg_of X G aTw)
    have dIsS := ok_isS FisStory T HC MC dBel dSeq
    have oHo := fn_hold (fun_mk (st := top 32) lsHold csHold ksHold) T dSeq dText dIsS dLogs
    have hH := hold_at (fun_mk (st := top 32) lsHold csHold ksHold) oHo (PySem.W.mg_of X G asHold)
    have dBox := ok_box (P := l.prog) (w := w) (base := base) FlBox T
    have dTake := ok_take (P := l.prog) (w := w) (base := base) FlTake T
    have dPick := ok_pick FlPick T dTake
    have dLaid := ok_laid (P := l.prog) (w := w) (base := base) FlLaid T
    have dStories := ok_stories (P := l.prog) (w := w) (base := base) FlStories T
    have dFirst := ok_first FlFirst T dStories dLaid
    have dIsT := ok_isT (P := l.prog) (w := w) (base := base) FlIsS T
    have dDue := ok_due FlDue T dIsT dLaid
    have dBent := ok_bent FlBent T dTake dPick
    exact ok_law lLw cLw ⟨T, dBox, dPick, dTake, mH, mM, dFirst, tT, hH, dStories, dDue, dBent, HD, EI, PySem.W.mg_of X G aTG, PySem.W.mg_of X G aRF, PySem.W.mg_of X G aLE, tabs _ (List.mem_singleton.mpr rfl)⟩
  · exact .of_eq (by with_unfolding_all rfl)
end Lg
set_option Elab.async false
set_option maxRecDepth 100000
set_option maxHeartbeats 0
open PySem PySem.W PyProof.Rows
open_top lhead for PySem.Challenge.rw_logsapart_k28_whole_stories_that_are_lef
set_option Elab.async false
open PySem PySem.W PyProof.Rows
set_option maxRecDepth 100000 in
set_option maxHeartbeats 0 in
theorem PySem.Challenge.cw_logsapart_k28_whole_stories_that_are_lef_holds : PySem.Challenge.rw_logsapart_k28_whole_stories_that_are_lef.Holds := by
  refine lhead (by
    k_fill
    refine Lg.walkG (l := PySem.Challenge.rw_logsapart_k28_whole_stories_that_are_lef) (n := 63) (k := 9) (x := "_law_script") rfl (by decide) rfl ⟨rfl, by decide, by decide⟩ (fun w h Y => PySem.W.km_in_of Y) ?F
    case F =>
      intro w mg fa h Y KX G hmg
      have hT := PySem.W.km_tabs_of Y 354 (by simp)
      refine' Lg.all_mk KX G hmg hT ?aisInteger ?lisInteger ?cisInteger ?kisInteger ?aisNumber ?lisNumber ?cisNumber ?kisNumber ?aisBelow ?lisBelow ?cisBelow ?kisBelow ?aisWithin ?lisWithin ?cisWithin ?kisWithin ?aisSeq ?lisSeq ?cisSeq ?kisSeq ?aisText ?lisText ?cisText ?kisText ?achMarks ?lchMarks ?cchMarks ?kchMarks ?achStory ?lchStory ?cchStory ?kchStory ?aisMove ?lisMove ?cisMove ?kisMove ?achRows ?lchRows ?cchRows ?kchRows ?amLogs ?lmLogs ?cmLogs ?kmLogs ?alonger ?llonger ?clonger ?klonger ?aalike ?lalike ?calike ?kalike ?aisStory ?lisStory ?cisStory ?kisStory ?asHold ?lsHold ?csHold ?ksHold ?alBox ?llBox ?clBox ?klBox ?alTake ?llTake ?clTake ?klTake ?alPick ?llPick ?clPick ?klPick ?alLaid ?llLaid ?clLaid ?klLaid ?alStories ?llStories ?clStories ?klStories ?alFirst ?llFirst ?clFirst ?klFirst ?alIsS ?llIsS ?clIsS ?klIsS ?alDue ?llDue ?clDue ?klDue ?alBent ?llBent ?clBent ?klBent ?aHd ?lHd ?cHd ?kHd ?aTw ?lTw ?cTw ?kTw ?dTw ?aHC ?iHC ?fnHC ?lHC ?cHC ?kHC ?pgHC ?hdHC ?poHC ?saHC ?mkHC ?kcHC ?nHCmarks ?nHCmany ?aMC ?iMC ?fnMC ?lMC ?cMC ?kMC ?pgMC ?hdMC ?poMC ?saMC ?mkMC ?kcMC ?nMChands ?nMCrows ?nMCstandings ?aLE ?noS ?thp ?aRF ?xRF ?bmvRF ?saRF ?noRF ?iRF ?tRF ?kRF ?eRF ?tyRF ?supRF ?veRF ?ownRF ?lRF ?cRF ?lcRF ?vcRF ?fcRF ?ceRF ?gaRF ?ggRF ?hdRF ?haRF ?hmRF ?kiRF ?aTG ?xTG ?bmvTG ?saTG ?noTG ?iTG ?tTG ?kTG ?eTG ?tyTG ?supTG ?veTG ?ownTG ?lTG ?cTG ?lcTG ?vcTG ?fcTG ?ceTG ?gaTG ?ggTG ?hdTG ?haTG ?hmTG ?kiTG ?hnE ?htE ?mC ?exTT ?exRT ?exRR ?zisi ?zint ?zbool ?zstr ?zlist ?ztuple ?zlen ?zenum ?zzip ?zall ?zrange ?zmin ?zsum ?zabs ?zrepr ?yhands ?ymarks ?ystory ?ystand ?ystories ?tb ?ch ?aLw ?lLw ?cLw ?zT
      (case aisInteger => k_is)
      (case lisInteger => k_is)
      (case cisInteger => k_is)
      (case kisInteger => k_is)
      (case aisNumber => k_is)
      (case lisNumber => k_is)
      (case cisNumber => k_is)
      (case kisNumber => k_is)
      (case aisBelow => k_is)
      (case lisBelow => k_is)
      (case cisBelow => k_is)
      (case kisBelow => k_is)
      (case aisWithin => k_is)
      (case lisWithin => k_is)
      (case cisWithin => k_is)
      (case kisWithin => k_is)
      (case aisSeq => k_is)
      (case lisSeq => k_is)
      (case cisSeq => k_is)
      (case kisSeq => k_is)
      (case aisText => k_is)
      (case lisText => k_is)
      (case cisText => k_is)
      (case kisText => k_is)
      (case achMarks => k_is)
      (case lchMarks => k_is)
      (case cchMarks => k_is)
      (case kchMarks => k_is)
      (case achStory => k_is)
      (case lchStory => k_is)
      (case cchStory => k_is)
      (case kchStory => k_is)
      (case aisMove => k_is)
      (case lisMove => k_is)
      (case cisMove => k_is)
      (case kisMove => k_is)
      (case achRows => k_is)
      (case lchRows => k_is)
      (case cchRows => k_is)
      (case kchRows => k_is)
      (case amLogs => k_is)
      (case lmLogs => k_is)
      (case cmLogs => k_is)
      (case kmLogs => k_is)
      (case alonger => k_is)
      (case llonger => k_is)
      (case clonger => k_is)
      (case klonger => k_is)
      (case aalike => k_is)
      (case lalike => k_is)
      (case calike => k_is)
      (case kalike => k_is)
      (case aisStory => k_is)
      (case lisStory => k_is)
      (case cisStory => k_is)
      (case kisStory => k_is)
      (case asHold => k_is)
      (case lsHold => k_is)
      (case csHold => k_is)
      (case ksHold => k_is)
      (case alBox => k_is)
      (case llBox => k_is)
      (case clBox => k_is)
      (case klBox => k_is)
      (case alTake => k_is)
      (case llTake => k_is)
      (case clTake => k_is)
      (case klTake => k_is)
      (case alPick => k_is)
      (case llPick => k_is)
      (case clPick => k_is)
      (case klPick => k_is)
      (case alLaid => k_is)
      (case llLaid => k_is)
      (case clLaid => k_is)
      (case klLaid => k_is)
      (case alStories => k_is)
      (case llStories => k_is)
      (case clStories => k_is)
      (case klStories => k_is)
      (case alFirst => k_is)
      (case llFirst => k_is)
      (case clFirst => k_is)
      (case klFirst => k_is)
      (case alIsS => k_is)
      (case llIsS => k_is)
      (case clIsS => k_is)
      (case klIsS => k_is)
      (case alDue => k_is)
      (case llDue => k_is)
      (case clDue => k_is)
      (case klDue => k_is)
      (case alBent => k_is)
      (case llBent => k_is)
      (case clBent => k_is)
      (case klBent => k_is)
      (case aHd => k_is)
      (case lHd => k_is)
      (case cHd => k_is)
      (case kHd => k_is)
      (case aTw => k_is)
      (case lTw => k_is)
      (case cTw => k_is)
      (case kTw => k_is)
      (case dTw => k_is)
      (case aHC => k_is)
      (case iHC => k_is)
      (case fnHC => k_is)
      (case lHC => k_is)
      (case cHC => k_is)
      (case kHC => k_is)
      (case pgHC => k_is)
      (case hdHC => k_is)
      (case poHC => k_is)
      (case saHC => k_is)
      (case mkHC => k_is)
      (case kcHC => k_is)
      (case nHCmarks => k_is)
      (case nHCmany => k_is)
      (case aMC => k_is)
      (case iMC => k_is)
      (case fnMC => k_is)
      (case lMC => k_is)
      (case cMC => k_is)
      (case kMC => k_is)
      (case pgMC => k_is)
      (case hdMC => k_is)
      (case poMC => k_is)
      (case saMC => k_is)
      (case mkMC => k_is)
      (case kcMC => k_is)
      (case nMChands => k_is)
      (case nMCrows => k_is)
      (case nMCstandings => k_is)
      (case aLE => k_is)
      (case noS => k_is)
      (case thp => k_is)
      (case aRF => k_is)
      (case xRF => k_is)
      (case bmvRF => first | rfl | decide +kernel | k_is)
      (case saRF => k_is)
      (case noRF => k_is)
      (case iRF => k_is)
      (case tRF => k_is)
      (case kRF => k_is)
      (case eRF => k_is)
      (case tyRF => k_is)
      (case supRF => kernel_rfl)
      (case veRF => k_is)
      (case ownRF => k_is)
      (case lRF => k_is)
      (case cRF => k_is)
      (case lcRF => k_is)
      (case vcRF => first | rfl | decide +kernel | k_is)
      (case fcRF => first | rfl | decide +kernel | k_is)
      (case ceRF => k_is)
      (case gaRF => k_is)
      (case ggRF => k_is)
      (case hdRF => k_is)
      (case haRF => k_is)
      (case hmRF => k_is)
      (case kiRF => kernel_rfl)
      (case aTG => k_is)
      (case xTG => k_is)
      (case bmvTG => first | rfl | decide +kernel | k_is)
      (case saTG => k_is)
      (case noTG => k_is)
      (case iTG => k_is)
      (case tTG => k_is)
      (case kTG => k_is)
      (case eTG => k_is)
      (case tyTG => k_is)
      (case supTG => kernel_rfl)
      (case veTG => k_is)
      (case ownTG => k_is)
      (case lTG => k_is)
      (case cTG => k_is)
      (case lcTG => k_is)
      (case vcTG => first | rfl | decide +kernel | k_is)
      (case fcTG => first | rfl | decide +kernel | k_is)
      (case ceTG => k_is)
      (case gaTG => k_is)
      (case ggTG => k_is)
      (case hdTG => k_is)
      (case haTG => k_is)
      (case hmTG => k_is)
      (case kiTG => kernel_rfl)
      (case hnE => k_is)
      (case htE => k_is)
      (case mC => first | rfl | decide +kernel | k_is)
      (case exTT => kernel_rfl)
      (case exRT => kernel_rfl)
      (case exRR => kernel_rfl)
      (case zisi => k_is)
      (case zint => k_is)
      (case zbool => k_is)
      (case zstr => k_is)
      (case zlist => k_is)
      (case ztuple => k_is)
      (case zlen => k_is)
      (case zenum => k_is)
      (case zzip => k_is)
      (case zall => k_is)
      (case zrange => k_is)
      (case zmin => k_is)
      (case zsum => k_is)
      (case zabs => k_is)
      (case zrepr => k_is)
      (case yhands => k_is)
      (case ymarks => k_is)
      (case ystory => k_is)
      (case ystand => k_is)
      (case ystories => k_is)
      (case tb => first | kernel_rfl | k_is)
      (case ch => kernel_rfl)
      (case aLw => k_is)
      (case lLw => k_is)
      (case cLw => k_is)
      (case zT => first | kernel_rfl | k_is))
