import PyProof.Rows.All
import Wide.All
import OpenK.AllK
import Wide.FinOn
import KE.DatumOrd
import HandS.ForMost
import HandS.Walk
import HandS.Zip
import HandS.IsInst
import HandS.Deep
import HandS.TupAny
import HandS.TupMul
import KE.GoesEnum
import KE.GoesMore
import HandS.SetFor
import HandS.SetKeys
import HandS.DictComp
import HandS.Strs
import HandS.Conv
import HandS.Small
import HandS.Style
import KE.KDictPairs
import PyProof.ReprRoads
import HandS.Defaults
import HandS.Ends
import HandS.TupLe
import KE.KStateDown
import Lean
import HandS.Base
import HandS.Call
import HandS.More
import HandS.Words
import HandS.Head0
import HandS.Head1
import HandS.Head2
import HandS.HeadHook1
import HandS.HeadHook2
import HandS.HeadHook3
import HandS.HeadHook4
import PySem.Challenge.RW_besthours_k37_whole_least_rows_or_proofs
set_option Elab.async false
set_option linter.all false
namespace Bh
/-! ### least and greatest of a list of ints -/
def lmin : List Int → Int
  | [] => 0
  | x :: r => r.foldl (fun a y => if decide (y < a) = true then y else a) x
def lmax : List Int → Int
  | [] => 0
  | x :: r => r.foldl (fun a y => if decide (a < y) = true then y else a) x
theorem lmin_fold : ∀ (r : List Int) (x : Int), (r.foldl (fun a y => if decide (y < a) = true then y else a) x ∈ x :: r) ∧ ∀ y ∈ x :: r, r.foldl (fun a y => if decide (y < a) = true then y else a) x ≤ y
  | [], x => ⟨List.mem_cons_self, fun y hy => by simp at hy; subst hy; exact Int.le_refl _⟩
  | z :: r, x => by
    rw [List.foldl_cons]
    by_cases hz : z < x
    · rw [if_pos (decide_eq_true hz)]
      obtain ⟨h1, h2⟩ := lmin_fold r z
      refine ⟨List.mem_cons_of_mem _ h1, fun y hy => ?_⟩
      rcases List.mem_cons.mp hy with e | hy
      · have := h2 z List.mem_cons_self
        omega
      · exact h2 y hy
    · rw [if_neg (by rw [decide_eq_true_eq]; exact hz)]
      obtain ⟨h1, h2⟩ := lmin_fold r x
      refine ⟨?_, fun y hy => ?_⟩
      · rcases List.mem_cons.mp h1 with e | h
        · rw [e]; exact List.mem_cons_self
        · exact List.mem_cons_of_mem _ (List.mem_cons_of_mem _ h)
      · rcases List.mem_cons.mp hy with e | hy
        · exact h2 y (e ▸ List.mem_cons_self)
        · rcases List.mem_cons.mp hy with e | hy
          · have := h2 x List.mem_cons_self
            omega
          · exact h2 y (List.mem_cons_of_mem _ hy)
theorem lmax_fold : ∀ (r : List Int) (x : Int), (r.foldl (fun a y => if decide (a < y) = true then y else a) x ∈ x :: r) ∧ ∀ y ∈ x :: r, y ≤ r.foldl (fun a y => if decide (a < y) = true then y else a) x
  | [], x => ⟨List.mem_cons_self, fun y hy => by simp at hy; subst hy; exact Int.le_refl _⟩
  | z :: r, x => by
    rw [List.foldl_cons]
    by_cases hz : x < z
    · rw [if_pos (decide_eq_true hz)]
      obtain ⟨h1, h2⟩ := lmax_fold r z
      refine ⟨List.mem_cons_of_mem _ h1, fun y hy => ?_⟩
      rcases List.mem_cons.mp hy with e | hy
      · have := h2 z List.mem_cons_self
        omega
      · exact h2 y hy
    · rw [if_neg (by rw [decide_eq_true_eq]; exact hz)]
      obtain ⟨h1, h2⟩ := lmax_fold r x
      refine ⟨?_, fun y hy => ?_⟩
      · rcases List.mem_cons.mp h1 with e | h
        · rw [e]; exact List.mem_cons_self
        · exact List.mem_cons_of_mem _ (List.mem_cons_of_mem _ h)
      · rcases List.mem_cons.mp hy with e | hy
        · exact h2 y (e ▸ List.mem_cons_self)
        · rcases List.mem_cons.mp hy with e | hy
          · have := h2 x List.mem_cons_self
            omega
          · exact h2 y (List.mem_cons_of_mem _ hy)
theorem lmin_mem {l : List Int} (h : l ≠ []) : lmin l ∈ l := by
  cases l with
  | nil => exact absurd rfl h
  | cons x r => exact (lmin_fold r x).1
theorem lmin_le {l : List Int} {y : Int} (h : y ∈ l) : lmin l ≤ y := by
  cases l with
  | nil => cases h
  | cons x r => exact (lmin_fold r x).2 y h
theorem lmax_mem {l : List Int} (h : l ≠ []) : lmax l ∈ l := by
  cases l with
  | nil => exact absurd rfl h
  | cons x r => exact (lmax_fold r x).1
theorem le_lmax {l : List Int} {y : Int} (h : y ∈ l) : y ≤ lmax l := by
  cases l with
  | nil => cases h
  | cons x r => exact (lmax_fold r x).2 y h
theorem lmin_eq {l : List Int} {m : Int} (h1 : m ∈ l) (h2 : ∀ y ∈ l, m ≤ y) : lmin l = m := by
  have hne : l ≠ [] := List.ne_nil_of_mem h1
  have a := h2 _ (lmin_mem hne)
  have b := lmin_le h1
  omega
theorem lmax_eq {l : List Int} {m : Int} (h1 : m ∈ l) (h2 : ∀ y ∈ l, y ≤ m) : lmax l = m := by
  have hne : l ≠ [] := List.ne_nil_of_mem h1
  have a := h2 _ (lmax_mem hne)
  have b := le_lmax h1
  omega
end Bh
set_option Elab.async false
set_option maxRecDepth 100000
set_option maxHeartbeats 4000000
namespace Bh
open PySem PySem.Spec PyProof.Rows L2
/-! ### a list or a tuple, by a Bool -/
def Sq (K : PySem.W.Frag) (k : Bool) (H : Hp) (a : Addr) (xs : List V) : Prop := match k with
  | true => SqL K H a xs
  | false => SqT K H a xs
def ItB (K : PySem.W.Frag) (k : Bool) (a : Addr) : It := match k with
  | true => Itl K a
  | false => Itt K a
def iSeq (K : PySem.W.Frag) (tl : TE) : TI := fun σ H R => tl σ H fun x H1 => ∃ a k, x = .ref a ∧ (∃ xs, Sq K k H1 a xs) ∧ R (ItB K k a) H1
theorem pi_seq {X : Cx} {tg l : Expr} {tl : TE} (hl : PE X l tl) : PI X tg l (iSeq X.K tl) := by
  refine ⟨fun pn s0 sg Hh Rr Iv hw => thn (hl.run pn s0 sg Hh _ Iv hw) fun v s1 ⟨x, H1, I1, r1, q1⟩ => ?_⟩
  obtain ⟨a, k, rfl, ⟨xs, hq⟩, q⟩ := q1
  cases r1
  have fr : FpOk X pn H1 s1.heap.objs.size := I1.fpOk (Nat.le_refl _) (I1.hok.fresh (Nat.le_refl _))
  cases k with
  | true =>
    obtain ⟨its, _, pl, _⟩ := I1.list (show SqL X.K H1 a xs from hq)
    refine wpAny_pyIter_list pl.isList ⟨s1.heap.objs.size, [s1.heap.objs.size], _, _, H1, rfl, I1.kept (t' := s1.toks) fun _ _ z => Heap.get?_push_of_some _ z, turn_list a _, ⟨_, Heap.get?_push_size _ rfl, rfl, rfl⟩, fun b hb => ?_, q⟩
    rw [List.mem_singleton.mp hb]
    exact fr
  | false =>
    obtain ⟨its, _, pl, _⟩ := I1.tuple (show SqT X.K H1 a xs from hq)
    refine wpAny_pyIter_tuple (show s1.heap.IsTuple a its.toArray from pl) ⟨s1.heap.objs.size, [s1.heap.objs.size], _, _, H1, rfl, I1.kept (t' := s1.toks) fun _ _ z => Heap.get?_push_of_some _ z, turn_tuple a _, ⟨_, Heap.get?_push_size _ rfl, rfl, rfl⟩, fun b hb => ?_, q⟩
    rw [List.mem_singleton.mp hb]
    exact fr
theorem walk_seq {K : PySem.W.Frag} {k : Bool} {a : Addr} {xs : List V} : Walk (ItB K k a) xs.length (fun H => Sq K k H a xs) (YAt xs) := by
  cases k with
  | true => exact walk_list
  | false => exact walk_tup
/-! ### min, max of a list or a tuple of ints -/
def rMinB (K : PySem.W.Frag) : List V → Hp → VK → Prop := fun vs H Q => ∃ (a : Addr) (k : Bool) (ns : List Int), vs = [V.ref a] ∧ Sq K k H a (ns.map V.int) ∧ ns ≠ [] ∧ Q (.int (lmin ns)) H
def rMaxB (K : PySem.W.Frag) : List V → Hp → VK → Prop := fun vs H Q => ∃ (a : Addr) (k : Bool) (ns : List Int), vs = [V.ref a] ∧ Sq K k H a (ns.map V.int) ∧ ns ≠ [] ∧ Q (.int (lmax ns)) H
theorem hold_ints {h : Heap} : ∀ {us : List Value} {ns : List Int}, IntsAre us ns → PySem.W.HoldAll h us ns
  | _, _, .nil => .nil
  | _, _, .cons n t r => .cons ⟨[], .int n t⟩ (hold_ints r)
theorem held_int {h : Heap} {v : Value} {n : Int} (q : PySem.W.Holds h v n) : ∃ t, v = .int n t := by
  obtain ⟨as, r⟩ := q
  have r2 : Reads h v (.int n) as := r
  cases r2
  exact ⟨_, rfl⟩
section
variable {X : Cx}
theorem cr_minB (hc : X.calm = true) (hu : X.A.units + 1 < cLine) : CallR X (.builtin "min") (rMinB X.K) := by
  intro pn s0 sg Hh vs us Qq Iv rl hw
  obtain ⟨a, k, ns, rfl, hs, hne, q⟩ := hw
  rw [Vals.ref1 rl]
  cases ns with
  | nil => exact absurd rfl hne
  | cons n r =>
    cases k with
    | true =>
      obtain ⟨its, rv, pl, _⟩ := Iv.list (show SqL X.K Hh a ((n :: r).map V.int) from hs)
      refine PySem.W.min_list_datum (α := Int) (Iv.ok.hd hc) pl.isList (hold_ints (ns := n :: r) (by simpa using rv.ints)) hu fun i v h' tk _ hv hk => ?_
      obtain ⟨t, rfl⟩ := held_int hv
      exact ⟨.int _, Hh, Iv.kept hk, ⟨_, rfl⟩, q⟩
    | false =>
      obtain ⟨its, rv, pl, _⟩ := Iv.tuple (show SqT X.K Hh a ((n :: r).map V.int) from hs)
      refine PySem.W.min_tuple_datum (α := Int) (Iv.ok.hd hc) (show s0.heap.IsTuple a its.toArray from pl) (hold_ints (ns := n :: r) (by simpa using rv.ints)) hu fun i v h' tk _ hv hk => ?_
      obtain ⟨t, rfl⟩ := held_int hv
      exact ⟨.int _, Hh, Iv.kept hk, ⟨_, rfl⟩, q⟩
theorem cr_maxB (hc : X.calm = true) (hu : X.A.units + 1 < cLine) : CallR X (.builtin "max") (rMaxB X.K) := by
  intro pn s0 sg Hh vs us Qq Iv rl hw
  obtain ⟨a, k, ns, rfl, hs, hne, q⟩ := hw
  rw [Vals.ref1 rl]
  cases ns with
  | nil => exact absurd rfl hne
  | cons n r =>
    cases k with
    | true =>
      obtain ⟨its, rv, pl, _⟩ := Iv.list (show SqL X.K Hh a ((n :: r).map V.int) from hs)
      refine PySem.W.max_list_datum (α := Int) (Iv.ok.hd hc) pl.isList (hold_ints (ns := n :: r) (by simpa using rv.ints)) hu fun i v h' tk _ hv hk => ?_
      obtain ⟨t, rfl⟩ := held_int hv
      exact ⟨.int _, Hh, Iv.kept hk, ⟨_, rfl⟩, q⟩
    | false =>
      obtain ⟨its, rv, pl, _⟩ := Iv.tuple (show SqT X.K Hh a ((n :: r).map V.int) from hs)
      refine PySem.W.max_tuple_datum (α := Int) (Iv.ok.hd hc) (show s0.heap.IsTuple a its.toArray from pl) (hold_ints (ns := n :: r) (by simpa using rv.ints)) hu fun i v h' tk _ hv hk => ?_
      obtain ⟨t, rfl⟩ := held_int hv
      exact ⟨.int _, Hh, Iv.kept hk, ⟨_, rfl⟩, q⟩
end
end Bh
namespace Bh
open PySem PySem.Spec PyProof.Rows L2
/-! ### enumerate and zip of lists and tuples in any mix -/
def SqI (k : Bool) (h : Heap) (it a : Addr) (i : Nat) : Prop := match k with
  | true => h.IsListIter it a i
  | false => h.IsTupleIter it a i
def SqH (k : Bool) (h : Heap) (a : Addr) (its : Array Value) : Prop := match k with
  | true => h.IsList a its
  | false => h.IsTuple a its
def itObj (k : Bool) (a : Addr) : Obj := match k with
  | true => { cls := .type "list_iterator", data := .fields #[.ref a, .int 0 0] }
  | false => { cls := .type "tuple_iterator", data := .fields #[.ref a, .int 0 0] }
theorem SqI.at' {k : Bool} {h h' : Heap} {it a : Addr} {i : Nat} (x : SqI k h it a i) (q : ∀ o, h.get? it = some o → h'.get? it = some o) : SqI k h' it a i := by
  cases k with
  | true =>
    have y : h.IsListIter it a i := x
    exact (y.at q : h'.IsListIter it a i)
  | false =>
    have y : h.IsTupleIter it a i := x
    exact (y.at q : h'.IsTupleIter it a i)
theorem SqH.at' {k : Bool} {h h' : Heap} {a : Addr} {its : Array Value} (x : SqH k h a its) (q : ∀ o, h.get? a = some o → h'.get? a = some o) : SqH k h' a its := by
  obtain ⟨⟩ | ⟨⟩ := k
  · exact (Heap.IsTuple.at (show h.IsTuple a its from x) q : h'.IsTuple a its)
  · exact (Heap.IsList.at (show h.IsList a its from x) q : h'.IsList a its)
theorem SqI.ob {k : Bool} {h : Heap} {it a : Addr} {i : Nat} (x : SqI k h it a i) : ∃ o, h.get? it = some o ∧ (o.cls = .type "list_iterator" ∨ o.cls = .type "tuple_iterator") ∧ ∀ v, o.data ≠ .cell v := by
  obtain ⟨⟩ | ⟨⟩ := k
  · obtain ⟨o, e, c, d⟩ := (show h.IsTupleIter it a i from x)
    exact ⟨o, e, .inr c, fun v z => by rw [d] at z; cases z⟩
  · obtain ⟨o, e, c, d⟩ := (show h.IsListIter it a i from x)
    exact ⟨o, e, .inl c, fun v z => by rw [d] at z; cases z⟩
theorem SqH.ob {k : Bool} {h : Heap} {a : Addr} {its : Array Value} (x : SqH k h a its) : ∃ o, h.get? a = some o ∧ (o.cls = .type "list" ∨ o.cls = .type "tuple") ∧ ∃ n, o.data = .seq its n := by
  obtain ⟨⟩ | ⟨⟩ := k
  · obtain ⟨o, e, c, d⟩ := (show h.IsTuple a its from x)
    exact ⟨o, e, .inr c, d⟩
  · obtain ⟨o, e, c, d⟩ := (show h.IsList a its from x)
    exact ⟨o, e, .inl c, d⟩
theorem cls_ne {o : Obj} {m n m' n' : String} (h1 : o.cls = .type m ∨ o.cls = .type n) (h2 : o.cls = .type m' ∨ o.cls = .type n') (d1 : m ≠ m') (d2 : m ≠ n') (d3 : n ≠ m') (d4 : n ≠ n') : False := by
  rcases h1 with h1 | h1 <;> rcases h2 with h2 | h2 <;> rw [h1] at h2
  · exact d1 (Value.type.inj h2)
  · exact d2 (Value.type.inj h2)
  · exact d3 (Value.type.inj h2)
  · exact d4 (Value.type.inj h2)
theorem Sq.its {X : Cx} {pn : List (Addr × Obj)} {sg : L2.St} {Hh : Hp} {s : Shared} {k : Bool} {a : Addr} {xs : List V} (Iv : Inv X pn sg Hh s) (q : Sq X.K k Hh a xs) : ∃ its : List Value, Vals xs its ∧ SqH k s.heap a its.toArray := by
  obtain ⟨⟩ | ⟨⟩ := k
  · obtain ⟨its, rv, p, _⟩ := Iv.tuple (show SqT X.K Hh a xs from q)
    exact ⟨its, rv, p⟩
  · obtain ⟨its, rv, p, _⟩ := Iv.list (show SqL X.K Hh a xs from q)
    exact ⟨its, rv, p.isList⟩
theorem Sq.inj {X : Cx} {pn : List (Addr × Obj)} {sg : L2.St} {Hh : Hp} {s : Shared} {k : Bool} {a : Addr} {xs ys : List V} (Iv : Inv X pn sg Hh s) (q : Sq X.K k Hh a xs) (q' : Sq X.K k Hh a ys) : xs = ys := by
  obtain ⟨⟩ | ⟨⟩ := k
  · exact Iv.tuple_inj q q'
  · exact Iv.list_inj q q'
theorem begins_sq (k : Bool) (a : Addr) (its : Array Value) : Begins (.ref a) (itObj k a) fun h => SqH k h a its := by
  obtain ⟨⟩ | ⟨⟩ := k
  · exact begins_tuple a its
  · exact begins_list a its
theorem draws_sq {P : Program} {w : World} {A : Around} (k : Bool) (hh : A.handled = none) (it a : Addr) (hne : a ≠ it) (its : Array Value) :
    Draws P w A it [it, a] its.size (fun i v => its[i]? = some v) (fun i h => SqI k h it a i ∧ SqH k h a its) := by
  obtain ⟨⟩ | ⟨⟩ := k
  · exact Draws.tuple hh it a hne its
  · exact Draws.list hh it a hne its
/-- enumerate(v), its one argument -/
theorem meets_enum1 {v : Value} {o : Obj} {Hb : Heap → Prop} (B : Begins v o Hb) :
    Meets (Builtin.«enumerate.__new__» ⟨[.type "enumerate", v], []⟩) (fun _ R s => Hb s.heap ∧
      R (.ok (.ret (.ref (s.heap.push o).objs.size))) { s with heap := (s.heap.push o).push { cls := .type "enumerate", data := .fields #[.none, .bool false, .ref s.heap.objs.size, rawInt 0, .none, .none] } }) :=
  .of_wp fun P w A R s hw => by
    obtain ⟨hp, g, d, tk, os⟩ := s
    obtain ⟨h1, hw⟩ := hw
    have hsub := sub_enumerate
    have q1 : ∀ {A' : Around} {E : Value → Shared → Prop} {Q : Value → Shared → Prop}, Q (.ref hp.objs.size) ⟨hp.push o, g, d, tk, os⟩ → wpAny (model P w) A' (pyIter v) Q E ⟨hp, g, d, tk, os⟩ :=
      fun q => B.iter P w _ _ ⟨hp, g, d, tk, os⟩ _ h1 q
    wp_walk using q1
    refine wpAny_stack_any fun st => wpAny_pure ?_
    split
    · rename_i c _ _ _ _ _
      cases (c == Value.type "enumerate") <;> (wp_walk using q1; exact ⟨_, rfl, hw⟩)
    · wp_walk using q1
      exact ⟨_, rfl, hw⟩
theorem call_enum1 {P : Program} {w : World} {A : Around} {E : Value → Shared → Prop} {s : Shared} {v : Value} {o : Obj} {Hb : Heap → Prop} {Q : Value → Shared → Prop} (B : Begins v o Hb) (h1 : Hb s.heap)
    (hq : ∀ h', IsEnum h' (s.heap.objs.size + 1) s.heap.objs.size 0 .none → h'.get? s.heap.objs.size = some o → (∀ b u, s.heap.get? b = some u → h'.get? b = some u) → Q (.ref (s.heap.objs.size + 1)) { s with heap := h' }) :
    wpAny (model P w) A (call (.type "enumerate") [v]) Q E s := by
  refine callType_new PySem.F.called_enumerate (by decide) (PySem.F.typeCall_enumerate_1 _) (PySem.F.newCall_enumerate_1 _) (fun obj => PySem.F.args_object_init_2 obj _) PySem.F.entry_enumerate_new (meets_enum1 B) ⟨h1, ?_⟩
  have hz : (s.heap.push o).objs.size = s.heap.objs.size + 1 := Heap.size_push ..
  show _ ∧ _
  rw [hz]
  have he := Heap.get?_push_size (s.heap.push o) (o := { cls := .type "enumerate", data := .fields #[.none, .bool false, .ref s.heap.objs.size, rawInt 0, .none, .none] }) rfl
  rw [hz] at he
  exact ⟨⟨_, he, rfl⟩, hq _ he (Heap.get?_push_of_some _ (Heap.get?_push_size _ B.free)) fun b u z => Heap.get?_push_of_some _ (Heap.get?_push_of_some _ z)⟩
def IteB (K : PySem.W.Frag) (k : Bool) (a : Addr) : It :=
  ⟨fun i H => ∃ xs x, Sq K k H a xs ∧ xs[i]? = some x,
    fun i H v H' => ∃ T x, v = .ref T ∧ H T = none ∧ H' = upd H T (.tup [.int (i : Nat), x]) ∧ ∀ xs, Sq K k H a xs → xs[i]? = some x,
    fun i H => ∃ xs, Sq K k H a xs ∧ xs.length = i⟩
theorem turn_enumB {P : Program} {w : World} {K : PySem.W.Frag} {elts : List Expr} {kk : Nat} {tpos : Pos} (k : Bool) (a e it : Addr) :
    Turn P w K (.Tuple elts kk tpos) (IteB K k a) [e, it] e (fun i h => (∃ old, IsEnum h e it (i : Nat) old) ∧ SqI k h it a i ∧ e ≠ it) where
  mem := by simp
  obj := fun i h st c hc => by
    obtain ⟨⟨old, he⟩, hi, _⟩ := st
    rcases List.mem_cons.mp hc with q | q
    · rw [q]; exact ⟨_, he, fun v z => nomatch z⟩
    · rw [List.mem_singleton.mp q]
      obtain ⟨o, z, _, y⟩ := hi.ob
      exact ⟨o, z, y⟩
  keep := fun i h h' st q => ⟨⟨st.1.choose, q e (by simp) _ st.1.choose_spec⟩, st.2.1.at' fun o z => q it (by simp) o z, st.2.2⟩
  item := by
    intro X hP hw hK hc i pn s sg Hh E Iv hf st hg
    subst hP hw hK
    obtain ⟨⟨old, he⟩, hi, hne⟩ := st
    obtain ⟨xs, x, hq, hx⟩ := hg
    obtain ⟨its, rv, p⟩ := hq.its Iv
    obtain ⟨u, hu, ru⟩ := rv.get hx
    have hlt : i < its.toArray.size := by
      rw [List.size_toArray]
      exact (List.getElem?_eq_some_iff.mp hu).1
    obtain ⟨oi, hoi, ci, _⟩ := hi.ob
    obtain ⟨oa, hoa, ca, _⟩ := p.ob
    have hai : a ≠ it := fun z => by
      rw [z, hoi] at hoa
      cases hoa
      exact cls_ne ci ca (by decide) (by decide) (by decide) (by decide)
    have hae : e ≠ a := fun z => by
      rw [← z, he] at hoa
      cases hoa
      exact cls_ne (m := "enumerate") (n := "enumerate") (.inl rfl) ca (by decide) (by decide) (by decide) (by decide)
    have hel : e < s.heap.objs.size := Heap.lt_size he
    have hil : it < s.heap.objs.size := Heap.lt_size hoi
    refine PySem.wpAny_pyNext_enum_itemC (draws_sq k (by simpa using Iv.ok.hd hc) it a hai its.toArray) he ⟨hi, p⟩ hlt hne (by simp [hne, hae]) fun x' h' tk hx' ho hs' hT hsz hk => ?_
    have ex : x' = u := by
      rw [List.getElem?_toArray] at hx'
      exact Option.some.inj (hx'.symm.trans hu)
    subst ex
    refine ⟨_, rfl, wpAny_letOwnedTupleGo_enum (s := { s with heap := h', toks := tk + 1 }) ho fun h'' he'' sb => ?_⟩
    have hT2 : h''.get? s.heap.objs.size = some { cls := .type "tuple", data := .seq #[.int (i : Nat) tk, x'] } := (sb.2 _ (Nat.ne_of_gt hel)).trans hT
    have new : ObjOk X.prog X.w (upd Hh s.heap.objs.size (.tup [.int (i : Nat), x])) h'' s.heap.objs.size (.tup [.int (i : Nat), x]) :=
      ⟨by show 2 ≤ sizeLine; decide, [.int (i : Nat) tk, x'], .cons ⟨_, rfl⟩ (.cons ru .nil), ⟨_, hT2, rfl, _, rfl⟩⟩
    have J : Inv X pn sg (upd Hh s.heap.objs.size (.tup [.int (i : Nat), x])) { s with heap := h'', toks := tk + 1 } :=
      Iv.turnedNew (t' := tk + 1) (ch := [e, it]) (fun c o hb q => (sb.2 c (fun z => hb (by simp [z]))).trans (hk c o (fun z => hb (by simp [z])) (fun z => hb (by simp [z])) q)) hf (Nat.le_refl _) new
    have e1 : (((i + 1 : Nat) : Int)) = (i : Int) + 1 := by omega
    refine ⟨.ref s.heap.objs.size, _, J, rfl, ⟨_, x, rfl, Iv.hok.fresh (Nat.le_refl _), rfl, fun l hl => by rw [hl.inj Iv hq]; exact hx⟩, ⟨⟨x', by rw [e1]; exact he''⟩, hs'.1.at' fun o q => (sb.2 _ (Ne.symm hne)).trans q, hne⟩, fun c hcm => ?_⟩
    have hl : c < s.heap.objs.size := by
      rcases List.mem_cons.mp hcm with q | q
      · rw [q]; exact hel
      · rw [List.mem_singleton.mp q]; exact hil
    rw [upd_ne (Nat.ne_of_lt hl)]
    exact (hf c hcm).1
  done := by
    intro X hP hw hK hc i pn s sg Hh E Iv hf st hg
    subst hP hw hK
    obtain ⟨⟨old, he⟩, hi, hne⟩ := st
    obtain ⟨xs, hq, hl⟩ := hg
    obtain ⟨its, rv, p⟩ := hq.its Iv
    have hn : i = its.toArray.size := by rw [List.size_toArray, ← rv.length, hl]
    subst hn
    obtain ⟨oi, hoi, ci, _⟩ := hi.ob
    obtain ⟨oa, hoa, ca, _⟩ := p.ob
    have hai : a ≠ it := fun z => by
      rw [z, hoi] at hoa
      cases hoa
      exact cls_ne ci ca (by decide) (by decide) (by decide) (by decide)
    refine wpAny_pyNext_enum_endD (draws_sq k (by simpa using Iv.ok.hd hc) it a hai its.toArray) he ⟨hi, p⟩ fun h' hx => ⟨rfl, Iv.turnedL (t' := s.toks) (ch := [e, it]) (fun c o hb q => hx c o (fun z => hb (by simp [z])) q) hf⟩
  self := fun A i s Q E st h => by
    obtain ⟨⟨old, he⟩, _⟩ := st
    exact wpAny_pyIter_enum he h
def iEnumB (K : PySem.W.Frag) (ta : TA) : TI := fun σ H R => ta σ H fun vs H1 => ∃ a k xs, vs = [.ref a] ∧ Sq K k H1 a xs ∧ R (IteB K k a) H1
theorem pi_enumB {X : Cx} {e : Expr} {ta : TA} {p pos tpos : Pos} {elts : List Expr} {kk : Nat} (hg : Gl X "enumerate") (hm : X.mg "enumerate" = none) (ha : PA X [e] ta) (hs : starEach [e] X.env = [(false, eval e X.env)] := by rfl) :
    PI X (.Tuple elts kk tpos) (.Call (.Name "enumerate" p) [e] [] pos) (iEnumB X.K ta) := by
  refine ⟨fun pn s0 sg Hh Rr Iv hw => Call_ (ld_blt Iv hg hm boot_enumerate (PyProof.Rows.callWith_type1 (thn (ha.run pos pn s0 sg Hh _ Iv hw) fun us s1 ⟨vs, H1, I1, r1, q1⟩ => ?_) hs rfl))⟩
  obtain ⟨a, k, xs, rfl, hq, q⟩ := q1
  rw [Vals.ref1 r1]
  obtain ⟨its, rv, p'⟩ := hq.its I1
  refine call_enum1 (begins_sq k a its.toArray) p' fun h' he hit hk => wpAny_pyIter_enum he ?_
  have I2 : Inv X pn sg H1 { s1 with heap := h' } := I1.kept (t' := s1.toks) hk
  refine ⟨s1.heap.objs.size + 1, [s1.heap.objs.size + 1, s1.heap.objs.size], _, _, H1, rfl, I2, turn_enumB k a (s1.heap.objs.size + 1) s1.heap.objs.size, ⟨⟨.none, he⟩, ?_, Nat.succ_ne_self _⟩, fun b hb => ?_, q⟩
  · obtain ⟨⟩ | ⟨⟩ := k
    · exact ⟨_, hit, rfl, rfl⟩
    · exact ⟨_, hit, rfl, rfl⟩
  · have hle : s1.heap.objs.size ≤ b := by
      rcases List.mem_cons.mp hb with z | z
      · rw [z]; exact Nat.le_add_right _ _
      · rw [List.mem_singleton.mp z]; exact Nat.le_refl _
    exact I1.fpOk hle (I1.hok.fresh hle)
theorem walk_enumB {K : PySem.W.Frag} {k : Bool} {a : Addr} {xs : List V} : Walk (IteB K k a) xs.length (fun H => Sq K k H a xs) (YPair (fun i => some (.int (i : Nat))) (fun i => xs[i]?)) := by
  refine ⟨fun i _ hi q => ⟨xs, xs[i], q, List.getElem?_eq_getElem hi⟩, fun _ q => ⟨xs, q, rfl⟩, fun i H v H' _ q y => ?_⟩
  obtain ⟨T, x, h1, h2, h3, h4⟩ := y
  exact ⟨T, _, x, h1, h2, h3, rfl, h4 xs q⟩
/-! zip -/
def ItzB (K : PySem.W.Frag) (k1 k2 : Bool) (a b : Addr) : It :=
  ⟨fun i H => ∃ (xs ys : List V) (x y : V), Sq K k1 H a xs ∧ Sq K k2 H b ys ∧ xs[i]? = some x ∧ ys[i]? = some y,
    fun i H v H' => ∃ T x y, v = .ref T ∧ H T = none ∧ H' = upd H T (.tup [x, y]) ∧ (∀ xs, Sq K k1 H a xs → xs[i]? = some x) ∧ ∀ ys, Sq K k2 H b ys → ys[i]? = some y,
    fun i H => ∃ xs ys : List V, Sq K k1 H a xs ∧ Sq K k2 H b ys ∧ i ≤ xs.length ∧ i ≤ ys.length ∧ (i = xs.length ∨ i = ys.length)⟩
/-- the cells of a zip stand apart -/
structure ZAp (z TI TO i1 i2 a b : Addr) : Prop where
  a1 : TI ≠ z
  a2 : TO ≠ z
  a3 : TI ≠ TO
  a4 : TI ≠ i1
  a5 : TI ≠ i2
  a6 : z ≠ i1
  a7 : z ≠ i2
  a8 : TO ≠ i1
  a9 : TO ≠ i2
  a10 : i1 ≠ i2
  b1 : a ≠ z
  b2 : a ≠ TO
  b3 : a ≠ i1
  b4 : a ≠ i2
  c1 : b ≠ z
  c2 : b ≠ TO
  c3 : b ≠ i1
  c4 : b ≠ i2
theorem ZAp.sep {z TI TO i1 i2 a b : Addr} (S : ZAp z TI TO i1 i2 a b) : ZipSep2 z TI TO i1 i2 [i1, a] [i2, b] :=
  ⟨S.a1, S.a2, S.a3, S.a4, by simp, by simp [S.a6, S.b1.symm], by simp [S.a8, S.b2.symm], S.a5, by simp, by simp [S.a7, S.c1.symm], by simp [S.a9, S.c2.symm], by simp [S.a10, S.c3.symm], by simp [S.a10.symm, S.b4.symm]⟩
theorem zap_nat (N a b : Nat) (ha : a < N) (hb : b < N) : (N + 2 ≠ N + 4 ∧ N + 3 ≠ N + 4 ∧ N + 2 ≠ N + 3 ∧ N + 2 ≠ N ∧ N + 2 ≠ N + 1 ∧ N + 4 ≠ N ∧ N + 4 ≠ N + 1 ∧ N + 3 ≠ N ∧ N + 3 ≠ N + 1 ∧ N ≠ N + 1) ∧
    (a ≠ N + 4 ∧ a ≠ N + 3 ∧ a ≠ N ∧ a ≠ N + 1) ∧ (b ≠ N + 4 ∧ b ≠ N + 3 ∧ b ≠ N ∧ b ≠ N + 1) := by omega
theorem zap_new (N : Nat) {a b : Addr} (ha : a < N) (hb : b < N) : ZAp (N + 4) (N + 2) (N + 3) N (N + 1) a b := by
  obtain ⟨⟨h1, h2, h3, h4, h5, h6, h7, h8, h9, h10⟩, ⟨p1, p2, p3, p4⟩, q1, q2, q3, q4⟩ := zap_nat N a b ha hb
  exact ⟨h1, h2, h3, h4, h5, h6, h7, h8, h9, h10, p1, p2, p3, p4, q1, q2, q3, q4⟩
theorem turn_zipB {P : Program} {w : World} {K : PySem.W.Frag} {elts : List Expr} {kk : Nat} {tpos : Pos} {k1 k2 : Bool} {a b z TI TO i1 i2 : Addr} (D : ZAp z TI TO i1 i2 a b) :
    Turn P w K (.Tuple elts kk tpos) (ItzB K k1 k2 a b) [z, TI, TO, i1, i2] z (fun i h => IsZip h z TI TO .none ∧ IsTupOf2 h TI (.ref i1) (.ref i2) ∧ (∃ x y, IsTupOf2 h TO x y) ∧ SqI k1 h i1 a i ∧ SqI k2 h i2 b i) where
  mem := by simp
  obj := fun i h st c hc => by
    obtain ⟨hz, hTI, ⟨x, y, hTO⟩, h1, h2⟩ := st
    obtain ⟨o1, e1, _, d1⟩ := h1.ob
    obtain ⟨o2, e2, _, d2⟩ := h2.ob
    have hc' : c = z ∨ c = TI ∨ c = TO ∨ c = i1 ∨ c = i2 := by simpa using hc
    rcases hc' with q | q | q | q | q <;> rw [q]
    · exact ⟨_, hz, fun v q => nomatch q⟩
    · exact ⟨_, hTI, fun v q => nomatch q⟩
    · exact ⟨_, hTO, fun v q => nomatch q⟩
    · exact ⟨o1, e1, d1⟩
    · exact ⟨o2, e2, d2⟩
  keep := fun i h h' st q => by
    obtain ⟨hz, hTI, ⟨x, y, hTO⟩, h1, h2⟩ := st
    exact ⟨q z (by simp) _ hz, q TI (by simp) _ hTI, ⟨x, y, q TO (by simp) _ hTO⟩, h1.at' fun o y => q i1 (by simp) o y, h2.at' fun o y => q i2 (by simp) o y⟩
  item := by
    intro X hP hw hK hc i pn s sg Hh E Iv hf st hg
    subst hP hw hK
    obtain ⟨hz, hTI, ⟨x0, y0, hTO⟩, h1, h2⟩ := st
    obtain ⟨xs, ys, x, y, hqx, hqy, hx, hy⟩ := hg
    obtain ⟨its, rv, p⟩ := hqx.its Iv
    obtain ⟨its2, rv2, p2⟩ := hqy.its Iv
    obtain ⟨u, hu, ru⟩ := rv.get hx
    obtain ⟨u2, hu2, ru2⟩ := rv2.get hy
    have hd : X.A.in1.handled = none := by simpa using Iv.ok.hd hc
    have l1 : i < its.toArray.size := by rw [List.size_toArray]; exact (List.getElem?_eq_some_iff.mp hu).1
    have l2 : i < its2.toArray.size := by rw [List.size_toArray]; exact (List.getElem?_eq_some_iff.mp hu2).1
    have hzl : z < s.heap.objs.size := Heap.lt_size hz
    refine PySem.wpAny_pyNext_zipD2_item D.sep (draws_sq k1 hd i1 a D.b3 its.toArray) (draws_sq k2 hd i2 b D.c4 its2.toArray) hz hTI hTO ⟨h1, p⟩ ⟨h2, p2⟩ l1 l2 fun x1 x2 h' tk hx1 hx2 z' TO' h1' h2' hT hsz hk => ?_
    have ex1 : x1 = u := by
      rw [List.getElem?_toArray] at hx1
      exact Option.some.inj (hx1.symm.trans hu)
    have ex2 : x2 = u2 := by
      rw [List.getElem?_toArray] at hx2
      exact Option.some.inj (hx2.symm.trans hu2)
    subst ex1 ex2
    refine ⟨_, rfl, wpAny_letOwnedTupleGo_zip (s := { s with heap := h', toks := tk }) z' fun h'' z'' sb => ?_⟩
    have hT2 : h''.get? s.heap.objs.size = some { cls := .type "tuple", data := .seq #[x1, x2] } := (sb.2 _ (Nat.ne_of_gt hzl)).trans hT
    have new : ObjOk X.prog X.w (upd Hh s.heap.objs.size (.tup [x, y])) h'' s.heap.objs.size (.tup [x, y]) :=
      ⟨by show 2 ≤ sizeLine; decide, [x1, x2], .cons ru (.cons ru2 .nil), ⟨_, hT2, rfl, _, rfl⟩⟩
    have J : Inv X pn sg (upd Hh s.heap.objs.size (.tup [x, y])) { s with heap := h'', toks := tk } :=
      Iv.turnedNew (t' := tk) (ch := [z, TI, TO, i1, i2]) (fun c o hb q => (sb.2 c (fun e => hb (by simp [e]))).trans (hk c o (fun e => hb (by simp [e])) (fun e => hb (by simp [e])) (fun e => hb (by simp [e])) (fun e => hb (by simp [e])) q)) hf (Nat.le_refl _) new
    refine ⟨.ref s.heap.objs.size, _, J, rfl, ⟨_, x, y, rfl, Iv.hok.fresh (Nat.le_refl _), rfl, fun l hl => by rw [hl.inj Iv hqx]; exact hx, fun l hl => by rw [hl.inj Iv hqy]; exact hy⟩,
      ⟨z'', (sb.2 _ D.a1).trans (hk _ _ D.a1 D.a3 D.a4 D.a5 hTI), ⟨_, _, (sb.2 _ D.a2).trans TO'⟩, h1'.1.at' fun o q => (sb.2 _ D.a6.symm).trans q, h2'.1.at' fun o q => (sb.2 _ D.a7.symm).trans q⟩, fun c hcm => ?_⟩
    obtain ⟨o1, e1, _⟩ := h1.ob
    obtain ⟨o2, e2, _⟩ := h2.ob
    have hlt : c < s.heap.objs.size := by
      have hc' : c = z ∨ c = TI ∨ c = TO ∨ c = i1 ∨ c = i2 := by simpa using hcm
      rcases hc' with q | q | q | q | q <;> rw [q]
      · exact hzl
      · exact Heap.lt_size hTI
      · exact Heap.lt_size hTO
      · exact Heap.lt_size e1
      · exact Heap.lt_size e2
    rw [upd_ne (Nat.ne_of_lt hlt)]
    exact (hf c hcm).1
  done := by
    intro X hP hw hK hc i pn s sg Hh E Iv hf st hg
    subst hP hw hK
    obtain ⟨hz, hTI, ⟨x0, y0, hTO⟩, h1, h2⟩ := st
    obtain ⟨xs, ys, hqx, hqy, le1, le2, hend⟩ := hg
    obtain ⟨its, rv, p⟩ := hqx.its Iv
    obtain ⟨its2, rv2, p2⟩ := hqy.its Iv
    have n1 : xs.length = its.toArray.size := by rw [List.size_toArray, ← rv.length]
    have n2 : ys.length = its2.toArray.size := by rw [List.size_toArray, ← rv2.length]
    have hd : X.A.in1.handled = none := by simpa using Iv.ok.hd hc
    exact PySem.wpAny_pyNext_zipD2_end D.sep (draws_sq k1 hd i1 a D.b3 its.toArray) (draws_sq k2 hd i2 b D.c4 its2.toArray) hz hTI hTO ⟨h1, p⟩ ⟨h2, p2⟩ (n1 ▸ le1) (n2 ▸ le2) (n1 ▸ n2 ▸ hend)
      fun h' tk hk => ⟨rfl, Iv.turnedL (t' := tk) (ch := [z, TI, TO, i1, i2]) (fun c o hb q => hk c o (fun e => hb (by simp [e])) (fun e => hb (by simp [e])) (fun e => hb (by simp [e])) (fun e => hb (by simp [e])) q) hf⟩
  self := fun A i s Q E st h => wpAny_pyIter_zip st.1 h
def iZipB (K : PySem.W.Frag) (ta : TA) : TI := fun σ H R => ta σ H fun vs H1 => ∃ a b k1 k2 xs ys, vs = [.ref a, .ref b] ∧ Sq K k1 H1 a xs ∧ Sq K k2 H1 b ys ∧ R (ItzB K k1 k2 a b) H1
theorem itB_start {k : Bool} {h : Heap} {it a : Addr} (e : h.get? it = some (itObj k a)) : SqI k h it a 0 := by
  obtain ⟨⟩ | ⟨⟩ := k
  · exact ⟨_, e, rfl, rfl⟩
  · exact ⟨_, e, rfl, rfl⟩
theorem pi_zipB {X : Cx} {e e2 : Expr} {ta : TA} {p pos tpos : Pos} {elts : List Expr} {kk : Nat} (hg : Gl X "zip") (hm : X.mg "zip" = none) (ha : PA X [e, e2] ta)
    (hs : starEach [e, e2] X.env = (false, eval e X.env) :: starEach [e2] X.env := by rfl) (hpl : (backTo pos (starEach [e2] X.env)).any (·.1) = false := by rfl) :
    PI X (.Tuple elts kk tpos) (.Call (.Name "zip" p) [e, e2] [] pos) (iZipB X.K ta) := by
  refine ⟨fun pn s0 sg Hh Rr Iv hw => Call_ (ld_blt Iv hg hm PyProof.Rows.boot_zip (PyProof.Rows.callWith_type1 (thn (ha.run pos pn s0 sg Hh _ Iv hw) fun us s1 ⟨vs, H1, I1, r1, q1⟩ => ?_) hs hpl))⟩
  obtain ⟨a, b, k1, k2, xs, ys, rfl, hqx, hqy, q⟩ := q1
  obtain ⟨u1, u2, rfl, ru1, ru2⟩ := vals2 r1
  cases ru1
  cases ru2
  obtain ⟨its, rv, p1⟩ := hqx.its I1
  obtain ⟨its2, rv2, p2⟩ := hqy.its I1
  obtain ⟨oa, ea, _⟩ := p1.ob
  obtain ⟨ob, eb, _⟩ := p2.ob
  refine zip_begins2 (begins_sq k1 a its.toArray) (begins_sq k2 b its2.toArray) p1 p2 fun h' hz hTI hTO h1 h2 hsz hk => wpAny_pyIter_zip hz ?_
  have I2 : Inv X pn sg H1 { s1 with heap := h' } := I1.kept (t' := s1.toks) hk
  refine ⟨s1.heap.objs.size + 4, [s1.heap.objs.size + 4, s1.heap.objs.size + 2, s1.heap.objs.size + 3, s1.heap.objs.size, s1.heap.objs.size + 1], _, _, H1, rfl, I2, turn_zipB (zap_new _ (Heap.lt_size ea) (Heap.lt_size eb)), ⟨hz, hTI, ⟨_, _, hTO⟩, itB_start h1, itB_start h2⟩, fun c hcm => ?_, q⟩
  have hle : s1.heap.objs.size ≤ c := by
    have hc' : c = s1.heap.objs.size + 4 ∨ c = s1.heap.objs.size + 2 ∨ c = s1.heap.objs.size + 3 ∨ c = s1.heap.objs.size ∨ c = s1.heap.objs.size + 1 := by simpa using hcm
    rcases hc' with z | z | z | z | z <;> rw [z]
    · exact Nat.le_add_right _ _
    · exact Nat.le_add_right _ _
    · exact Nat.le_add_right _ _
    · exact Nat.le_refl _
    · exact Nat.le_add_right _ _
  exact I1.fpOk hle (I1.hok.fresh hle)
theorem walk_zipB {K : PySem.W.Frag} {k1 k2 : Bool} {a b : Addr} {xs ys : List V} {n : Nat} (hn : n = min xs.length ys.length) : Walk (ItzB K k1 k2 a b) n (fun H => Sq K k1 H a xs ∧ Sq K k2 H b ys) (YPair (fun i => xs[i]?) (fun i => ys[i]?)) := by
  refine ⟨fun i _ hi q => ?_, fun _ q => ⟨xs, ys, q.1, q.2, by omega, by omega, by omega⟩, fun i H v H' _ q y => ?_⟩
  · have h1 : i < xs.length := by omega
    have h2 : i < ys.length := by omega
    exact ⟨xs, ys, xs[i], ys[i], q.1, q.2, List.getElem?_eq_getElem h1, List.getElem?_eq_getElem h2⟩
  · obtain ⟨T, x, z, h1, h2, h3, h4, h5⟩ := y
    exact ⟨T, x, z, h1, h2, h3, h4 xs q.1, h5 ys q.2⟩
end Bh
namespace Bh
open PySem PySem.Spec PyProof.Rows L2
/-! ### data that never change -/
mutual
inductive Pur (K : PySem.W.Frag) (H : Hp) : V → PyData → Prop
  | non : Pur K H .non .none
  | bl (b : Bool) : Pur K H (.bl b) (.bool b)
  | int (i : Int) : Pur K H (.int i) (.int i)
  | str (x : Str) : Pur K H (.str x) (.str x)
  | tup {a : Addr} {xs : List V} {ds : List PyData} : SqT K H a xs → PurAll K H xs ds → Pur K H (.ref a) (.tuple ds)
inductive PurAll (K : PySem.W.Frag) (H : Hp) : List V → List PyData → Prop
  | nil : PurAll K H [] []
  | cons {v : V} {vs : List V} {d : PyData} {ds : List PyData} : Pur K H v d → PurAll K H vs ds → PurAll K H (v :: vs) (d :: ds)
end
/-- tuples and what is locked stay -/
def Kp (H H' : Hp) : Prop := (∀ a xs, H a = some (.tup xs) → H' a = some (.tup xs)) ∧ ∀ a o xs, H a = some (.frz o (.tup xs)) → H' a = some (.frz o (.tup xs))
theorem Kp.refl (H : Hp) : Kp H H := ⟨fun _ _ z => z, fun _ _ _ z => z⟩
theorem Kp.trans {H H1 H2 : Hp} (p : Kp H H1) (q : Kp H1 H2) : Kp H H2 := ⟨fun a xs z => q.1 a xs (p.1 a xs z), fun a o u z => q.2 a o u (p.2 a o u z)⟩
theorem Kp.of_same {H H' : Hp} (e : Same H H') : Kp H H' := ⟨fun a _ z => e a _ z, fun a _ _ z => e a _ z⟩
theorem Kp.sqT {K : PySem.W.Frag} {H H' : Hp} (e : Kp H H') {a : Addr} {xs : List V} (q : SqT K H a xs) : SqT K H' a xs := by
  rcases q with (q | ⟨o, q⟩) | q
  · exact .inl (.inl (e.1 _ _ q))
  · exact .inl (.inr ⟨o, e.2 _ _ _ q⟩)
  · exact .inr q
mutual
theorem Pur.kp {K : PySem.W.Frag} {H H' : Hp} (e : Kp H H') {v : V} {d : PyData} (p : Pur K H v d) : Pur K H' v d := by
  cases p with
  | non => exact .non
  | bl b => exact .bl b
  | int i => exact .int i
  | str x => exact .str x
  | tup q l => exact .tup (e.sqT q) (PurAll.kp e l)
theorem PurAll.kp {K : PySem.W.Frag} {H H' : Hp} (e : Kp H H') {vs : List V} {ds : List PyData} (p : PurAll K H vs ds) : PurAll K H' vs ds := by
  cases p with
  | nil => exact .nil
  | cons a b => exact .cons (Pur.kp e a) (PurAll.kp e b)
end
mutual
theorem Pur.dp {K : PySem.W.Frag} {H : Hp} {v : V} {d : PyData} (p : Pur K H v d) : Dp K H v d := by
  cases p with
  | non => exact .non
  | bl b => exact .bl b
  | int i => exact .int i
  | str x => exact .str x
  | tup q l => exact .tup q (PurAll.dp l)
theorem PurAll.dp {K : PySem.W.Frag} {H : Hp} {vs : List V} {ds : List PyData} (p : PurAll K H vs ds) : DpAll K H vs ds := by
  cases p with
  | nil => exact .nil
  | cons a b => exact .cons (Pur.dp a) (PurAll.dp b)
end
section
variable {K : PySem.W.Frag} {H H' : Hp} {v x y z : V} {vs : List V} {d e f : PyData} {ds : List PyData}
theorem Pur.inv (p : Pur K H v (.tuple ds)) : ∃ a xs, v = .ref a ∧ SqT K H a xs ∧ PurAll K H xs ds := by
  cases p with
  | tup q l => exact ⟨_, _, rfl, q, l⟩
theorem Pur.intI {i : Int} (p : Pur K H v (.int i)) : v = .int i := by
  cases p
  rfl
theorem Pur.strI {s : Str} (p : Pur K H v (.str s)) : v = .str s := by
  cases p
  rfl
theorem PurAll.len (p : PurAll K H vs ds) : vs.length = ds.length := by
  induction ds generalizing vs with
  | nil => cases p; rfl
  | cons d r ih => cases p with | cons a b => rw [List.length_cons, List.length_cons, ih b]
theorem PurAll.one (p : PurAll K H vs [d]) : ∃ x, vs = [x] ∧ Pur K H x d := by
  cases p with | cons a b => cases b; exact ⟨_, rfl, a⟩
theorem PurAll.two (p : PurAll K H vs [d, e]) : ∃ x y, vs = [x, y] ∧ Pur K H x d ∧ Pur K H y e := by
  cases p with | cons a b => obtain ⟨y, rfl, q⟩ := b.one; exact ⟨_, _, rfl, a, q⟩
theorem PurAll.three (p : PurAll K H vs [d, e, f]) : ∃ x y z, vs = [x, y, z] ∧ Pur K H x d ∧ Pur K H y e ∧ Pur K H z f := by
  cases p with | cons a b => obtain ⟨y, z, rfl, q, r⟩ := b.two; exact ⟨_, _, _, rfl, a, q, r⟩
theorem PurAll.get (p : PurAll K H vs ds) {i : Nat} {d : PyData} (h : ds[i]? = some d) : ∃ v, vs[i]? = some v ∧ Pur K H v d := by
  induction ds generalizing vs i with
  | nil => cases h
  | cons c r ih =>
    cases p with
    | cons a b =>
      cases i with
      | zero => cases h; exact ⟨_, rfl, a⟩
      | succ i => obtain ⟨w, e, q⟩ := ih b (i := i) h; exact ⟨w, e, q⟩
theorem PurAll.getV (p : PurAll K H vs ds) {i : Nat} {v : V} (h : vs[i]? = some v) : ∃ d, ds[i]? = some d ∧ Pur K H v d := by
  induction ds generalizing vs i with
  | nil => cases p; cases h
  | cons c r ih =>
    cases p with
    | cons a b =>
      cases i with
      | zero => cases h; exact ⟨_, rfl, a⟩
      | succ i => obtain ⟨w, e, q⟩ := ih b (i := i) h; exact ⟨w, e, q⟩
theorem PurAll.app {ws : List V} {es : List PyData} (p : PurAll K H vs ds) (q : PurAll K H ws es) : PurAll K H (vs ++ ws) (ds ++ es) := by
  induction ds generalizing vs with
  | nil => cases p; exact q
  | cons c r ih => cases p with | cons a b => exact .cons a (ih b)
theorem PurAll.take (p : PurAll K H vs ds) (n : Nat) : PurAll K H (vs.take n) (ds.take n) := by
  induction ds generalizing vs n with
  | nil => cases p; simp; exact .nil
  | cons c r ih =>
    cases p with
    | cons a b =>
      cases n with
      | zero => exact .nil
      | succ n => exact .cons a (ih b n)
theorem PurAll.ints : ∀ {ns : List Int} {vs : List V}, PurAll K H vs (ns.map .int) → vs = ns.map V.int
  | [], _, p => by cases p; rfl
  | n :: r, _, p => by
    cases p with
    | cons a b => cases a; rw [List.map_cons, PurAll.ints b]
theorem pur_ints (ns : List Int) : PurAll K H (ns.map V.int) (ns.map .int) := by
  induction ns with
  | nil => exact .nil
  | cons n r ih => exact .cons (.int n) ih
end
/-! a plain tuple, without a dict of its own -/
def PlT (K : PySem.W.Frag) (H : Hp) (t : Addr) : Prop := (∃ o xs, H t = some (.frz o (.tup xs)) ∧ o.dict = none) ∨ ∃ o, K.lookup t = some o ∧ o.dict = none
theorem PlT.kp {K : PySem.W.Frag} {H H' : Hp} {t : Addr} (e : Kp H H') (p : PlT K H t) : PlT K H' t := by
  rcases p with ⟨o, xs, q, h⟩ | q
  · exact .inl ⟨o, xs, e.2 _ _ _ q, h⟩
  · exact .inr q
section
variable {X : Cx}
/-- a display of a tuple, its object known -/
def tTupF (t : TA) : TE := fun σ H Q => t σ H fun xs H1 => xs.length ≤ sizeLine ∧ ∀ p o, H1 p = none → o.dict = none → Q (.ref p) (upd H1 p (.frz o (.tup xs)))
theorem laid_frz {pn : List (Addr × Obj)} {sg : L2.St} {Hh : Hp} {s : Shared} {t' : Nat} {h' : Heap} {xs : List V} {us : List Value} (Iv : Inv X pn sg Hh s) (k : ∀ b u, s.heap.get? b = some u → h'.get? b = some u)
    (z : xs.length ≤ sizeLine) (r : Vals xs us) {p : Addr} (hp : s.heap.objs.size ≤ p) (hn : h'.get? p = some { cls := .type "tuple", data := .seq us.toArray }) :
    Inv X pn sg (upd Hh p (.frz { cls := .type "tuple", data := .seq us.toArray } (.tup xs))) { s with heap := h', toks := t' } :=
  Iv.laid (t' := t') k hp ⟨hn, z, us, r, ⟨_, hn, rfl, _, rfl⟩⟩
theorem pe_tupF {es : List Expr} {x1 : Nat} {pos : Pos} {t : TA} (h : PA X es t) : PE X (.Tuple es x1 pos) (tTupF t) := by
  refine ⟨fun pn s0 sg Hh Qq Iv hw => wpAny_Tuple_spliced (thn (h.run pos pn s0 sg Hh _ Iv hw) fun us s1 ⟨xs, H1, I1, r, z, q⟩ => ⟨r.length ▸ z, ?_⟩)⟩
  have J := laid_frz (t' := s1.toks) I1 (fun b u e => Heap.get?_push_of_some _ e) z r (Nat.le_refl _) (Heap.get?_push_size s1.heap (o := { cls := .type "tuple", data := .seq us.toArray }) rfl)
  exact ⟨.ref s1.heap.objs.size, _, J, rfl, q _ _ (I1.hok.fresh (Nat.le_refl _)) rfl⟩
/-- tuple(l), its object known; tuple(t) -/
theorem cr_tupF : CallR X (.type "tuple") (fun xs H Q => ∃ p k ys, xs = [.ref p] ∧ Sq X.K k H p ys ∧ (k = true → ∀ l o, H l = none → o.dict = none → Q (.ref l) (upd H l (.frz o (.tup ys)))) ∧ (k = false → Q (.ref p) H)) := by
  intro pn s0 sg Hh xs us Qq Iv r hw
  obtain ⟨p, k, ys, rfl, hq, q1, q2⟩ := hw
  rw [Vals.ref1 r]
  cases k with
  | false =>
    obtain ⟨its, r', pl, hz⟩ := Iv.tuple (show SqT X.K Hh p ys from hq)
    exact call_tuple_same pl ⟨.ref p, Hh, Iv, rfl, q2 rfl⟩
  | true =>
    obtain ⟨its, r', pl, hz⟩ := Iv.list (show SqL X.K Hh p ys from hq)
    refine call_tuple_list pl.isList (fun h' kp => ?_) (by rw [List.size_toArray, ← r'.length]; exact hz)
    have I1 : Inv X pn sg Hh { s0 with heap := h' } := Iv.kept (t' := s0.toks) kp
    have J := laid_frz (t' := s0.toks) I1 (fun b u e => Heap.get?_push_of_some _ e) hz r' (Nat.le_refl _) (Heap.get?_push_size h' (o := { cls := .type "tuple", data := .seq its.toArray }) rfl)
    exact ⟨.ref h'.objs.size, _, J, rfl, q1 rfl _ _ (I1.hok.fresh (Nat.le_refl _)) rfl⟩
end

/-! ### repr of data -/
section
variable {X : Cx}
def rRepr (K : PySem.W.Frag) : List V → Hp → VK → Prop := fun xs H Q => ∃ x d, xs = [x] ∧ Dp K H x d ∧ ((∃ a, x = .ref a) ∨ ∃ b, x = .bl b) ∧ d.showable = true ∧ d.hasDict = false ∧ d.depth ≤ 40 ∧ d.shown.length ≤ 1000000 ∧ Q (.str d.shown) H
theorem cr_repr (hg : X.A.guards = some []) (hu : X.A.units + 64 < cLine) : CallR X (.builtin "repr") (rRepr X.K) := by
  intro pn s0 sg Hh xs us Qq Iv rl hw
  obtain ⟨x, d, rfl, hd, hx, h1, h2, h3, h4, q⟩ := hw
  obtain ⟨u, rfl, ru⟩ := vals1 rl
  obtain ⟨as, rd⟩ := Dp.reads Iv d x u hd ru
  rcases hx with ⟨a, rfl⟩ | ⟨b, rfl⟩
  · cases ru
    refine PySem.repr_of_reads' rd h1 (fun z => by rw [h2] at z; cases z) hg (by omega) (fun _ _ z => z) (fun h' t tk hk => ⟨.str d.shown, Hh, Iv.kept hk, ⟨_, rfl⟩, q⟩) (by rw [sizeLine_eq]; omega)
  · cases ru
    cases hd
    exact PySem.P.repr_of_bool ⟨.str _, Hh, Iv.tok _, ⟨_, rfl⟩, q⟩
/-! ### dict(t) of a plain tuple of pairs, d.update(d2) -/
theorem pairs_ofV {pn : List (Addr × Obj)} {sg : L2.St} {Hh : Hp} {s : Shared} (Iv : Inv X pn sg Hh s) : ∀ {ts : List Addr} {kvs : List (Key × V)}, Paired (fun p kv => SqT X.K Hh p [kV kv.1, kv.2]) ts kvs →
    ∃ (prs : List (Key × Value)) (ps : List (Value × Value)), KV kvs prs ∧ prs.length = ts.length ∧ ps.length = ts.length ∧
      ∀ (j : Nat) (k v : Value), ps[j]? = some (k, v) → ∃ b key, ts[j]? = some b ∧ s.heap.IsTuple b #[k, v] ∧ prs[j]? = some (key, v) ∧ keyIs key k = true
  | _, _, .nil => ⟨[], [], .nil, rfl, rfl, fun _ _ _ z => nomatch z⟩
  | _, _, .cons (a := p) (b := kv) h t => by
    obtain ⟨prs, ps, r, l1, l2, hp⟩ := pairs_ofV Iv t
    obtain ⟨its, rv, ht, _⟩ := Iv.tuple h
    obtain ⟨u, y, rfl, ru, ry⟩ := vals2 rv
    refine ⟨(kv.1, y) :: prs, (u, y) :: ps, .cons ⟨rfl, ry⟩ r, by rw [List.length_cons, List.length_cons, l1], by rw [List.length_cons, List.length_cons, l2], fun j k v e => ?_⟩
    cases j with
    | zero =>
      cases e
      exact ⟨p, kv.1, rfl, ht, rfl, kV_is (P := X.prog) (w := X.w) ru⟩
    | succ j =>
      obtain ⟨b, key, e1, e2, e3, e4⟩ := hp j k v e
      exact ⟨b, key, e1, e2, e3, e4⟩
theorem cr_dictT (hc : X.calm = true) : CallR X (.type "dict") (fun xs H Q => ∃ t ts kvs, xs = [.ref t] ∧ PlT X.K H t ∧ SqT X.K H t (ts.map V.ref) ∧ Paired (fun p kv => SqT X.K H p [kV kv.1, kv.2]) ts kvs ∧
    ∀ p, H p = none → Q (.ref p) (upd H p (.dK (mergeK [] kvs)))) := by
  intro pn s0 sg Hh xs us Qq Iv rl hw
  obtain ⟨t, ts, kvs, rfl, hpl, hq, hp, q⟩ := hw
  rw [Vals.ref1 rl]
  obtain ⟨its, rv, ⟨o, ho, hcl, n, hdat⟩, hz⟩ := Iv.tuple hq
  have hdn : o.dict = none := by
    rcases hpl with ⟨o', xs', e, hd⟩ | ⟨o', e, hd⟩
    · obtain ⟨e', _⟩ := Iv.hok t _ e
      rw [ho] at e'
      cases e'
      exact hd
    · have e' := Iv.kIn t o' e
      rw [ho] at e'
      cases e'
      exact hd
  have ei := refs_at rv
  subst ei
  rw [List.length_map] at hz
  obtain ⟨prs, ps, rel, l1, l2, hpr⟩ := pairs_ofV Iv hp
  have ok : PlainSeq "tuple" s0.heap t (ts.map Value.ref).toArray ∧ PairItems s0.heap (ts.map Value.ref).toArray (fun j => (ts[j]?).getD 0) ps := by
    refine ⟨⟨o, n, ho, hcl, hdn, hdat⟩, by simp [l2], fun j k v e => ?_⟩
    obtain ⟨b, key, e1, e2, _⟩ := hpr j k v e
    exact ⟨by simp [e1], .inl (by simpa [e1] using e2)⟩
  refine PySem.call_dict_pairs (knd := mixKind X.prog X.w) (kvs := prs) (PairArg.tuple t _ _ ps) (Iv.ok.hd hc) ok ⟨by rw [l1, l2], fun i k v e => ?_⟩ (by rw [l2]; exact hz) fun h' tk hd' hk => ?_
  · obtain ⟨b, key, _, _, e3, e4⟩ := hpr i k v e
    exact ⟨key, e3, e4⟩
  · have hm : (s0.heap.objs.size == sysModules) = false := beq_eq_false_iff_ne.mpr (Nat.ne_of_gt Iv.big)
    have hlen : (mergeK [] kvs).length ≤ sizeLine := by
      refine Nat.le_trans (length_mergeK kvs []) ?_
      rw [List.length_nil, Nat.zero_add, rel.length, l1]
      exact hz
    exact ⟨.ref s0.heap.objs.size, _, Iv.laid (t' := tk) (o := .dK (mergeK [] kvs)) (fun b o e => hk b o (by simp) e) (Nat.le_refl _) ⟨hlen, hm, _, KV.merge rel .nil, hd'⟩, rfl, q _ (Iv.hok.fresh (Nat.le_refl _))⟩
theorem mt_update : MtR X "dict.update" (fun x xs H Q => ∃ d o kvs more, x = .ref d ∧ xs = [.ref o] ∧ d ≠ o ∧ H d = some (.dK kvs) ∧ H o = some (.dK more) ∧ kvs.length + more.length ≤ sizeLine ∧ Q .non (upd H d (.dK (mergeK kvs more)))) := by
  intro pn s0 sg Hh x xs v us Qq Iv rx rl hw
  obtain ⟨d, o, kvs, more, rfl, rfl, hne, hd, ho, hz, q⟩ := hw
  cases rx
  rw [Vals.ref1 rl]
  obtain ⟨z1, y1, vs1, r1, d1⟩ := (show ObjOk X.prog X.w Hh s0.heap d (.dK kvs) from Iv.hok d _ hd)
  obtain ⟨z2, y2, vs2, r2, d2⟩ := (show ObjOk X.prog X.w Hh s0.heap o (.dK more) from Iv.hok o _ ho)
  refine call_meetsIn PySem.F.slot_dict_update d1.typeIs PySem.F.entry_dict_update (PySem.F.args_dict_update_2 _ _) (meets_dict_update (mixKind X.prog X.w) d o hne y2)
    ⟨vs1, vs2, d1, d2, by rw [← r1.length, ← r2.length]; exact hz, fun h' hm _ hs => ?_⟩
  have hl : (mergeK kvs more).length ≤ sizeLine := Nat.le_trans (length_mergeK more kvs) hz
  obtain ⟨od, _, _, ed, _⟩ := id d1
  obtain ⟨oh, _, _, eh, _⟩ := id hm
  exact ⟨.non, _, Iv.write (t' := s0.toks) (e := d) (x := d) (o := .dK (mergeK kvs more)) (by rw [hd]; trivial) (.inl rfl) (fun b u nb e => (hs.2 b nb).trans e) ⟨_, eh⟩ ⟨hl, y1, _, KV.merge r2 r1, hm⟩, rfl, q⟩
/-! ### d != {} -/
theorem op_neE (hu : X.A.units < cLine) : OpR X (compareOp .NotEq) (fun x y H Q => ∃ a b ks, x = .ref a ∧ y = .ref b ∧ H a = some (.dK ks) ∧ H b = some (.dK []) ∧ Q (.bl (!ks.isEmpty)) H) := by
  intro pn s0 sg Hh x y v u Qq Iv rx ry hw
  obtain ⟨a, b, ks, rfl, rfl, ea, eb, q⟩ := hw
  cases rx
  cases ry
  obtain ⟨_, ya, va, ra, da⟩ := (show ObjOk X.prog X.w Hh s0.heap a (.dK ks) from Iv.hok a _ ea)
  obtain ⟨_, yb, vb, rb, db⟩ := (show ObjOk X.prog X.w Hh s0.heap b (.dK []) from Iv.hok b _ eb)
  cases rb
  cases ra with
  | nil => exact PySem.W.keq_ne (knd := mixKind X.prog X.w) (r := true) ya yb da db hu (fun _ => .nil) ⟨.bl false, Hh, Iv, rfl, q⟩
  | cons h t => exact PySem.W.keq_ne (knd := mixKind X.prog X.w) (r := true) ya yb da db hu (fun z => by simp at z) ⟨.bl true, Hh, Iv, by simp <;> rfl, q⟩
end

end Bh
namespace Bh
open PySem PySem.Spec PyProof.Rows L2
/-! ### set(l) of a list of ints -/
section
variable {P : Program} {w : World} {A : Around} {E : Value → Shared → Prop} {s : Shared}
def setNew (w : World) : Obj := { cls := .type "set", dict := none, data := .set #[] 0 (.fresh 0 0 (!w.params.followText "set-order")) }
theorem call_setL {l : Addr} {its : Array Value} (ns : List Int) {Q : Value → Shared → Prop} (hh : A.handled = none) (hl : s.heap.IsList l its) (hit : IntsAre its.toList ns) (hb : ns.length + 1 < scanBound)
    (hq : ∀ (h' : Heap) (tk c : Nat), SetR w h' s.heap.objs.size (fun j => decide (j ∈ ns)) c → c ≤ ns.length → (∀ b o, s.heap.get? b = some o → h'.get? b = some o) → Q (.ref s.heap.objs.size) { s with heap := h', toks := tk }) :
    wpAny (model P w) A (call (.type "set") [.ref l]) Q E s := by
  have hisz : its.size = ns.length := by rw [← IntsAre.length hit, Array.length_toList]
  obtain ⟨cM, tM, hM⟩ := F.called_set.mro
  have ft1 := F.called_set.made; have ft2 := F.called_set.sub; have ft3 := F.called_set.notType; have ft4 := F.called_set.canCreate
  have ft5 := F.typeCall_set_1 (.ref l)
  refine wpAny_call (codeAny_of_tree (show wpAny _ _ (callAny (.type "set") _) _ _ _ from wpAny_pure ⟨Code.quiet_builtin _ (by decide +kernel), codeAny_builtin F.entry_type_call ?_⟩))
  rw [Around.under_plain (weight_type_call_type "set" [.ref l] []) rfl]
  repeat (any_goals (first | assumption | wp_step))
  refine codeAny_mono (code_set_led1 (.ref l) (E := E) (Q₁ := fun o1 s1 => o1 = .ref s.heap.objs.size ∧ s1 = { s with heap := s.heap.push (setNew w) }) ⟨rfl, rfl⟩) fun r1 s1 hr1 => ?_
  match r1, hr1 with
  | .error e, hr1 => exact hr1
  | .ok (.ret o1), hr1 =>
    obtain ⟨rfl, rfl⟩ := hr1
    have gS : (s.heap.push (setNew w)).get? s.heap.objs.size = some (setNew w) := Heap.get?_push_size _ rfl
    have tS : Shared.TypeIs { s with heap := s.heap.push (setNew w) } (.ref s.heap.objs.size) "set" := ⟨_, gS, rfl⟩
    have fi1 := F.called_set.init.lookup
    have fi2 := F.called_set.init.bind (.ref s.heap.objs.size)
    repeat (any_goals (first | assumption | wp_step))
    refine codeAny_mono (codeAny_call_builtin (R := wants (fun r2 s2 => r2 = .none ∧ ∃ h' tk c, s2 = { s with heap := h', toks := tk } ∧ SetR w h' s.heap.objs.size (fun j => decide (j ∈ ns)) c ∧ c ≤ ns.length ∧ (∀ b o, s.heap.get? b = some o → h'.get? b = some o)) E)
      F.called_set.init.plain F.entry_set_init (check_set_init_1 tS ?_)) fun r2 s2 hr2 => ?_
    · obtain ⟨⟨oc, od, ot, os⟩, gl, c1, nl, c2⟩ := hl
      replace c1 : oc = .type "list" := c1
      replace c2 : ot = .seq its nl := c2
      subst c1 c2
      have gl1 := Heap.get?_push_of_some (setNew w) gl
      have L1 : (s.heap.push (setNew w)).IsList l its := ⟨_, gl1, rfl, nl, rfl⟩
      have fs1 := F.sub_list_set; have fs2 := F.sub_list_frozenset
      have fs3 : (Value.type "list" == Value.type "dict") = false := by decide
      unfold Builtin.«set.__init__» noKeywords Builtin.Frozenset.updateFrom
      generalize hPy : pyIter = py
      wp_walk
      subst hPy
      refine wpAny_pyIter_list L1 (wpAny_bind (wpAny_runValue ?_))
      have lt1 : l < s.heap.objs.size := Heap.lt_size gl
      have sz1 : (s.heap.push (setNew w)).objs.size = s.heap.objs.size + 1 := Heap.size_push ..
      have ne1 : l ≠ (s.heap.push (setNew w)).objs.size := by rw [sz1]; exact Nat.ne_of_lt (Nat.lt_succ_of_lt lt1)
      have ne2 : s.heap.objs.size ∉ [(s.heap.push (setNew w)).objs.size, l] := by
        rw [sz1, List.mem_cons, List.mem_singleton, not_or]
        exact ⟨Nat.ne_of_lt (Nat.lt_succ_self _), Nat.ne_of_gt lt1⟩
      have at1 : ∀ (i : Nat) (v : Value), its[i]? = some v → ∃ k t, ns[i]? = some k ∧ v = .int k t := fun i v hv => by
        have hi : i < ns.length := by rw [← hisz]; exact (Array.getElem?_eq_some_iff.mp hv).1
        obtain ⟨t, e⟩ := PyProof.Rows.IntsAre.int_at hit i v (by rw [Array.getElem?_toList]; exact hv)
        exact ⟨ns[i], t, List.getElem?_eq_getElem hi, by rw [e, List.getD_eq_getElem?_getD, List.getElem?_eq_getElem hi] <;> rfl⟩
      refine set_update_ints ((Walks.list (A := A.in1.in1.in1) (by simp [hh]) _ l ne1 its).toS) s.heap.objs.size ne2 ns hisz hb at1 (its.size - 0) 0 _ (by omega) (Nat.zero_le _)
        ⟨⟨_, Heap.get?_push_size _ rfl, rfl, rfl⟩, L1.push _⟩ ⟨0, Nat.le_refl 0, setR_new_at (Heap.get?_push_of_some _ gS)⟩ ?_
      rintro ⟨h', g', d', t', o'⟩ c' hm hc' hS'
      obtain rfl : g' = s.gens := hm.gens
      obtain rfl : d' = s.drawn := hm.drawn
      obtain rfl : o' = s.os := hm.os
      show wpAny _ _ _ _ _ _
      refine wpAny_pure ?_
      show wpAny _ _ (ret Value.none) _ _ _
      refine wpAny_pure ⟨rfl, h', t', c', rfl, hS', by rw [← hisz]; exact hc', fun b o e => ?_⟩
      have b0 : b < s.heap.objs.size := Heap.lt_size e
      refine hm.heap b o ?_ (Heap.get?_push_of_some _ (Heap.get?_push_of_some _ e))
      rw [List.mem_cons, List.mem_singleton, not_or, sz1]
      exact ⟨Nat.ne_of_lt b0, Nat.ne_of_lt (Nat.lt_succ_of_lt b0)⟩
    · match r2, hr2 with
      | .error e, hr2 => exact hr2
      | .ok (.ret r), hr2 =>
        obtain ⟨rfl, h', tk, c, rfl, hS', hc', hk'⟩ := hr2
        repeat (any_goals (first | assumption | wp_step))
        exact hq _ _ _ hS' hc' hk'
end
section
variable {X : Cx}
/-- set(l), l a list of fewer than 60 ints -/
theorem cr_setL (hc : X.calm = true) : CallR X (.type "set") (fun xs H Q => ∃ (l : Addr) (ns : List Int), xs = [.ref l] ∧ SqL X.K H l (ns.map V.int) ∧ ns.length ≤ 60 ∧ ∀ (p : Addr) (c : Nat), H p = none → c ≤ ns.length → Q (.ref p) (upd H p (SetO X.w p (fun j => decide (j ∈ ns)) c))) := by
  intro pn s0 sg Hh xs us Qq Iv rl hw
  obtain ⟨l, ns, rfl, hq, hz, q⟩ := hw
  rw [Vals.ref1 rl]
  obtain ⟨its, rv, pl, _⟩ := Iv.list hq
  refine call_setL ns (Iv.ok.hd hc) pl.isList (by simpa using rv.ints) (Nat.lt_of_le_of_lt (Nat.add_le_add_right hz 1) (by decide)) fun h' tk c hR hle hk => ?_
  exact ⟨.ref s0.heap.objs.size, _, Iv.laid (t' := tk) (o := SetO X.w s0.heap.objs.size (fun j => decide (j ∈ ns)) c) hk (Nat.le_refl _) (setO_new hR), rfl, q _ c (Iv.hok.fresh (Nat.le_refl _)) hle⟩
end
end Bh
namespace Bh
open PySem PySem.Spec PyProof.Rows L2
/-! ### defs that are called where no repr is under way -/
structure FnG (P : Program) (w : World) (K : PySem.W.Frag) (mg : Str → Option Value) (base : Heap) (k : Nat) (f : Addr) (fd : FuncData) (ps : List Str) (sp : Sp) : Prop where
  len : ∀ vs H Q E, sp vs H Q E → vs.length = ps.length
  go : ∀ (A : Around) (outer : List Env) (s : Shared) (H : Hp) (args : Args) (us : List Value) (vs : List V) (Q : VK) (E : XK), Room k A → A.guards = some [] → Env0 P w K mg base A outer s H →
    BindsTo s fd args (ps.zip us) → Vals vs us → sp vs H Q E → codeAny (model P w) A (.call (.ref f) args) (CR CX0 outer P w H s Q E) s
theorem FnOk.g {P : Program} {w : World} {K : PySem.W.Frag} {mg : Str → Option Value} {base : Heap} {k : Nat} {f : Addr} {fd : FuncData} {ps : List Str} {sp : Sp} (F : FnOk P w K mg base CX0 k f fd ps sp) : FnG P w K mg base k f fd ps sp :=
  ⟨F.len, fun A outer s H args us vs Q E hr _ he hb hv hs => F.run A outer s H args us vs Q E hr he hb hv hs⟩
theorem fn_ofG {P : Program} {w : World} {K : PySem.W.Frag} {mg : Str → Option Value} {base : Heap} {k : Nat} {f : Addr} {x : Str} {params : Arguments} {body : List Stmt} {scope : Scope} {kws : List (Str × V)} {fd : FuncData}
    {N ps : List Str} {sp : Sp} (F : FunD K x x params body scope [] kws f fd) (S : FnScope N ps scope) (len : ∀ vs H Q E, sp vs H Q E → vs.length = ps.length)
    (hb : ∀ (cdv : Value) (A : Around) (outer : List Env) (s : Shared) (H : Hp) (vs : List V) (Q : VK) (E : XK), Room k (A.deeper (envOfC x scope s.heap.objs.size f cdv)) → A.guards = some [] → sp vs H Q E →
      ∃ t, PSs (cxOf CX0 P w K mg base N x scope f cdv A outer s H E) body t ∧ t { nx := fun _ H' => Q .non H', rt := Q } (start N vs) H) :
    FnG P w K mg base (k + 1) f fd ps sp := by
  obtain ⟨oc, od, dV, kV, doc, pm, an, cdv, ct, osl, rfl, lk, hcd, _, _⟩ := F.ex
  refine ⟨len, fun A outer s H args us vs Q E hr hg e0 hbd rv hsp => ?_⟩
  have up : ∀ b o, base.get? b = some o → s.heap.get? b = some o := fun b o e => (e0.bs b o e).1
  have hK : K.In s.heap := e0.mod.kin.keeps up
  have kinds : ∀ y ∈ ps.zip us, scope.names.lookup y.1 = some .local ∨ (scope.names.lookup y.1 = some .cell ∧ ((cellsFrom (s.heap.objs.size + 1) scope.names []).lookup y.1).isSome = true) := by
    rintro ⟨n, v⟩ hy
    exact (S.par n (List.of_mem_zip hy).1).imp id fun q => ⟨q, PySem.W.cellsFrom_some _ _ _ (.inl q)⟩
  refine codeAny_call_function hr.depth (hK _ _ lk) rfl S.co S.gen rfl (PySem.W.codeRec_of hK hcd) (hbd _ _ _ _ (wpAny_newFunctionEnv_cells S.kind kinds fun env he s1 ic => ?_))
  subst he
  obtain ⟨t, ht, hq⟩ := hb cdv A outer s H vs Q E (hr.deeper _) hg hsp
  have I0 : Inv (cxOf CX0 P w K mg base N x scope f cdv A outer s H E) [] (start N vs) H s1 := inv_start S hr.hd e0 (len _ _ _ _ hsp) rv ic
  refine ⟨(e0.mod.nolimit.keeps up).keeps ic.toInCall.keep, codeAny_func (wpAny_mono (ht.run [] s1 (start N vs) H _ I0 hq) (fun fl s' hs => ?_) fun e s' hs => hs)⟩
  match fl, hs with
  | .ret u, ⟨v, _, H', J, rv', q⟩ => exact ⟨v, H', J.os, J.bare, J.base, J.hok, rv', q⟩
  | .next, ⟨_, H', J, q⟩ => exact ⟨V.non, H', J.os, J.bare, J.base, J.hok, rfl, q⟩
  | .brk, ⟨_, _, _, q⟩ => exact q.elim
  | .cont, ⟨_, _, _, q⟩ => exact q.elim
section
variable {X : Cx} {k : Nat} {f : Addr} {fd : FuncData} {ps : List Str} {sp : Sp} {x : Str} {p pos : Pos} {e : Expr} {es : List Expr} {t : TA}
theorem run_fnG {pn : List (Addr × Obj)} {sg : L2.St} {H : Hp} {s : Shared} {Q : VK} {us : List Value} {vs : List V} (F : FnG X.prog X.w X.K X.mg X.base k f fd ps sp) (hr : Room k X.A) (hg : X.A.guards = some []) (hb : Binds X.K fd ps [])
    (I : Inv X pn sg H s) (r : Vals vs us) (h : sp vs H Q E0) : wpAny (model X.prog X.w) X.A (call (.ref f) us) (EP X pn sg Q) X.xe s := by
  have hl : (us ++ ([] : List Value)).length = ps.length := by rw [List.append_nil, ← r.length]; exact F.len _ _ _ _ h
  have hb' := hb s us I.kIn hl
  rw [List.append_nil] at hb'
  refine wpAny_call (codeAny_mono (F.go X.A X.stack s H ⟨us, []⟩ us vs Q E0 hr hg I.env0 hb' r h) fun r s' hq => ?_)
  match r, hq with
  | .ok (.ret u), hq => exact I.after hq
def tCallG (sp : Sp) (t : TA) : TE := fun σ H Q => t σ H fun vs H1 => sp vs H1 Q E0
theorem pe_callG (F : FnG X.prog X.w X.K X.mg X.base k f fd ps sp) (hr : Room k X.A) (hgd : X.A.guards = some []) (hg : Gl X x) (hm : X.mg x = some (.ref f)) (hk : PySem.W.keepIn X.K (.ref f) = true) (hb : Binds X.K fd ps [])
    (ha : PA X (e :: es) t) (hdb : (x == ("__debug__" : Str)) = false := by decide) (he : starEach (e :: es) X.env = (false, eval e X.env) :: starEach es X.env := by rfl) (hpl : (backTo pos (starEach es X.env)).any (·.1) = false := by rfl) :
    PE X (.Call (.Name x p) (e :: es) [] pos) (tCallG sp t) := by
  refine ⟨fun pn s0 sg Hh Qq Iv hw => wpAny_Call_Name_kw (ld_glob Iv hg hm ?_ hdb)⟩
  exact PySem.W.callWith_K (h₀ := X.base) Iv.ok.mod.kin hk (thn (ha.run pos pn s0 sg Hh _ Iv hw) fun us s1 ⟨vs, H1, I1, r, q⟩ => ⟨I1.kIn, run_fnG F hr hgd hb I1 r q⟩) he hpl
theorem pe_callG0 (F : FnG X.prog X.w X.K X.mg X.base k f fd ps sp) (hr : Room k X.A) (hgd : X.A.guards = some []) (hg : Gl X x) (hm : X.mg x = some (.ref f)) (hk : PySem.W.keepIn X.K (.ref f) = true) (hb : Binds X.K fd ps [])
    (hdb : (x == ("__debug__" : Str)) = false := by decide) : PE X (.Call (.Name x p) [] [] pos) (tCallG sp tNil) :=
  ⟨fun pn s0 sg Hh Qq Iv hw => wpAny_Call_Name_kw (ld_glob Iv hg hm (PySem.W.callWith_K0 Iv.kIn hk (run_fnG (us := []) F hr hgd hb Iv .nil hw)) hdb)⟩
end
/-- the law's end -/
theorem law_callG {P : Program} {w : World} {K : PySem.W.Frag} {mg mb : Str → Option Value} {k : Nat} {fa a : Addr} {fd : FuncData} {x : Str} {sp : Sp} {s1 : Shared} {vs : List Value} {ns : List Int}
    (KX : K.In s1.heap) (hns : s1.heap.Ns mainGlobals mg) (hb : s1.heap.Ns builtinsNs mb) (hbb : ∀ x : Str, x ≠ "__name__" → mb x = bootBuiltins x) (hlim : s1.heap.NoLimit) (hgn : s1.gens = #[])
    (ha : s1.heap.get? a = some { cls := .type "list", data := .seq vs.toArray }) (hi : IntsAre vs ns) (hl : ns.length ≤ sizeLine) (hr : Room k callerA)
    (F : ∀ base : Heap, K.In base → base.Ns mainGlobals mg → FnG P w K mg base k fa fd [x] sp) (hbind : ∀ (s : Shared) (u : Value), BindsTo s fd ⟨[u], []⟩ [(x, u)])
    (hsp : ∀ H : Hp, Only H → SqL K H a (ns.map V.int) → sp [.ref a] H (fun v _ => v = .bl true) fun _ _ _ => False) :
    codeAny (model P w) callerA (.call (.ref fa) ⟨[.ref a], []⟩) (fun r s' => r = .ok (.ret (.bool true)) ∧ OldK s1.heap s'.heap ∧ s'.os = s1.os ∧ AllBare s'.gens) s1 := by
  have rv := vals_ints hi
  have core : ∀ H : Hp, Only H → SqL K H a (ns.map V.int) → HOk P w H s1.heap → (∀ b, H b ≠ none → b = a) → (H a ≠ none → K.lookup a = none) →
      codeAny (model P w) callerA (.call (.ref fa) ⟨[.ref a], []⟩) (fun r s' => r = .ok (.ret (.bool true)) ∧ OldK s1.heap s'.heap ∧ s'.os = s1.os ∧ AllBare s'.gens) s1 := by
    intro H hO hS ok hA hK
    have isA : ∀ {b : Addr} {o : Obj}, s1.heap.get? b = some o → H b ≠ none → o = { cls := .type "list", data := .seq vs.toArray } := fun {b o} e n => by
      rw [hA b n, ha] at e
      exact (Option.some.inj e).symm
    have under : ∀ {b : Addr} {o : Obj}, s1.heap.get? b = some o → o ≠ { cls := .type "list", data := .seq vs.toArray } → (hidT s1.heap H).get? b = some o := fun {b o} e n =>
      hidT_get e (Classical.byContradiction fun q => n (isA e q))
    have nsU : ∀ {b : Addr} {m : Str → Option Value}, s1.heap.Ns b m → (hidT s1.heap H).Ns b m := fun {b m} ⟨o, es, ep, e, d, r⟩ => ⟨o, es, ep, under e (fun z => by rw [z] at d; exact nomatch (show Data.seq vs.toArray _ = Data.dict es ep from d)), d, r⟩
    have hKb : K.In (hidT s1.heap H) := fun b o e => hidT_get (KX b o e) (Classical.byContradiction fun q => by
      have z := hA b q
      subst z
      rw [hK q] at e
      cases e)
    have e0 : Env0 P w K mg (hidT s1.heap H) callerA [] s1 H :=
      ⟨rfl, ⟨hKb, nsU hns, ⟨mb, nsU hb, hbb⟩, let ⟨mc, h1, h2⟩ := hlim; ⟨mc, nsU h1, h2⟩⟩, fun b o e => of_hidT e, Nat.le_of_eq (hidT_size _ _), trivial, fun b hb => (by cases hb), ok, .of_eq hgn⟩
    refine codeAny_mono ((F _ hKb (nsU hns)).go callerA [] s1 H ⟨[.ref a], []⟩ [.ref a] [.ref a] _ _ hr rfl e0 (hbind s1 (.ref a)) (.cons rfl .nil) (hsp H hO hS)) fun r s' h => ?_
    match r, h with
    | .ok (.ret u), ⟨v, H', os, bare, un, ok', r', q⟩ =>
      have q' : v = .bl true := q
      subst q'
      obtain rfl : u = Value.bool true := r'
      refine ⟨rfl, OldK.of_keep fun b o e => ?_, os, bare⟩
      cases q : H b with
      | none => exact un.keep b o e q (fun z => nomatch (show b ∈ ([] : List Addr) from z)) (fun z => nomatch z)
      | some u =>
        rcases hO b with z | ⟨ob, xs, z⟩
        · rw [q] at z; cases z
        · obtain ⟨e1, _⟩ := ok b _ z
          obtain ⟨e2, _⟩ := ok' b _ (un.frzs b ob _ z)
          rw [e] at e1
          cases e1
          exact e2
  cases hk : K.lookup a with
  | some o =>
    have e := KX a o hk
    rw [ha] at e
    cases e
    exact core (fun _ => none) (fun _ => .inl rfl) (.inr ⟨_, vs.toArray, _, hk, rfl, rfl, rfl, by rw [List.size_toArray, hi.length]; exact hl, by simpa using rv⟩) (fun b u z => nomatch (show (none : Option HO) = some u from z)) (fun b z => absurd rfl z) fun z => absurd rfl z
  | none =>
    refine core (fun b => if b = a then some (.frz { cls := .type "list", data := .seq vs.toArray } (.lst (ns.map V.int))) else none) (fun b => ?_) (.inl (.inr ⟨_, if_pos rfl⟩)) (fun b u z => ?_) (fun b z => Classical.byContradiction fun q => z (if_neg q)) fun _ => hk
    · by_cases hb : b = a
      · exact .inr ⟨_, _, if_pos hb⟩
      · exact .inl (if_neg hb)
    · by_cases hb : b = a
      · cases (if_pos hb).symm.trans z
        rw [hb]
        exact ⟨ha, by rw [List.length_map]; exact hl, vs, _, rv, ha⟩
      · cases (if_neg hb).symm.trans z
theorem walk_ofG {l : PySem.W.OpenLaw} {n k : Nat} {q : Program} {loose : List Str} {XP : (Str → Option Value) → Heap → Prop} {YP : World → Heap → Prop} {d : DefRec} {x : Str}
    (hn : l.most = some n) (hn2 : n ≤ sizeLine) (hdf : d.params.defaults = []) (hr : Room k callerA)
    (F : ∀ (w : World) (mg : Str → Option Value) (fa : Addr) (h : Heap), YP w h → h.Ns mainGlobals mg → mg d.name = some (.ref fa) →
      ∃ (K : PySem.W.Frag) (fd : FuncData) (sp : Sp), K.In h ∧ (∀ (s : Shared) (u : Value), BindsTo s fd ⟨[u], []⟩ [(x, u)]) ∧
        (∀ (H : Hp) (a : Addr) (ns : List Int), ns.length ≤ n → Only H → SqL K H a (ns.map V.int) → sp [.ref a] H (fun v _ => v = .bl true) fun _ _ _ => False) ∧
        ∀ base : Heap, K.In base → base.Ns mainGlobals mg → FnG l.prog w K mg base k fa fd [x] sp) :
    PySem.W.WalkO q loose XP YP l.row.toRowW d [] (fun f vs => PySem.call f vs) := by
  refine Att.attach_call hn hdf fun w s0 s1 mg mb fa o pm cd doc a vs ns G Y ho hd hcd hmg hobj hints hlen hg => ?_
  obtain ⟨K, fd, sp, KX, hb, hsp, hF⟩ := F w mg fa _ Y G.T.g hmg
  exact law_callG KX G.T.g G.T.b G.T.builtins G.T.nolimit hg hobj hints (Nat.le_trans hlen hn2) hr hF hb fun H hO hS => hsp H a ns hlen hO hS
end Bh
namespace Bh
open PySem PySem.Spec PyProof.Rows L2
/-! ### the defs of the text, by name -/
structure Free (mg : Str → Option Value) : Prop where
  bool : mg "bool" = none
  dict : mg "dict" = none
  enumerate : mg "enumerate" = none
  int : mg "int" = none
  isinstance : mg "isinstance" = none
  len : mg "len" = none
  list : mg "list" = none
  max : mg "max" = none
  min : mg "min" = none
  range : mg "range" = none
  repr : mg "repr" = none
  set : mg "set" = none
  sorted : mg "sorted" = none
  str : mg "str" = none
  sum : mg "sum" = none
  tuple : mg "tuple" = none
  zip : mg "zip" = none
  mc : ∃ t, mg "MOST_CHOICES" = some (.int 100 t)
  mv : ∃ t, mg "MOST_VALUES" = some (.int 200 t)
  ms : ∃ t, mg "MOST_SUMS" = some (.int 40000 t)
def DefAt (K : PySem.W.Frag) (mg : Str → Option Value) (x : Str) (st : Stmt) : Prop := ∃ f fd, mg x = some (.ref f) ∧ FunD K x x (defArgs st) (defBody st) (defScope st) [] [] f fd
def OkD (P : Program) (w : World) (K : PySem.W.Frag) (mg : Str → Option Value) (base : Heap) (k : Nat) (x : Str) (ps : List Str) (sp : Sp) : Prop :=
  ∃ f fd, mg x = some (.ref f) ∧ PySem.W.keepIn K (.ref f) = true ∧ Binds K fd ps [] ∧ FnOk P w K mg base CX0 k f fd ps sp
def OkG (P : Program) (w : World) (K : PySem.W.Frag) (mg : Str → Option Value) (base : Heap) (k : Nat) (x : Str) (ps : List Str) (sp : Sp) : Prop :=
  ∃ f fd, mg x = some (.ref f) ∧ PySem.W.keepIn K (.ref f) = true ∧ Binds K fd ps [] ∧ FnG P w K mg base k f fd ps sp
section
variable {P : Program} {w : World} {K : PySem.W.Frag} {mg : Str → Option Value} {base : Heap}
theorem DefAt.ok {x : Str} {st : Stmt} {N ps : List Str} {k : Nat} {sp : Sp} (D : DefAt K mg x st) (S : FnScope N ps (defScope st))
    (hb : ∀ (kV doc pm : Value) (an : Option Addr) (cdv ct : Value) (us : List Value), us.length = ps.length → bindArgs (PySem.W.fnOf x x (defArgs st) (defBody st) (defScope st) .none kV doc pm an cdv ct) ⟨us, []⟩ = pure (ps.zip us))
    (len : ∀ vs H Q E, sp vs H Q E → vs.length = ps.length)
    (hbody : ∀ (f : Addr) (cdv : Value) (A : Around) (outer : List Env) (s : Shared) (H : Hp) (vs : List V) (Q : VK) (E : XK), Room k (A.deeper (envOfC x (defScope st) s.heap.objs.size f cdv)) → sp vs H Q E →
      ∃ t, PSs (cxOf CX0 P w K mg base N x (defScope st) f cdv A outer s H E).nox (defBody st) t ∧ t { nx := fun _ H' => Q .non H', rt := Q } (start N vs) H) : OkD P w K mg base (k + 1) x ps sp := by
  obtain ⟨f, fd, gf, F⟩ := D
  refine ⟨f, fd, gf, F.kp, F.bindsN hb, F.ok S len fun cdv A outer s H vs Q E hr hsp => ?_⟩
  obtain ⟨t, h, q⟩ := hbody f cdv A outer s H vs Q E hr hsp
  exact ⟨t, h.nox, q⟩
theorem DefAt.okG {x : Str} {st : Stmt} {N ps : List Str} {k : Nat} {sp : Sp} (D : DefAt K mg x st) (S : FnScope N ps (defScope st))
    (hb : ∀ (kV doc pm : Value) (an : Option Addr) (cdv ct : Value) (us : List Value), us.length = ps.length → bindArgs (PySem.W.fnOf x x (defArgs st) (defBody st) (defScope st) .none kV doc pm an cdv ct) ⟨us, []⟩ = pure (ps.zip us))
    (len : ∀ vs H Q E, sp vs H Q E → vs.length = ps.length)
    (hbody : ∀ (f : Addr) (cdv : Value) (A : Around) (outer : List Env) (s : Shared) (H : Hp) (vs : List V) (Q : VK) (E : XK), Room k (A.deeper (envOfC x (defScope st) s.heap.objs.size f cdv)) → A.guards = some [] → sp vs H Q E →
      ∃ t, PSs (cxOf CX0 P w K mg base N x (defScope st) f cdv A outer s H E).nox (defBody st) t ∧ t { nx := fun _ H' => Q .non H', rt := Q } (start N vs) H) : OkG P w K mg base (k + 1) x ps sp := by
  obtain ⟨f, fd, gf, F⟩ := D
  refine ⟨f, fd, gf, F.kp, F.bindsN hb, fn_ofG F S len fun cdv A outer s H vs Q E hr hg hsp => ?_⟩
  obtain ⟨t, h, q⟩ := hbody f cdv A outer s H vs Q E hr hg hsp
  exact ⟨t, h.nox, q⟩
end
section
variable {X : Cx} {k : Nat} {ps : List Str} {sp : Sp} {x : Str} {p pos : Pos} {e : Expr} {es : List Expr} {t : TA}
theorem pe_callD (D : OkD X.prog X.w X.K X.mg X.base k x ps sp) (hr : Room k X.A) (hg : Gl X x) (ha : PA X (e :: es) t) (hdb : (x == ("__debug__" : Str)) = false := by decide)
    (he : starEach (e :: es) X.env = (false, eval e X.env) :: starEach es X.env := by rfl) (hpl : (backTo pos (starEach es X.env)).any (·.1) = false := by rfl) :
    PE X (.Call (.Name x p) (e :: es) [] pos) (tCall sp [] E0 t) := by
  obtain ⟨f, fd, gf, kf, bf, F⟩ := D
  exact pe_call F hr hg gf kf bf .nil pass0 ha hdb he hpl
theorem pe_callDG (D : OkG X.prog X.w X.K X.mg X.base k x ps sp) (hr : Room k X.A) (hgd : X.A.guards = some []) (hg : Gl X x) (ha : PA X (e :: es) t) (hdb : (x == ("__debug__" : Str)) = false := by decide)
    (he : starEach (e :: es) X.env = (false, eval e X.env) :: starEach es X.env := by rfl) (hpl : (backTo pos (starEach es X.env)).any (·.1) = false := by rfl) :
    PE X (.Call (.Name x p) (e :: es) [] pos) (tCallG sp t) := by
  obtain ⟨f, fd, gf, kf, bf, F⟩ := D
  exact pe_callG F hr hgd hg gf kf bf ha hdb he hpl
theorem pe_callDG0 (D : OkG X.prog X.w X.K X.mg X.base k x ps sp) (hr : Room k X.A) (hgd : X.A.guards = some []) (hg : Gl X x) (hdb : (x == ("__debug__" : Str)) = false := by decide) :
    PE X (.Call (.Name x p) [] [] pos) (tCallG sp tNil) := by
  obtain ⟨f, fd, gf, kf, bf, F⟩ := D
  exact pe_callG0 F hr hgd hg gf kf bf hdb
/-! isinstance, by what is asked -/
theorem cr_isInt : CallR X (.builtin "isinstance") (fun xs H Q => ∃ i, xs = [.int i, .ty "int"] ∧ Q (.bl true) H) := fun pn s0 sg Hh xs us Qq Iv rl ⟨i, e, q⟩ =>
  call_isi pn s0 sg Hh xs us Qq Iv rl ⟨.int i, .ty "int", .type "int", .type "int", true, e, .ty _, .base (.int i), by rfl, q⟩
theorem cr_isBool : CallR X (.builtin "isinstance") (fun xs H Q => ∃ i, xs = [.int i, .ty "bool"] ∧ Q (.bl false) H) := fun pn s0 sg Hh xs us Qq Iv rl ⟨i, e, q⟩ =>
  call_isi pn s0 sg Hh xs us Qq Iv rl ⟨.int i, .ty "bool", .type "int", .type "bool", false, e, .ty _, .base (.int i), by rfl, q⟩
theorem cr_isStr : CallR X (.builtin "isinstance") (fun xs H Q => ∃ i, xs = [.str i, .ty "str"] ∧ Q (.bl true) H) := fun pn s0 sg Hh xs us Qq Iv rl ⟨i, e, q⟩ =>
  call_isi pn s0 sg Hh xs us Qq Iv rl ⟨.str i, .ty "str", .type "str", .type "str", true, e, .ty _, .base (.str i), by rfl, q⟩
theorem ty_tup {K : PySem.W.Frag} {H : Hp} {a : Addr} {ys : List V} (h : SqT K H a ys) : TyX K H (.ref a) (.type "tuple") := by
  rcases h with (h | ⟨o, h⟩) | ⟨o, its, n, hk, hc, _⟩
  · exact .base (.tup h)
  · exact .fTuple h
  · exact .kTuple hk hc
theorem cr_isTup : CallR X (.builtin "isinstance") (fun xs H Q => ∃ a ys, xs = [.ref a, .ty "tuple"] ∧ SqT X.K H a ys ∧ Q (.bl true) H) := fun pn s0 sg Hh xs us Qq Iv rl ⟨a, ys, e, h, q⟩ =>
  call_isi pn s0 sg Hh xs us Qq Iv rl ⟨.ref a, .ty "tuple", .type "tuple", .type "tuple", true, e, .ty _, ty_tup h, by rfl, q⟩
/-! the rules with the written part K named (so that a comprehension's reading does not hang on its block) -/
section
variable {K : PySem.W.Frag}
theorem ix_tupK (h : X.K = K := by rfl) : IxR X (rIxT K) := h ▸ ix_tup
theorem ix_listK (h : X.K = K := by rfl) : IxR X (rIxL K) := h ▸ ix_list
def rLenK (K : PySem.W.Frag) : List V → Hp → VK → Prop := fun xs H Q => ∃ a k ys, xs = [.ref a] ∧ Sq K k H a ys ∧ Q (.int ((ys.length : Nat) : Int)) H
theorem cr_lenK (h : X.K = K := by rfl) : CallR X (.builtin "len") (rLenK K) := fun pn s0 sg Hh xs us Qq Iv rl ⟨a, k, ys, e, hq, q⟩ => by
  subst h
  exact call_len_seq pn s0 sg Hh xs us Qq Iv rl ⟨a, ys, e, by cases k with | true => exact .inl hq | false => exact .inr hq, q⟩
theorem cr_minK (hc : X.calm = true) (hu : X.A.units + 1 < cLine) (h : X.K = K := by rfl) : CallR X (.builtin "min") (rMinB K) := h ▸ cr_minB hc hu
theorem cr_maxK (hc : X.calm = true) (hu : X.A.units + 1 < cLine) (h : X.K = K := by rfl) : CallR X (.builtin "max") (rMaxB K) := h ▸ cr_maxB hc hu
def rTupK (K : PySem.W.Frag) : List V → Hp → VK → Prop := fun xs H Q => ∃ p k ys, xs = [.ref p] ∧ Sq K k H p ys ∧ (k = true → ∀ l o, H l = none → o.dict = none → Q (.ref l) (upd H l (.frz o (.tup ys)))) ∧ (k = false → Q (.ref p) H)
theorem cr_tupK (h : X.K = K := by rfl) : CallR X (.type "tuple") (rTupK K) := h ▸ cr_tupF
def rIsTupK (K : PySem.W.Frag) : List V → Hp → VK → Prop := fun xs H Q => ∃ a ys, xs = [.ref a, .ty "tuple"] ∧ SqT K H a ys ∧ Q (.bl true) H
theorem cr_isTupK (h : X.K = K := by rfl) : CallR X (.builtin "isinstance") (rIsTupK K) := h ▸ cr_isTup
theorem pi_seqK {tg l : Expr} {tl : TE} (hl : PE X l tl) (h : X.K = K := by rfl) : PI X tg l (iSeq K tl) := h ▸ pi_seq hl
theorem pi_zipK {e e2 : Expr} {ta : TA} {p pos tpos : Pos} {elts : List Expr} {kk : Nat} (hg : Gl X "zip") (hm : X.mg "zip" = none) (ha : PA X [e, e2] ta) (h : X.K = K := by rfl)
    (hs : starEach [e, e2] X.env = (false, eval e X.env) :: starEach [e2] X.env := by rfl) (hpl : (backTo pos (starEach [e2] X.env)).any (·.1) = false := by rfl) :
    PI X (.Tuple elts kk tpos) (.Call (.Name "zip" p) [e, e2] [] pos) (iZipB K ta) := h ▸ pi_zipB hg hm ha hs hpl
theorem pi_enumK {e : Expr} {ta : TA} {p pos tpos : Pos} {elts : List Expr} {kk : Nat} (hg : Gl X "enumerate") (hm : X.mg "enumerate" = none) (ha : PA X [e] ta) (h : X.K = K := by rfl) (hs : starEach [e] X.env = [(false, eval e X.env)] := by rfl) :
    PI X (.Tuple elts kk tpos) (.Call (.Name "enumerate" p) [e] [] pos) (iEnumB K ta) := h ▸ pi_enumB hg hm ha hs
theorem pg_tupK {es : List Expr} {k : Nat} {t : TGs} {n : Nat} {pos : Pos} (hc : X.calm = true) (hh : PGs X es t) (h : X.K = K := by rfl)
    (hn : (assignEach es X.env).length = n := by rfl) (hst : (assignEach es X.env).findIdx? (·.1) = none := by rfl) : PG X (.Tuple es k pos) (gTup K n t) := h ▸ pg_tup hc hh hn hst
theorem sl_tupK (h : X.K = K := by rfl) : SlR X (rSlA K) := h ▸ sl_tupA
theorem cr_sumK (hc : X.calm = true) (h : X.K = K := by rfl) : CallR X (.builtin "sum") (rSum K) := h ▸ cr_sum hc
theorem op_eqK (hu : X.A.units + 64 < cLine) (h : X.K = K := by rfl) : OpR X (compareOp .Eq) (rEqD K) := h ▸ op_eqD hu
theorem op_neK (hu : X.A.units + 64 < cLine) (h : X.K = K := by rfl) : OpR X (compareOp .NotEq) (rNeD K) := h ▸ op_neD hu
theorem op_notInK (h : X.K = K := by rfl) : OpR X (compareOp .NotIn) (rIn K true) := h ▸ op_notIn_seq
theorem op_catTK (h : X.K = K := by rfl) : OpR X (binaryOp .Add) (rCatA K) := h ▸ op_catA
end
/-- x |= n -/
theorem ip_or : PIp X .BitOr (ipI fun i j => Builtin.bitOr i j) := fun pn s0 sg Hh x y v u Qq Iv rx ry hw => iop_or pn s0 sg Hh x y v u Qq Iv rx ry hw
end
end Bh
namespace Bh
open PySem PySem.Spec PyProof.Rows L2
abbrev pw : Program := PySem.Challenge.pw_besthours_k37_whole_least_rows_or_proofs
def topS (i : Nat) : Stmt := pw.main.body.getD i (.Pass ⟨0, 0, 0, 0⟩)
end Bh
namespace Bh
/-! ### sums, their form, the steps -/
abbrev Terms := List (Nat × List Int)
abbrev PSum := Terms × Int
/-- the form of weights and a bound -/
def formT (ts : Terms) : Terms := ts.filterMap fun t => if lmin t.2 < lmax t.2 then some (t.1, t.2.map (· - lmin t.2)) else none
def formB (ts : Terms) (b : Int) : Int := b - (ts.map fun t => lmin t.2).sum
def form (ts : Terms) (b : Int) : PSum := if 0 < formB ts b then (formT ts, formB ts b) else ([], 0)
/-- choices ascend, weights for each value -/
def TermsOk (sz : List Nat) (ts : Terms) : Prop := (∀ t ∈ ts, ∃ n, sz[t.1]? = some n ∧ t.2.length = n) ∧ (ts.map (·.1)).Pairwise (· < ·)
def SumOk (sz : List Nat) (s : PSum) : Prop := TermsOk sz s.1 ∧ (∀ t ∈ s.1, lmin t.2 = 0 ∧ lmax t.2 ≠ 0) ∧ (1 ≤ s.2 ∨ s = ([], 0))
def SizesOk (sz : List Nat) : Prop := sz.length ≤ 100 ∧ ∀ n ∈ sz, 1 ≤ n ∧ n ≤ 200
end Bh
namespace Bh
open PySem PySem.Spec PyProof.Rows L2
/-! ### heaps -/
theorem same_new {H : Hp} {p : Addr} {o : HO} (h : H p = none) : Same H (upd H p o) := fun b u e => (upd_ne (ne_of_none e h)).trans e
theorem skp {H H' : Hp} (e : Same H H') : Kp H H' := Kp.of_same e
theorem sq_same {K : PySem.W.Frag} {k : Bool} {H H' : Hp} {a : Addr} {xs : List V} (e : Same H H') (h : Sq K k H a xs) : Sq K k H' a xs := by
  cases k with
  | true => exact e.seq h
  | false => exact (skp e).sqT h
/-- an object that H does not know may change -/
theorem smut {H H' : Hp} {p : Addr} {o : HO} (e : Same H H') (h : H p = none) : Same H (upd H' p o) := fun a u ha => (upd_ne (ne_of_none ha h)).trans (e a u ha)
theorem kp_lst {H : Hp} {p : Addr} {xs ys : List V} (h : H p = some (.lst xs)) : Kp H (upd H p (.lst ys)) :=
  ⟨fun a zs e => (upd_ne (ne_of e h (by simp))).trans e, fun a o u e => (upd_ne (ne_of e h (by simp))).trans e⟩
theorem kp_dK {H : Hp} {p : Addr} {xs ys : List (Key × V)} (h : H p = some (.dK xs)) : Kp H (upd H p (.dK ys)) :=
  ⟨fun a zs e => (upd_ne (ne_of e h (by simp))).trans e, fun a o u e => (upd_ne (ne_of e h (by simp))).trans e⟩
theorem sz_ok {n : Nat} (h : n ≤ 10000000) : n ≤ sizeLine := by rw [sizeLine_eq]; omega
theorem sz_lt' {n : Nat} (h : n < 10000000) : n < sizeLine := by rw [sizeLine_eq]; omega
/-! ### comprehensions that keep what is tracked -/
def LcI (H1 : Hp) (D : Addr) (P : Nat → List V → Hp → Prop) (i : Nat) (H : Hp) : Prop := ∃ acc, Same H1 H ∧ H D = some (.lst acc) ∧ acc.length ≤ i ∧ P i acc H
theorem LcI.start {H1 : Hp} {D : Addr} {P : Nat → List V → Hp → Prop} (hD : H1 D = none) (h : P 0 [] (upd H1 D (.lst []))) : LcI H1 D P 0 (upd H1 D (.lst [])) :=
  ⟨[], same_new hD, upd_same, Nat.le_refl _, h⟩
theorem LcI.put {H1 H4 : Hp} {D : Addr} {P : Nat → List V → Hp → Prop} {i : Nat} {acc : List V} {y : V} (hD : H1 D = none) (s : Same H1 H4) (e : H4 D = some (.lst acc)) (l : acc.length ≤ i) (hi : i < 1000000)
    (p : P (i + 1) (acc ++ [y]) (upd H4 D (.lst (acc ++ [y])))) : ∃ a, H4 D = some (.lst a) ∧ a.length < sizeLine ∧ LcI H1 D P (i + 1) (upd H4 D (.lst (a ++ [y]))) :=
  ⟨acc, e, sz_lt' (by omega), acc ++ [y], smut s hD, upd_same, by rw [List.length_append]; exact Nat.add_le_add_right l 1, p⟩
theorem LcI.skip {H1 H4 : Hp} {D : Addr} {P : Nat → List V → Hp → Prop} {i : Nat} {acc : List V} (s : Same H1 H4) (e : H4 D = some (.lst acc)) (l : acc.length ≤ i) (p : P (i + 1) acc H4) : LcI H1 D P (i + 1) H4 :=
  ⟨acc, s, e, Nat.le_succ_of_le l, p⟩
theorem lc_gen {J : It} {n : Nat} {G : Hp → Prop} {Y : Nat → Hp → V → Hp → Prop} (w : Walk J n G Y) {g : TG} {tt : TT} {te : TE} {vs : List Nat} {σ : L2.St} {H1 : Hp} {D : Addr} {Qd : Hp → Prop} (hn : n ≤ 1000000) (hD : H1 D = none)
    (hG : ∀ H, Same H1 H → G H) (P : Nat → List V → Hp → Prop) (mono : ∀ i acc H H', Kp H H' → P i acc H → P i acc H') (h0 : ∀ H, P 0 [] H)
    (hs : ∀ i x H H' acc (C : V → Hp → Prop) (N : Hp → Prop), i < n → Same H1 H → P i acc H → Y i H x H' → (∀ y H4, Same H H4 → P (i + 1) (acc ++ [y]) H4 → C y H4) → (∀ H4, Same H H4 → P (i + 1) acc H4 → N H4) →
      g x (wipe σ vs) H' fun σ2 H2 => wipe σ2 vs = wipe σ vs ∧ tt σ2 H2 fun b H3 => if b = true then te σ2 H3 C else N H3)
    (hd : ∀ acc H, Same H1 H → H D = some (.lst acc) → acc.length ≤ n → P n acc H → Qd H) :
    ∃ W : Nat → Nat → Hp → Prop, (∃ m, W 0 m (upd H1 D (.lst []))) ∧ ∀ i m H, W i m H →
      (J.stop i H ∧ Qd H) ∨ (J.go i H ∧ ∃ Nx : Hp → Prop, (∀ H', Nx H' → ∃ m', m' < m ∧ W (i + 1) m' H') ∧ ∀ x H', J.yld i H x H' → g x (wipe σ vs) H' fun σ2 H2 => wipe σ2 vs = wipe σ vs ∧ tt σ2 H2 fun b H3 =>
        if b = true then te σ2 H3 fun y H4 => ∃ acc, H4 D = some (.lst acc) ∧ acc.length < sizeLine ∧ Nx (upd H4 D (.lst (acc ++ [y]))) else Nx H3) := by
  refine lc_it w (LcI H1 D P) (LcI.start hD (h0 _)) (fun i H _ p => hG H p.choose_spec.1) (fun i x H H' hi p y => ?_) (fun H p => ?_)
  · obtain ⟨acc, s, e, l, p⟩ := p
    exact hs i x H H' acc _ _ hi s p y (fun y H4 s4 p4 => LcI.put hD (s.trans s4) (s4 _ _ e) l (by omega) (mono _ _ _ _ (kp_lst (s4 _ _ e)) p4)) fun H4 s4 p4 => LcI.skip (s.trans s4) (s4 _ _ e) l p4
  · obtain ⟨acc, s, e, l, p⟩ := p
    exact hd acc H s e l p
/-- over a list or a tuple, for a display that is a value -/
theorem same_pair {xs ys : Nat → Option V} {i : Nat} {H H' : Hp} {v : V} (y : YPair xs ys i H v H') : ∃ T x z, v = .ref T ∧ H T = none ∧ Same H H' ∧ H' T = some (.tup [x, z]) ∧ xs i = some x ∧ ys i = some z := by
  obtain ⟨T, x, z, rfl, h, rfl, e1, e2⟩ := y
  exact ⟨T, x, z, rfl, h, same_new h, upd_same, e1, e2⟩
end Bh
namespace Bh
open PySem PySem.Spec PyProof.Rows L2
/-! ### slices, joins, comparisons with [] -/
section
variable {X : Cx} {K : PySem.W.Frag}
theorem cut_whole {xs : List V} {lo hi : Option Int} (h : HT.sIx xs.length 0 lo = 0 ∧ HT.sIx xs.length xs.length hi = xs.length) : cutV xs lo hi = xs := by
  unfold cutV
  rw [h.1, h.2]
  exact List.take_length
def rSlG (K : PySem.W.Frag) : V → Option Int → Option Int → Hp → VK → Prop := fun x lo hi H Q => ∃ a xs, x = .ref a ∧ SqT K H a xs ∧ ∀ p H', Same H H' → SqT K H' p (cutV xs lo hi) → Q (.ref p) H'
theorem sl_G (h : X.K = K := by rfl) : SlR X (rSlG K) := fun pn s0 sg Hh x v vl vu lo hi sl Qq Iv rx hs pl pu hw => by
  obtain ⟨a, xs, rfl, hx, q⟩ := hw
  exact sl_tupK h pn s0 sg Hh _ v vl vu lo hi sl Qq Iv rx hs pl pu ⟨a, xs, rfl, hx, fun z => q a Hh (Same.refl _) (by rw [cut_whole z]; exact hx), fun _ p hp => q p _ (same_new hp) (.inl (.inl upd_same))⟩
def rCatG (K : PySem.W.Frag) : R2 := fun x y H Q => ∃ a b xs ys, x = .ref a ∧ y = .ref b ∧ SqT K H a xs ∧ SqT K H b ys ∧ xs.length + ys.length ≤ 10000000 ∧ ∀ p H', Same H H' → SqT K H' p (xs ++ ys) → Q (.ref p) H'
theorem op_catG (h : X.K = K := by rfl) : OpR X (binaryOp .Add) (rCatG K) := fun pn s0 sg Hh x y v u Qq Iv rx ry hw => by
  obtain ⟨a, b, xs, ys, rfl, rfl, hx, hy, hl, q⟩ := hw
  refine op_catTK h pn s0 sg Hh _ _ v u Qq Iv rx ry ⟨a, b, xs, ys, rfl, rfl, hx, hy, sz_ok hl, fun e => ?_, fun _ e => ?_, fun _ _ p hp => q p _ (same_new hp) (.inl (.inl upd_same))⟩
  · subst e
    exact q b Hh (Same.refl _) hy
  · subst e
    exact q a Hh (Same.refl _) (by rw [List.append_nil]; exact hx)
/-- (0,) * k for k from 2 on -/
def rMulG (K : PySem.W.Frag) : R2 := fun x y H Q => ∃ a z k, x = .ref a ∧ y = .int k ∧ SqT K H a [z] ∧ 2 ≤ k ∧ k ≤ 1000 ∧ ∀ p H', Same H H' → SqT K H' p (List.replicate k.toNat z) → Q (.ref p) H'
theorem rep_one {z : V} : ∀ n : Nat, (List.replicate n [z]).flatten = List.replicate n z
  | 0 => rfl
  | n + 1 => by rw [List.replicate_succ, List.flatten_cons, rep_one n, List.replicate_succ]; rfl
theorem op_mulG (h : X.K = K := by rfl) : OpR X (binaryOp .Mult) (rMulG K) := fun pn s0 sg Hh x y v u Qq Iv rx ry hw => by
  obtain ⟨a, z, k, rfl, rfl, hx, h1, h2, q⟩ := hw
  subst h
  exact op_repT pn s0 sg Hh _ _ v u Qq Iv rx ry ⟨a, k, [z], rfl, rfl, hx, List.cons_ne_nil _ _, h1, h2, (by show (1 : Nat) ≤ 1000; omega), fun p hp => q p _ (same_new hp) (.inl (.inl (by rw [rep_one]; exact upd_same)))⟩
/-- a list against [] -/
theorem op_eqL (hu : X.A.units < cLine) : OpR X (compareOp .Eq) (fun x y H Q => ∃ a b xs, x = .ref a ∧ y = .ref b ∧ H a = some (.lst xs) ∧ H b = some (.lst []) ∧ Q (.bl xs.isEmpty) H) := by
  intro pn s0 sg Hh x y v u Qq Iv rx ry hw
  obtain ⟨a, b, xs, rfl, rfl, ea, eb, q⟩ := hw
  cases rx
  cases ry
  obtain ⟨_, ia, _, ra, _, la⟩ := Iv.lstM ea
  obtain ⟨_, ib, _, rb, _, lb⟩ := Iv.lstM eb
  have zb : ib.toArray.size = 0 := by rw [List.size_toArray]; exact rb.length.symm
  have za : ia.toArray.size = xs.length := by rw [List.size_toArray]; exact ra.length.symm
  cases xs with
  | nil =>
    have z : ia.toArray.size = ib.toArray.size := by rw [za, zb]; rfl
    have := SeqAt.RcAt.lists (e := fun _ => true) ⟨_, la, rfl, _, rfl⟩ ⟨_, lb, rfl, _, rfl⟩ z hu (fun j h1 h2 => by omega)
    rw [za] at this
    exact this X.prog X.w X.xe _ ⟨.bl true, Hh, Iv, rfl, q⟩
  | cons x r =>
    exact SeqAt.RcAt.lists_lengths ⟨_, la, rfl, _, rfl⟩ ⟨_, lb, rfl, _, rfl⟩ (by rw [za, zb]; rfl) hu X.prog X.w X.xe _ ⟨.bl false, Hh, Iv, rfl, q⟩
theorem op_neL (hu : X.A.units < cLine) : OpR X (compareOp .NotEq) (fun x y H Q => ∃ a b xs, x = .ref a ∧ y = .ref b ∧ H a = some (.lst xs) ∧ H b = some (.lst []) ∧ Q (.bl (!xs.isEmpty)) H) := by
  intro pn s0 sg Hh x y v u Qq Iv rx ry hw
  obtain ⟨a, b, xs, rfl, rfl, ea, eb, q⟩ := hw
  cases rx
  cases ry
  obtain ⟨_, ia, _, ra, _, la⟩ := Iv.lstM ea
  obtain ⟨_, ib, _, rb, _, lb⟩ := Iv.lstM eb
  have zb : ib.toArray.size = 0 := by rw [List.size_toArray]; exact rb.length.symm
  have za : ia.toArray.size = xs.length := by rw [List.size_toArray]; exact ra.length.symm
  cases xs with
  | nil =>
    have z : ia.toArray.size = ib.toArray.size := by rw [za, zb]; rfl
    have := SeqAt.RcNeAt.lists (e := fun _ => true) ⟨_, la, rfl, _, rfl⟩ ⟨_, lb, rfl, _, rfl⟩ z hu (fun j h1 h2 => by omega)
    rw [za] at this
    exact this X.prog X.w X.xe _ ⟨.bl false, Hh, Iv, rfl, q⟩
  | cons x r =>
    exact SeqAt.RcNeAt.lists_lengths ⟨_, la, rfl, _, rfl⟩ ⟨_, lb, rfl, _, rfl⟩ (by rw [za, zb]; rfl) hu X.prog X.w X.xe _ ⟨.bl true, Hh, Iv, rfl, q⟩
end
/-! a fresh tuple of a display or of a list -/
theorem frz_new {K : PySem.W.Frag} {H : Hp} {p : Addr} {o : Obj} {xs : List V} (hp : H p = none) (ho : o.dict = none) : Same H (upd H p (.frz o (.tup xs))) ∧ SqT K (upd H p (.frz o (.tup xs))) p xs ∧ PlT K (upd H p (.frz o (.tup xs))) p :=
  ⟨same_new hp, .inl (.inr ⟨o, upd_same⟩), .inl ⟨o, _, upd_same, ho⟩⟩
end Bh
namespace Bh
open PySem PySem.Spec PyProof.Rows L2
/-! ### data of the program -/
def dInts (ws : List Int) : PyData := .tuple (ws.map .int)
def dTerm (t : Nat × List Int) : PyData := .tuple [.int (t.1 : Nat), dInts t.2]
def dTerms (ts : Terms) : PyData := .tuple (ts.map dTerm)
def dSum (s : PSum) : PyData := .tuple [dTerms s.1, .int s.2]
def dSums (ss : List PSum) : PyData := .tuple (ss.map dSum)
def dSizes (sz : List Nat) : PyData := .tuple (sz.map fun n => .int (n : Nat))
section
variable {K : PySem.W.Frag} {H H' : Hp} {v : V}
theorem pInts {ws : List Int} (p : Pur K H v (dInts ws)) : ∃ a, v = .ref a ∧ SqT K H a (ws.map V.int) := by
  obtain ⟨a, xs, rfl, q, l⟩ := p.inv
  rw [l.ints] at q
  exact ⟨a, rfl, q⟩
theorem nats_eq {sz : List Nat} : (sz.map fun n => (PyData.int (n : Nat))) = (sz.map fun (n : Nat) => (n : Int)).map .int := by
  rw [List.map_map]
  rfl
def szV (sz : List Nat) : List V := (sz.map fun (n : Nat) => (n : Int)).map V.int
theorem pSizes {sz : List Nat} (p : Pur K H v (dSizes sz)) : ∃ a, v = .ref a ∧ SqT K H a (szV sz) := by
  obtain ⟨a, xs, rfl, q, l⟩ := p.inv
  rw [nats_eq] at l
  rw [l.ints] at q
  exact ⟨a, rfl, q⟩
theorem szV_len (sz : List Nat) : (szV sz).length = sz.length := by unfold szV; rw [List.length_map, List.length_map]
theorem szV_get {sz : List Nat} {i : Nat} {n : Nat} (h : sz[i]? = some n) : (szV sz)[i]? = some (.int (n : Nat)) := by
  unfold szV
  rw [List.getElem?_map, List.getElem?_map, h]
  rfl
theorem pTerm {t : Nat × List Int} (p : Pur K H v (dTerm t)) : ∃ a w, v = .ref a ∧ SqT K H a [.int (t.1 : Nat), .ref w] ∧ SqT K H w (t.2.map V.int) := by
  obtain ⟨a, xs, rfl, q, l⟩ := p.inv
  obtain ⟨x, y, rfl, p1, p2⟩ := l.two
  cases p1.intI
  obtain ⟨w, rfl, qw⟩ := pInts p2
  exact ⟨a, w, rfl, q, qw⟩
theorem pSum {s : PSum} (p : Pur K H v (dSum s)) : ∃ a x, v = .ref a ∧ SqT K H a [x, .int s.2] ∧ Pur K H x (dTerms s.1) := by
  obtain ⟨a, xs, rfl, q, l⟩ := p.inv
  obtain ⟨x, y, rfl, p1, p2⟩ := l.two
  cases p2.intI
  exact ⟨a, x, rfl, q, p1⟩
end
/-! ### the first defs -/
section
variable {P : Program} {w : World} {K : PySem.W.Frag} {mg : Str → Option Value} {base : Heap}
def sp_is_whole : Sp := fun vs H Q _ => ∃ i : Int, vs = [.int i] ∧ Q (.bl true) H
theorem sc_is_whole : FnScope ["value"] ["value"] (defScope (topS 8)) := ⟨rfl, rfl, rfl, by decide +kernel, rfl, by decide +kernel, by decide +kernel⟩
theorem ok_is_whole (fr : Free mg) (D : DefAt K mg "is_whole" (topS 8)) : OkD P w K mg base 1 "is_whole" ["value"] sp_is_whole := by
  refine D.ok sc_is_whole (fun _ _ _ _ _ _ us hl => match us, hl with | [_], _ => rfl) (fun vs H Q E h => ?_) (fun f cdv A outer s H vs Q E hr h => ?_)
  · obtain ⟨i, rfl, _⟩ := h; rfl
  · obtain ⟨i, rfl, q⟩ := h
    refine ⟨_, (pss_one (ps_ret (pe_and (pe_callB cr_isInt (by rfl) fr.isinstance (by decide +kernel) (pa_cons (pv 0) (pa_cons (pe_bltn (v := .ty "int") (by rfl) fr.int (by decide +kernel) rfl) pa_nil))) (pe_one (pe_not (pe_callB cr_isBool (by rfl) fr.isinstance (by decide +kernel) (pa_cons (pv 0) (pa_cons (pe_bltn (v := .ty "bool") (by rfl) fr.bool (by decide +kernel) rfl) pa_nil)))))))), ?_⟩
    exact ⟨_, rfl, i, rfl, true, rfl, iteT ⟨_, rfl, i, rfl, false, rfl, q⟩⟩
def sp_is_from : Sp := fun vs H Q _ => ∃ v lo hi : Int, vs = [.int v, .int lo, .int hi] ∧ Q (.bl (decide (lo ≤ v ∧ v ≤ hi))) H
theorem sc_is_from : FnScope ["value", "low", "high"] ["value", "low", "high"] (defScope (topS 9)) := ⟨rfl, rfl, rfl, by decide +kernel, rfl, by decide +kernel, by decide +kernel⟩
theorem ok_is_from (fr : Free mg) (D : DefAt K mg "is_from" (topS 9)) (d_is_whole : OkD P w K mg base 1 "is_whole" ["value"] sp_is_whole) : OkD P w K mg base 2 "is_from" ["value", "low", "high"] sp_is_from := by
  refine D.ok sc_is_from (fun _ _ _ _ _ _ us hl => match us, hl with | [_, _, _], _ => rfl) (fun vs H Q E h => ?_) (fun f cdv A outer s H vs Q E hr h => ?_)
  · obtain ⟨v, lo, hi, rfl, _⟩ := h; rfl
  · obtain ⟨v, lo, hi, rfl, q⟩ := h
    refine ⟨_, (pss_one (ps_ret (pe_and (pe_callD d_is_whole (hr.mono (by decide)) (by rfl) (pa_cons (pv 0) pa_nil)) (pe_one (pe_chain op_le op_le (pv 1) (pv 0) (pv 2)))))), ?_⟩
    refine ⟨_, rfl, v, rfl, true, rfl, iteT ?_⟩
    refine ⟨_, rfl, _, rfl, lo, v, rfl, rfl, decide (lo ≤ v), rfl, ?_⟩
    by_cases h1 : lo ≤ v
    · rw [decide_eq_true h1]
      refine iteT ⟨_, rfl, v, hi, rfl, rfl, ?_⟩
      show Q (.bl (decide (v ≤ hi))) H
      rw [show decide (v ≤ hi) = decide (lo ≤ v ∧ v ≤ hi) by simp [h1]]
      exact q
    · rw [decide_eq_false h1]
      refine iteF ?_
      rw [show decide (lo ≤ v ∧ v ≤ hi) = false by simp [h1]] at q
      exact q
def sp_check_sizes (K : PySem.W.Frag) : Sp := fun vs H Q _ => ∃ v sz, vs = [v] ∧ Pur K H v (dSizes sz) ∧ SizesOk sz ∧ ∀ H', Same H H' → Q v H'
theorem sc_check_sizes : FnScope ["value", "item"] ["value"] (defScope (topS 10)) := ⟨rfl, rfl, rfl, by decide +kernel, rfl, by decide +kernel, by decide +kernel⟩
theorem ok_check_sizes (fr : Free mg) (D : DefAt K mg "check_sizes" (topS 10)) (d_is_from : OkD P w K mg base 2 "is_from" ["value", "low", "high"] sp_is_from) : OkD P w K mg base 3 "check_sizes" ["value"] (sp_check_sizes K) := by
  refine D.ok sc_check_sizes (fun _ _ _ _ _ _ us hl => match us, hl with | [_], _ => rfl) (fun vs H Q E h => ?_) (fun f cdv A outer s H vs Q E hr h => ?_)
  · obtain ⟨v, sz, rfl, _⟩ := h; rfl
  · obtain ⟨v, sz, rfl, hp, ⟨h1, h2⟩, q⟩ := h
    obtain ⟨a, rfl, hq⟩ := pSizes hp
    refine ⟨_, (pss_cons (ps_if (PW.pt (pw_or (pt_not (pt_val (pe_callB (cr_isTupK (K := K)) (by rfl) fr.isinstance (by decide +kernel) (pa_cons (pv 0) (pa_cons (pe_bltn (v := .ty "tuple") (by rfl) fr.tuple (by decide +kernel) rfl) pa_nil))))) (pw_or1 (pt_cmpR op_gt (pe_callB (cr_lenK (K := K)) (by rfl) fr.len (by decide +kernel) (pa_cons (pv 0) pa_nil)) (pe_glob (v := .int 100) (by rfl) fr.mc.choose_spec ⟨_, rfl⟩) (nomark _))))) (pss_one ps_never) pss_nil)
 (pss_cons (ps_if (pt_cmpR op_gt (pe_callB (cr_lenK (K := K)) (by rfl) fr.len (by decide +kernel) (pa_cons (pe_lc (own := [("item", 1)]) rfl sc_check_sizes.nd (pi_seqK (K := K) (pv 0)) (blkOk_by (by kernel_rfl)) (fun _ _ _ _ _ => (pg_name (i := 1) sc_check_sizes.nd rfl (by first | exact .inl rfl | exact .inr rfl))) (fun _ _ _ _ _ => (pts_one (pt_not (pt_val (pe_callD d_is_from (hr.mono (by decide)) (by rfl) (pa_cons (pv 1) (pa_cons pe_int (pa_cons (pe_glob (v := .int 200) (by rfl) fr.mv.choose_spec ⟨_, rfl⟩) pa_nil)))))))) (fun _ _ _ _ _ => pe_int)) pa_nil)) pe_int (nomark _)) (pss_one ps_never) pss_nil)
 (pss_one (ps_ret (pv 0))))), ?_⟩
    refine ⟨_, rfl, a, _, rfl, hq, true, rfl, iteF ?_⟩
    refine ⟨_, rfl, a, false, _, rfl, hq, _, _, rfl, rfl, _, rfl, ?_⟩
    rw [decide_eq_false (by rw [szV_len]; omega)]
    refine iteF ?_
    refine ⟨_, rfl, a, false, rfl, ⟨_, hq⟩, fun D hD => ?_⟩
    refine lc_gen walk_seq (by rw [szV_len]; omega) hD (fun H' s => sq_same (k := false) s hq) (fun i acc _ => acc = []) (fun _ _ _ _ _ p => p) (fun _ => rfl) (fun i x H1 H2 acc C N hi s p y cC cN => ?_) (fun acc H' s e l p => ?_)
    · obtain ⟨rfl, hx⟩ := y
      obtain ⟨n, hn, rfl⟩ : ∃ n, n ∈ sz ∧ x = .int (n : Nat) := by
        unfold szV at hx
        rw [List.map_map, List.getElem?_map] at hx
        obtain ⟨n, e, rfl⟩ := Option.map_eq_some_iff.mp hx
        exact ⟨n, List.mem_of_getElem? e, rfl⟩
      have h3 := h2 n hn
      refine ⟨rfl, ⟨_, rfl, _, _, _, rfl, true, ?_, iteF (cN _ (Same.refl _) p)⟩⟩
      rw [decide_eq_true (by omega)]
    · subst p
      refine ⟨D, true, [], rfl, .inl (.inl e), _, _, rfl, rfl, false, rfl, iteF ⟨_, rfl, q H' s⟩⟩
def sp_is_weights (K : PySem.W.Frag) : Sp := fun vs H Q _ => ∃ v ws, vs = [v, .int ((ws.length : Nat) : Int)] ∧ Pur K H v (dInts ws) ∧ ws.length ≤ 1000 ∧ ∀ H', Same H H' → Q (.bl true) H'
theorem sc_is_weights : FnScope ["value", "size", "item"] ["value", "size"] (defScope (topS 11)) := ⟨rfl, rfl, rfl, by decide +kernel, rfl, by decide +kernel, by decide +kernel⟩
theorem ok_is_weights (fr : Free mg) (D : DefAt K mg "is_weights" (topS 11)) (d_is_whole : OkD P w K mg base 1 "is_whole" ["value"] sp_is_whole) : OkD P w K mg base 2 "is_weights" ["value", "size"] (sp_is_weights K) := by
  refine D.ok sc_is_weights (fun _ _ _ _ _ _ us hl => match us, hl with | [_, _], _ => rfl) (fun vs H Q E h => ?_) (fun f cdv A outer s H vs Q E hr h => ?_)
  · obtain ⟨v, ws, rfl, _⟩ := h; rfl
  · obtain ⟨v, ws, rfl, hp, hl, q⟩ := h
    obtain ⟨a, rfl, hq⟩ := pInts hp
    refine ⟨_, (pss_cons (ps_if (PW.pt (pw_or (pt_not (pt_val (pe_callB (cr_isTupK (K := K)) (by rfl) fr.isinstance (by decide +kernel) (pa_cons (pv 0) (pa_cons (pe_bltn (v := .ty "tuple") (by rfl) fr.tuple (by decide +kernel) rfl) pa_nil))))) (pw_or1 (pt_cmpR op_ne (pe_callB (cr_lenK (K := K)) (by rfl) fr.len (by decide +kernel) (pa_cons (pv 0) pa_nil)) (pv 1) (nomark _))))) (pss_one (ps_ret pe_bl)) pss_nil)
 (pss_one (ps_ret (pe_cmpR op_eq (pe_callB (cr_lenK (K := K)) (by rfl) fr.len (by decide +kernel) (pa_cons (pe_lc (own := [("item", 2)]) rfl sc_is_weights.nd (pi_seqK (K := K) (pv 0)) (blkOk_by (by kernel_rfl)) (fun _ _ _ _ _ => (pg_name (i := 2) sc_is_weights.nd rfl (by first | exact .inl rfl | exact .inr rfl))) (fun _ _ _ _ _ => (pts_one (pt_not (pt_val (pe_callD d_is_whole (hr.mono (by decide)) (by rfl) (pa_cons (pv 2) pa_nil)))))) (fun _ _ _ _ _ => pe_int)) pa_nil)) pe_int (nomark _))))), ?_⟩
    refine ⟨_, rfl, a, _, rfl, hq, true, rfl, iteF ?_⟩
    refine ⟨_, rfl, a, false, _, rfl, hq, _, rfl, rfl, _, rfl, ?_⟩
    rw [List.length_map, decide_eq_true rfl]
    refine iteF ?_
    refine ⟨_, rfl, a, false, rfl, ⟨_, hq⟩, fun D hD => ?_⟩
    refine lc_gen walk_seq (by rw [List.length_map]; omega) hD (fun H' s => sq_same (k := false) s hq) (fun i acc _ => acc = []) (fun _ _ _ _ _ p => p) (fun _ => rfl) (fun i x H1 H2 acc C N hi s p y cC cN => ?_) (fun acc H' s e l p => ?_)
    · obtain ⟨rfl, hx⟩ := y
      rw [List.getElem?_map] at hx
      obtain ⟨n, e, rfl⟩ := Option.map_eq_some_iff.mp hx
      exact ⟨rfl, ⟨_, rfl, _, rfl, true, rfl, iteF (cN _ (Same.refl _) p)⟩⟩
    · subst p
      exact ⟨D, true, [], rfl, .inl (.inl e), rfl, q H' s⟩
/-! slices from 1 on -/
theorem cut_one (xs : List V) : cutV xs (some 1) none = xs.drop 1 := by
  unfold cutV
  rw [show HT.sIx xs.length 0 (some 1) = min 1 xs.length from HT.sIx_nat xs.length 0 1, HT.sIx_none]
  cases xs with
  | nil => rfl
  | cons x r =>
    rw [show min 1 (x :: r).length = 1 by rw [List.length_cons]; omega]
    show List.take ((x :: r).length - 1) r = r
    rw [List.length_cons, Nat.add_sub_cancel]
    exact List.take_length
theorem pTerms {H : Hp} {v : V} {ts : Terms} (p : Pur K H v (dTerms ts)) : ∃ (a : Addr) (xs : List V), v = .ref a ∧ SqT K H a xs ∧ xs.length = ts.length ∧ ∀ (i : Nat) (x : V), xs[i]? = some x → ∃ t, ts[i]? = some t ∧ Pur K H x (dTerm t) := by
  obtain ⟨a, xs, rfl, q, l⟩ := p.inv
  refine ⟨a, xs, rfl, q, by rw [l.len, List.length_map], fun i x e => ?_⟩
  obtain ⟨d, hd, hp⟩ := l.getV e
  rw [List.getElem?_map] at hd
  obtain ⟨t, e2, rfl⟩ := Option.map_eq_some_iff.mp hd
  exact ⟨t, e2, hp⟩
def sp_is_terms (K : PySem.W.Frag) : Sp := fun vs H Q _ => ∃ v u sz ts, vs = [v, u] ∧ Pur K H v (dSizes sz) ∧ Pur K H u (dTerms ts) ∧ TermsOk sz ts ∧ ts.length ≤ 1000 ∧ (∀ n ∈ sz, n ≤ 1000) ∧ ∀ H', Same H H' → Q (.bl true) H'
theorem sc_is_terms : FnScope ["sizes", "value", "term", "near", "far"] ["sizes", "value"] (defScope (topS 12)) := ⟨rfl, rfl, rfl, by decide +kernel, rfl, by decide +kernel, by decide +kernel⟩
theorem ok_is_terms (fr : Free mg) (D : DefAt K mg "is_terms" (topS 12)) (d_is_from : OkD P w K mg base 2 "is_from" ["value", "low", "high"] sp_is_from) (d_is_weights : OkD P w K mg base 2 "is_weights" ["value", "size"] (sp_is_weights K)) :
    OkD P w K mg base 3 "is_terms" ["sizes", "value"] (sp_is_terms K) := by
  refine D.ok sc_is_terms (fun _ _ _ _ _ _ us hl => match us, hl with | [_, _], _ => rfl) (fun vs H Q E h => ?_) (fun f cdv A outer s H vs Q E hr h => ?_)
  · obtain ⟨v, u, sz, ts, rfl, _⟩ := h; rfl
  · obtain ⟨v, u, sz, ts, rfl, hp, hu, ⟨ok1, ok2⟩, hl, hz, q⟩ := h
    obtain ⟨a, rfl, hq⟩ := pSizes hp
    obtain ⟨b, xs, rfl, hb, hxl, hx⟩ := pTerms hu
    refine ⟨_, (pss_cons (ps_if (pt_not (pt_val (pe_callB (cr_isTupK (K := K)) (by rfl) fr.isinstance (by decide +kernel) (pa_cons (pv 1) (pa_cons (pe_bltn (v := .ty "tuple") (by rfl) fr.tuple (by decide +kernel) rfl) pa_nil))))) (pss_one (ps_ret pe_bl)) pss_nil)
 (pss_cons (ps_for PassesOwn.never rfl (pi_seqK (K := K) (pv 1)) (pg_name (i := 2) sc_is_terms.nd rfl (by first | exact .inl rfl | exact .inr rfl)) (pss_cons (ps_if (PW.pt (pw_or (pt_not (pt_val (pe_callB (cr_isTupK (K := K)) (by rfl) fr.isinstance (by decide +kernel) (pa_cons (pv 2) (pa_cons (pe_bltn (v := .ty "tuple") (by rfl) fr.tuple (by decide +kernel) rfl) pa_nil))))) (pw_or (pt_cmpR op_ne (pe_callB (cr_lenK (K := K)) (by rfl) fr.len (by decide +kernel) (pa_cons (pv 2) pa_nil)) pe_int (nomark _)) (pw_or1 (pt_not (pt_val (pe_callD d_is_from (hr.mono (by decide)) (by rfl) (pa_cons (pe_ix (ix_tupK (K := K)) (pv 2) pe_int (fun _ _ => rfl)) (pa_cons pe_int (pa_cons (pe_op op_sub (pe_callB (cr_lenK (K := K)) (by rfl) fr.len (by decide +kernel) (pa_cons (pv 0) pa_nil)) pe_int) pa_nil)))))))))) (pss_one (ps_ret pe_bl)) pss_nil)
 (pss_one (ps_if (pt_not (pt_val (pe_callD d_is_weights (hr.mono (by decide)) (by rfl) (pa_cons (pe_ix (ix_tupK (K := K)) (pv 2) pe_int (fun _ _ => rfl)) (pa_cons (pe_ix (ix_tupK (K := K)) (pv 0) (pe_ix (ix_tupK (K := K)) (pv 2) pe_int (fun _ _ => rfl)) (fun _ _ => rfl)) pa_nil))))) (pss_one (ps_ret pe_bl)) pss_nil))))
 (pss_one (ps_ret (pe_cmpR op_eq (pe_callB (cr_lenK (K := K)) (by rfl) fr.len (by decide +kernel) (pa_cons (pe_lc (own := [("near", 3), ("far", 4)]) rfl sc_is_terms.nd (pi_zipK (K := K) (by rfl) fr.zip (pa_cons (pv 1) (pa_cons (pe_slice (sl_G (K := K)) (pv 1) (po_some pe_int) po_none) pa_nil))) (blkOk_by (by kernel_rfl)) (fun _ _ _ _ _ => (pg_tupK (K := K) (n := 2) (by rfl) (pgs_cons (pg_name (i := 3) sc_is_terms.nd rfl (by first | exact .inl rfl | exact .inr rfl)) (pgs_cons (pg_name (i := 4) sc_is_terms.nd rfl (by first | exact .inl rfl | exact .inr rfl)) pgs_nil)))) (fun _ _ _ _ _ => (pts_one (pt_cmpR op_ge (pe_ix (ix_tupK (K := K)) (pv 3) pe_int (fun _ _ => rfl)) (pe_ix (ix_tupK (K := K)) (pv 4) pe_int (fun _ _ => rfl)) (nomark _)))) (fun _ _ _ _ _ => pe_int)) pa_nil)) pe_int (nomark _)))))), ?_⟩
    refine ⟨_, rfl, b, _, rfl, hb, true, rfl, iteF ?_⟩
    refine ⟨_, rfl, b, false, rfl, ⟨_, hb⟩, ?_⟩
    refine for_it walk_seq (fun i σ H' => ∃ y, σ = [some (.ref a), some (.ref b), y, none, none] ∧ Same H H') ⟨none, rfl, Same.refl _⟩ (fun i σ H' _ p => sq_same (k := false) p.choose_spec.2 hb) (fun i x σ H1 H2 hi p y => ?_) (fun σ H' p => ?_)
    · obtain ⟨y0, rfl, s1⟩ := p
      obtain ⟨rfl, ex⟩ := y
      obtain ⟨t, et, hpt⟩ := hx i x ex
      obtain ⟨n, en, eln⟩ := ok1 t (List.mem_of_getElem? et)
      obtain ⟨c, wt, rfl, qc, qw⟩ := pTerm hpt
      have qc' := (skp s1).sqT qc
      have qw' := (skp s1).sqT qw
      have hq' := (skp s1).sqT hq
      have hlt : t.1 < sz.length := (List.getElem?_eq_some_iff.mp en).1
      refine ⟨_, rfl, c, _, rfl, qc', true, rfl, iteF ?_⟩
      refine ⟨_, rfl, c, false, _, rfl, qc', rfl, _, rfl, ?_⟩
      rw [show ([V.int (t.1 : Nat), V.ref wt].length : Int) = 2 from rfl, decide_eq_true rfl]
      refine iteF ?_
      refine ⟨_, rfl, c, _, _, _, rfl, rfl, qc', atI_nat (j := 0) rfl, _, rfl, a, false, _, rfl, hq', _, _, rfl, rfl, _, _, _, rfl, true, ?_, iteF ?_⟩
      · rw [szV_len, decide_eq_true (by show (0 : Int) ≤ (t.1 : Nat) ∧ ((t.1 : Nat) : Int) ≤ ((sz.length : Nat) : Int) - 1; omega)]
      refine ⟨_, rfl, c, _, _, _, rfl, rfl, qc', atI_nat (j := 1) rfl, _, rfl, _, rfl, c, _, _, _, rfl, rfl, qc', atI_nat (j := 0) rfl, a, _, _, _, rfl, rfl, hq', atI_nat (szV_get en), ?_⟩
      refine ⟨_, t.2, (by rw [eln]; rfl), .tup qw' (pur_ints _), by rw [eln]; exact hz n (List.mem_of_getElem? en), fun H3 s3 => ⟨true, rfl, iteF ⟨_, rfl, s1.trans s3⟩⟩⟩
    · obtain ⟨y0, rfl, s1⟩ := p
      have hb' := (skp s1).sqT hb
      refine ⟨_, rfl, _, rfl, 1, rfl, b, xs, rfl, hb', fun p H2 s2 hp2 => ?_⟩
      rw [cut_one] at hp2
      have hb2 := (skp s2).sqT hb'
      refine ⟨b, p, false, false, xs, _, rfl, hb2, hp2, fun D hD => ?_⟩
      refine lc_gen (walk_zipB rfl) (by omega) hD (fun H' s => ⟨sq_same (k := false) s hb2, sq_same (k := false) s hp2⟩) (fun i acc _ => acc = []) (fun _ _ _ _ _ p => p) (fun _ => rfl) (fun i x H3 H4 acc C N hi s p y cC cN => ?_) (fun acc H' s e l p => ?_)
      · obtain ⟨T, x1, x2, rfl, hT, s4, eT, e1, e2⟩ := same_pair y
        rw [List.getElem?_drop] at e2
        obtain ⟨t1, f1, h1⟩ := hx i x1 e1
        obtain ⟨t2, f2, h2⟩ := hx _ x2 e2
        have hlt : t1.1 < t2.1 := by
          rw [List.pairwise_iff_getElem] at ok2
          have g1 := List.getElem?_eq_some_iff.mp f1
          have g2 := List.getElem?_eq_some_iff.mp f2
          have := ok2 i (1 + i) (by rw [List.length_map]; exact g1.1) (by rw [List.length_map]; exact g2.1) (by omega)
          rw [List.getElem_map, List.getElem_map, g1.2, g2.2] at this
          exact this
        obtain ⟨c1, w1, rfl, k1, _⟩ := pTerm h1
        obtain ⟨c2, w2, rfl, k2, _⟩ := pTerm h2
        have kk := skp (((s1.trans s2).trans s).trans s4)
        refine ⟨T, _, rfl, .inl (.inl eT), rfl, _, _, rfl, _, _, rfl, rfl, rfl, ?_⟩
        refine ⟨_, rfl, c1, _, _, _, rfl, rfl, kk.sqT k1, atI_nat (j := 0) rfl, _, rfl, c2, _, _, _, rfl, rfl, kk.sqT k2, atI_nat (j := 0) rfl, _, _, rfl, rfl, _, rfl, ?_⟩
        rw [decide_eq_false (by omega)]
        exact iteF (cN _ s4 p)
      · subst p
        exact ⟨D, true, [], rfl, .inl (.inl e), rfl, q H' ((s1.trans s2).trans s)⟩
end
end Bh
namespace Bh
/-! ### the steps and what they tell -/
inductive Step
  | demand (i : Nat)
  | add (ps : List (Nat × Int))
  | divide (j : Nat) (d : Int)
  | cap (j : Nat)
  | raise (j : Nat) (ts : Terms)
def look (ts : Terms) (c : Nat) : Option (List Int) := (ts.find? fun t => decide (t.1 = c)).map (·.2)
/-- a table of weights, by choice -/
abbrev Tab := Nat → Option (List Int)
def Tab.put (f : Tab) (c : Nat) (w : List Int) : Tab := fun c' => if c' = c then some w else f c'
def addW (m : Int) (near far : List Int) : List Int := List.zipWith (fun a b => a + m * b) near far
def zeros (n : Nat) : List Int := List.replicate n 0
def addOne (m : Int) (f : Tab) (t : Nat × List Int) : Tab := f.put t.1 (addW m ((f t.1).getD (zeros t.2.length)) t.2)
def addSum (f : Tab) (p : PSum × Int) : Tab := p.1.1.foldl (addOne p.2) f
def addAll (ps : List (PSum × Int)) : Tab := ps.foldl addSum fun _ => none
def addB (ps : List (PSum × Int)) : Int := (ps.map fun p => p.2 * p.1.2).sum
def tabT (n : Nat) (f : Tab) : Terms := (List.range n).filterMap fun c => (f c).map fun w => (c, w)
def added (n : Nat) (ps : List (PSum × Int)) : PSum := form (tabT n (addAll ps)) (addB ps)
def raisedF (one ts : Terms) : Tab := ts.foldl (fun f t => f.put t.1 t.2) (one.foldl (fun f t => f.put t.1 t.2) fun _ => none)
def raised (n : Nat) (one : PSum) (ts : Terms) : PSum := form (tabT n (raisedF one.1 ts)) one.2
def upI (a d : Int) : Int := -(Int.fdiv (-a) d)
def divided (one : PSum) (d : Int) : PSum := form (one.1.map fun t => (t.1, t.2.map fun w => upI w d)) (upI one.2 d)
def capped (one : PSum) : PSum := form (one.1.map fun t => (t.1, t.2.map fun w => if one.2 < w then one.2 else w)) one.2
abbrev Sums := List PSum
def at0 (ss : Sums) (i : Nat) : PSum := ss.getD i ([], 0)
def stepVal (n : Nat) (told ahead : Sums) : Step → PSum
  | .demand i => at0 told i
  | .add ps => added n (ps.map fun p => (at0 ahead p.1, p.2))
  | .divide j d => divided (at0 ahead j) d
  | .cap j => capped (at0 ahead j)
  | .raise j ts => raised n (at0 ahead j) ts
/-- ts raises one: no weight falls -/
def Raises (one : PSum) (ts : Terms) : Prop := ∀ t ∈ ts, ∀ (i : Nat) (a b : Int), ((look one.1 t.1).getD (zeros t.2.length))[i]? = some a → t.2[i]? = some b → a ≤ b
/-- what a step needs -/
def StepGood (sz : List Nat) (told ahead : Sums) : Step → Prop
  | .demand i => i < told.length
  | .add ps => ps.length ≤ 1000 ∧ ∀ p ∈ ps, p.1 < ahead.length ∧ 1 ≤ p.2 ∧ p.2 < 2 ^ 60
  | .divide j d => j < ahead.length ∧ 1 ≤ d ∧ d < 1073741824
  | .cap j => j < ahead.length ∧ 0 < (at0 ahead j).2
  | .raise j ts => j < ahead.length ∧ TermsOk sz ts ∧ (∀ t ∈ ts, 2 ≤ t.2.length) ∧ Raises (at0 ahead j) ts
/-- the values of the steps, in order -/
def stepVals (n : Nat) (told : Sums) (sts : List Step) : Sums := sts.foldl (fun ahead st => ahead ++ [stepVal n told ahead st]) []
/-- each step is good at its place -/
inductive StepsGood (sz : List Nat) (told : Sums) : List Step → Prop
  | nil : StepsGood sz told []
  | snoc {sts : List Step} {st : Step} : StepsGood sz told sts → StepGood sz told (stepVals sz.length told sts) st → StepsGood sz told (sts ++ [st])
theorem snoc_ind {α : Type} {p : List α → Prop} (nil : p []) (snoc : ∀ l x, p l → p (l ++ [x])) (l : List α) : p l := by
  have h : ∀ m : List α, p m.reverse := fun m => by
    induction m with
    | nil => exact nil
    | cons x r ih => rw [List.reverse_cons]; exact snoc _ _ ih
  have := h l.reverse
  rwa [List.reverse_reverse] at this
theorem stepVals_snoc (n : Nat) (told : Sums) (sts : List Step) (st : Step) : stepVals n told (sts ++ [st]) = stepVals n told sts ++ [stepVal n told (stepVals n told sts) st] := by
  unfold stepVals
  rw [List.foldl_append]
  rfl
theorem stepVals_len (n : Nat) (told : Sums) (sts : List Step) : (stepVals n told sts).length = sts.length := by
  induction sts using snoc_ind with
  | nil => rfl
  | snoc l x ih => rw [stepVals_snoc, List.length_append, List.length_append, ih]; rfl
theorem StepsGood.take {sz : List Nat} {told : Sums} {sts : List Step} (g : StepsGood sz told sts) (k : Nat) : StepsGood sz told (sts.take k) := by
  induction g with
  | nil => rw [List.take_nil]; exact .nil
  | @snoc l x g h ih =>
    by_cases hk : k ≤ l.length
    · rw [List.take_append_of_le_length hk]; exact ih
    · rw [List.take_of_length_le (by rw [List.length_append]; show l.length + 1 ≤ k; omega)]; exact .snoc g h
theorem stepVals_take (n : Nat) (told : Sums) (sts : List Step) (k : Nat) : stepVals n told (sts.take k) = (stepVals n told sts).take k := by
  induction sts using snoc_ind with
  | nil => rw [List.take_nil]; exact (List.take_nil).symm
  | snoc l x ih =>
    by_cases hk : k ≤ l.length
    · rw [List.take_append_of_le_length hk, ih, stepVals_snoc, List.take_append_of_le_length (by rw [stepVals_len]; exact hk)]
    · rw [List.take_of_length_le (by rw [List.length_append]; show l.length + 1 ≤ k; omega), List.take_of_length_le (by rw [stepVals_len, List.length_append]; show l.length + 1 ≤ k; omega)]
/-- any step of good ones is good at what is ahead of it -/
theorem StepsGood.get {sz : List Nat} {told : Sums} {sts : List Step} (g : StepsGood sz told sts) {k : Nat} {st : Step} (h : sts[k]? = some st) : StepGood sz told ((stepVals sz.length told sts).take k) st := by
  induction g with
  | nil => cases h
  | @snoc l x g hx ih =>
    have hk := (List.getElem?_eq_some_iff.mp h).1
    rw [List.length_append] at hk
    by_cases e : k < l.length
    · rw [List.getElem?_append_left e] at h
      rw [stepVals_snoc, List.take_append_of_le_length (by rw [stepVals_len]; omega)]
      exact ih h
    · have ek : k = l.length := by have : k < l.length + 1 := hk; omega
      subst ek
      rw [List.getElem?_append_right (Nat.le_refl _), Nat.sub_self] at h
      cases h
      rw [stepVals_snoc, List.take_append_of_le_length (by rw [stepVals_len]; omega), List.take_of_length_le (by rw [stepVals_len]; omega)]
      exact hx
theorem stepVals_get {n : Nat} {told : Sums} {sts : List Step} {k : Nat} {st : Step} (h : sts[k]? = some st) : (stepVals n told sts)[k]? = some (stepVal n told ((stepVals n told sts).take k) st) := by
  have hk := (List.getElem?_eq_some_iff.mp h).1
  have e : sts.take (k + 1) = sts.take k ++ [st] := by rw [List.take_add_one, h]; rfl
  have := stepVals_take n told sts (k + 1)
  rw [e, stepVals_snoc, stepVals_take, List.take_add_one] at this
  have h2 := List.append_cancel_left this
  cases hg : (stepVals n told sts)[k]? with
  | none => rw [hg] at h2; cases h2
  | some v => rw [hg] at h2; injection h2 with h3; rw [h3]
/-! tables and terms -/
theorem mem_tabT {n : Nat} {f : Tab} {t : Nat × List Int} : t ∈ tabT n f ↔ t.1 < n ∧ f t.1 = some t.2 := by
  unfold tabT
  rw [List.mem_filterMap]
  constructor
  · rintro ⟨c, h1, h2⟩
    obtain ⟨w, e, rfl⟩ := Option.map_eq_some_iff.mp h2
    exact ⟨List.mem_range.mp h1, e⟩
  · intro ⟨h1, h2⟩
    exact ⟨t.1, List.mem_range.mpr h1, by rw [h2]; rfl⟩
end Bh
namespace Bh
open PySem PySem.Spec PyProof.Rows L2
theorem lc_gen2 {J : It} {n : Nat} {G : Hp → Prop} {Y : Nat → Hp → V → Hp → Prop} (w : Walk J n G Y) {g : TG} {tt : TT} {te : TE} {vs : List Nat} {σ : L2.St} {H1 : Hp} {D : Addr} {Qd : Hp → Prop} (hn : n ≤ 1000000) (hD : H1 D = none)
    (hG : ∀ H, Same H1 H → G H) (P : Nat → List V → Hp → Prop) (mono : ∀ i acc H ys zs, H D = some (.lst zs) → P i acc H → P i acc (upd H D (.lst ys))) (h0 : ∀ H, P 0 [] H)
    (hs : ∀ i x H H' acc (C : V → Hp → Prop) (N : Hp → Prop), i < n → Same H1 H → H D = some (.lst acc) → P i acc H → Y i H x H' → (∀ y H4, Same H H4 → P (i + 1) (acc ++ [y]) H4 → C y H4) → (∀ H4, Same H H4 → P (i + 1) acc H4 → N H4) →
      g x (wipe σ vs) H' fun σ2 H2 => wipe σ2 vs = wipe σ vs ∧ tt σ2 H2 fun b H3 => if b = true then te σ2 H3 C else N H3)
    (hd : ∀ acc H, Same H1 H → H D = some (.lst acc) → acc.length ≤ n → P n acc H → Qd H) :
    ∃ W : Nat → Nat → Hp → Prop, (∃ m, W 0 m (upd H1 D (.lst []))) ∧ ∀ i m H, W i m H →
      (J.stop i H ∧ Qd H) ∨ (J.go i H ∧ ∃ Nx : Hp → Prop, (∀ H', Nx H' → ∃ m', m' < m ∧ W (i + 1) m' H') ∧ ∀ x H', J.yld i H x H' → g x (wipe σ vs) H' fun σ2 H2 => wipe σ2 vs = wipe σ vs ∧ tt σ2 H2 fun b H3 =>
        if b = true then te σ2 H3 fun y H4 => ∃ acc, H4 D = some (.lst acc) ∧ acc.length < sizeLine ∧ Nx (upd H4 D (.lst (acc ++ [y]))) else Nx H3) := by
  refine lc_it w (LcI H1 D P) (LcI.start hD (h0 _)) (fun i H _ p => hG H p.choose_spec.1) (fun i x H H' hi p y => ?_) (fun H p => ?_)
  · obtain ⟨acc, s, e, l, p⟩ := p
    exact hs i x H H' acc _ _ hi s e p y (fun y H4 s4 p4 => LcI.put hD (s.trans s4) (s4 _ _ e) l (by omega) (mono _ _ _ _ _ (s4 _ _ e) p4)) fun H4 s4 p4 => LcI.skip (s.trans s4) (s4 _ _ e) l p4
  · obtain ⟨acc, s, e, l, p⟩ := p
    exact hd acc H s e l p
theorem yesT {te : TE} {σ : L2.St} {H : Hp} {C : V → Hp → Prop} {N : Hp → Prop} (h : te σ H C) : tYes σ H fun b H3 => if b = true then te σ H3 C else N H3 := by
  unfold tYes
  show if true = true then te σ H C else N H
  rw [if_pos rfl]
  exact h
/-! ### lists that go together -/
def A2 {α β : Type} (R : α → β → Prop) (xs : List α) (ts : List β) : Prop := xs.length = ts.length ∧ ∀ (i : Nat) (x : α) (t : β), xs[i]? = some x → ts[i]? = some t → R x t
theorem A2.nil {α β : Type} {R : α → β → Prop} : A2 R [] [] := ⟨rfl, fun _ _ _ h => by cases h⟩
theorem A2.mono {α β : Type} {R R' : α → β → Prop} {xs : List α} {ts : List β} (h : A2 R xs ts) (m : ∀ x t, R x t → R' x t) : A2 R' xs ts := ⟨h.1, fun i x t a b => m x t (h.2 i x t a b)⟩
theorem A2.snoc {α β : Type} {R : α → β → Prop} {xs : List α} {ts : List β} {x : α} {t : β} (h : A2 R xs ts) (r : R x t) : A2 R (xs ++ [x]) (ts ++ [t]) := by
  refine ⟨by rw [List.length_append, List.length_append, h.1]; rfl, fun i y u a b => ?_⟩
  by_cases hi : i < xs.length
  · rw [List.getElem?_append_left hi] at a
    rw [List.getElem?_append_left (h.1 ▸ hi)] at b
    exact h.2 i y u a b
  · rw [List.getElem?_append_right (by omega)] at a
    rw [List.getElem?_append_right (by rw [← h.1]; omega), ← h.1] at b
    cases hk : i - xs.length with
    | zero => rw [hk] at a b; cases a; cases b; exact r
    | succ k => rw [hk] at a; cases a
theorem A2.getL {α β : Type} {R : α → β → Prop} {xs : List α} {ts : List β} (h : A2 R xs ts) {i : Nat} {x : α} (a : xs[i]? = some x) : ∃ t, ts[i]? = some t ∧ R x t := by
  have hi : i < ts.length := h.1 ▸ (List.getElem?_eq_some_iff.mp a).1
  exact ⟨ts[i], List.getElem?_eq_getElem hi, h.2 i x _ a (List.getElem?_eq_getElem hi)⟩
theorem A2.getR {α β : Type} {R : α → β → Prop} {xs : List α} {ts : List β} (h : A2 R xs ts) {i : Nat} {t : β} (a : ts[i]? = some t) : ∃ x, xs[i]? = some x ∧ R x t := by
  have hi : i < xs.length := h.1 ▸ (List.getElem?_eq_some_iff.mp a).1
  exact ⟨xs[i], List.getElem?_eq_getElem hi, h.2 i _ t (List.getElem?_eq_getElem hi) a⟩
theorem A2.pur {K : PySem.W.Frag} {H : Hp} {α : Type} {xs : List V} {ts : List α} {d : α → PyData} (h : A2 (fun x t => Pur K H x (d t)) xs ts) : PurAll K H xs (ts.map d) := by
  induction ts generalizing xs with
  | nil => have := List.eq_nil_of_length_eq_zero h.1; subst this; exact .nil
  | cons t r ih =>
    cases xs with
    | nil => have := h.1; simp at this
    | cons x s => exact .cons (h.2 0 x t rfl rfl) (ih ⟨Nat.succ.inj h.1, fun i y u a b => h.2 (i + 1) y u a b⟩)
theorem pur_A2 {K : PySem.W.Frag} {H : Hp} {α : Type} {xs : List V} {ts : List α} {d : α → PyData} (h : PurAll K H xs (ts.map d)) : A2 (fun x t => Pur K H x (d t)) xs ts := by
  refine ⟨by rw [h.len, List.length_map], fun i x t a b => ?_⟩
  obtain ⟨e, he, hp⟩ := h.getV a
  rw [List.getElem?_map, b] at he
  cases he
  exact hp
/-! ### terms with weights in a list or a tuple -/
def FTerm (K : PySem.W.Frag) (H : Hp) (v : V) (t : Nat × List Int) : Prop := ∃ a b k, v = .ref a ∧ SqT K H a [.int (t.1 : Nat), .ref b] ∧ Sq K k H b (t.2.map .int)
theorem FTerm.same {K : PySem.W.Frag} {H H' : Hp} {v : V} {t : Nat × List Int} (s : Same H H') (h : FTerm K H v t) : FTerm K H' v t := by
  obtain ⟨a, b, k, rfl, h1, h2⟩ := h
  exact ⟨a, b, k, rfl, (skp s).sqT h1, sq_same s h2⟩
theorem FTerm.of {K : PySem.W.Frag} {H : Hp} {v : V} {t : Nat × List Int} (p : Pur K H v (dTerm t)) : FTerm K H v t := by
  obtain ⟨a, w, rfl, h1, h2⟩ := pTerm p
  exact ⟨a, w, false, rfl, h1, h2⟩
/-- so, and the weights lie elsewhere than at D -/
def Off (D : Addr) (K : PySem.W.Frag) (k : Bool) (b : Addr) (ys : List V) : Prop := k = true → b ≠ D ∨ ∀ H, SqL K H b ys
theorem Off.of {D : Addr} {K : PySem.W.Frag} {k : Bool} {b : Addr} {ys : List V} {H : Hp} (hD : H D = none) (h : Sq K k H b ys) : Off D K k b ys := fun e => by
  subst e
  rcases h with (h | ⟨o, h⟩) | h
  · exact .inl fun z => by subst z; rw [hD] at h; cases h
  · exact .inl fun z => by subst z; rw [hD] at h; cases h
  · exact .inr fun _ => .inr h
def FTermD (D : Addr) (K : PySem.W.Frag) (H : Hp) (v : V) (t : Nat × List Int) : Prop := ∃ a b k, v = .ref a ∧ SqT K H a [.int (t.1 : Nat), .ref b] ∧ Sq K k H b (t.2.map .int) ∧ Off D K k b (t.2.map .int)
theorem FTermD.f {D : Addr} {K : PySem.W.Frag} {H : Hp} {v : V} {t : Nat × List Int} (h : FTermD D K H v t) : FTerm K H v t := by
  obtain ⟨a, b, k, rfl, h1, h2, _⟩ := h
  exact ⟨a, b, k, rfl, h1, h2⟩
theorem FTermD.same {D : Addr} {K : PySem.W.Frag} {H H' : Hp} {v : V} {t : Nat × List Int} (s : Same H H') (h : FTermD D K H v t) : FTermD D K H' v t := by
  obtain ⟨a, b, k, rfl, h1, h2, h3⟩ := h
  exact ⟨a, b, k, rfl, (skp s).sqT h1, sq_same s h2, h3⟩
theorem FTermD.upd {D : Addr} {K : PySem.W.Frag} {H : Hp} {v : V} {t : Nat × List Int} {ys zs : List V} (e : H D = some (.lst zs)) (h : FTermD D K H v t) : FTermD D K (upd H D (.lst ys)) v t := by
  obtain ⟨a, b, k, rfl, h1, h2, h3⟩ := h
  refine ⟨a, b, k, rfl, (kp_lst e).sqT h1, ?_, h3⟩
  cases k with
  | false => exact (kp_lst e).sqT h2
  | true =>
    rcases h3 rfl with h3 | h3
    · rcases h2 with (h2 | ⟨o, h2⟩) | h2
      · exact .inl (.inl ((upd_ne h3).trans h2))
      · exact .inl (.inr ⟨o, (upd_ne h3).trans h2⟩)
      · exact .inr h2
    · exact h3 _
/-- a sum as a value, its terms a plain tuple -/
def SumV (K : PySem.W.Frag) (H : Hp) (v : V) (s : PSum) : Prop := ∃ a t, v = .ref a ∧ SqT K H a [.ref t, .int s.2] ∧ PlT K H t ∧ Pur K H (.ref t) (dTerms s.1)
theorem SumV.kp {K : PySem.W.Frag} {H H' : Hp} {v : V} {s : PSum} (e : Kp H H') (h : SumV K H v s) : SumV K H' v s := by
  obtain ⟨a, t, rfl, h1, h2, h3⟩ := h
  exact ⟨a, t, rfl, e.sqT h1, h2.kp e, h3.kp e⟩
theorem SumV.pur {K : PySem.W.Frag} {H : Hp} {v : V} {s : PSum} (h : SumV K H v s) : Pur K H v (dSum s) := by
  obtain ⟨a, t, rfl, h1, h2, h3⟩ := h
  exact .tup h1 (.cons h3 (.cons (.int _) .nil))
/-! ### a dict of weights by choice -/
structure DF (K : PySem.W.Frag) (H : Hp) (kvs : List (Key × V)) (f : Tab) (n : Nat) : Prop where
  keys : ∃ ks : List Nat, kvs.map (·.1) = ks.map (fun (c : Nat) => Sum.inl (c : Int)) ∧ ks.Nodup ∧ ∀ c ∈ ks, c < n
  get : ∀ c : Nat, (valV kvs (.inl (c : Int)) = none ∧ f c = none) ∨ ∃ a k w, valV kvs (.inl (c : Int)) = some (.ref a) ∧ f c = some w ∧ Sq K k H a (w.map .int)
theorem DF.nil {K : PySem.W.Frag} {H : Hp} {n : Nat} : DF K H [] (fun _ => none) n := ⟨⟨[], rfl, .nil, fun _ h => nomatch h⟩, fun _ => .inl ⟨rfl, rfl⟩⟩
theorem DF.put {K : PySem.W.Frag} {H H' : Hp} {kvs : List (Key × V)} {f : Tab} {n c : Nat} {w : List Int} {a : Addr} {k : Bool} (h : DF K H kvs f n) (hc : c < n) (hs : Sq K k H' a (w.map .int)) (m : ∀ b j ys, Sq K j H b ys → Sq K j H' b ys) :
    DF K H' (putK kvs (.inl (c : Int)) (.ref a)) (f.put c w) n := by
  obtain ⟨⟨ks, e, nd, lt⟩, g⟩ := h
  refine ⟨?_, fun c' => ?_⟩
  · rcases hv : valV kvs (.inl (c : Int)) with _ | v
    · refine ⟨ks ++ [c], by rw [putK_new _ hv, List.map_append, List.map_append, e]; rfl, ?_, fun d hd => ?_⟩
      · have hni := valV_not hv
        rw [e] at hni
        rw [List.nodup_append]
        refine ⟨nd, by simp, fun x hx y hy z => hni ?_⟩
        rw [List.mem_singleton] at hy
        subst hy
        subst z
        exact List.mem_map.mpr ⟨x, hx, rfl⟩
      · rcases List.mem_append.mp hd with hd | hd
        · exact lt d hd
        · rw [List.mem_singleton] at hd; subst hd; exact hc
    · refine ⟨ks, ?_, nd, lt⟩
      rw [← e]
      unfold putK
      have : (kvs.any fun kv => decide (kv.1 = Sum.inl (c : Int))) = true := by rw [valV_any, hv]; rfl
      rw [if_pos this, List.map_map]
      refine List.map_congr_left fun kv _ => ?_
      show (if kv.1 = _ then (kv.1, V.ref a) else kv).1 = kv.1
      split <;> rfl
  · rw [valV_put]
    unfold Tab.put
    by_cases hcc : c' = c
    · subst hcc
      rw [if_pos rfl, if_pos rfl]
      exact .inr ⟨a, k, w, rfl, rfl, hs⟩
    · rw [if_neg (fun z => hcc (by injection z with z; exact Int.ofNat.inj z)), if_neg hcc]
      rcases g c' with g | ⟨b, j, u, g1, g2, g3⟩
      · exact .inl g
      · exact .inr ⟨b, j, u, g1, g2, m _ _ _ g3⟩
theorem DF.mono {K : PySem.W.Frag} {H H' : Hp} {kvs : List (Key × V)} {f : Tab} {n : Nat} (h : DF K H kvs f n) (m : ∀ b j ys, Sq K j H b ys → Sq K j H' b ys) : DF K H' kvs f n := by
  refine ⟨h.keys, fun c => ?_⟩
  rcases h.get c with g | ⟨b, j, u, g1, g2, g3⟩
  · exact .inl g
  · exact .inr ⟨b, j, u, g1, g2, m _ _ _ g3⟩
theorem sq_dK {K : PySem.W.Frag} {H : Hp} {d : Addr} {us vs : List (Key × V)} (hd : H d = some (.dK us)) (b : Addr) (j : Bool) (ys : List V) (h : Sq K j H b ys) : Sq K j (upd H d (.dK vs)) b ys := by
  cases j with
  | false => exact (kp_dK hd).sqT h
  | true =>
    rcases h with (h | ⟨o, h⟩) | h
    · exact .inl (.inl ((upd_ne (ne_of h hd (by simp))).trans h))
    · exact .inl (.inr ⟨o, (upd_ne (ne_of h hd (by simp))).trans h⟩)
    · exact .inr h
def keysT (n : Nat) (f : Tab) : List Nat := (List.range n).filter fun c => (f c).isSome
theorem tabT_eq (n : Nat) (f : Tab) : tabT n f = (keysT n f).map fun c => (c, (f c).getD []) := by
  unfold tabT keysT
  induction List.range n with
  | nil => rfl
  | cons c r ih =>
    rw [List.filterMap_cons, List.filter_cons]
    cases hf : f c with
    | none => simpa [hf] using ih
    | some w => simp [hf, ih]
theorem keysT_get {n : Nat} {f : Tab} {i c : Nat} (h : (keysT n f)[i]? = some c) : c < n ∧ ∃ w, f c = some w := by
  have hm := List.mem_of_getElem? h
  unfold keysT at hm
  rw [List.mem_filter] at hm
  exact ⟨List.mem_range.mp hm.1, Option.isSome_iff_exists.mp hm.2⟩
theorem DF.small {K : PySem.W.Frag} {H : Hp} {kvs : List (Key × V)} {f : Tab} {n : Nat} (h : DF K H kvs f n) : kvs.length ≤ n := by
  obtain ⟨ks, e, nd, lt⟩ := h.keys
  have l := congrArg List.length e
  rw [List.length_map, List.length_map] at l
  rw [l]
  have := List.Nodup.length_le_of_subset nd (l₂ := List.range n) fun c hc => List.mem_range.mpr (lt c hc)
  rwa [List.length_range] at this
theorem DF.sorted {K : PySem.W.Frag} {H : Hp} {kvs : List (Key × V)} {f : Tab} {n : Nat} (h : DF K H kvs f n) : ∃ ks : List Int, kvs.map (·.1) = ks.map Sum.inl ∧ ks.length ≤ n ∧ ∀ ys : List Int, ys.Perm ks → ys.Pairwise (· ≤ ·) → ys = (keysT n f).map fun (c : Nat) => (c : Int) := by
  have hsm := h.small
  obtain ⟨ks, e, nd, lt⟩ := h.keys
  refine ⟨ks.map fun (c : Nat) => (c : Int), by rw [e, List.map_map]; rfl, ?_, fun ys p s => ?_⟩
  · have l := congrArg List.length e
    rw [List.length_map, List.length_map] at l
    rw [List.length_map, ← l]
    exact hsm
  · have mem : ∀ c : Nat, c ∈ ks ↔ c ∈ keysT n f := fun c => by
      have hk : c ∈ ks ↔ (valV kvs (.inl (c : Int))).isSome = true := by
        rw [← valV_any, List.any_eq_true]
        constructor
        · intro hc
          have : (Sum.inl (c : Int) : Key) ∈ kvs.map (·.1) := by rw [e]; exact List.mem_map.mpr ⟨c, hc, rfl⟩
          obtain ⟨kv, h1, h2⟩ := List.mem_map.mp this
          exact ⟨kv, h1, decide_eq_true h2⟩
        · rintro ⟨kv, h1, h2⟩
          have : kv.1 ∈ kvs.map (·.1) := List.mem_map.mpr ⟨kv, h1, rfl⟩
          rw [e, of_decide_eq_true h2] at this
          obtain ⟨d, hd, z⟩ := List.mem_map.mp this
          injection z with z
          have := Int.ofNat.inj z
          subst this
          exact hd
      rw [hk]
      unfold keysT
      rw [List.mem_filter, List.mem_range]
      rcases h.get c with ⟨g1, g2⟩ | ⟨b, j, u, g1, g2, g3⟩
      · rw [g1, g2]; simp
      · rw [g1, g2]
        refine ⟨fun _ => ⟨lt c (hk.mpr (by rw [g1]; rfl)), rfl⟩, fun _ => rfl⟩
    have sk : (keysT n f).Pairwise (· < ·) := List.Pairwise.filter _ List.pairwise_lt_range
    have nk : (keysT n f).Nodup := sk.imp fun h => Nat.ne_of_lt h
    have pk : ks.Perm (keysT n f) := (List.perm_ext_iff_of_nodup nd nk).mpr mem
    refine List.Perm.eq_of_pairwise (fun _ _ _ _ a b => Int.le_antisymm a b) s ?_ (p.trans (pk.map _))
    rw [List.pairwise_map]
    exact sk.imp fun h => by omega
end Bh
namespace Bh
open PySem PySem.Spec PyProof.Rows L2
section
variable {P : Program} {w : World} {K : PySem.W.Frag} {mg : Str → Option Value} {base : Heap} {aN : Addr}
theorem SumOk.ne {sz : List Nat} {s : PSum} (h : SumOk sz s) {t : Nat × List Int} (ht : t ∈ s.1) : t.2 ≠ [] := fun e => by
  have := (h.2.1 t ht).2
  rw [e] at this
  exact this rfl
def sp_is_sum (K : PySem.W.Frag) : Sp := fun vs H Q _ => ∃ v u sz s, vs = [v, u] ∧ Pur K H v (dSizes sz) ∧ Pur K H u (dSum s) ∧ SumOk sz s ∧ s.1.length ≤ 1000 ∧ (∀ n ∈ sz, n ≤ 1000) ∧ ∀ H', Same H H' → Q (.bl true) H'
theorem sc_is_sum : FnScope ["sizes", "value", "_choice", "weights"] ["sizes", "value"] (defScope (topS 13)) := ⟨rfl, rfl, rfl, by decide +kernel, rfl, by decide +kernel, by decide +kernel⟩
theorem ok_is_sum (fr : Free mg) (gN : mg "NOTHING" = some (.ref aN)) (pN : ∀ H, SumV K H (.ref aN) ([], 0)) (D : DefAt K mg "is_sum" (topS 13)) (d_is_whole : OkD P w K mg base 1 "is_whole" ["value"] sp_is_whole) (d_is_terms : OkD P w K mg base 3 "is_terms" ["sizes", "value"] (sp_is_terms K)) :
    OkD P w K mg base 4 "is_sum" ["sizes", "value"] (sp_is_sum K) := by
  refine D.ok sc_is_sum (fun _ _ _ _ _ _ us hl => match us, hl with | [_, _], _ => rfl) (fun vs H Q E h => ?_) (fun f cdv A outer s H vs Q E hr h => ?_)
  · obtain ⟨v, u, sz, s, rfl, _⟩ := h; rfl
  · obtain ⟨v, u, sz, ps, rfl, hp, hu, ok, hl, hz, q⟩ := h
    obtain ⟨b, x, rfl, hb, hx⟩ := pSum hu
    obtain ⟨t, xs, rfl, ht, htl, hxs⟩ := pTerms hx
    refine ⟨_, (pss_cons (ps_if (PW.pt (pw_or (pt_not (pt_val (pe_callB (cr_isTupK (K := K)) (by rfl) fr.isinstance (by decide +kernel) (pa_cons (pv 1) (pa_cons (pe_bltn (v := .ty "tuple") (by rfl) fr.tuple (by decide +kernel) rfl) pa_nil))))) (pw_or (pt_cmpR op_ne (pe_callB (cr_lenK (K := K)) (by rfl) fr.len (by decide +kernel) (pa_cons (pv 1) pa_nil)) pe_int (nomark _)) (pw_or1 (pt_not (pt_val (pe_callD d_is_whole (hr.mono (by decide)) (by rfl) (pa_cons (pe_ix (ix_tupK (K := K)) (pv 1) pe_int (fun _ _ => rfl)) pa_nil)))))))) (pss_one (ps_ret pe_bl)) pss_nil)
 (pss_cons (ps_if (pt_not (pt_val (pe_callD d_is_terms (hr.mono (by decide)) (by rfl) (pa_cons (pv 0) (pa_cons (pe_ix (ix_tupK (K := K)) (pv 1) pe_int (fun _ _ => rfl)) pa_nil))))) (pss_one (ps_ret pe_bl)) pss_nil)
 (pss_cons (ps_if (pt_cmpR op_gt (pe_callB (cr_lenK (K := K)) (by rfl) fr.len (by decide +kernel) (pa_cons (pe_lc (own := [("_choice", 2), ("weights", 3)]) rfl sc_is_sum.nd (pi_seqK (K := K) (pe_ix (ix_tupK (K := K)) (pv 1) pe_int (fun _ _ => rfl))) (blkOk_by (by kernel_rfl)) (fun _ _ _ _ _ => (pg_tupK (K := K) (n := 2) (by rfl) (pgs_cons (pg_name (i := 2) sc_is_sum.nd rfl (by first | exact .inl rfl | exact .inr rfl)) (pgs_cons (pg_name (i := 3) sc_is_sum.nd rfl (by first | exact .inl rfl | exact .inr rfl)) pgs_nil)))) (fun _ _ _ _ _ => (pts_one (PW.pt (pw_or (pt_cmpR op_ne (pe_callB (cr_minK (K := K) rfl (hu_of hr)) (by rfl) fr.min (by decide +kernel) (pa_cons (pv 3) pa_nil)) pe_int (nomark _)) (pw_or1 (pt_cmpR op_eq (pe_callB (cr_maxK (K := K) rfl (hu_of hr)) (by rfl) fr.max (by decide +kernel) (pa_cons (pv 3) pa_nil)) pe_int (nomark _))))))) (fun _ _ _ _ _ => pe_int)) pa_nil)) pe_int (nomark _)) (pss_one (ps_ret pe_bl)) pss_nil)
 (pss_one (ps_ret (pe_or (pe_cmpR op_ge (pe_ix (ix_tupK (K := K)) (pv 1) pe_int (fun _ _ => rfl)) pe_int (nomark _)) (pe_one (pe_cmpR (op_eqK (K := K) hr.units) (pv 1) (pe_glob (v := .ref aN) (by rfl) gN rfl) (nomark _))))))))), ?_⟩
    refine ⟨_, rfl, b, _, rfl, hb, true, rfl, iteF ?_⟩
    refine ⟨_, rfl, b, false, _, rfl, hb, rfl, _, rfl, ?_⟩
    rw [show ([V.ref t, V.int ps.2].length : Int) = 2 from rfl, decide_eq_true rfl]
    refine iteF ?_
    refine ⟨_, rfl, b, _, _, _, rfl, rfl, hb, atI_nat (j := 1) rfl, _, rfl, true, rfl, iteF ?_⟩
    refine ⟨_, rfl, _, rfl, b, _, _, _, rfl, rfl, hb, atI_nat (j := 0) rfl, _, _, sz, ps.1, rfl, hp, hx, ok.1, hl, hz, fun H1 s1 => ⟨true, rfl, iteF ?_⟩⟩
    have hb1 := (skp s1).sqT hb
    have ht1 := (skp s1).sqT ht
    refine ⟨_, rfl, b, _, _, _, rfl, rfl, hb1, atI_nat (j := 0) rfl, t, false, rfl, ⟨_, ht1⟩, fun D hD => ?_⟩
    refine lc_gen walk_seq (by omega) hD (fun H' s => sq_same (k := false) s ht1) (fun i acc _ => acc = []) (fun _ _ _ _ _ p => p) (fun _ => rfl) (fun i x H2 H3 acc C N hi s p y cC cN => ?_) (fun acc H' s e l p => ?_)
    · obtain ⟨rfl, ex⟩ := y
      obtain ⟨t1, et, ht2⟩ := hxs i x ex
      obtain ⟨c, wt, rfl, qc, qw⟩ := pTerm ht2
      have kk := skp (s1.trans s)
      have hm := List.mem_of_getElem? et
      have o := ok.2.1 t1 hm
      refine ⟨c, _, rfl, kk.sqT qc, rfl, _, _, rfl, _, _, rfl, rfl, rfl, ?_⟩
      refine ⟨_, rfl, wt, false, t1.2, rfl, kk.sqT qw, ok.ne hm, rfl, _, rfl, ?_⟩
      rw [o.1, decide_eq_true rfl]
      refine iteF ⟨_, rfl, wt, false, t1.2, rfl, kk.sqT qw, ok.ne hm, rfl, _, rfl, ?_⟩
      rw [decide_eq_false (fun z => o.2 (V.int.inj z))]
      exact iteF (cN _ (Same.refl _) p)
    · subst p
      have hb2 := (skp (s1.trans s)).sqT hb
      refine ⟨D, true, [], rfl, .inl (.inl e), _, _, rfl, rfl, false, rfl, iteF ?_⟩
      refine ⟨_, rfl, b, _, _, _, rfl, rfl, hb2, atI_nat (j := 1) rfl, _, _, rfl, rfl, decide (1 ≤ ps.2), rfl, ?_⟩
      by_cases h1 : 1 ≤ ps.2
      · rw [decide_eq_true h1]
        exact q H' (s1.trans s)
      · rw [decide_eq_false h1]
        have e0 : ps = ([], 0) := ok.2.2.resolve_left h1
        refine iteF ⟨_, rfl, _, _, (hu.kp (skp (s1.trans s))).dp, (pN H').pur.dp, ?_⟩
        subst e0
        exact ⟨rfl, rfl, q H' (s1.trans s)⟩
/-! form_so -/
theorem formT_snoc (ts : Terms) (t : Nat × List Int) : formT (ts ++ [t]) = if lmin t.2 < lmax t.2 then formT ts ++ [(t.1, t.2.map (· - lmin t.2))] else formT ts := by
  unfold formT
  rw [List.filterMap_append]
  by_cases h : lmin t.2 < lmax t.2
  · simp [h]
  · simp [h]
theorem formB_snoc (ts : Terms) (t : Nat × List Int) (b : Int) : formB (ts ++ [t]) b = formB ts b - lmin t.2 := by
  unfold formB
  rw [List.map_append, List.sum_append]
  simp
  omega
def sp_form_so (K : PySem.W.Frag) : Sp := fun vs H Q _ => ∃ (v : Addr) (k : Bool) (xs : List V) (ts : Terms) (b : Int), vs = [.ref v, .int b] ∧ Sq K k H v xs ∧ A2 (FTerm K H) xs ts ∧ (∀ t ∈ ts, t.2 ≠ [] ∧ t.2.length ≤ 1000) ∧ ts.length ≤ 1000 ∧
  ∀ x H', Same H H' → SumV K H' x (form ts b) → Q x H'
theorem sc_form_so : FnScope ["terms", "bound", "found", "choice", "weights", "least", "weight"] ["terms", "bound"] (defScope (topS 15)) := ⟨rfl, rfl, rfl, by decide +kernel, rfl, by decide +kernel, by decide +kernel⟩
theorem take_snoc {α : Type} {ts : List α} {i : Nat} {t : α} (h : ts[i]? = some t) : ts.take (i + 1) = ts.take i ++ [t] := by rw [List.take_add_one, h]; rfl
theorem ok_form_so (fr : Free mg) (gN : mg "NOTHING" = some (.ref aN)) (pN : ∀ H, SumV K H (.ref aN) ([], 0)) (D : DefAt K mg "form_so" (topS 15)) : OkD P w K mg base 1 "form_so" ["terms", "bound"] (sp_form_so K) := by
  refine D.ok sc_form_so (fun _ _ _ _ _ _ us hl => match us, hl with | [_, _], _ => rfl) (fun vs H Q E h => ?_) (fun f cdv A outer s H vs Q E hr h => ?_)
  · obtain ⟨v, k, xs, ts, b, rfl, _⟩ := h; rfl
  · obtain ⟨v, k, xs, ts, b, rfl, hv, ha, hne, hl, q⟩ := h
    refine ⟨_, (pss_cons (ps_set (i := 2) sc_form_so.nd rfl (by first | exact .inl rfl | exact .inr rfl) (pe_lst pa_nil))
 (pss_cons (ps_for PassesOwn.never rfl (pi_seqK (K := K) (pv 0)) (pg_tupK (K := K) (n := 2) (by rfl) (pgs_cons (pg_name (i := 3) sc_form_so.nd rfl (by first | exact .inl rfl | exact .inr rfl)) (pgs_cons (pg_name (i := 4) sc_form_so.nd rfl (by first | exact .inl rfl | exact .inr rfl)) pgs_nil))) (pss_cons (ps_set (i := 5) sc_form_so.nd rfl (by first | exact .inl rfl | exact .inr rfl) (pe_callB (cr_minK (K := K) rfl (hu_of hr)) (by rfl) fr.min (by decide +kernel) (pa_cons (pv 4) pa_nil)))
 (pss_cons (ps_set (i := 1) sc_form_so.nd rfl (by first | exact .inl rfl | exact .inr rfl) (pe_op op_sub (pv 1) (pv 5)))
 (pss_one (ps_if (pt_cmpR op_gt (pe_callB (cr_maxK (K := K) rfl (hu_of hr)) (by rfl) fr.max (by decide +kernel) (pa_cons (pv 4) pa_nil)) (pv 5) (nomark _)) (pss_one (ps_expr (pe_bm PySem.F.plainAttrs_list PySem.F.slot_list_append PySem.F.type_list_append mt_append (pv 2) (pa_cons (pe_tupF (pa_cons (pv 3) (pa_cons (pe_callTy (cr_tupK (K := K)) (by rfl) fr.tuple (by decide +kernel) (pa_cons (pe_lc (own := [("weight", 6)]) rfl sc_form_so.nd (pi_seqK (K := K) (pv 4)) (blkOk_by (by kernel_rfl)) (fun _ _ _ _ _ => (pg_name (i := 6) sc_form_so.nd rfl (by first | exact .inl rfl | exact .inr rfl))) (fun _ _ _ _ _ => pts_nil) (fun _ _ _ _ _ => (pe_op op_sub (pv 6) (pv 5)))) pa_nil)) pa_nil))) pa_nil)))) pss_nil)))))
 (pss_one (ps_ret (pe_ifExp (pt_cmpR op_gt (pv 1) pe_int (nomark _)) (pe_tupF (pa_cons (pe_callTy (cr_tupK (K := K)) (by rfl) fr.tuple (by decide +kernel) (pa_cons (pv 2) pa_nil)) (pa_cons (pv 1) pa_nil))) (pe_glob (v := .ref aN) (by rfl) gN rfl)))))), ?_⟩
    refine ⟨Nat.zero_le _, fun F hF => ?_⟩
    refine ⟨_, rfl, v, k, rfl, ⟨xs, sq_same (same_new hF) hv⟩, ?_⟩
    refine for_it (walk_seq (xs := xs)) (fun i σ H' => ∃ y1 y2 y3 fs, σ = [some (.ref v), some (.int (formB (ts.take i) b)), some (.ref F), y1, y2, y3, none] ∧ Same H H' ∧ H' F = some (.lst fs) ∧ PurAll K H' fs ((formT (ts.take i)).map dTerm) ∧ fs.length ≤ i)
      ⟨none, none, none, [], by unfold formB; rw [List.take_zero, List.map_nil, List.sum_nil, Int.sub_zero]; rfl, same_new hF, upd_same, by rw [List.take_zero]; exact .nil, Nat.le_refl _⟩ (fun i σ H' _ p => ?_) (fun i x σ H1 H2 hi p y => ?_) (fun σ H' p => ?_)
    · obtain ⟨_, _, _, _, _, s1, _⟩ := p
      exact sq_same s1 hv
    · obtain ⟨y1, y2, y3, fs, rfl, s1, eF, hfs, hfl⟩ := p
      obtain ⟨rfl, ex⟩ := y
      obtain ⟨t, et, hpt⟩ := ha.getL ex
      obtain ⟨c, wt, kw, rfl, qc, qw⟩ := hpt.same s1
      have hm := hne t (List.mem_of_getElem? et)
      have hi' : i < ts.length := ha.1 ▸ hi
      refine ⟨c, _, rfl, qc, rfl, _, _, rfl, _, _, rfl, rfl, ?_⟩
      refine ⟨_, rfl, wt, kw, t.2, rfl, qw, hm.1, ?_⟩
      refine ⟨_, rfl, _, rfl, _, _, rfl, rfl, ?_⟩
      refine ⟨_, rfl, wt, kw, t.2, rfl, qw, hm.1, _, rfl, _, _, rfl, rfl, _, rfl, ?_⟩
      by_cases h1 : lmin t.2 < lmax t.2
      · rw [decide_eq_true h1]
        refine iteT ?_
        refine ⟨_, rfl, ?_, _, rfl, _, rfl, wt, kw, rfl, ⟨_, qw⟩, fun D hD => ?_⟩
        · exact .inl ⟨rfl, fs, .inl (.inl eF)⟩
        refine lc_gen walk_seq (by rw [List.length_map]; omega) hD (fun H' s => sq_same s qw) (fun j acc _ => acc = ((t.2.take j).map (· - lmin t.2)).map V.int) (fun _ _ _ _ _ p => p) (fun _ => by rw [List.take_zero]; rfl) (fun j x H2 H3 acc C N hj s p y cC cN => ?_) (fun acc H' s e l p => ?_)
        · obtain ⟨rfl, ex2⟩ := y
          rw [List.getElem?_map] at ex2
          obtain ⟨z, ez, rfl⟩ := Option.map_eq_some_iff.mp ex2
          refine ⟨rfl, yesT ⟨_, rfl, _, rfl, _, _, rfl, rfl, cC _ _ (Same.refl _) ?_⟩⟩
          rw [take_snoc ez, List.map_append, List.map_append, p]
          rfl
        · rw [List.length_map, List.take_length] at p
          subst p
          refine ⟨D, true, _, rfl, .inl (.inl e), fun _ l o hl' ho => ?_, fun z => nomatch z⟩
          refine ⟨by rw [sizeLine_eq]; show 2 ≤ _; omega, fun p o2 hp ho2 => ?_⟩
          obtain ⟨u1, u2, u3⟩ := frz_new (K := K) (xs := ((t.2.map (· - lmin t.2)).map V.int)) hl' ho
          obtain ⟨v1, v2, v3⟩ := frz_new (K := K) (xs := [V.int (t.1 : Nat), V.ref l]) hp ho2
          have ss := (s.trans u1).trans v1
          refine ⟨F, fs, _, rfl, rfl, ss _ _ eF, sz_lt' (by omega), ?_⟩
          refine ⟨some (.int (t.1 : Nat)), some (.ref wt), some (.int (lmin t.2)), fs ++ [.ref p], ?_, smut (s1.trans ss) hF, upd_same, ?_, ?_⟩
          · rw [take_snoc et, formB_snoc]
            rfl
          · rw [take_snoc et, formT_snoc, if_pos h1, List.map_append]
            have k3 := kp_lst (ys := fs ++ [.ref p]) (ss _ _ eF)
            refine PurAll.app ((hfs.kp (skp ss)).kp k3) (.cons (Pur.kp k3 (.tup v2 (.cons (.int _) (.cons ?_ .nil)))) .nil)
            exact .tup ((skp v1).sqT u2) (pur_ints _)
          · rw [List.length_append]
            exact Nat.add_le_add_right hfl 1
      · rw [decide_eq_false h1]
        refine iteF ⟨some (.int (t.1 : Nat)), some (.ref wt), some (.int (lmin t.2)), fs, ?_, s1, eF, ?_, by omega⟩
        · rw [take_snoc et, formB_snoc]
          rfl
        · rw [take_snoc et, formT_snoc, if_neg h1]
          exact hfs
    · obtain ⟨y1, y2, y3, fs, rfl, s1, eF, hfs, hfl⟩ := p
      rw [ha.1, List.take_length] at hfs
      rw [ha.1, List.take_length]
      refine ⟨_, rfl, _, _, rfl, rfl, _, rfl, ?_⟩
      by_cases h1 : 0 < formB ts b
      · rw [decide_eq_true h1]
        refine iteT ⟨_, rfl, F, true, fs, rfl, .inl (.inl eF), fun _ l o hl' ho => ?_, fun z => nomatch z⟩
        refine ⟨_, rfl, by rw [sizeLine_eq]; show 2 ≤ _; omega, fun p o2 hp ho2 => ?_⟩
        obtain ⟨u1, u2, u3⟩ := frz_new (K := K) (xs := fs) hl' ho
        obtain ⟨v1, v2, v3⟩ := frz_new (K := K) (xs := [V.ref l, V.int (formB ts b)]) hp ho2
        refine q _ _ ((s1.trans u1).trans v1) ?_
        unfold form
        rw [if_pos h1]
        exact ⟨p, l, rfl, v2, u3.kp (skp v1), .tup ((skp v1).sqT u2) ((hfs.kp (skp u1)).kp (skp v1))⟩
      · rw [decide_eq_false h1]
        refine iteF (q _ _ s1 ?_)
        unfold form
        rw [if_neg h1]
        exact pN _
end
end Bh
namespace Bh
/-! ### tables and sizes -/
def TermsIn (sz : List Nat) (ts : Terms) : Prop := ∀ t ∈ ts, sz[t.1]? = some t.2.length ∧ 2 ≤ t.2.length ∧ t.2.length ≤ 1000
def TabIn (sz : List Nat) (f : Tab) : Prop := ∀ c w, f c = some w → sz[c]? = some w.length ∧ 2 ≤ w.length ∧ w.length ≤ 1000
theorem TermsIn.lt {sz : List Nat} {ts : Terms} (h : TermsIn sz ts) {t : Nat × List Int} (ht : t ∈ ts) : t.1 < sz.length := (List.getElem?_eq_some_iff.mp (h t ht).1).1
theorem TabIn.none {sz : List Nat} : TabIn sz fun _ => none := fun _ _ h => by cases h
theorem TabIn.put {sz : List Nat} {f : Tab} {c : Nat} {w : List Int} (h : TabIn sz f) (hw : sz[c]? = some w.length ∧ 2 ≤ w.length ∧ w.length ≤ 1000) : TabIn sz (f.put c w) := fun d u e => by
  unfold Tab.put at e
  by_cases hd : d = c
  · subst hd
    rw [if_pos rfl] at e
    cases e
    exact hw
  · rw [if_neg hd] at e
    exact h d u e
theorem getD_len {sz : List Nat} {f : Tab} (h : TabIn sz f) {c n : Nat} (hn : sz[c]? = some n) : ((f c).getD (zeros n)).length = n := by
  cases hf : f c with
  | none => exact List.length_replicate
  | some w =>
    have := (h c w hf).1
    rw [hn] at this
    injection this with this
    exact this.symm
theorem addW_len (m : Int) (a b : List Int) (h : a.length = b.length) : (addW m a b).length = b.length := by
  unfold addW
  rw [List.length_zipWith, h, Nat.min_self]
theorem TabIn.one {sz : List Nat} {f : Tab} {m : Int} {t : Nat × List Int} (h : TabIn sz f) (ht : sz[t.1]? = some t.2.length ∧ 2 ≤ t.2.length ∧ t.2.length ≤ 1000) : TabIn sz (addOne m f t) := by
  have := addW_len m _ t.2 (getD_len h ht.1)
  exact h.put (by rw [this]; exact ht)
theorem TabIn.foldOne {sz : List Nat} {m : Int} : ∀ {ts : Terms} {f : Tab}, TabIn sz f → TermsIn sz ts → TabIn sz (ts.foldl (addOne m) f)
  | [], _, h, _ => h
  | t :: r, _, h, ht => TabIn.foldOne (ts := r) (h.one (ht t (List.mem_cons_self ..))) fun u hu => ht u (List.mem_cons_of_mem _ hu)
theorem TabIn.foldAll {sz : List Nat} : ∀ {ps : List (PSum × Int)} {f : Tab}, TabIn sz f → (∀ p ∈ ps, TermsIn sz p.1.1) → TabIn sz (ps.foldl addSum f)
  | [], _, h, _ => h
  | p :: r, _, h, hp => TabIn.foldAll (ps := r) (TabIn.foldOne h (hp p (List.mem_cons_self ..))) fun u hu => hp u (List.mem_cons_of_mem _ hu)
theorem TabIn.foldPut {sz : List Nat} : ∀ {ts : Terms} {f : Tab}, TabIn sz f → TermsIn sz ts → TabIn sz (ts.foldl (fun f t => f.put t.1 t.2) f)
  | [], _, h, _ => h
  | t :: r, _, h, ht => TabIn.foldPut (ts := r) (h.put (ht t (List.mem_cons_self ..))) fun u hu => ht u (List.mem_cons_of_mem _ hu)
theorem TabIn.terms {sz : List Nat} {f : Tab} (h : TabIn sz f) {n : Nat} : ∀ t ∈ tabT n f, t.2 ≠ [] ∧ t.2.length ≤ 1000 := fun t ht => by
  have := h t.1 t.2 (mem_tabT.mp ht).2
  exact ⟨fun e => by rw [e] at this; exact absurd this.2.1 (by decide), this.2.2⟩
theorem tabT_len (n : Nat) (f : Tab) : (tabT n f).length ≤ n := by
  unfold tabT
  have := List.length_filterMap_le (fun c => (f c).map fun w => (c, w)) (List.range n)
  rwa [List.length_range] at this
theorem addAll_snoc (ps : List (PSum × Int)) (p : PSum × Int) : addAll (ps ++ [p]) = addSum (addAll ps) p := by
  unfold addAll
  rw [List.foldl_append]
  rfl
theorem addB_snoc (ps : List (PSum × Int)) (p : PSum × Int) : addB (ps ++ [p]) = addB ps + p.2 * p.1.2 := by
  unfold addB
  rw [List.map_append, List.sum_append]
  simp
theorem foldl_snoc {α β : Type} (f : β → α → β) (b : β) (l : List α) (x : α) : (l ++ [x]).foldl f b = f (l.foldl f b) x := by rw [List.foldl_append]; rfl
end Bh
namespace Bh
open PySem PySem.Spec PyProof.Rows L2
section
variable {P : Program} {w : World} {K : PySem.W.Frag} {mg : Str → Option Value} {base : Heap}
def PairV (K : PySem.W.Frag) (H : Hp) (v : V) (p : PSum × Int) : Prop := ∃ a x, v = .ref a ∧ SqT K H a [x, .int p.2] ∧ Pur K H x (dSum p.1)
theorem PairV.kp {H H' : Hp} {v : V} {p : PSum × Int} (e : Kp H H') (h : PairV K H v p) : PairV K H' v p := by
  obtain ⟨a, x, rfl, h1, h2⟩ := h
  exact ⟨a, x, rfl, e.sqT h1, h2.kp e⟩
/-- the terms of a table, as pairs of a choice and its weights -/
theorem keys_pairs {n : Nat} {f : Tab} {i c : Nat} {acc : List V} {y : V} {H : Hp} {w : List Int} (hc : (keysT n f)[i]? = some c) (hf : f c = some w) (h : A2 (FTerm K H) acc ((tabT n f).take i)) (hy : FTerm K H y (c, w)) : A2 (FTerm K H) (acc ++ [y]) ((tabT n f).take (i + 1)) := by
  have : (tabT n f)[i]? = some (c, w) := by rw [tabT_eq, List.getElem?_map, hc]; simp [hf]
  rw [take_snoc this]
  exact h.snoc hy
theorem upd_sq {H : Hp} {d a : Addr} {o : HO} {k : Bool} {ys : List V} (hd : k = true → a ≠ d) (ht : ∀ xs, H d ≠ some (.tup xs)) (hf : ∀ o u, H d ≠ some (.frz o u)) (h : Sq K k H a ys) : Sq K k (upd H d o) a ys := by
  have t1 : ∀ xs, H a = some (.tup xs) → (upd H d o) a = some (.tup xs) := fun xs e => (upd_ne (by rintro rfl; exact ht xs e)).trans e
  have t2 : ∀ ob u, H a = some (.frz ob u) → (upd H d o) a = some (.frz ob u) := fun ob u e => (upd_ne (by rintro rfl; exact hf ob u e)).trans e
  cases k with
  | false =>
    rcases h with (h | ⟨ob, h⟩) | h
    · exact .inl (.inl (t1 _ h))
    · exact .inl (.inr ⟨ob, t2 _ _ h⟩)
    · exact .inr h
  | true =>
    rcases h with (h | ⟨ob, h⟩) | h
    · exact .inl (.inl ((upd_ne (hd rfl)).trans h))
    · exact .inl (.inr ⟨ob, t2 _ _ h⟩)
    · exact .inr h
def sp_added_so (K : PySem.W.Frag) : Sp := fun vs H Q _ => ∃ (v : Addr) (k : Bool) (xs : List V) (ps : List (PSum × Int)) (sz : List Nat), vs = [.ref v] ∧ Sq K k H v xs ∧ A2 (PairV K H) xs ps ∧ (∀ p ∈ ps, TermsIn sz p.1.1) ∧ (∀ p ∈ ps, 1 ≤ p.2 ∧ p.2 < 2 ^ 60) ∧ sz.length ≤ 60 ∧
  ∀ x H', Same H H' → SumV K H' x (added sz.length ps) → Q x H'
theorem sc_added_so : FnScope ["pairs", "found", "bound", "terms", "low", "times", "choice", "weights", "has", "near", "far"] ["pairs"] (defScope (topS 17)) := ⟨rfl, rfl, rfl, by decide +kernel, rfl, by decide +kernel, by decide +kernel⟩
theorem ok_added_so (fr : Free mg) (D : DefAt K mg "added_so" (topS 17)) (d_form_so : OkD P w K mg base 1 "form_so" ["terms", "bound"] (sp_form_so K)) : OkD P w K mg base 2 "added_so" ["pairs"] (sp_added_so K) := by
  refine D.ok sc_added_so (fun _ _ _ _ _ _ us hl => match us, hl with | [_], _ => rfl) (fun vs H Q E h => ?_) (fun f cdv A outer s H vs Q E hr h => ?_)
  · obtain ⟨v, k, xs, ps, sz, rfl, _⟩ := h; rfl
  · obtain ⟨v, k, xs, ps, sz, rfl, hv, ha, hin, htm, hn, q⟩ := h
    refine ⟨_, (pss_cons (ps_asg (pe_tupF (pa_cons pe_dnewK (pa_cons pe_int pa_nil))) (pg_tupK (K := K) (n := 2) (by rfl) (pgs_cons (pg_name (i := 1) sc_added_so.nd rfl (by first | exact .inl rfl | exact .inr rfl)) (pgs_cons (pg_name (i := 2) sc_added_so.nd rfl (by first | exact .inl rfl | exact .inr rfl)) pgs_nil))))
 (pss_cons (ps_for PassesOwn.never rfl (pi_seqK (K := K) (pv 0)) (pg_tupK (K := K) (n := 2) (by rfl) (pgs_cons (pg_tupK (K := K) (n := 2) (by rfl) (pgs_cons (pg_name (i := 3) sc_added_so.nd rfl (by first | exact .inl rfl | exact .inr rfl)) (pgs_cons (pg_name (i := 4) sc_added_so.nd rfl (by first | exact .inl rfl | exact .inr rfl)) pgs_nil))) (pgs_cons (pg_name (i := 5) sc_added_so.nd rfl (by first | exact .inl rfl | exact .inr rfl)) pgs_nil))) (pss_cons (ps_set (i := 2) sc_added_so.nd rfl (by first | exact .inl rfl | exact .inr rfl) (pe_op op_add (pv 2) (pe_op op_mul (pv 5) (pv 4))))
 (pss_one (ps_for PassesOwn.never rfl (pi_seqK (K := K) (pv 3)) (pg_tupK (K := K) (n := 2) (by rfl) (pgs_cons (pg_name (i := 6) sc_added_so.nd rfl (by first | exact .inl rfl | exact .inr rfl)) (pgs_cons (pg_name (i := 7) sc_added_so.nd rfl (by first | exact .inl rfl | exact .inr rfl)) pgs_nil))) (pss_cons (ps_set (i := 8) sc_added_so.nd rfl (by first | exact .inl rfl | exact .inr rfl) (pe_dget2 (hu_of hr) (pv 1) (pv 6) (pe_op (op_mulG (K := K)) (pe_tupF (pa_cons pe_int pa_nil)) (pe_callB (cr_lenK (K := K)) (by rfl) fr.len (by decide +kernel) (pa_cons (pv 7) pa_nil))) ⟨by rfl, by rfl, by rfl, by rfl⟩))
 (pss_one (ps_dput (hu_of hr) (pv 1) (pv 6) (pe_lc (own := [("near", 9), ("far", 10)]) rfl sc_added_so.nd (pi_zipK (K := K) (by rfl) fr.zip (pa_cons (pv 8) (pa_cons (pv 7) pa_nil))) (blkOk_by (by kernel_rfl)) (fun _ _ _ _ _ => (pg_tupK (K := K) (n := 2) (by rfl) (pgs_cons (pg_name (i := 9) sc_added_so.nd rfl (by first | exact .inl rfl | exact .inr rfl)) (pgs_cons (pg_name (i := 10) sc_added_so.nd rfl (by first | exact .inl rfl | exact .inr rfl)) pgs_nil)))) (fun _ _ _ _ _ => pts_nil) (fun _ _ _ _ _ => (pe_op op_add (pv 9) (pe_op op_mul (pv 5) (pv 10))))) rfl)))))))
 (pss_one (ps_ret (pe_callD d_form_so (hr.mono (by decide)) (by rfl) (pa_cons (pe_lc (own := [("choice", 6)]) rfl sc_added_so.nd (pi_seqK (K := K) (pe_callB (call_sortedDI rfl) (by rfl) fr.sorted (by decide +kernel) (pa_cons (pv 1) pa_nil))) (blkOk_by (by kernel_rfl)) (fun _ _ _ _ _ => (pg_name (i := 6) sc_added_so.nd rfl (by first | exact .inl rfl | exact .inr rfl))) (fun _ _ _ _ _ => pts_nil) (fun _ _ _ _ _ => (pe_tupF (pa_cons (pv 6) (pa_cons (pe_dget (hu_of hr) (pv 1) (pv 6) (fun _ _ => rfl)) pa_nil))))) (pa_cons (pv 2) pa_nil))))))), ?_⟩
    intro F hF
    refine ⟨by rw [sizeLine_eq]; show 2 ≤ _; omega, fun p0 o0 hp0 ho0 => ?_⟩
    obtain ⟨w1, w2, w3⟩ := frz_new (K := K) (xs := [V.ref F, V.int 0]) hp0 ho0
    have s0 := (same_new (o := .dK []) hF).trans w1
    have eF0 := w1 _ _ (upd_same (H := H) (a := F) (o := .dK []))
    refine ⟨p0, _, rfl, w2, rfl, _, _, rfl, _, _, rfl, rfl, ?_⟩
    refine ⟨_, rfl, v, k, rfl, ⟨xs, sq_same s0 hv⟩, ?_⟩
    refine for_it (walk_seq (xs := xs)) (fun i σ H' => ∃ y3 y4 y5 y6 y7 y8 kvs, σ = [some (.ref v), some (.ref F), some (.int (addB (ps.take i))), y3, y4, y5, y6, y7, y8, none, none] ∧ Same H H' ∧ H' F = some (.dK kvs) ∧ DF K H' kvs (addAll (ps.take i)) sz.length)
      ⟨none, none, none, none, none, none, [], by rw [List.take_zero]; rfl, s0, eF0, DF.nil⟩ (fun i σ H' _ p => ?_) (fun i x σ H1 H2 hi p y => ?_) (fun σ H' p => ?_)
    · obtain ⟨_, _, _, _, _, _, _, _, s1, _⟩ := p
      exact sq_same s1 hv
    · obtain ⟨y3, y4, y5, y6, y7, y8, kvs, rfl, s1, eF, df⟩ := p
      obtain ⟨rfl, ex⟩ := y
      obtain ⟨pr, ep, hpr⟩ := ha.getL ex
      obtain ⟨c, x1, rfl, qc, hx1⟩ := hpr.kp (skp s1)
      obtain ⟨b, tt, rfl, hb, htt⟩ := pSum hx1
      obtain ⟨t, us, rfl, ht, hul, hus⟩ := pTerms htt
      have hm := List.mem_of_getElem? ep
      have ht2 := hin pr hm
      have hti := TabIn.foldAll (TabIn.none (sz := sz)) (fun p hp => hin p (List.mem_of_mem_take hp)) (ps := ps.take i)
      refine ⟨c, _, rfl, qc, rfl, _, _, rfl, b, _, rfl, hb, rfl, _, _, rfl, _, _, rfl, rfl, _, _, rfl, rfl, ?_⟩
      refine ⟨_, rfl, _, rfl, _, rfl, _, _, rfl, rfl, .inl ⟨by have := htm pr hm; omega, by have := htm pr hm; omega⟩, _, _, rfl, rfl, ?_⟩
      refine ⟨_, rfl, t, false, rfl, ⟨us, ht⟩, ?_⟩
      refine for_it (walk_seq (xs := us)) (fun j σ H' => ∃ y6 y7 y8 kvs, σ = [some (.ref v), some (.ref F), some (.int (addB (ps.take i) + pr.2 * pr.1.2)), some (.ref t), some (.int pr.1.2), some (.int pr.2), y6, y7, y8, none, none] ∧ Same H H' ∧ H' F = some (.dK kvs) ∧ DF K H' kvs ((pr.1.1.take j).foldl (addOne pr.2) (addAll (ps.take i))) sz.length ∧ Kp H2 H')
        ⟨y6, y7, y8, kvs, rfl, s1, eF, df, Kp.refl _⟩ (fun j σ H' _ p => ?_) (fun j x σ H3 H4 hj p y => ?_) (fun σ H' p => ?_)
      · obtain ⟨_, _, _, _, _, _, _, _, kk⟩ := p
        exact kk.sqT ht
      · obtain ⟨y6, y7, y8, kvs, rfl, s3, eF, df, kk⟩ := p
        obtain ⟨rfl, ex⟩ := y
        obtain ⟨tm, et, hpt⟩ := hus j x ex
        obtain ⟨c2, wt, rfl, qc2, qw⟩ := pTerm hpt
        have hin2 := ht2 tm (List.mem_of_getElem? et)
        have hti2 : TabIn sz ((pr.1.1.take j).foldl (addOne pr.2) (addAll (ps.take i))) := TabIn.foldOne hti fun u hu => ht2 u (List.mem_of_mem_take hu)
        refine ⟨c2, _, rfl, kk.sqT qc2, rfl, _, _, rfl, _, _, rfl, rfl, ?_⟩
        refine ⟨_, rfl, F, rfl, .inl ⟨kvs, .inl eF⟩, _, rfl, ?_⟩
        refine ⟨by rw [sizeLine_eq]; show 1 ≤ _; omega, fun p1 o1 hp1 ho1 => ?_⟩
        obtain ⟨u1, u2, u3⟩ := frz_new (K := K) (xs := [V.int 0]) hp1 ho1
        refine ⟨_, rfl, wt, false, _, rfl, ((kk.trans (skp u1)).sqT qw : SqT K _ wt _), p1, .int 0, _, rfl, rfl, u2, by rw [List.length_map]; omega, by rw [List.length_map]; omega, fun p2 H5 s5 hq5 => ?_⟩
        refine ⟨_, DGet.k (k := .inl ((tm.1 : Nat) : Int)) ((u1.trans s5) _ _ eF), ?_⟩
        have s15 := u1.trans s5
        have hhas : ∃ a k, (valV kvs (.inl ((tm.1 : Nat) : Int))).getD (V.ref p2) = .ref a ∧ Sq K k H5 a (((((pr.1.1.take j).foldl (addOne pr.2) (addAll (ps.take i))) tm.1).getD (zeros tm.2.length)).map V.int) := by
          rcases df.get tm.1 with ⟨g1, g2⟩ | ⟨b2, j2, u, g1, g2, g3⟩
          · refine ⟨p2, false, by rw [g1]; rfl, ?_⟩
            rw [g2]
            show SqT K H5 p2 ((zeros tm.2.length).map V.int)
            unfold zeros
            rw [List.map_replicate]
            rw [List.length_map] at hq5
            exact hq5
          · refine ⟨b2, j2, by rw [g1]; rfl, ?_⟩
            rw [g2]
            exact sq_same s15 g3
        obtain ⟨ah, kh, eh, qh⟩ := hhas
        rw [eh]
        have qw5 := ((kk.trans (skp s15)).sqT qw : SqT K H5 wt _)
        have hlen := getD_len hti2 hin2.1
        refine ⟨_, rfl, _, rfl, ah, wt, kh, false, _, _, rfl, qh, qw5, fun D hD => ?_⟩
        refine lc_gen (walk_zipB rfl) (by rw [List.length_map, List.length_map]; omega) hD (fun H' s => ⟨sq_same s qh, sq_same (k := false) s qw5⟩) (fun i' acc _ => acc = ((addW pr.2 ((((pr.1.1.take j).foldl (addOne pr.2) (addAll (ps.take i))) tm.1).getD (zeros tm.2.length)) tm.2).take i').map V.int) (fun _ _ _ _ _ p => p) (fun _ => rfl) (fun m x H6 H7 acc C N hm6 s6 p y cC cN => ?_) (fun acc H6 s6 e l p => ?_)
        · obtain ⟨T, x1, x2, rfl, hT, s7, eT, e1, e2⟩ := same_pair y
          rw [List.getElem?_map] at e1 e2
          obtain ⟨z1, f1, rfl⟩ := Option.map_eq_some_iff.mp e1
          obtain ⟨z2, f2, rfl⟩ := Option.map_eq_some_iff.mp e2
          refine ⟨T, _, rfl, .inl (.inl eT), rfl, _, _, rfl, _, _, rfl, rfl, rfl, yesT ?_⟩
          refine ⟨_, rfl, _, rfl, _, rfl, _, _, rfl, rfl, .inl ⟨by have := htm pr hm; omega, by have := htm pr hm; omega⟩, _, _, rfl, rfl, cC _ _ s7 ?_⟩
          have : (addW pr.2 ((((pr.1.1.take j).foldl (addOne pr.2) (addAll (ps.take i))) tm.1).getD (zeros tm.2.length)) tm.2)[m]? = some (z1 + pr.2 * z2) := by
            unfold addW
            rw [List.getElem?_zipWith, f1, f2]
          rw [take_snoc this, List.map_append, p]
          rfl
        · have e2 : min (((((pr.1.1.take j).foldl (addOne pr.2) (addAll (ps.take i))) tm.1).getD (zeros tm.2.length)).map V.int).length (tm.2.map V.int).length = (addW pr.2 ((((pr.1.1.take j).foldl (addOne pr.2) (addAll (ps.take i))) tm.1).getD (zeros tm.2.length)) tm.2).length := by
            rw [addW_len _ _ _ hlen, List.length_map, List.length_map, hlen, Nat.min_self]
          rw [e2, List.take_length] at p
          subst p
          have s8 := s15.trans s6
          have eF6 := s8 _ _ eF
          refine ⟨_, rfl, _, rfl, F, _, rfl, DPut.k (k := .inl ((tm.1 : Nat) : Int)) eF6 (by have := df.small; rw [sizeLine_eq]; omega), ?_⟩
          refine ⟨some (.int (tm.1 : Nat)), some (.ref wt), some (.ref ah), _, rfl, smut (s3.trans s8) hF, upd_same, ?_, (kk.trans (skp s8)).trans (kp_dK eF6)⟩
          rw [take_snoc et, foldl_snoc]
          exact (df.mono fun b j ys hs => sq_same s8 hs).put (k := true) (TermsIn.lt ht2 (List.mem_of_getElem? et)) (.inl (.inl ((upd_ne (ne_of e eF6 (by simp))).trans e))) fun b j ys hs => sq_dK eF6 b j ys hs
      · obtain ⟨y6, y7, y8, kvs, rfl, s3, eF, df, kk⟩ := p
        refine ⟨some (.ref t), some (.int pr.1.2), some (.int pr.2), y6, y7, y8, kvs, ?_, s3, eF, ?_⟩
        · rw [take_snoc ep, addB_snoc]
        · rw [take_snoc ep, addAll_snoc]
          rw [hul, List.take_length] at df
          exact df
    · obtain ⟨y3, y4, y5, y6, y7, y8, kvs, rfl, s1, eF, df⟩ := p
      rw [ha.1, List.take_length] at df ⊢
      have hti := TabIn.foldAll (TabIn.none (sz := sz)) hin
      obtain ⟨ks, hks, hkl, hys⟩ := df.sorted
      refine ⟨_, rfl, F, kvs, ks, rfl, .inl eF, hks, by omega, fun ys p2 hp2 hs2 hn2 => ?_⟩
      have ey := hys ys hp2 hs2
      subst ey
      have s2 := same_new (o := .lst (((keysT sz.length (addAll ps)).map fun (c : Nat) => (c : Int)).map V.int)) hn2
      have eL : SqL K (upd H' p2 (.lst (((keysT sz.length (addAll ps)).map fun (c : Nat) => (c : Int)).map V.int))) p2 _ := .inl (.inl upd_same)
      have hkl2 : (keysT sz.length (addAll ps)).length ≤ 60 := Nat.le_trans (Nat.le_trans (List.length_filter_le _ _) (by rw [List.length_range]; exact Nat.le_refl _)) hn
      refine ⟨p2, true, rfl, ⟨_, eL⟩, fun D hD => ?_⟩
      refine lc_gen2 (walk_seq (k := true)) (by rw [List.length_map, List.length_map]; omega) hD (fun H3 s => sq_same (k := true) s eL) (fun i acc H3 => A2 (FTermD D K H3) acc ((tabT sz.length (addAll ps)).take i)) (fun _ acc H3 ys zs e p => p.mono fun x t h => h.upd e) (fun _ => A2.nil) (fun i x H3 H4 acc C N hi s3 eD p y cC cN => ?_) (fun acc H3 s3 e l p => ?_)
      · obtain ⟨rfl, ex⟩ := y
        rw [List.getElem?_map, List.getElem?_map] at ex
        obtain ⟨z, ez, rfl⟩ := Option.map_eq_some_iff.mp ex
        obtain ⟨c, ec, rfl⟩ := Option.map_eq_some_iff.mp ez
        obtain ⟨hc, wl, hw⟩ := keysT_get ec
        rcases df.get c with ⟨g1, g2⟩ | ⟨b2, j2, u, g1, g2, g3⟩
        · rw [hw] at g2; cases g2
        rw [hw] at g2
        cases g2
        refine ⟨rfl, yesT ⟨_, rfl, _, rfl, _, rfl, F, .ref b2, rfl, ?_, by rw [sizeLine_eq]; show 2 ≤ _; omega, fun p5 o5 hp5 ho5 => ?_⟩⟩
        · exact g1 ▸ DGet.k (k := .inl ((c : Nat) : Int)) ((s2.trans s3) _ _ eF)
        obtain ⟨u1, u2, u3⟩ := frz_new (K := K) (xs := [V.int (c : Nat), V.ref b2]) hp5 ho5
        refine cC _ _ u1 ?_
        have : (tabT sz.length (addAll ps))[i]? = some (c, wl) := by rw [tabT_eq, List.getElem?_map, ec]; simp [hw]
        rw [take_snoc this]
        refine (p.mono fun x t h => h.same u1).snoc ⟨p5, b2, j2, rfl, u2, sq_same ((s2.trans s3).trans u1) g3, Off.of hD (sq_same s2 g3)⟩
      · have ek : (((keysT sz.length (addAll ps)).map fun (c : Nat) => (c : Int)).map V.int).length = (tabT sz.length (addAll ps)).length := by rw [tabT_eq, List.length_map, List.length_map, List.length_map]
        rw [ek, List.take_length] at p
        refine ⟨_, rfl, D, true, acc, _, _, rfl, .inl (.inl e), p.mono fun x t h => h.f, hti.terms, Nat.le_trans (tabT_len _ _) (by omega), fun x H5 s5 hx => q x H5 (((s1.trans s2).trans s3).trans s5) hx⟩
/-! the smaller ones -/
def sp_up_so : Sp := fun vs H Q _ => ∃ a d : Int, vs = [.int a, .int d] ∧ 1 ≤ d ∧ d < 1073741824 ∧ Q (.int (upI a d)) H
theorem sc_up_so : FnScope ["number", "by"] ["number", "by"] (defScope (topS 18)) := ⟨rfl, rfl, rfl, by decide +kernel, rfl, by decide +kernel, by decide +kernel⟩
theorem ok_up_so (fr : Free mg) (D : DefAt K mg "up_so" (topS 18)) : OkD P w K mg base 1 "up_so" ["number", "by"] sp_up_so := by
  refine D.ok sc_up_so (fun _ _ _ _ _ _ us hl => match us, hl with | [_, _], _ => rfl) (fun vs H Q E h => ?_) (fun f cdv A outer s H vs Q E hr h => ?_)
  · obtain ⟨a, d, rfl, _⟩ := h; rfl
  · obtain ⟨a, d, rfl, h1, h2, q⟩ := h
    refine ⟨_, (pss_one (ps_ret (pe_un un_neg (pe_op op_fdivN (pe_un un_neg (pv 0)) (pv 1))))), ?_⟩
    exact ⟨_, rfl, _, rfl, _, rfl, _, _, rfl, rfl, ⟨by omega, by omega⟩, _, rfl, q⟩
/-- a list of weights made from another -/
def sp_divided_so (K : PySem.W.Frag) : Sp := fun vs H Q _ => ∃ v s d, vs = [v, .int d] ∧ Pur K H v (dSum s) ∧ (∀ t ∈ s.1, t.2 ≠ [] ∧ t.2.length ≤ 1000) ∧ s.1.length ≤ 1000 ∧ 1 ≤ d ∧ d < 1073741824 ∧ ∀ x H', Same H H' → SumV K H' x (divided s d) → Q x H'
theorem sc_divided_so : FnScope ["one", "by", "terms", "weight", "choice", "weights"] ["one", "by"] (defScope (topS 19)) := ⟨rfl, rfl, rfl, by decide +kernel, rfl, by decide +kernel, by decide +kernel⟩
theorem ok_divided_so (fr : Free mg) (D : DefAt K mg "divided_so" (topS 19)) (d_up_so : OkD P w K mg base 1 "up_so" ["number", "by"] sp_up_so) (d_form_so : OkD P w K mg base 1 "form_so" ["terms", "bound"] (sp_form_so K)) : OkD P w K mg base 2 "divided_so" ["one", "by"] (sp_divided_so K) := by
  refine D.ok sc_divided_so (fun _ _ _ _ _ _ us hl => match us, hl with | [_, _], _ => rfl) (fun vs H Q E h => ?_) (fun f cdv A outer s H vs Q E hr h => ?_)
  · obtain ⟨v, s, d, rfl, _⟩ := h; rfl
  · obtain ⟨v, ps, d, rfl, hv, hne, hl, d1, d2, q⟩ := h
    obtain ⟨b, tt, rfl, hb, htt⟩ := pSum hv
    obtain ⟨t, us, rfl, ht, hul, hus⟩ := pTerms htt
    refine ⟨_, (pss_cons (ps_setLc (i := 2) (own := [("choice", 4), ("weights", 5)]) rfl sc_divided_so.nd rfl rfl (sw_true rfl rfl rfl (by decide +kernel)) (pi_seqK (K := K) (pe_ix (ix_tupK (K := K)) (pv 0) pe_int (fun _ _ => rfl))) (blkOk_by (by kernel_rfl)) (fun _ _ _ _ _ => (pg_tupK (K := K) (n := 2) (by rfl) (pgs_cons (pg_name (i := 4) sc_divided_so.nd rfl (by first | exact .inl rfl | exact .inr rfl)) (pgs_cons (pg_name (i := 5) sc_divided_so.nd rfl (by first | exact .inl rfl | exact .inr rfl)) pgs_nil)))) (fun _ _ _ _ _ => pts_nil) (fun _ _ _ _ _ => (pe_tupF (pa_cons (pv 4) (pa_cons (pe_lc (own := [("weight", 3)]) rfl sc_divided_so.nd (pi_seqK (K := K) (pv 5)) (blkOk_by (by kernel_rfl)) (fun _ _ _ _ _ => (pg_name (i := 3) sc_divided_so.nd rfl (by first | exact .inl rfl | exact .inr rfl))) (fun _ _ _ _ _ => pts_nil) (fun _ _ _ _ _ => (pe_callD d_up_so (hr.mono (by decide)) (by rfl) (pa_cons (pv 3) (pa_cons (pv 1) pa_nil))))) pa_nil)))))
 (pss_one (ps_ret (pe_callD d_form_so (hr.mono (by decide)) (by rfl) (pa_cons (pv 2) (pa_cons (pe_callD d_up_so (hr.mono (by decide)) (by rfl) (pa_cons (pe_ix (ix_tupK (K := K)) (pv 0) pe_int (fun _ _ => rfl)) (pa_cons (pv 1) pa_nil))) pa_nil)))))), ?_⟩
    refine ⟨_, rfl, b, _, _, _, rfl, rfl, hb, atI_nat (j := 0) rfl, t, false, rfl, ⟨_, ht⟩, fun D hD => ?_⟩
    have key : ∀ (i : Nat) (tm : Nat × List Int), ps.1[i]? = some tm → (ps.1.map fun t => (t.1, t.2.map fun w => upI w d))[i]? = some (tm.1, tm.2.map fun w => upI w d) := fun i tm e => by rw [List.getElem?_map, e]; rfl
    refine lc_gen2 (walk_seq (k := false) (xs := us)) (by omega) hD (fun H3 s => sq_same (k := false) s ht) (fun i acc H3 => A2 (FTermD D K H3) acc ((ps.1.map fun t => (t.1, t.2.map fun w => upI w d)).take i)) (fun _ acc H3 ys zs e p => p.mono fun x t h => h.upd e) (fun _ => A2.nil) (fun i x H3 H4 acc C N hi s3 eD p y cC cN => ?_) (fun acc H3 s3 e l p => ?_)
    · obtain ⟨rfl, ex⟩ := y
      obtain ⟨tm, et, hpt⟩ := hus i x ex
      obtain ⟨c2, wt, rfl, qc2, qw⟩ := pTerm hpt
      have qw3 := (skp s3).sqT qw
      refine ⟨c2, _, rfl, (skp s3).sqT qc2, rfl, _, _, rfl, _, _, rfl, rfl, rfl, yesT ?_⟩
      refine ⟨_, rfl, _, rfl, wt, false, rfl, ⟨_, qw3⟩, fun D2 hD2 => ?_⟩
      refine lc_gen (walk_seq (k := false)) (by rw [List.length_map]; exact Nat.le_trans (hne tm (List.mem_of_getElem? et)).2 (by decide)) hD2 (fun H' s => sq_same (k := false) s qw3) (fun j acc _ => acc = ((tm.2.map fun w => upI w d).take j).map V.int) (fun _ _ _ _ _ p => p) (fun _ => rfl) (fun j x H5 H6 acc2 C2 N2 hj s5 p5 y cC2 cN2 => ?_) (fun acc2 H5 s5 e5 l5 p5 => ?_)
      · obtain ⟨rfl, ex2⟩ := y
        rw [List.getElem?_map] at ex2
        obtain ⟨z, ez, rfl⟩ := Option.map_eq_some_iff.mp ex2
        refine ⟨rfl, yesT ⟨_, rfl, _, rfl, _, _, rfl, d1, d2, cC2 _ _ (Same.refl _) ?_⟩⟩
        rw [take_snoc (show (tm.2.map fun w => upI w d)[j]? = some (upI z d) by rw [List.getElem?_map, ez]; rfl), List.map_append, p5]
        rfl
      · rw [show (tm.2.map V.int).length = (tm.2.map fun w => upI w d).length by rw [List.length_map, List.length_map], List.take_length] at p5
        subst p5
        refine ⟨by rw [sizeLine_eq]; show 2 ≤ _; omega, fun p6 o6 hp6 ho6 => ?_⟩
        obtain ⟨u1, u2, u3⟩ := frz_new (K := K) (xs := [V.int (tm.1 : Nat), V.ref D2]) hp6 ho6
        refine cC _ _ (s5.trans u1) ?_
        rw [take_snoc (key i tm et)]
        refine (p.mono fun x t h => h.same (s5.trans u1)).snoc ⟨p6, D2, true, rfl, u2, .inl (.inl (u1 _ _ e5)), fun _ => .inl ?_⟩
        intro z
        subst z
        rw [eD] at hD2
        cases hD2
    · have ek : us.length = (ps.1.map fun t => (t.1, t.2.map fun w => upI w d)).length := by rw [List.length_map, hul]
      rw [ek, List.take_length] at p
      have hb3 := (skp s3).sqT hb
      refine ⟨_, rfl, _, rfl, b, _, _, _, rfl, rfl, hb3, atI_nat (j := 1) rfl, _, rfl, _, _, rfl, d1, d2, ?_⟩
      refine ⟨D, true, acc, _, _, rfl, .inl (.inl e), p.mono fun x t h => h.f, fun t ht => ?_, by rw [List.length_map]; omega, fun x H5 s5 hx => q x H5 (s3.trans s5) hx⟩
      obtain ⟨t0, h0, rfl⟩ := List.mem_map.mp ht
      exact ⟨fun z => (hne t0 h0).1 (List.map_eq_nil_iff.mp z), by rw [List.length_map]; exact (hne t0 h0).2⟩
end
end Bh
namespace Bh
open PySem PySem.Spec PyProof.Rows L2
section
variable {P : Program} {w : World} {K : PySem.W.Frag} {mg : Str → Option Value} {base : Heap}
def sp_capped_so (K : PySem.W.Frag) : Sp := fun vs H Q _ => ∃ v s, vs = [v] ∧ Pur K H v (dSum s) ∧ (∀ t ∈ s.1, t.2 ≠ [] ∧ t.2.length ≤ 1000) ∧ s.1.length ≤ 1000 ∧ ∀ x H', Same H H' → SumV K H' x (capped s) → Q x H'
theorem sc_capped_so : FnScope ["one", "terms", "weight", "choice", "weights"] ["one"] (defScope (topS 20)) := ⟨rfl, rfl, rfl, by decide +kernel, rfl, by decide +kernel, by decide +kernel⟩
theorem ok_capped_so (fr : Free mg) (D : DefAt K mg "capped_so" (topS 20)) (d_form_so : OkD P w K mg base 1 "form_so" ["terms", "bound"] (sp_form_so K)) : OkD P w K mg base 2 "capped_so" ["one"] (sp_capped_so K) := by
  refine D.ok sc_capped_so (fun _ _ _ _ _ _ us hl => match us, hl with | [_], _ => rfl) (fun vs H Q E h => ?_) (fun f cdv A outer s H vs Q E hr h => ?_)
  · obtain ⟨v, s, rfl, _⟩ := h; rfl
  · obtain ⟨v, ps, rfl, hv, hne, hl, q⟩ := h
    obtain ⟨b, tt, rfl, hb, htt⟩ := pSum hv
    obtain ⟨t, us, rfl, ht, hul, hus⟩ := pTerms htt
    refine ⟨_, (pss_cons (ps_setLc (i := 1) (own := [("choice", 3), ("weights", 4)]) rfl sc_capped_so.nd rfl rfl (sw_true rfl rfl rfl (by decide +kernel)) (pi_seqK (K := K) (pe_ix (ix_tupK (K := K)) (pv 0) pe_int (fun _ _ => rfl))) (blkOk_by (by kernel_rfl)) (fun _ _ _ _ _ => (pg_tupK (K := K) (n := 2) (by rfl) (pgs_cons (pg_name (i := 3) sc_capped_so.nd rfl (by first | exact .inl rfl | exact .inr rfl)) (pgs_cons (pg_name (i := 4) sc_capped_so.nd rfl (by first | exact .inl rfl | exact .inr rfl)) pgs_nil)))) (fun _ _ _ _ _ => pts_nil) (fun _ _ _ _ _ => (pe_tupF (pa_cons (pv 3) (pa_cons (pe_lc (own := [("weight", 2)]) rfl sc_capped_so.nd (pi_seqK (K := K) (pv 4)) (blkOk_by (by kernel_rfl)) (fun _ _ _ _ _ => (pg_name (i := 2) sc_capped_so.nd rfl (by first | exact .inl rfl | exact .inr rfl))) (fun _ _ _ _ _ => pts_nil) (fun _ _ _ _ _ => (pe_callB (call_min2 rfl) (by rfl) fr.min (by decide +kernel) (pa_cons (pv 2) (pa_cons (pe_ix (ix_tupK (K := K)) (pv 0) pe_int (fun _ _ => rfl)) pa_nil))))) pa_nil)))))
 (pss_one (ps_ret (pe_callD d_form_so (hr.mono (by decide)) (by rfl) (pa_cons (pv 1) (pa_cons (pe_ix (ix_tupK (K := K)) (pv 0) pe_int (fun _ _ => rfl)) pa_nil)))))), ?_⟩
    refine ⟨_, rfl, b, _, _, _, rfl, rfl, hb, atI_nat (j := 0) rfl, t, false, rfl, ⟨_, ht⟩, fun D hD => ?_⟩
    have key : ∀ (i : Nat) (tm : Nat × List Int), ps.1[i]? = some tm → (ps.1.map fun t => (t.1, t.2.map fun w => if ps.2 < w then ps.2 else w))[i]? = some (tm.1, tm.2.map fun w => if ps.2 < w then ps.2 else w) := fun i tm e => by rw [List.getElem?_map, e]; rfl
    refine lc_gen2 (walk_seq (k := false) (xs := us)) (by omega) hD (fun H3 s => sq_same (k := false) s ht) (fun i acc H3 => A2 (FTermD D K H3) acc ((ps.1.map fun t => (t.1, t.2.map fun w => if ps.2 < w then ps.2 else w)).take i)) (fun _ acc H3 ys zs e p => p.mono fun x t h => h.upd e) (fun _ => A2.nil) (fun i x H3 H4 acc C N hi s3 eD p y cC cN => ?_) (fun acc H3 s3 e l p => ?_)
    · obtain ⟨rfl, ex⟩ := y
      obtain ⟨tm, et, hpt⟩ := hus i x ex
      obtain ⟨c2, wt, rfl, qc2, qw⟩ := pTerm hpt
      have qw3 := (skp s3).sqT qw
      refine ⟨c2, _, rfl, (skp s3).sqT qc2, rfl, _, _, rfl, _, _, rfl, rfl, rfl, yesT ?_⟩
      refine ⟨_, rfl, _, rfl, wt, false, rfl, ⟨_, qw3⟩, fun D2 hD2 => ?_⟩
      refine lc_gen (walk_seq (k := false)) (by rw [List.length_map]; exact Nat.le_trans (hne tm (List.mem_of_getElem? et)).2 (by decide)) hD2 (fun H' s => sq_same (k := false) s qw3) (fun j acc _ => acc = ((tm.2.map fun w => if ps.2 < w then ps.2 else w).take j).map V.int) (fun _ _ _ _ _ p => p) (fun _ => rfl) (fun j x H5 H6 acc2 C2 N2 hj s5 p5 y cC2 cN2 => ?_) (fun acc2 H5 s5 e5 l5 p5 => ?_)
      · obtain ⟨rfl, ex2⟩ := y
        rw [List.getElem?_map] at ex2
        obtain ⟨z, ez, rfl⟩ := Option.map_eq_some_iff.mp ex2
        refine ⟨rfl, yesT ⟨_, rfl, _, rfl, b, _, _, _, rfl, rfl, (skp (s3.trans s5)).sqT hb, atI_nat (j := 1) rfl, _, _, rfl, cC2 _ _ (Same.refl _) ?_⟩⟩
        rw [take_snoc (show (tm.2.map fun w => if ps.2 < w then ps.2 else w)[j]? = some (if ps.2 < z then ps.2 else z) by rw [List.getElem?_map, ez]; rfl), List.map_append, p5]
        rfl
      · rw [show (tm.2.map V.int).length = (tm.2.map fun w => if ps.2 < w then ps.2 else w).length by rw [List.length_map, List.length_map], List.take_length] at p5
        subst p5
        refine ⟨by rw [sizeLine_eq]; show 2 ≤ _; omega, fun p6 o6 hp6 ho6 => ?_⟩
        obtain ⟨u1, u2, u3⟩ := frz_new (K := K) (xs := [V.int (tm.1 : Nat), V.ref D2]) hp6 ho6
        refine cC _ _ (s5.trans u1) ?_
        rw [take_snoc (key i tm et)]
        refine (p.mono fun x t h => h.same (s5.trans u1)).snoc ⟨p6, D2, true, rfl, u2, .inl (.inl (u1 _ _ e5)), fun _ => .inl ?_⟩
        intro z
        subst z
        rw [eD] at hD2
        cases hD2
    · have ek : us.length = (ps.1.map fun t => (t.1, t.2.map fun w => if ps.2 < w then ps.2 else w)).length := by rw [List.length_map, hul]
      rw [ek, List.take_length] at p
      have hb3 := (skp s3).sqT hb
      refine ⟨_, rfl, _, rfl, b, _, _, _, rfl, rfl, hb3, atI_nat (j := 1) rfl, ?_⟩
      refine ⟨D, true, acc, _, _, rfl, .inl (.inl e), p.mono fun x t h => h.f, fun t ht => ?_, by rw [List.length_map]; omega, fun x H5 s5 hx => q x H5 (s3.trans s5) hx⟩
      obtain ⟨t0, h0, rfl⟩ := List.mem_map.mp ht
      exact ⟨fun z => (hne t0 h0).1 (List.map_eq_nil_iff.mp z), by rw [List.length_map]; exact (hne t0 h0).2⟩
/-! terms as a dict -/
theorem terms_pairs {H : Hp} : ∀ {ts : Terms} {xs : List V}, PurAll K H xs (ts.map dTerm) → ∃ (ads : List Addr) (kvs : List (Key × V)), xs = ads.map V.ref ∧ Paired (fun p (kv : Key × V) => SqT K H p [kV kv.1, kv.2]) ads kvs ∧
    A2 (fun (kv : Key × V) (t : Nat × List Int) => kv.1 = .inl (t.1 : Int) ∧ ∃ a, kv.2 = .ref a ∧ SqT K H a (t.2.map .int)) kvs ts
  | [], xs, h => by cases h; exact ⟨[], [], rfl, .nil, A2.nil⟩
  | t :: r, _, h => by
    cases h with
    | cons h1 h2 =>
      obtain ⟨ads, kvs, rfl, hp, ha⟩ := terms_pairs h2
      obtain ⟨a, w, rfl, q1, q2⟩ := pTerm h1
      refine ⟨a :: ads, (.inl (t.1 : Int), .ref w) :: kvs, rfl, .cons q1 hp, by rw [List.length_cons, List.length_cons, ha.1], fun i x u e1 e2 => ?_⟩
      cases i with
      | zero => cases e1; cases e2; exact ⟨rfl, w, rfl, q2⟩
      | succ i => exact ha.2 i x u e1 e2
theorem DF.merge {H : Hp} {n : Nat} : ∀ {ts : Terms} {more kvs : List (Key × V)} {f : Tab}, DF K H kvs f n → A2 (fun (kv : Key × V) (t : Nat × List Int) => kv.1 = .inl (t.1 : Int) ∧ ∃ a, kv.2 = .ref a ∧ SqT K H a (t.2.map .int)) more ts → (∀ t ∈ ts, t.1 < n) → DF K H (mergeK kvs more) (ts.foldl (fun f t => f.put t.1 t.2) f) n
  | [], more, kvs, f, d, ha, _ => by
    have := List.eq_nil_of_length_eq_zero ha.1
    subst this
    exact d
  | t :: r, [], kvs, f, d, ha, _ => by have := ha.1; simp at this
  | t :: r, kv :: more, kvs, f, d, ha, hn => by
    obtain ⟨h1, a, h2, h3⟩ := ha.2 0 kv t rfl rfl
    unfold mergeK
    rw [List.foldl_cons, h1, h2]
    exact DF.merge (ts := r) (d.put (k := false) (hn t (List.mem_cons_self ..)) h3 fun _ _ _ h => h) ⟨Nat.succ.inj ha.1, fun i x u e1 e2 => ha.2 (i + 1) x u e1 e2⟩ fun u hu => hn u (List.mem_cons_of_mem _ hu)
theorem put_look : ∀ (ts : Terms) (f : Tab) (c : Nat), (ts.map (·.1)).Pairwise (· < ·) → (ts.foldl (fun f t => f.put t.1 t.2) f) c = (look ts c).or (f c)
  | [], f, c, _ => rfl
  | t :: r, f, c, h => by
    rw [List.map_cons, List.pairwise_cons] at h
    rw [List.foldl_cons, put_look r _ c h.2]
    unfold look Tab.put
    rw [List.find?_cons]
    by_cases hc : t.1 = c
    · subst hc
      have : (List.find? (fun u => decide (u.1 = t.1)) r) = none := by
        rw [List.find?_eq_none]
        intro u hu z
        have := h.1 u.1 (List.mem_map.mpr ⟨u, hu, rfl⟩)
        have := of_decide_eq_true z
        omega
      rw [this]
      simp
    · rw [if_neg (fun z => hc z.symm)]
      simp [hc]
def sp_is_raise (K : PySem.W.Frag) : Sp := fun vs H Q _ => ∃ (v : V) (s : PSum) (x : V) (tl : Addr) (ts : Terms) (sz : List Nat), vs = [v, .ref tl] ∧ SumV K H v s ∧ x = V.ref tl ∧ Pur K H x (dTerms ts) ∧ TermsOk sz s.1 ∧ TermsIn sz s.1 ∧ TermsIn sz ts ∧ Raises s ts ∧ s.1.length ≤ 1000 ∧ ∀ H', Same H H' → Q (.bl true) H'
theorem sc_is_raise : FnScope ["one", "terms", "has", "choice", "weights", "own", "near", "far"] ["one", "terms"] (defScope (topS 21)) := ⟨rfl, rfl, rfl, by decide +kernel, rfl, by decide +kernel, by decide +kernel⟩
theorem ok_is_raise (fr : Free mg) (D : DefAt K mg "is_raise" (topS 21)) : OkD P w K mg base 1 "is_raise" ["one", "terms"] (sp_is_raise K) := by
  refine D.ok sc_is_raise (fun _ _ _ _ _ _ us hl => match us, hl with | [_, _], _ => rfl) (fun vs H Q E h => ?_) (fun f cdv A outer s H vs Q E hr h => ?_)
  · obtain ⟨v, s, x, tl, ts, sz, rfl, _⟩ := h; rfl
  · obtain ⟨v, ps, x, tl, ts, sz, rfl, ⟨a, t, rfl, ha, hpl, htt⟩, rfl, hx, ok1, in1, in2, hra, hl, q⟩ := h
    refine ⟨_, (pss_cons (ps_set (i := 2) sc_is_raise.nd rfl (by first | exact .inl rfl | exact .inr rfl) (pe_callTy (cr_dictT rfl) (by rfl) fr.dict (by decide +kernel) (pa_cons (pe_ix (ix_tupK (K := K)) (pv 0) pe_int (fun _ _ => rfl)) pa_nil)))
 (pss_cons (ps_for PassesOwn.never rfl (pi_seqK (K := K) (pv 1)) (pg_tupK (K := K) (n := 2) (by rfl) (pgs_cons (pg_name (i := 3) sc_is_raise.nd rfl (by first | exact .inl rfl | exact .inr rfl)) (pgs_cons (pg_name (i := 4) sc_is_raise.nd rfl (by first | exact .inl rfl | exact .inr rfl)) pgs_nil))) (pss_cons (ps_set (i := 5) sc_is_raise.nd rfl (by first | exact .inl rfl | exact .inr rfl) (pe_dget2 (hu_of hr) (pv 2) (pv 3) (pe_op (op_mulG (K := K)) (pe_tupF (pa_cons pe_int pa_nil)) (pe_callB (cr_lenK (K := K)) (by rfl) fr.len (by decide +kernel) (pa_cons (pv 4) pa_nil))) ⟨by rfl, by rfl, by rfl, by rfl⟩))
 (pss_one (ps_if (pt_cmpR op_gt (pe_callB (cr_lenK (K := K)) (by rfl) fr.len (by decide +kernel) (pa_cons (pe_lc (own := [("near", 6), ("far", 7)]) rfl sc_is_raise.nd (pi_zipK (K := K) (by rfl) fr.zip (pa_cons (pv 5) (pa_cons (pv 4) pa_nil))) (blkOk_by (by kernel_rfl)) (fun _ _ _ _ _ => (pg_tupK (K := K) (n := 2) (by rfl) (pgs_cons (pg_name (i := 6) sc_is_raise.nd rfl (by first | exact .inl rfl | exact .inr rfl)) (pgs_cons (pg_name (i := 7) sc_is_raise.nd rfl (by first | exact .inl rfl | exact .inr rfl)) pgs_nil)))) (fun _ _ _ _ _ => (pts_one (pt_cmpR op_lt (pv 7) (pv 6) (nomark _)))) (fun _ _ _ _ _ => pe_int)) pa_nil)) pe_int (nomark _)) (pss_one (ps_ret pe_bl)) pss_nil))))
 (pss_one (ps_ret pe_bl)))), ?_⟩
    obtain ⟨_, us, e, ht, hus⟩ := htt.inv
    cases e
    obtain ⟨ads, kvs, rfl, hpr, h2⟩ := terms_pairs hus
    refine ⟨_, rfl, a, _, _, _, rfl, rfl, ha, atI_nat (j := 0) rfl, t, ads, kvs, rfl, hpl, ht, hpr, fun F hF => ?_⟩
    have s0 := same_new (o := .dK (mergeK [] kvs)) hF
    have df : DF K (upd H F (.dK (mergeK [] kvs))) (mergeK [] kvs) (ps.1.foldl (fun f t => f.put t.1 t.2) fun _ => none) sz.length := (DF.merge (DF.nil (K := K) (H := H)) h2 fun t ht => in1.lt ht).mono fun b j ys h => sq_same s0 h
    obtain ⟨_, xs, e, hb, hxl, hxs⟩ := pTerms hx
    cases e
    refine ⟨_, rfl, tl, false, rfl, ⟨xs, (skp s0).sqT hb⟩, ?_⟩
    refine for_it (walk_seq (xs := xs)) (fun i σ H' => ∃ y3 y4 y5, σ = [some (.ref a), some (.ref tl), some (.ref F), y3, y4, y5, none, none] ∧ Same (upd H F (.dK (mergeK [] kvs))) H')
      ⟨none, none, none, rfl, Same.refl _⟩ (fun i σ H' _ p => ?_) (fun i x σ H1 H2 hi p y => ?_) (fun σ H' p => ?_)
    · obtain ⟨_, _, _, _, s1⟩ := p
      exact (skp (s0.trans s1)).sqT hb
    · obtain ⟨y3, y4, y5, rfl, s1⟩ := p
      obtain ⟨rfl, ex⟩ := y
      obtain ⟨tm, et, hpt⟩ := hxs i x ex
      obtain ⟨c2, wt, rfl, qc2, qw⟩ := pTerm hpt
      have hmem := List.mem_of_getElem? et
      have hin2 := in2 tm hmem
      have s01 := s0.trans s1
      have eF := s1 _ _ (upd_same (H := H) (a := F) (o := .dK (mergeK [] kvs)))
      refine ⟨c2, _, rfl, (skp s01).sqT qc2, rfl, _, _, rfl, _, _, rfl, rfl, ?_⟩
      refine ⟨_, rfl, F, rfl, .inl ⟨_, .inl eF⟩, _, rfl, ?_⟩
      refine ⟨by rw [sizeLine_eq]; show 1 ≤ _; omega, fun p1 o1 hp1 ho1 => ?_⟩
      obtain ⟨u1, u2, u3⟩ := frz_new (K := K) (xs := [V.int 0]) hp1 ho1
      refine ⟨_, rfl, wt, false, _, rfl, ((skp (s01.trans u1)).sqT qw : SqT K _ wt _), p1, .int 0, _, rfl, rfl, u2, by rw [List.length_map]; omega, by rw [List.length_map]; omega, fun p2 H5 s5 hq5 => ?_⟩
      refine ⟨_, DGet.k (k := .inl ((tm.1 : Nat) : Int)) ((u1.trans s5) _ _ eF), ?_⟩
      have s15 := u1.trans s5
      have hhas : ∃ a k, (valV (mergeK [] kvs) (.inl ((tm.1 : Nat) : Int))).getD (V.ref p2) = .ref a ∧ Sq K k H5 a (((look ps.1 tm.1).getD (zeros tm.2.length)).map V.int) := by
        have el := put_look ps.1 (fun _ => none) tm.1 ok1.2
        rw [Option.or_none] at el
        rcases df.get tm.1 with ⟨g1, g2⟩ | ⟨b2, j2, u, g1, g2, g3⟩
        · refine ⟨p2, false, by rw [g1]; rfl, ?_⟩
          rw [← el, g2]
          show SqT K H5 p2 ((zeros tm.2.length).map V.int)
          unfold zeros
          rw [List.map_replicate]
          rw [List.length_map] at hq5
          exact hq5
        · refine ⟨b2, j2, by rw [g1]; rfl, ?_⟩
          rw [← el, g2]
          exact sq_same (s1.trans s15) g3
      obtain ⟨ah, kh, eh, qh⟩ := hhas
      rw [eh]
      have qw5 := ((skp (s01.trans s15)).sqT qw : SqT K H5 wt _)
      refine ⟨_, rfl, _, rfl, ah, wt, kh, false, _, _, rfl, qh, qw5, fun D hD => ?_⟩
      refine lc_gen (walk_zipB rfl) (by have := hin2.2.2; rw [List.length_map, List.length_map]; omega) hD (fun H' s => ⟨sq_same s qh, sq_same (k := false) s qw5⟩) (fun _ acc _ => acc = []) (fun _ _ _ _ _ p => p) (fun _ => rfl) (fun m x H6 H7 acc C N hm6 s6 p y cC cN => ?_) (fun acc H6 s6 e l p => ?_)
      · obtain ⟨T, x1, x2, rfl, hT, s7, eT, e1, e2⟩ := same_pair y
        rw [List.getElem?_map] at e1 e2
        obtain ⟨z1, f1, rfl⟩ := Option.map_eq_some_iff.mp e1
        obtain ⟨z2, f2, rfl⟩ := Option.map_eq_some_iff.mp e2
        refine ⟨T, _, rfl, .inl (.inl eT), rfl, _, _, rfl, _, _, rfl, rfl, rfl, ?_⟩
        have hle := hra tm hmem m z1 z2 f1 f2
        refine ⟨_, rfl, _, rfl, _, _, rfl, rfl, _, rfl, ?_⟩
        rw [decide_eq_false (by omega)]
        exact iteF (cN _ s7 p)
      · subst p
        refine ⟨D, true, [], rfl, .inl (.inl e), _, _, rfl, rfl, false, rfl, iteF ⟨_, _, _, rfl, s1.trans (s15.trans s6)⟩⟩
    · obtain ⟨y3, y4, y5, rfl, s1⟩ := p
      exact q _ (s0.trans s1)
end
end Bh
namespace Bh
/-! ### the form is a sum, and so is what each good step tells -/
theorem pw_fst {ts : Terms} : (ts.map (·.1)).Pairwise (· < ·) ↔ ts.Pairwise fun a b => a.1 < b.1 := List.pairwise_map
theorem lmin_sub {w : List Int} (h : w ≠ []) (d : Int) : lmin (w.map (· - d)) = lmin w - d := by
  refine lmin_eq (List.mem_map.mpr ⟨_, lmin_mem h, rfl⟩) fun y hy => ?_
  obtain ⟨z, hz, rfl⟩ := List.mem_map.mp hy
  have := lmin_le hz
  omega
theorem lmax_sub {w : List Int} (h : w ≠ []) (d : Int) : lmax (w.map (· - d)) = lmax w - d := by
  refine lmax_eq (List.mem_map.mpr ⟨_, lmax_mem h, rfl⟩) fun y hy => ?_
  obtain ⟨z, hz, rfl⟩ := List.mem_map.mp hy
  have := le_lmax hz
  omega
theorem mem_formT {ts : Terms} {u : Nat × List Int} : u ∈ formT ts ↔ ∃ t ∈ ts, lmin t.2 < lmax t.2 ∧ u = (t.1, t.2.map (· - lmin t.2)) := by
  unfold formT
  rw [List.mem_filterMap]
  constructor
  · rintro ⟨t, ht, e⟩
    by_cases h : lmin t.2 < lmax t.2
    · rw [if_pos h] at e
      cases e
      exact ⟨t, ht, h, rfl⟩
    · rw [if_neg h] at e
      cases e
  · rintro ⟨t, ht, h, rfl⟩
    exact ⟨t, ht, by rw [if_pos h]⟩
theorem form_ok {sz : List Nat} {ts : Terms} {b : Int} (h : TermsOk sz ts) (hn : ∀ t ∈ ts, t.2 ≠ []) : SumOk sz (form ts b) := by
  unfold form
  by_cases hb : 0 < formB ts b
  · rw [if_pos hb]
    refine ⟨⟨fun u hu => ?_, ?_⟩, fun u hu => ?_, .inl hb⟩
    · obtain ⟨t, ht, _, rfl⟩ := mem_formT.mp hu
      obtain ⟨n, h1, h2⟩ := h.1 t ht
      exact ⟨n, h1, by rw [List.length_map]; exact h2⟩
    · rw [pw_fst]
      unfold formT
      rw [List.pairwise_filterMap]
      refine (pw_fst.mp h.2).imp fun {a b} hab x hx y hy => ?_
      by_cases h1 : lmin a.2 < lmax a.2 <;> by_cases h2 : lmin b.2 < lmax b.2
      · rw [if_pos h1] at hx; rw [if_pos h2] at hy; cases hx; cases hy; exact hab
      · rw [if_neg h2] at hy; cases hy
      · rw [if_neg h1] at hx; cases hx
      · rw [if_neg h1] at hx; cases hx
    · obtain ⟨t, ht, hl, rfl⟩ := mem_formT.mp hu
      rw [lmin_sub (hn t ht), lmax_sub (hn t ht)]
      omega
  · rw [if_neg hb]
    exact ⟨⟨fun u hu => (nomatch hu), .nil⟩, (fun u hu => nomatch hu), .inr rfl⟩
theorem SumOk.inn {sz : List Nat} {s : PSum} (h : SumOk sz s) (hz : ∀ n ∈ sz, n ≤ 1000) : TermsIn sz s.1 := fun t ht => by
  obtain ⟨n, h1, h2⟩ := h.1.1 t ht
  have h3 := h.2.1 t ht
  subst h2
  refine ⟨h1, ?_, hz _ (List.mem_of_getElem? h1)⟩
  rcases t with ⟨c, w⟩
  match w with
  | [] => exact absurd rfl h3.2
  | [x] => exact absurd h3.1 (by show x ≠ 0; exact h3.2)
  | x :: y :: r => show 2 ≤ r.length + 1 + 1; omega
theorem tabT_ok {sz : List Nat} {f : Tab} (h : TabIn sz f) : TermsOk sz (tabT sz.length f) := by
  refine ⟨fun t ht => ⟨t.2.length, (h t.1 t.2 (mem_tabT.mp ht).2).1, rfl⟩, ?_⟩
  rw [pw_fst]
  unfold tabT
  rw [List.pairwise_filterMap]
  refine List.pairwise_lt_range.imp fun {a b} hab x hx y hy => ?_
  obtain ⟨u, _, rfl⟩ := Option.map_eq_some_iff.mp hx
  obtain ⟨v, _, rfl⟩ := Option.map_eq_some_iff.mp hy
  exact hab
theorem tab_form_ok {sz : List Nat} {f : Tab} {b : Int} (h : TabIn sz f) : SumOk sz (form (tabT sz.length f) b) := form_ok (tabT_ok h) fun t ht => (h.terms t ht).1
theorem added_ok {sz : List Nat} {ps : List (PSum × Int)} (h : ∀ p ∈ ps, TermsIn sz p.1.1) : SumOk sz (added sz.length ps) := tab_form_ok (TabIn.foldAll TabIn.none h)
theorem raised_ok {sz : List Nat} {one : PSum} {ts : Terms} (h1 : TermsIn sz one.1) (h2 : TermsIn sz ts) : SumOk sz (raised sz.length one ts) := tab_form_ok (TabIn.foldPut (TabIn.foldPut TabIn.none h1) h2)
theorem map_ok {sz : List Nat} {one : Terms} {g : Int → Int} (h : TermsOk sz one) : TermsOk sz (one.map fun t => (t.1, t.2.map g)) := by
  refine ⟨fun u hu => ?_, ?_⟩
  · obtain ⟨t, ht, rfl⟩ := List.mem_map.mp hu
    obtain ⟨n, h1, h2⟩ := h.1 t ht
    exact ⟨n, h1, by rw [List.length_map]; exact h2⟩
  · rw [List.map_map]
    exact h.2
theorem map_form_ok {sz : List Nat} {one : PSum} {g : Int → Int} {b : Int} (h : SumOk sz one) : SumOk sz (form (one.1.map fun t => (t.1, t.2.map g)) b) := by
  refine form_ok (map_ok h.1) fun u hu => ?_
  obtain ⟨t, ht, rfl⟩ := List.mem_map.mp hu
  intro z
  have := (h.2.1 t ht).2
  rw [List.map_eq_nil_iff.mp z] at this
  exact this rfl
theorem nil_ok (sz : List Nat) : SumOk sz ([], 0) := ⟨⟨fun u hu => (nomatch hu), .nil⟩, (fun u hu => nomatch hu), .inr rfl⟩
theorem at0_ok {sz : List Nat} {ss : Sums} (h : ∀ s ∈ ss, SumOk sz s) (i : Nat) : SumOk sz (at0 ss i) := by
  unfold at0
  rw [List.getD_eq_getElem?_getD]
  cases e : ss[i]? with
  | none => exact nil_ok sz
  | some s => exact h s (List.mem_of_getElem? e)
theorem at0_get {ss : Sums} {i : Nat} (h : i < ss.length) : ss[i]? = some (at0 ss i) := by
  unfold at0
  rw [List.getD_eq_getElem?_getD, List.getElem?_eq_getElem h]
  rfl
theorem stepVal_ok {sz : List Nat} {told ahead : Sums} {st : Step} (hz : ∀ n ∈ sz, n ≤ 1000) (h1 : ∀ s ∈ told, SumOk sz s) (h2 : ∀ s ∈ ahead, SumOk sz s) (g : StepGood sz told ahead st) : SumOk sz (stepVal sz.length told ahead st) := by
  cases st with
  | demand i => exact at0_ok h1 i
  | add ps =>
    refine added_ok fun p hp => ?_
    obtain ⟨q, hq, rfl⟩ := List.mem_map.mp hp
    exact (at0_ok h2 q.1).inn hz
  | divide j d => exact map_form_ok (at0_ok h2 j)
  | cap j => exact map_form_ok (at0_ok h2 j)
  | raise j ts =>
    refine raised_ok ((at0_ok h2 j).inn hz) fun t ht => ?_
    obtain ⟨n, e1, e2⟩ := g.2.1.1 t ht
    subst e2
    exact ⟨e1, g.2.2.1 t ht, hz _ (List.mem_of_getElem? e1)⟩
theorem stepVals_ok {sz : List Nat} {told : Sums} {sts : List Step} (hz : ∀ n ∈ sz, n ≤ 1000) (h1 : ∀ s ∈ told, SumOk sz s) (g : StepsGood sz told sts) : ∀ s ∈ stepVals sz.length told sts, SumOk sz s := by
  induction g with
  | nil => intro s hs; cases hs
  | snoc g h ih =>
    intro s hs
    rw [stepVals_snoc] at hs
    rcases List.mem_append.mp hs with hs | hs
    · exact ih s hs
    · rw [List.mem_singleton] at hs
      subst hs
      exact stepVal_ok hz h1 ih h
end Bh
namespace Bh
open PySem PySem.Spec PyProof.Rows L2
section
variable {P : Program} {w : World} {K : PySem.W.Frag} {mg : Str → Option Value} {base : Heap}
def sp_raised_so (K : PySem.W.Frag) : Sp := fun vs H Q _ => ∃ (v : V) (s : PSum) (tl : Addr) (ts : Terms) (sz : List Nat), vs = [v, .ref tl] ∧ SumV K H v s ∧ Pur K H (.ref tl) (dTerms ts) ∧ PlT K H tl ∧ TermsIn sz s.1 ∧ TermsIn sz ts ∧ (ts.map (·.1)).Pairwise (· < ·) ∧ sz.length ≤ 60 ∧ s.1.length ≤ 1000 ∧ ts.length ≤ 1000 ∧ ∀ x H', Same H H' → SumV K H' x (raised sz.length s ts) → Q x H'
theorem sc_raised_so : FnScope ["one", "terms", "found", "choice"] ["one", "terms"] (defScope (topS 22)) := ⟨rfl, rfl, rfl, by decide +kernel, rfl, by decide +kernel, by decide +kernel⟩
theorem len_merge {kvs more : List (Key × V)} : (mergeK kvs more).length ≤ kvs.length + more.length := by
  unfold mergeK
  induction more generalizing kvs with
  | nil => exact Nat.le_refl _
  | cons kv r ih =>
    rw [List.foldl_cons, List.length_cons]
    have := length_putK kvs kv.1 kv.2
    have := ih (kvs := putK kvs kv.1 kv.2)
    omega
theorem merge_new : ∀ (more acc : List (Key × V)), (∀ kv ∈ more, valV acc kv.1 = none) → more.Pairwise (fun a b => a.1 ≠ b.1) → mergeK acc more = acc ++ more
  | [], acc, _, _ => by unfold mergeK; rw [List.append_nil]; rfl
  | kv :: r, acc, h, hp => by
    rw [List.pairwise_cons] at hp
    unfold mergeK
    rw [List.foldl_cons, putK_new _ (h kv (List.mem_cons_self ..))]
    have := merge_new r (acc ++ [kv]) (fun u hu => ?_) hp.2
    · unfold mergeK at this
      rw [this, List.append_assoc]
      rfl
    · have e := h u (List.mem_cons_of_mem _ hu)
      rw [show acc ++ [kv] = acc ++ [(kv.1, kv.2)] from rfl, valV_snoc kv.1 u.1 kv.2 acc (h kv (List.mem_cons_self ..)), if_neg (fun z => hp.1 u hu z.symm)]
      exact e
theorem pairs_ne {H : Hp} {kvs : List (Key × V)} {ts : Terms} (h : A2 (fun (kv : Key × V) (t : Nat × List Int) => kv.1 = .inl (t.1 : Int) ∧ ∃ a, kv.2 = .ref a ∧ SqT K H a (t.2.map .int)) kvs ts) (hp : (ts.map (·.1)).Pairwise (· < ·)) : kvs.Pairwise (fun a b => a.1 ≠ b.1) := by
  rw [List.pairwise_iff_getElem]
  intro i j hi hj hij
  rw [pw_fst, List.pairwise_iff_getElem] at hp
  have gi : i < ts.length := h.1 ▸ hi
  have gj : j < ts.length := h.1 ▸ hj
  have e1 := (h.2 i _ _ (List.getElem?_eq_getElem hi) (List.getElem?_eq_getElem gi)).1
  have e2 := (h.2 j _ _ (List.getElem?_eq_getElem hj) (List.getElem?_eq_getElem gj)).1
  have := hp i j gi gj hij
  intro z
  rw [e1, e2] at z
  injection z with z
  have := Int.ofNat.inj z
  omega
theorem ok_raised_so (fr : Free mg) (D : DefAt K mg "raised_so" (topS 22)) (d_form_so : OkD P w K mg base 1 "form_so" ["terms", "bound"] (sp_form_so K)) : OkD P w K mg base 2 "raised_so" ["one", "terms"] (sp_raised_so K) := by
  refine D.ok sc_raised_so (fun _ _ _ _ _ _ us hl => match us, hl with | [_, _], _ => rfl) (fun vs H Q E h => ?_) (fun f cdv A outer s H vs Q E hr h => ?_)
  · obtain ⟨v, s, tl, ts, sz, rfl, _⟩ := h; rfl
  · obtain ⟨v, ps, tl, ts, sz, rfl, ⟨a, t, rfl, ha, hpl, htt⟩, hx, hpl2, in1, in2, hpw, hn, l1, l2, q⟩ := h
    refine ⟨_, (pss_cons (ps_set (i := 2) sc_raised_so.nd rfl (by first | exact .inl rfl | exact .inr rfl) (pe_callTy (cr_dictT rfl) (by rfl) fr.dict (by decide +kernel) (pa_cons (pe_ix (ix_tupK (K := K)) (pv 0) pe_int (fun _ _ => rfl)) pa_nil)))
 (pss_cons (ps_expr (pe_bm PySem.F.plainAttrs_dict PySem.F.slot_dict_update PySem.F.type_dict_update mt_update (pv 2) (pa_cons (pe_callTy (cr_dictT rfl) (by rfl) fr.dict (by decide +kernel) (pa_cons (pv 1) pa_nil)) pa_nil)))
 (pss_one (ps_ret (pe_callD d_form_so (hr.mono (by decide)) (by rfl) (pa_cons (pe_lc (own := [("choice", 3)]) rfl sc_raised_so.nd (pi_seqK (K := K) (pe_callB (call_sortedDI rfl) (by rfl) fr.sorted (by decide +kernel) (pa_cons (pv 2) pa_nil))) (blkOk_by (by kernel_rfl)) (fun _ _ _ _ _ => (pg_name (i := 3) sc_raised_so.nd rfl (by first | exact .inl rfl | exact .inr rfl))) (fun _ _ _ _ _ => pts_nil) (fun _ _ _ _ _ => (pe_tupF (pa_cons (pv 3) (pa_cons (pe_dget (hu_of hr) (pv 2) (pv 3) (fun _ _ => rfl)) pa_nil))))) (pa_cons (pe_ix (ix_tupK (K := K)) (pv 0) pe_int (fun _ _ => rfl)) pa_nil))))))), ?_⟩
    obtain ⟨_, us, e, ht, hus⟩ := htt.inv
    cases e
    obtain ⟨ads, kvs, rfl, hpr, h2⟩ := terms_pairs hus
    obtain ⟨_, us2, e, ht2, hus2⟩ := hx.inv
    cases e
    refine ⟨_, rfl, a, _, _, _, rfl, rfl, ha, atI_nat (j := 0) rfl, t, ads, kvs, rfl, hpl, ht, hpr, fun F hF => ?_⟩
    have s0 := same_new (o := .dK (mergeK [] kvs)) hF
    have df : DF K (upd H F (.dK (mergeK [] kvs))) (mergeK [] kvs) (ps.1.foldl (fun f t => f.put t.1 t.2) fun _ => none) sz.length := (DF.merge (DF.nil (K := K) (H := H)) h2 fun t ht => in1.lt ht).mono fun b j ys h => sq_same s0 h
    obtain ⟨ads2, kvs2, rfl, hpr2, h22⟩ := terms_pairs (hus2.kp (skp s0))
    refine ⟨_, rfl, .inr (.inr (.inl ⟨rfl, .inl ⟨_, upd_same⟩⟩)), _, rfl, tl, ads2, kvs2, rfl, hpl2.kp (skp s0), (skp s0).sqT ht2, hpr2, fun G hG => ?_⟩
    have en := merge_new kvs2 [] (fun _ _ => rfl) (pairs_ne h22 hpw)
    rw [List.nil_append] at en
    rw [en]
    have sG := same_new (o := .dK kvs2) hG
    have eF := sG _ _ (upd_same (H := H) (a := F) (o := .dK (mergeK [] kvs)))
    have hsm := df.small
    have hl2 : kvs2.length = ts.length := h22.1
    refine ⟨F, G, _, kvs2, rfl, rfl, ne_of_none (upd_same (H := H) (a := F) (o := .dK (mergeK [] kvs))) hG, eF, upd_same, sz_ok (by omega), ?_⟩
    have df2 : DF K (upd (upd (upd H F (.dK (mergeK [] kvs))) G (.dK kvs2)) F (.dK (mergeK (mergeK [] kvs) kvs2))) (mergeK (mergeK [] kvs) kvs2) (raisedF ps.1 ts) sz.length := by
      refine (DF.merge (H := upd H F (.dK (mergeK [] kvs))) (ts := ts) df h22 fun t ht => in2.lt ht).mono fun b j ys h => ?_
      exact sq_dK eF _ _ _ (sq_same sG h)
    have s1 : Same H (upd (upd (upd H F (.dK (mergeK [] kvs))) G (.dK kvs2)) F (.dK (mergeK (mergeK [] kvs) kvs2))) := smut (s0.trans sG) hF
    have eF2 : (upd (upd (upd H F (.dK (mergeK [] kvs))) G (.dK kvs2)) F (.dK (mergeK (mergeK [] kvs) kvs2))) F = some (.dK (mergeK (mergeK [] kvs) kvs2)) := upd_same
    have hti : TabIn sz (raisedF ps.1 ts) := TabIn.foldPut (TabIn.foldPut TabIn.none in1) in2
    revert df2 s1 eF2
    generalize (upd (upd (upd H F (.dK (mergeK [] kvs))) G (.dK kvs2)) F (.dK (mergeK (mergeK [] kvs) kvs2))) = H2
    generalize mergeK (mergeK [] kvs) kvs2 = kv3
    intro df2 s1 eF2
    obtain ⟨ks, hks, hkl, hys⟩ := df2.sorted
    refine ⟨_, rfl, F, kv3, ks, rfl, .inl eF2, hks, by omega, fun ys p2 hp2 hs2 hn2 => ?_⟩
    have ey := hys ys hp2 hs2
    subst ey
    have s2 := same_new (o := .lst (((keysT sz.length (raisedF ps.1 ts)).map fun (c : Nat) => (c : Int)).map V.int)) hn2
    have eL : SqL K (upd H2 p2 (.lst (((keysT sz.length (raisedF ps.1 ts)).map fun (c : Nat) => (c : Int)).map V.int))) p2 _ := .inl (.inl upd_same)
    have hkl2 : (keysT sz.length (raisedF ps.1 ts)).length ≤ 60 := Nat.le_trans (Nat.le_trans (List.length_filter_le _ _) (by rw [List.length_range]; exact Nat.le_refl _)) hn
    refine ⟨p2, true, rfl, ⟨_, eL⟩, fun D hD => ?_⟩
    refine lc_gen2 (walk_seq (k := true)) (by rw [List.length_map, List.length_map]; omega) hD (fun H3 s => sq_same (k := true) s eL) (fun i acc H3 => A2 (FTermD D K H3) acc ((tabT sz.length (raisedF ps.1 ts)).take i)) (fun _ acc H3 ys zs e p => p.mono fun x t h => h.upd e) (fun _ => A2.nil) (fun i x H3 H4 acc C N hi s3 eD p y cC cN => ?_) (fun acc H3 s3 e l p => ?_)
    · obtain ⟨rfl, ex⟩ := y
      rw [List.getElem?_map, List.getElem?_map] at ex
      obtain ⟨z, ez, rfl⟩ := Option.map_eq_some_iff.mp ex
      obtain ⟨c, ec, rfl⟩ := Option.map_eq_some_iff.mp ez
      obtain ⟨hc, wl, hw⟩ := keysT_get ec
      rcases df2.get c with ⟨g1, g2⟩ | ⟨b2, j2, u, g1, g2, g3⟩
      · rw [hw] at g2; cases g2
      rw [hw] at g2
      cases g2
      refine ⟨rfl, yesT ⟨_, rfl, _, rfl, _, rfl, F, .ref b2, rfl, ?_, by rw [sizeLine_eq]; show 2 ≤ _; omega, fun p5 o5 hp5 ho5 => ?_⟩⟩
      · exact g1 ▸ DGet.k (k := .inl ((c : Nat) : Int)) ((s2.trans s3) _ _ eF2)
      obtain ⟨u1, u2, u3⟩ := frz_new (K := K) (xs := [V.int (c : Nat), V.ref b2]) hp5 ho5
      refine cC _ _ u1 ?_
      have : (tabT sz.length (raisedF ps.1 ts))[i]? = some (c, wl) := by rw [tabT_eq, List.getElem?_map, ec]; simp [hw]
      rw [take_snoc this]
      exact (p.mono fun x t h => h.same u1).snoc ⟨p5, b2, j2, rfl, u2, sq_same ((s2.trans s3).trans u1) g3, Off.of hD (sq_same s2 g3)⟩
    · have ek : (((keysT sz.length (raisedF ps.1 ts)).map fun (c : Nat) => (c : Int)).map V.int).length = (tabT sz.length (raisedF ps.1 ts)).length := by rw [tabT_eq, List.length_map, List.length_map, List.length_map]
      rw [ek, List.take_length] at p
      refine ⟨_, rfl, a, _, _, _, rfl, rfl, (skp ((s1.trans s2).trans s3)).sqT ha, atI_nat (j := 1) rfl, ?_⟩
      exact ⟨D, true, acc, _, _, rfl, .inl (.inl e), p.mono fun x t h => h.f, hti.terms, Nat.le_trans (tabT_len _ _) (by omega), fun x H5 s5 hx => q x H5 (((s1.trans s2).trans s3).trans s5) hx⟩
/-! is_ahead, pairs_so -/
def sp_is_ahead : Sp := fun vs H Q _ => ∃ v n : Int, vs = [.int v, .int n] ∧ Q (.bl (decide (0 ≤ v ∧ v < n))) H
theorem sc_is_ahead : FnScope ["value", "many"] ["value", "many"] (defScope (topS 23)) := ⟨rfl, rfl, rfl, by decide +kernel, rfl, by decide +kernel, by decide +kernel⟩
theorem ok_is_ahead (fr : Free mg) (D : DefAt K mg "is_ahead" (topS 23)) (d_is_whole : OkD P w K mg base 1 "is_whole" ["value"] sp_is_whole) : OkD P w K mg base 2 "is_ahead" ["value", "many"] sp_is_ahead := by
  refine D.ok sc_is_ahead (fun _ _ _ _ _ _ us hl => match us, hl with | [_, _], _ => rfl) (fun vs H Q E h => ?_) (fun f cdv A outer s H vs Q E hr h => ?_)
  · obtain ⟨v, n, rfl, _⟩ := h; rfl
  · obtain ⟨v, n, rfl, q⟩ := h
    refine ⟨_, (pss_one (ps_ret (pe_and (pe_callD d_is_whole (hr.mono (by decide)) (by rfl) (pa_cons (pv 0) pa_nil)) (pe_one (pe_chain op_le op_lt pe_int (pv 0) (pv 1)))))), ?_⟩
    refine ⟨_, rfl, v, rfl, true, rfl, iteT ?_⟩
    refine ⟨_, rfl, 0, v, rfl, rfl, decide (0 ≤ v), rfl, ?_⟩
    by_cases h1 : 0 ≤ v
    · rw [decide_eq_true h1]
      refine iteT ⟨_, rfl, v, n, rfl, rfl, ?_⟩
      show Q (.bl (decide (v < n))) H
      rw [show decide (v < n) = decide (0 ≤ v ∧ v < n) by simp [h1]]
      exact q
    · rw [decide_eq_false h1]
      refine iteF ?_
      rw [show decide (0 ≤ v ∧ v < n) = false by simp [h1]] at q
      exact q
end
end Bh
namespace Bh
open PySem PySem.Spec PyProof.Rows L2
def dPairs (ps : List (Nat × Int)) : PyData := .tuple (ps.map fun p => .tuple [.int (p.1 : Nat), .int p.2])
def dStep : Step → PyData
  | .demand i => .tuple [.str "demand", .int (i : Nat)]
  | .add ps => .tuple [.str "add", dPairs ps]
  | .divide j d => .tuple [.str "divide", .int (j : Nat), .int d]
  | .cap j => .tuple [.str "cap", .int (j : Nat)]
  | .raise j ts => .tuple [.str "raise", .int (j : Nat), dTerms ts]
section
variable {P : Program} {w : World} {K : PySem.W.Frag} {mg : Str → Option Value} {base : Heap}
def StepV (K : PySem.W.Frag) (H : Hp) (v : V) : Step → Prop
  | .raise j ts => ∃ a t, v = .ref a ∧ SqT K H a [.str "raise", .int (j : Nat), .ref t] ∧ PlT K H t ∧ Pur K H (.ref t) (dTerms ts)
  | .demand i => Pur K H v (dStep (.demand i))
  | .add ps => Pur K H v (dStep (.add ps))
  | .divide j d => Pur K H v (dStep (.divide j d))
  | .cap j => Pur K H v (dStep (.cap j))
theorem StepV.pur {H : Hp} {v : V} {st : Step} (h : StepV K H v st) : Pur K H v (dStep st) := by
  cases st with
  | raise j ts =>
    obtain ⟨a, t, rfl, h1, h2, h3⟩ := h
    exact .tup h1 (.cons (.str _) (.cons (.int _) (.cons h3 .nil)))
  | demand i => exact h
  | add ps => exact h
  | divide j d => exact h
  | cap j => exact h
theorem StepV.kp {H H' : Hp} {v : V} {st : Step} (e : Kp H H') (h : StepV K H v st) : StepV K H' v st := by
  cases st with
  | raise j ts =>
    obtain ⟨a, t, rfl, h1, h2, h3⟩ := h
    exact ⟨a, t, rfl, e.sqT h1, h2.kp e, h3.kp e⟩
  | demand i => exact Pur.kp e h
  | add ps => exact Pur.kp e h
  | divide j d => exact Pur.kp e h
  | cap j => exact Pur.kp e h
def AheadV (K : PySem.W.Frag) (H : Hp) (a : Addr) (vals : Sums) : Prop := ∃ vs, SqL K H a vs ∧ A2 (SumV K H) vs vals
theorem AheadV.same {H H' : Hp} {a : Addr} {vals : Sums} (s : Same H H') (h : AheadV K H a vals) : AheadV K H' a vals := by
  obtain ⟨vs, h1, h2⟩ := h
  exact ⟨vs, s.seq h1, h2.mono fun x t h => h.kp (skp s)⟩
def sp_pairs_so (K : PySem.W.Frag) : Sp := fun vs H Q _ => ∃ (al : Addr) (vals : Sums) (v : V) (ps : List (Nat × Int)), vs = [.ref al, v] ∧ AheadV K H al vals ∧ Pur K H v (dPairs ps) ∧ (∀ p ∈ ps, p.1 < vals.length ∧ 1 ≤ p.2) ∧ ps.length ≤ 1000 ∧
  ∀ l xs H', Same H H' → SqL K H' l xs → A2 (PairV K H') xs (ps.map fun p => (at0 vals p.1, p.2)) → Q (.ref l) H'
theorem sc_pairs_so : FnScope ["ahead", "value", "found", "pair"] ["ahead", "value"] (defScope (topS 24)) := ⟨rfl, rfl, rfl, by decide +kernel, rfl, by decide +kernel, by decide +kernel⟩
theorem ok_pairs_so (fr : Free mg) (D : DefAt K mg "pairs_so" (topS 24)) (d_is_whole : OkD P w K mg base 1 "is_whole" ["value"] sp_is_whole) (d_is_ahead : OkD P w K mg base 2 "is_ahead" ["value", "many"] sp_is_ahead) : OkD P w K mg base 3 "pairs_so" ["ahead", "value"] (sp_pairs_so K) := by
  refine D.ok sc_pairs_so (fun _ _ _ _ _ _ us hl => match us, hl with | [_, _], _ => rfl) (fun vs H Q E h => ?_) (fun f cdv A outer s H vs Q E hr h => ?_)
  · obtain ⟨al, vals, v, ps, rfl, _⟩ := h; rfl
  · obtain ⟨al, vals, v, ps, rfl, hal, hv, hps, hl, q⟩ := h
    refine ⟨_, (pss_cons (ps_set (i := 2) sc_pairs_so.nd rfl (by first | exact .inl rfl | exact .inr rfl) (pe_lst pa_nil))
 (pss_cons (ps_for PassesOwn.never rfl (pi_seqK (K := K) (pe_ifExp (pt_val (pe_callB (cr_isTupK (K := K)) (by rfl) fr.isinstance (by decide +kernel) (pa_cons (pv 1) (pa_cons (pe_bltn (v := .ty "tuple") (by rfl) fr.tuple (by decide +kernel) rfl) pa_nil)))) (pv 1) (pe_tupF (pa_cons pe_non pa_nil)))) (pg_name (i := 3) sc_pairs_so.nd rfl (by first | exact .inl rfl | exact .inr rfl)) (pss_cons (ps_if (PW.pt (pw_or (pt_not (pt_val (pe_callB (cr_isTupK (K := K)) (by rfl) fr.isinstance (by decide +kernel) (pa_cons (pv 3) (pa_cons (pe_bltn (v := .ty "tuple") (by rfl) fr.tuple (by decide +kernel) rfl) pa_nil))))) (pw_or (pt_cmpR op_ne (pe_callB (cr_lenK (K := K)) (by rfl) fr.len (by decide +kernel) (pa_cons (pv 3) pa_nil)) pe_int (nomark _)) (pw_or1 (pt_not (pt_val (pe_callD d_is_ahead (hr.mono (by decide)) (by rfl) (pa_cons (pe_ix (ix_tupK (K := K)) (pv 3) pe_int (fun _ _ => rfl)) (pa_cons (pe_callB (cr_lenK (K := K)) (by rfl) fr.len (by decide +kernel) (pa_cons (pv 0) pa_nil)) pa_nil))))))))) (pss_one (ps_ret pe_non)) pss_nil)
 (pss_cons (ps_if (PW.pt (pw_or (pt_not (pt_val (pe_callD d_is_whole (hr.mono (by decide)) (by rfl) (pa_cons (pe_ix (ix_tupK (K := K)) (pv 3) pe_int (fun _ _ => rfl)) pa_nil)))) (pw_or1 (pt_cmpR op_lt (pe_ix (ix_tupK (K := K)) (pv 3) pe_int (fun _ _ => rfl)) pe_int (nomark _))))) (pss_one (ps_ret pe_non)) pss_nil)
 (pss_one (ps_expr (pe_bm PySem.F.plainAttrs_list PySem.F.slot_list_append PySem.F.type_list_append mt_append (pv 2) (pa_cons (pe_tupF (pa_cons (pe_ix (ix_listK (K := K)) (pv 0) (pe_ix (ix_tupK (K := K)) (pv 3) pe_int (fun _ _ => rfl)) (fun _ _ => rfl)) (pa_cons (pe_ix (ix_tupK (K := K)) (pv 3) pe_int (fun _ _ => rfl)) pa_nil))) pa_nil)))))))
 (pss_one (ps_ret (pv 2))))), ?_⟩
    obtain ⟨b, xs, rfl, hb, hxs⟩ := hv.inv
    have hx2 := pur_A2 hxs
    refine ⟨Nat.zero_le _, fun F hF => ?_⟩
    have s0 := same_new (o := .lst []) hF
    refine ⟨_, rfl, b, xs, rfl, (skp s0).sqT hb, true, rfl, iteT ⟨_, rfl, b, false, rfl, ⟨xs, (skp s0).sqT hb⟩, ?_⟩⟩
    refine for_it (walk_seq (k := false) (xs := xs)) (fun i σ H' => ∃ y3 fs, σ = [some (.ref al), some (.ref b), some (.ref F), y3] ∧ Same H H' ∧ H' F = some (.lst fs) ∧ A2 (PairV K H') fs ((ps.map fun p => (at0 vals p.1, p.2)).take i))
      ⟨none, [], rfl, s0, upd_same, A2.nil⟩ (fun i σ H' _ p => ?_) (fun i x σ H1 H2 hi p y => ?_) (fun σ H' p => ?_)
    · obtain ⟨_, _, _, s1, _⟩ := p
      exact (skp s1).sqT hb
    · obtain ⟨y3, fs, rfl, s1, eF, hfs⟩ := p
      obtain ⟨rfl, ex⟩ := y
      obtain ⟨pr, ep, hpr⟩ := hx2.getL ex
      obtain ⟨c, ys, rfl, hc, hys⟩ := hpr.inv
      obtain ⟨u1, u2, rfl, v1, v2⟩ := hys.two
      cases v1.intI
      cases v2.intI
      have hc := (skp s1).sqT hc
      obtain ⟨g1, g2⟩ := hps pr (List.mem_of_getElem? ep)
      obtain ⟨vs, ha, hvs⟩ := hal.same s1
      have hlen := hvs.1
      obtain ⟨z, ez, hz⟩ := hvs.getR (at0_get g1)
      refine ⟨_, rfl, c, _, rfl, hc, true, rfl, iteF ?_⟩
      refine ⟨_, rfl, c, false, _, rfl, hc, rfl, _, rfl, ?_⟩
      rw [show ([V.int (pr.1 : Nat), V.int pr.2].length : Int) = 2 from rfl, decide_eq_true rfl]
      refine iteF ⟨_, rfl, c, _, _, _, rfl, rfl, hc, atI_nat (j := 0) rfl, _, rfl, al, true, vs, rfl, ha, _, _, rfl, true, ?_, iteF ?_⟩
      · rw [decide_eq_true (by omega)]
      refine ⟨_, rfl, c, _, _, _, rfl, rfl, hc, atI_nat (j := 1) rfl, _, rfl, true, rfl, iteF ?_⟩
      refine ⟨_, rfl, c, _, _, _, rfl, rfl, hc, atI_nat (j := 1) rfl, _, _, rfl, rfl, _, rfl, ?_⟩
      rw [decide_eq_false (by omega)]
      refine iteF ⟨_, rfl, .inl ⟨rfl, fs, .inl (.inl eF)⟩, _, rfl, _, rfl, c, _, _, _, rfl, rfl, hc, atI_nat (j := 0) rfl, al, _, _, z, rfl, rfl, ha, atI_nat ez, _, rfl, c, _, _, _, rfl, rfl, hc, atI_nat (j := 1) rfl, ?_⟩
      refine ⟨by rw [sizeLine_eq]; show 2 ≤ _; omega, fun p o hp ho => ?_⟩
      obtain ⟨w1, w2, w3⟩ := frz_new (K := K) (xs := [z, V.int pr.2]) hp ho
      have hfl : fs.length ≤ 1000 := by rw [hfs.1, List.length_take, List.length_map]; omega
      refine ⟨F, fs, _, rfl, rfl, w1 _ _ eF, sz_lt' (by omega), some (.ref c), _, rfl, smut (s1.trans w1) hF, upd_same, ?_⟩
      have e5 : (ps.map fun p => (at0 vals p.1, p.2))[i]? = some (at0 vals pr.1, pr.2) := by rw [List.getElem?_map, ep]; rfl
      rw [take_snoc e5]
      have kk := (skp w1).trans (kp_lst (ys := fs ++ [.ref p]) (w1 _ _ eF))
      refine (hfs.mono fun x t h => h.kp kk).snoc ⟨p, z, rfl, (kp_lst (w1 _ _ eF)).sqT w2, (hz.pur.kp kk)⟩
    · obtain ⟨y3, fs, rfl, s1, eF, hfs⟩ := p
      rw [hx2.1, List.take_of_length_le (by rw [List.length_map]; exact Nat.le_refl _)] at hfs
      exact ⟨_, rfl, q F fs _ s1 (.inl (.inl eF)) hfs⟩
theorem TermsOk.len {sz : List Nat} {ts : Terms} (h : TermsOk sz ts) : ts.length ≤ sz.length := by
  have nd : (ts.map fun t => t.1).Nodup := h.2.imp fun h => Nat.ne_of_lt h
  have := List.Nodup.length_le_of_subset nd (l₂ := List.range sz.length) fun c hc => ?_
  · rwa [List.length_map, List.length_range] at this
  · obtain ⟨t, ht, rfl⟩ := List.mem_map.mp hc
    obtain ⟨n, h1, _⟩ := h.1 t ht
    exact List.mem_range.mpr (List.getElem?_eq_some_iff.mp h1).1
theorem SumOk.nes {sz : List Nat} {s : PSum} (h : SumOk sz s) (hz : ∀ n ∈ sz, n ≤ 1000) : ∀ t ∈ s.1, t.2 ≠ [] ∧ t.2.length ≤ 1000 := fun t ht => ⟨h.ne ht, (h.inn hz t ht).2.2⟩
theorem str_ne {a b : Str} (h : a ≠ b) : decide (V.str a = V.str b) = false := decide_eq_false fun z => h (V.str.inj z)
def NotDemand : Step → Prop
  | .demand _ => False
  | _ => True
def sp_made_so (K : PySem.W.Frag) : Sp := fun vs H Q _ => ∃ (zv : V) (sz : List Nat) (al : Addr) (told vals : Sums) (v : V) (st : Step), vs = [zv, .ref al, v] ∧ Pur K H zv (dSizes sz) ∧ AheadV K H al vals ∧ StepV K H v st ∧ StepGood sz told vals st ∧ NotDemand st ∧
  sz.length ≤ 60 ∧ (∀ n ∈ sz, n ≤ 1000) ∧ (∀ s ∈ vals, SumOk sz s) ∧ ∀ x H', Same H H' → SumV K H' x (stepVal sz.length told vals st) → Q x H'
theorem sc_made_so : FnScope ["sizes", "ahead", "step", "pairs", "one"] ["sizes", "ahead", "step"] (defScope (topS 25)) := ⟨rfl, rfl, rfl, by decide +kernel, rfl, by decide +kernel, by decide +kernel⟩
theorem ok_made_so (fr : Free mg) (D : DefAt K mg "made_so" (topS 25)) (d_is_whole : OkD P w K mg base 1 "is_whole" ["value"] sp_is_whole) (d_is_ahead : OkD P w K mg base 2 "is_ahead" ["value", "many"] sp_is_ahead)
    (d_pairs_so : OkD P w K mg base 3 "pairs_so" ["ahead", "value"] (sp_pairs_so K)) (d_added_so : OkD P w K mg base 2 "added_so" ["pairs"] (sp_added_so K)) (d_capped_so : OkD P w K mg base 2 "capped_so" ["one"] (sp_capped_so K))
    (d_divided_so : OkD P w K mg base 2 "divided_so" ["one", "by"] (sp_divided_so K)) (d_is_terms : OkD P w K mg base 3 "is_terms" ["sizes", "value"] (sp_is_terms K)) (d_is_raise : OkD P w K mg base 1 "is_raise" ["one", "terms"] (sp_is_raise K))
    (d_raised_so : OkD P w K mg base 2 "raised_so" ["one", "terms"] (sp_raised_so K)) : OkD P w K mg base 4 "made_so" ["sizes", "ahead", "step"] (sp_made_so K) := by
  refine D.ok sc_made_so (fun _ _ _ _ _ _ us hl => match us, hl with | [_, _, _], _ => rfl) (fun vs H Q E h => ?_) (fun f cdv A outer s H vs Q E hr h => ?_)
  · obtain ⟨zv, sz, al, told, vals, v, st, rfl, _⟩ := h; rfl
  · obtain ⟨zv, sz, al, told, vals, v, st, rfl, hsz, hal, hst, hg, hnd, hn, hz, hok, q⟩ := h
    refine ⟨_, (pss_cons (ps_if (PW.pt (pw_and (pt_cmpR op_eq (pe_ix (ix_tupK (K := K)) (pv 2) pe_int (fun _ _ => rfl)) pe_str (nomark _)) (pw_and1 (pt_cmpR op_eq (pe_callB (cr_lenK (K := K)) (by rfl) fr.len (by decide +kernel) (pa_cons (pv 2) pa_nil)) pe_int (nomark _))))) (pss_cons (ps_set (i := 3) sc_made_so.nd rfl (by first | exact .inl rfl | exact .inr rfl) (pe_callD d_pairs_so (hr.mono (by decide)) (by rfl) (pa_cons (pv 1) (pa_cons (pe_ix (ix_tupK (K := K)) (pv 2) pe_int (fun _ _ => rfl)) pa_nil))))
 (pss_one (ps_ret (pe_ifExp (pt_cmp (pc_isN (pv 3))) pe_non (pe_callD d_added_so (hr.mono (by decide)) (by rfl) (pa_cons (pv 3) pa_nil)))))) pss_nil)
 (pss_cons (ps_if (PW.pt (pw_or (pt_cmpR op_lt (pe_callB (cr_lenK (K := K)) (by rfl) fr.len (by decide +kernel) (pa_cons (pv 2) pa_nil)) pe_int (nomark _)) (pw_or1 (pt_not (pt_val (pe_callD d_is_ahead (hr.mono (by decide)) (by rfl) (pa_cons (pe_ix (ix_tupK (K := K)) (pv 2) pe_int (fun _ _ => rfl)) (pa_cons (pe_callB (cr_lenK (K := K)) (by rfl) fr.len (by decide +kernel) (pa_cons (pv 1) pa_nil)) pa_nil)))))))) (pss_one (ps_ret pe_non)) pss_nil)
 (pss_cons (ps_set (i := 4) sc_made_so.nd rfl (by first | exact .inl rfl | exact .inr rfl) (pe_ix (ix_listK (K := K)) (pv 1) (pe_ix (ix_tupK (K := K)) (pv 2) pe_int (fun _ _ => rfl)) (fun _ _ => rfl)))
 (pss_cons (ps_if (PW.pt (pw_and (pt_cmpR op_eq (pe_ix (ix_tupK (K := K)) (pv 2) pe_int (fun _ _ => rfl)) pe_str (nomark _)) (pw_and1 (pt_cmpR op_eq (pe_callB (cr_lenK (K := K)) (by rfl) fr.len (by decide +kernel) (pa_cons (pv 2) pa_nil)) pe_int (nomark _))))) (pss_one (ps_ret (pe_ifExp (pt_cmpR op_gt (pe_ix (ix_tupK (K := K)) (pv 4) pe_int (fun _ _ => rfl)) pe_int (nomark _)) (pe_callD d_capped_so (hr.mono (by decide)) (by rfl) (pa_cons (pv 4) pa_nil)) pe_non))) pss_nil)
 (pss_cons (ps_if (PW.pt (pw_and (pt_cmpR op_eq (pe_ix (ix_tupK (K := K)) (pv 2) pe_int (fun _ _ => rfl)) pe_str (nomark _)) (pw_and (pt_cmpR op_eq (pe_callB (cr_lenK (K := K)) (by rfl) fr.len (by decide +kernel) (pa_cons (pv 2) pa_nil)) pe_int (nomark _)) (pw_and (pt_val (pe_callD d_is_whole (hr.mono (by decide)) (by rfl) (pa_cons (pe_ix (ix_tupK (K := K)) (pv 2) pe_int (fun _ _ => rfl)) pa_nil))) (pw_and1 (pt_cmpR op_gt (pe_ix (ix_tupK (K := K)) (pv 2) pe_int (fun _ _ => rfl)) pe_int (nomark _))))))) (pss_one (ps_ret (pe_callD d_divided_so (hr.mono (by decide)) (by rfl) (pa_cons (pv 4) (pa_cons (pe_ix (ix_tupK (K := K)) (pv 2) pe_int (fun _ _ => rfl)) pa_nil))))) pss_nil)
 (pss_cons (ps_if (PW.pt (pw_and (pt_cmpR op_eq (pe_ix (ix_tupK (K := K)) (pv 2) pe_int (fun _ _ => rfl)) pe_str (nomark _)) (pw_and (pt_cmpR op_eq (pe_callB (cr_lenK (K := K)) (by rfl) fr.len (by decide +kernel) (pa_cons (pv 2) pa_nil)) pe_int (nomark _)) (pw_and (pt_val (pe_callD d_is_terms (hr.mono (by decide)) (by rfl) (pa_cons (pv 0) (pa_cons (pe_ix (ix_tupK (K := K)) (pv 2) pe_int (fun _ _ => rfl)) pa_nil)))) (pw_and1 (pt_val (pe_callD d_is_raise (hr.mono (by decide)) (by rfl) (pa_cons (pv 4) (pa_cons (pe_ix (ix_tupK (K := K)) (pv 2) pe_int (fun _ _ => rfl)) pa_nil))))))))) (pss_one (ps_ret (pe_callD d_raised_so (hr.mono (by decide)) (by rfl) (pa_cons (pv 4) (pa_cons (pe_ix (ix_tupK (K := K)) (pv 2) pe_int (fun _ _ => rfl)) pa_nil))))) pss_nil)
 (pss_one (ps_ret pe_non)))))))), ?_⟩
    cases st with
    | demand i => exact hnd.elim
    | add ps =>
      obtain ⟨a, xs, rfl, ha, hxs⟩ := hst.pur.inv
      obtain ⟨u1, u2, rfl, v1, v2⟩ := hxs.two
      cases v1.strI
      refine ⟨_, rfl, a, _, _, _, rfl, rfl, ha, atI_nat (j := 0) rfl, rfl, _, rfl, ?_⟩
      rw [decide_eq_true rfl]
      refine iteT ⟨_, rfl, a, false, _, rfl, ha, rfl, _, rfl, ?_⟩
      rw [show ([V.str "add", u2].length : Int) = 2 from rfl, decide_eq_true rfl]
      refine iteT ⟨_, rfl, _, rfl, a, _, _, _, rfl, rfl, ha, atI_nat (j := 1) rfl, al, vals, u2, ps, rfl, hal, v2, fun p hp => ⟨(hg.2 p hp).1, (hg.2 p hp).2.1⟩, hg.1, fun l xs H1 s1 hl hxs1 => ?_⟩
      refine ⟨_, rfl, _, rfl, ?_⟩
      rw [decide_eq_false (by intro z; cases z)]
      refine iteF ⟨_, rfl, l, true, xs, _, sz, rfl, hl, hxs1, fun p hp => ?_, fun p hp => ?_, hn, fun x H2 s2 hx => q x H2 (s1.trans s2) hx⟩
      · obtain ⟨r, hr, rfl⟩ := List.mem_map.mp hp
        exact (at0_ok hok r.1).inn hz
      · obtain ⟨r, hr, rfl⟩ := List.mem_map.mp hp
        exact ⟨(hg.2 r hr).2.1, (hg.2 r hr).2.2⟩
    | divide j d =>
      obtain ⟨a, xs, rfl, ha, hxs⟩ := hst.pur.inv
      obtain ⟨u1, u2, u3, rfl, v1, v2, v3⟩ := hxs.three
      cases v1.strI
      cases v2.intI
      cases v3.intI
      obtain ⟨g1, g2, g3⟩ := hg
      obtain ⟨vs, hl, hvs⟩ := id hal
      have hlen := hvs.1
      obtain ⟨z, ez, hzv⟩ := hvs.getR (at0_get g1)
      refine ⟨_, rfl, a, _, _, _, rfl, rfl, ha, atI_nat (j := 0) rfl, rfl, _, rfl, ?_⟩
      rw [str_ne (by decide +kernel)]
      refine iteF ⟨_, rfl, a, false, _, rfl, ha, _, _, rfl, rfl, _, rfl, ?_⟩
      rw [show ([V.str "divide", V.int (j : Nat), V.int d].length : Int) = 3 from rfl, decide_eq_false (by omega)]
      refine iteF ⟨_, rfl, a, _, _, _, rfl, rfl, ha, atI_nat (j := 1) rfl, _, rfl, al, true, vs, rfl, hl, _, _, rfl, true, ?_, iteF ?_⟩
      · rw [decide_eq_true (by omega)]
      refine ⟨_, rfl, _, rfl, a, _, _, _, rfl, rfl, ha, atI_nat (j := 1) rfl, al, _, _, z, rfl, rfl, hl, atI_nat ez, ?_⟩
      refine ⟨_, rfl, a, _, _, _, rfl, rfl, ha, atI_nat (j := 0) rfl, rfl, _, rfl, ?_⟩
      rw [str_ne (by decide +kernel)]
      refine iteF ⟨_, rfl, a, _, _, _, rfl, rfl, ha, atI_nat (j := 0) rfl, rfl, _, rfl, ?_⟩
      rw [decide_eq_true rfl]
      refine iteT ⟨_, rfl, a, false, _, rfl, ha, rfl, _, rfl, ?_⟩
      rw [show ([V.str "divide", V.int (j : Nat), V.int d].length : Int) = 3 from rfl, decide_eq_true rfl]
      refine iteT ⟨_, rfl, a, _, _, _, rfl, rfl, ha, atI_nat (j := 2) rfl, _, rfl, true, rfl, iteT ?_⟩
      refine ⟨_, rfl, a, _, _, _, rfl, rfl, ha, atI_nat (j := 2) rfl, _, _, rfl, rfl, _, rfl, ?_⟩
      rw [decide_eq_true (by omega)]
      refine iteT ⟨_, rfl, _, rfl, a, _, _, _, rfl, rfl, ha, atI_nat (j := 2) rfl, z, at0 vals j, d, rfl, hzv.pur, (at0_ok hok j).nes hz, Nat.le_trans (at0_ok hok j).1.len (by omega), g2, g3, q⟩
    | cap j =>
      obtain ⟨a, xs, rfl, ha, hxs⟩ := hst.pur.inv
      obtain ⟨u1, u2, rfl, v1, v2⟩ := hxs.two
      cases v1.strI
      cases v2.intI
      obtain ⟨g1, g2⟩ := hg
      obtain ⟨vs, hl, hvs⟩ := id hal
      have hlen := hvs.1
      obtain ⟨z, ez, hzv⟩ := hvs.getR (at0_get g1)
      refine ⟨_, rfl, a, _, _, _, rfl, rfl, ha, atI_nat (j := 0) rfl, rfl, _, rfl, ?_⟩
      rw [str_ne (by decide +kernel)]
      refine iteF ⟨_, rfl, a, false, _, rfl, ha, _, _, rfl, rfl, _, rfl, ?_⟩
      rw [show ([V.str "cap", V.int (j : Nat)].length : Int) = 2 from rfl, decide_eq_false (by omega)]
      refine iteF ⟨_, rfl, a, _, _, _, rfl, rfl, ha, atI_nat (j := 1) rfl, _, rfl, al, true, vs, rfl, hl, _, _, rfl, true, ?_, iteF ?_⟩
      · rw [decide_eq_true (by omega)]
      refine ⟨_, rfl, _, rfl, a, _, _, _, rfl, rfl, ha, atI_nat (j := 1) rfl, al, _, _, z, rfl, rfl, hl, atI_nat ez, ?_⟩
      refine ⟨_, rfl, a, _, _, _, rfl, rfl, ha, atI_nat (j := 0) rfl, rfl, _, rfl, ?_⟩
      rw [decide_eq_true rfl]
      refine iteT ⟨_, rfl, a, false, _, rfl, ha, rfl, _, rfl, ?_⟩
      rw [show ([V.str "cap", V.int (j : Nat)].length : Int) = 2 from rfl, decide_eq_true rfl]
      obtain ⟨b, t, rfl, hb, hpt, htt⟩ := hzv
      refine iteT ⟨_, rfl, b, _, _, _, rfl, rfl, hb, atI_nat (j := 1) rfl, _, _, rfl, rfl, _, rfl, ?_⟩
      rw [decide_eq_true g2]
      exact iteT ⟨_, rfl, _, at0 vals j, rfl, .tup hb (.cons htt (.cons (.int _) .nil)), (at0_ok hok j).nes hz, Nat.le_trans (at0_ok hok j).1.len (by omega), q⟩
    | raise j ts =>
      obtain ⟨a, tl, rfl, ha, hpl, htl⟩ := hst
      obtain ⟨g1, g2, g3, g4⟩ := hg
      obtain ⟨vs, hl, hvs⟩ := id hal
      have hlen := hvs.1
      obtain ⟨z, ez, hzv⟩ := hvs.getR (at0_get g1)
      have okj := at0_ok hok j
      have in1 := okj.inn hz
      have in2 : TermsIn sz ts := fun t ht => by
        obtain ⟨n, e1, e2⟩ := g2.1 t ht
        subst e2
        exact ⟨e1, g3 t ht, hz _ (List.mem_of_getElem? e1)⟩
      refine ⟨_, rfl, a, _, _, _, rfl, rfl, ha, atI_nat (j := 0) rfl, rfl, _, rfl, ?_⟩
      rw [str_ne (by decide +kernel)]
      refine iteF ⟨_, rfl, a, false, _, rfl, ha, _, _, rfl, rfl, _, rfl, ?_⟩
      rw [show ([V.str "raise", V.int (j : Nat), V.ref tl].length : Int) = 3 from rfl, decide_eq_false (by omega)]
      refine iteF ⟨_, rfl, a, _, _, _, rfl, rfl, ha, atI_nat (j := 1) rfl, _, rfl, al, true, vs, rfl, hl, _, _, rfl, true, ?_, iteF ?_⟩
      · rw [decide_eq_true (by omega)]
      refine ⟨_, rfl, _, rfl, a, _, _, _, rfl, rfl, ha, atI_nat (j := 1) rfl, al, _, _, z, rfl, rfl, hl, atI_nat ez, ?_⟩
      refine ⟨_, rfl, a, _, _, _, rfl, rfl, ha, atI_nat (j := 0) rfl, rfl, _, rfl, ?_⟩
      rw [str_ne (by decide +kernel)]
      refine iteF ⟨_, rfl, a, _, _, _, rfl, rfl, ha, atI_nat (j := 0) rfl, rfl, _, rfl, ?_⟩
      rw [str_ne (by decide +kernel)]
      refine iteF ⟨_, rfl, a, _, _, _, rfl, rfl, ha, atI_nat (j := 0) rfl, rfl, _, rfl, ?_⟩
      rw [decide_eq_true rfl]
      refine iteT ⟨_, rfl, a, false, _, rfl, ha, rfl, _, rfl, ?_⟩
      rw [show ([V.str "raise", V.int (j : Nat), V.ref tl].length : Int) = 3 from rfl, decide_eq_true rfl]
      have l1 : (at0 vals j).1.length ≤ 1000 := Nat.le_trans okj.1.len (by omega)
      have l2 : ts.length ≤ 1000 := Nat.le_trans g2.len (by omega)
      refine iteT ⟨_, rfl, _, rfl, a, _, _, _, rfl, rfl, ha, atI_nat (j := 2) rfl, zv, .ref tl, sz, ts, rfl, hsz, htl, g2, l2, hz, fun H1 s1 => ⟨true, rfl, iteT ?_⟩⟩
      have k1 := skp s1
      refine ⟨_, rfl, _, rfl, a, _, _, _, rfl, rfl, k1.sqT ha, atI_nat (j := 2) rfl, z, at0 vals j, _, tl, ts, sz, rfl, hzv.kp k1, rfl, htl.kp k1, okj.1, in1, in2, g4, l1, fun H2 s2 => ⟨true, rfl, iteT ?_⟩⟩
      have k2 := k1.trans (skp s2)
      exact ⟨_, rfl, _, rfl, a, _, _, _, rfl, rfl, k2.sqT ha, atI_nat (j := 2) rfl, z, at0 vals j, tl, ts, sz, rfl, hzv.kp k2, htl.kp k2, hpl.kp k2, in1, in2, g2.2, hn, l1, l2, fun x H3 s3 hx => q x H3 ((s1.trans s2).trans s3) hx⟩
end
end Bh
namespace Bh
open PySem PySem.Spec PyProof.Rows L2
section
variable {P : Program} {w : World} {K : PySem.W.Frag} {mg : Str → Option Value} {base : Heap}
def ToldV (K : PySem.W.Frag) (H : Hp) (a : Addr) (told : Sums) : Prop := ∃ vs, SqT K H a vs ∧ A2 (SumV K H) vs told
theorem ToldV.kp {H H' : Hp} {a : Addr} {told : Sums} (e : Kp H H') (h : ToldV K H a told) : ToldV K H' a told := by
  obtain ⟨vs, h1, h2⟩ := h
  exact ⟨vs, e.sqT h1, h2.mono fun x t h => h.kp e⟩
def sp_step_sum (K : PySem.W.Frag) : Sp := fun vs H Q _ => ∃ (zv : V) (sz : List Nat) (sa ga al : Addr) (told vals : Sums) (v : V) (st : Step), vs = [zv, .ref sa, .ref ga, .ref al, v] ∧ Pur K H zv (dSizes sz) ∧ ToldV K H sa told ∧ SqT K H ga [] ∧ AheadV K H al vals ∧ StepV K H v st ∧ StepGood sz told vals st ∧
  sz.length ≤ 60 ∧ (∀ n ∈ sz, n ≤ 1000) ∧ (∀ s ∈ vals, SumOk sz s) ∧ ∀ x H', Same H H' → SumV K H' x (stepVal sz.length told vals st) → Q x H'
theorem sc_step_sum : FnScope ["sizes", "sums", "given", "ahead", "step", "word", "some"] ["sizes", "sums", "given", "ahead", "step"] (defScope (topS 26)) := ⟨rfl, rfl, rfl, by decide +kernel, rfl, by decide +kernel, by decide +kernel⟩
def stepWord : Step → Str
  | .demand _ => "demand"
  | .add _ => "add"
  | .divide _ _ => "divide"
  | .cap _ => "cap"
  | .raise _ _ => "raise"
theorem StepV.word {H : Hp} {v : V} {st : Step} (h : StepV K H v st) : ∃ a r, v = .ref a ∧ SqT K H a (.str (stepWord st) :: r) ∧ r ≠ [] ∧ (∀ i, st = .demand i → r = [.int (i : Nat)]) := by
  cases st with
  | raise j ts =>
    obtain ⟨a, t, rfl, h1, h2, h3⟩ := h
    exact ⟨a, _, rfl, h1, by simp, fun i z => by cases z⟩
  | demand i =>
    obtain ⟨a, xs, rfl, h1, h2⟩ := h.pur.inv
    obtain ⟨x, y, rfl, p1, p2⟩ := h2.two
    cases p1.strI
    cases p2.intI
    exact ⟨a, _, rfl, h1, by simp, fun i z => by cases z; rfl⟩
  | add ps =>
    obtain ⟨a, xs, rfl, h1, h2⟩ := h.pur.inv
    obtain ⟨x, y, rfl, p1, p2⟩ := h2.two
    cases p1.strI
    exact ⟨a, _, rfl, h1, by simp, fun i z => by cases z⟩
  | divide j d =>
    obtain ⟨a, xs, rfl, h1, h2⟩ := h.pur.inv
    obtain ⟨x, y, z, rfl, p1, p2⟩ := h2.three
    cases p1.strI
    exact ⟨a, _, rfl, h1, by simp, fun i z => by cases z⟩
  | cap j =>
    obtain ⟨a, xs, rfl, h1, h2⟩ := h.pur.inv
    obtain ⟨x, y, rfl, p1, p2⟩ := h2.two
    cases p1.strI
    exact ⟨a, _, rfl, h1, by simp, fun i z => by cases z⟩
theorem ok_step_sum (fr : Free mg) (D : DefAt K mg "step_sum" (topS 26)) (d_is_ahead : OkD P w K mg base 2 "is_ahead" ["value", "many"] sp_is_ahead)
    (d_made_so : OkD P w K mg base 4 "made_so" ["sizes", "ahead", "step"] (sp_made_so K)) : OkD P w K mg base 5 "step_sum" ["sizes", "sums", "given", "ahead", "step"] (sp_step_sum K) := by
  refine D.ok sc_step_sum (fun _ _ _ _ _ _ us hl => match us, hl with | [_, _, _, _, _], _ => rfl) (fun vs H Q E h => ?_) (fun f cdv A outer s H vs Q E hr h => ?_)
  · obtain ⟨zv, sz, sa, ga, al, told, vals, v, st, rfl, _⟩ := h; rfl
  · obtain ⟨zv, sz, sa, ga, al, told, vals, v, st, rfl, hsz, hsa, hga, hal, hst, hg, hn, hz, hok, q⟩ := h
    refine ⟨_, (pss_cons (ps_if (PW.pt (pw_or (pt_not (pt_val (pe_callB (cr_isTupK (K := K)) (by rfl) fr.isinstance (by decide +kernel) (pa_cons (pv 4) (pa_cons (pe_bltn (v := .ty "tuple") (by rfl) fr.tuple (by decide +kernel) rfl) pa_nil))))) (pw_or (pt_cmpR op_eq (pe_callB (cr_lenK (K := K)) (by rfl) fr.len (by decide +kernel) (pa_cons (pv 4) pa_nil)) pe_int (nomark _)) (pw_or1 (pt_not (pt_val (pe_callB cr_isStr (by rfl) fr.isinstance (by decide +kernel) (pa_cons (pe_ix (ix_tupK (K := K)) (pv 4) pe_int (fun _ _ => rfl)) (pa_cons (pe_bltn (v := .ty "str") (by rfl) fr.str (by decide +kernel) rfl) pa_nil))))))))) (pss_one (ps_ret pe_non)) pss_nil)
 (pss_cons (ps_for PassesOwn.never rfl (pi_seqK (K := K) (pe_tupF (pa_cons (pe_tupF (pa_cons pe_str (pa_cons (pv 1) pa_nil))) (pa_cons (pe_tupF (pa_cons pe_str (pa_cons (pv 2) pa_nil))) pa_nil)))) (pg_tupK (K := K) (n := 2) (by rfl) (pgs_cons (pg_name (i := 5) sc_step_sum.nd rfl (by first | exact .inl rfl | exact .inr rfl)) (pgs_cons (pg_name (i := 6) sc_step_sum.nd rfl (by first | exact .inl rfl | exact .inr rfl)) pgs_nil))) (pss_one (ps_if (pt_cmpR op_eq (pe_ix (ix_tupK (K := K)) (pv 4) pe_int (fun _ _ => rfl)) (pv 5) (nomark _)) (pss_one (ps_ret (pe_ifExp (PW.pt (pw_and (pt_cmpR op_eq (pe_callB (cr_lenK (K := K)) (by rfl) fr.len (by decide +kernel) (pa_cons (pv 4) pa_nil)) pe_int (nomark _)) (pw_and1 (pt_val (pe_callD d_is_ahead (hr.mono (by decide)) (by rfl) (pa_cons (pe_ix (ix_tupK (K := K)) (pv 4) pe_int (fun _ _ => rfl)) (pa_cons (pe_callB (cr_lenK (K := K)) (by rfl) fr.len (by decide +kernel) (pa_cons (pv 6) pa_nil)) pa_nil))))))) (pe_ix (ix_tupK (K := K)) (pv 6) (pe_ix (ix_tupK (K := K)) (pv 4) pe_int (fun _ _ => rfl)) (fun _ _ => rfl)) pe_non))) pss_nil)))
 (pss_one (ps_ret (pe_callD d_made_so (hr.mono (by decide)) (by rfl) (pa_cons (pv 0) (pa_cons (pv 3) (pa_cons (pv 4) pa_nil)))))))), ?_⟩
    obtain ⟨a, r, rfl, ha, hr0, hdm⟩ := hst.word
    refine ⟨_, rfl, a, _, rfl, ha, true, rfl, iteF ?_⟩
    refine ⟨_, rfl, a, false, _, rfl, ha, rfl, _, rfl, ?_⟩
    rw [decide_eq_false (fun z => by have := V.int.inj z; rw [List.length_cons] at this; omega)]
    refine iteF ⟨_, rfl, a, _, _, _, rfl, rfl, ha, atI_nat (j := 0) rfl, _, rfl, true, rfl, iteF ?_⟩
    refine ⟨_, rfl, by rw [sizeLine_eq]; show 2 ≤ _; omega, fun p1 o1 hp1 ho1 => ?_⟩
    obtain ⟨u1, u2, u3⟩ := frz_new (K := K) (xs := [V.str "demand", V.ref sa]) hp1 ho1
    refine ⟨_, rfl, by rw [sizeLine_eq]; show 2 ≤ _; omega, fun p2 o2 hp2 ho2 => ?_⟩
    obtain ⟨v1, v2, v3⟩ := frz_new (K := K) (xs := [V.str "given", V.ref ga]) hp2 ho2
    refine ⟨by rw [sizeLine_eq]; show 2 ≤ _; omega, fun p3 o3 hp3 ho3 => ?_⟩
    obtain ⟨w1, w2, w3⟩ := frz_new (K := K) (xs := [V.ref p1, V.ref p2]) hp3 ho3
    have s3 := (u1.trans v1).trans w1
    refine ⟨p3, false, rfl, ⟨_, w2⟩, ?_⟩
    have u2' := (skp (v1.trans w1)).sqT u2
    have v2' := (skp w1).sqT v2
    have ha' := (skp s3).sqT ha
    have hga' := (skp s3).sqT hga
    have hal' := hal.same s3
    have hst' := hst.kp (skp s3)
    have hsa' := hsa.kp (skp s3)
    have hsz' := hsz.kp (skp s3)
    revert w2 u2' v2' ha' hga' hal' hst' hsa' hsz' s3
    generalize (upd (upd (upd H p1 (.frz o1 (.tup [V.str "demand", V.ref sa]))) p2 (.frz o2 (.tup [V.str "given", V.ref ga]))) p3 (.frz o3 (.tup [V.ref p1, V.ref p2]))) = H3
    intro w2 s3 u2' v2' ha' hga' hal' hst' hsa' hsz'
    have hgd : ¬ Str.ofString "given" = stepWord st := by cases st <;> (simp only [stepWord]; decide +kernel)
    refine for_it (walk_seq (k := false) (xs := [V.ref p1, V.ref p2])) (fun i σ H' => H' = H3 ∧ (i = 0 ∨ NotDemand st) ∧ ∃ y5 y6, σ = [some zv, some (.ref sa), some (.ref ga), some (.ref al), some (.ref a), y5, y6])
      ⟨rfl, .inl rfl, none, none, rfl⟩ (fun i σ H' _ p => ?_) (fun i x σ H1 H2 hi p y => ?_) (fun σ H' p => ?_)
    · obtain ⟨rfl, _⟩ := p
      exact w2
    · obtain ⟨rfl, hi2, y5, y6, rfl⟩ := p
      obtain ⟨rfl, ex⟩ := y
      match i, hi, ex with
      | 0, _, ex =>
        cases ex
        refine ⟨p1, _, rfl, u2', rfl, _, _, rfl, _, _, rfl, rfl, ?_⟩
        refine ⟨_, rfl, a, _, _, _, rfl, rfl, ha', atI_nat (j := 0) rfl, _, rfl, rfl, _, rfl, ?_⟩
        cases st with
        | demand i =>
          have er := hdm i rfl
          subst er
          rw [show decide (V.str (stepWord (.demand i)) = V.str "demand") = true from decide_eq_true rfl]
          obtain ⟨vs, hvs, hv2⟩ := hsa'
          have hlen := hv2.1
          obtain ⟨z, ez, hzv⟩ := hv2.getR (at0_get hg)
          refine iteT ⟨_, rfl, a, false, _, rfl, ha', rfl, _, rfl, ?_⟩
          rw [show ([V.str (stepWord (.demand i)), V.int (i : Nat)].length : Int) = 2 from rfl, decide_eq_true rfl]
          have hil : i < told.length := hg
          refine iteT ⟨_, rfl, a, _, _, _, rfl, rfl, ha', atI_nat (j := 1) rfl, _, rfl, sa, false, vs, rfl, hvs, _, _, rfl, true, ?_, iteT ?_⟩
          · rw [decide_eq_true (by omega)]
          exact ⟨_, rfl, _, rfl, a, _, _, _, rfl, rfl, ha', atI_nat (j := 1) rfl, sa, _, _, z, rfl, rfl, hvs, atI_nat ez, q z _ s3 hzv⟩
        | add ps => rw [str_ne (by simp only [stepWord]; decide +kernel)]; exact iteF ⟨rfl, .inr trivial, _, _, rfl⟩
        | divide j d => rw [str_ne (by simp only [stepWord]; decide +kernel)]; exact iteF ⟨rfl, .inr trivial, _, _, rfl⟩
        | cap j => rw [str_ne (by simp only [stepWord]; decide +kernel)]; exact iteF ⟨rfl, .inr trivial, _, _, rfl⟩
        | raise j ts => rw [str_ne (by simp only [stepWord]; decide +kernel)]; exact iteF ⟨rfl, .inr trivial, _, _, rfl⟩
      | 1, _, ex =>
        cases ex
        refine ⟨p2, _, rfl, v2', rfl, _, _, rfl, _, _, rfl, rfl, ?_⟩
        refine ⟨_, rfl, a, _, _, _, rfl, rfl, ha', atI_nat (j := 0) rfl, _, rfl, rfl, _, rfl, ?_⟩
        rw [str_ne (fun z => hgd z.symm)]
        exact iteF ⟨rfl, .inr (hi2.resolve_left (by decide)), _, _, rfl⟩
      | i + 2, hi, _ => exact absurd hi (by show ¬ i + 2 < 2; omega)
    · obtain ⟨rfl, hi2, y5, y6, rfl⟩ := p
      exact ⟨_, rfl, _, rfl, _, rfl, zv, sz, al, told, vals, _, st, rfl, hsz', hal', hst', hg, hi2.resolve_left (by show ¬ (2 : Nat) = 0; omega), hn, hz, hok, fun x H4 s4 hx => q x H4 (s3.trans s4) hx⟩
def StepsV (K : PySem.W.Frag) (H : Hp) (a : Addr) (sts : List Step) : Prop := ∃ vs, SqT K H a vs ∧ A2 (StepV K H) vs sts
theorem StepsV.kp {H H' : Hp} {a : Addr} {sts : List Step} (e : Kp H H') (h : StepsV K H a sts) : StepsV K H' a sts := by
  obtain ⟨vs, h1, h2⟩ := h
  exact ⟨vs, e.sqT h1, h2.mono fun x t h => h.kp e⟩
/-- all that the proof's check needs -/
structure PrIn (K : PySem.W.Frag) (H : Hp) (zv : V) (sa ga va : Addr) (sz : List Nat) (told : Sums) (sts : List Step) : Prop where
  pz : Pur K H zv (dSizes sz)
  pt : ToldV K H sa told
  given : SqT K H ga []
  steps : StepsV K H va sts
  good : StepsGood sz told sts
  few : sz.length ≤ 60
  zs : ∀ n ∈ sz, n ≤ 1000
  ok : ∀ s ∈ told, SumOk sz s
  short : sts.length ≤ 1000000
theorem PrIn.kp {H H' : Hp} {zv : V} {sa ga va : Addr} {sz : List Nat} {told : Sums} {sts : List Step} (e : Kp H H') (h : PrIn K H zv sa ga va sz told sts) : PrIn K H' zv sa ga va sz told sts :=
  ⟨h.pz.kp e, h.pt.kp e, e.sqT h.given, h.steps.kp e, h.good, h.few, h.zs, h.ok, h.short⟩
def sp_walk_steps (K : PySem.W.Frag) : Sp := fun vs H Q _ => ∃ (zv : V) (sz : List Nat) (sa ga va : Addr) (told : Sums) (sts : List Step), vs = [zv, .ref sa, .ref ga, .ref va] ∧ PrIn K H zv sa ga va sz told sts ∧
  ∀ p l H', Same H H' → SqT K H' p [.ref l, .non] → AheadV K H' l (stepVals sz.length told sts) → Q (.ref p) H'
theorem sc_walk_steps : FnScope ["sizes", "sums", "given", "steps", "found", "number", "step", "one"] ["sizes", "sums", "given", "steps"] (defScope (topS 27)) := ⟨rfl, rfl, rfl, by decide +kernel, rfl, by decide +kernel, by decide +kernel⟩
theorem ok_walk_steps (fr : Free mg) (D : DefAt K mg "walk_steps" (topS 27)) (d_step_sum : OkD P w K mg base 5 "step_sum" ["sizes", "sums", "given", "ahead", "step"] (sp_step_sum K)) : OkD P w K mg base 6 "walk_steps" ["sizes", "sums", "given", "steps"] (sp_walk_steps K) := by
  refine D.ok sc_walk_steps (fun _ _ _ _ _ _ us hl => match us, hl with | [_, _, _, _], _ => rfl) (fun vs H Q E h => ?_) (fun f cdv A outer s H vs Q E hr h => ?_)
  · obtain ⟨zv, sz, sa, ga, va, told, sts, rfl, _⟩ := h; rfl
  · obtain ⟨zv, sz, sa, ga, va, told, sts, rfl, hin, q⟩ := h
    refine ⟨_, (pss_cons (ps_set (i := 4) sc_walk_steps.nd rfl (by first | exact .inl rfl | exact .inr rfl) (pe_lst pa_nil))
 (pss_cons (ps_for PassesOwn.never rfl (pi_enumK (K := K) (by rfl) fr.enumerate (pa_cons (pv 3) pa_nil)) (pg_tupK (K := K) (n := 2) (by rfl) (pgs_cons (pg_name (i := 5) sc_walk_steps.nd rfl (by first | exact .inl rfl | exact .inr rfl)) (pgs_cons (pg_name (i := 6) sc_walk_steps.nd rfl (by first | exact .inl rfl | exact .inr rfl)) pgs_nil))) (pss_cons (ps_set (i := 7) sc_walk_steps.nd rfl (by first | exact .inl rfl | exact .inr rfl) (pe_callD d_step_sum (hr.mono (by decide)) (by rfl) (pa_cons (pv 0) (pa_cons (pv 1) (pa_cons (pv 2) (pa_cons (pv 4) (pa_cons (pv 6) pa_nil)))))))
 (pss_cons (ps_if (pt_cmp (pc_isN (pv 7))) (pss_one (ps_ret (pe_tupF (pa_cons (pv 4) (pa_cons (pv 5) pa_nil))))) pss_nil)
 (pss_one (ps_expr (pe_bm PySem.F.plainAttrs_list PySem.F.slot_list_append PySem.F.type_list_append mt_append (pv 4) (pa_cons (pv 7) pa_nil)))))))
 (pss_one (ps_ret (pe_tupF (pa_cons (pv 4) (pa_cons pe_non pa_nil))))))), ?_⟩
    obtain ⟨xs, hxs, hxa⟩ := id hin.steps
    refine ⟨Nat.zero_le _, fun F hF => ?_⟩
    have s0 := same_new (o := .lst []) hF
    refine ⟨_, rfl, va, false, xs, rfl, (skp s0).sqT hxs, ?_⟩
    refine for_it (walk_enumB (k := false) (xs := xs)) (fun i σ H' => ∃ y5 y6 y7 fs, σ = [some zv, some (.ref sa), some (.ref ga), some (.ref va), some (.ref F), y5, y6, y7] ∧ Same H H' ∧ H' F = some (.lst fs) ∧ A2 (SumV K H') fs ((stepVals sz.length told sts).take i))
      ⟨none, none, none, [], rfl, s0, upd_same, A2.nil⟩ (fun i σ H' _ p => ?_) (fun i x σ H1 H2 hi p y => ?_) (fun σ H' p => ?_)
    · obtain ⟨_, _, _, _, _, s1, _⟩ := p
      exact (skp s1).sqT hxs
    · obtain ⟨y5, y6, y7, fs, rfl, s1, eF, hfs⟩ := p
      obtain ⟨T, x1, x2, rfl, hT, s2, eT, e1, e2⟩ := same_pair y
      cases e1
      obtain ⟨st, est, hst⟩ := hxa.getL e2
      refine ⟨T, _, rfl, .inl (.inl eT), rfl, _, _, rfl, _, _, rfl, rfl, ?_⟩
      have s12 := s1.trans s2
      have hin2 := hin.kp (skp s12)
      have hgst := hin.good.get est
      have hoks : ∀ s ∈ (stepVals sz.length told sts).take i, SumOk sz s := fun s hs => stepVals_ok hin.zs hin.ok hin.good s (List.mem_of_mem_take hs)
      refine ⟨_, rfl, _, rfl, _, rfl, _, rfl, _, rfl, zv, sz, sa, ga, F, told, _, x2, st, rfl, hin2.pz, hin2.pt, hin2.given, ⟨fs, .inl (.inl (s2 _ _ eF)), hfs.mono fun x t h => h.kp (skp s2)⟩, hst.kp (skp s12), hgst, hin.few, hin.zs, hoks, fun x H3 s3 hx => ?_⟩
      have hxn : x ≠ .non := by
        obtain ⟨a, t, rfl, _⟩ := hx
        intro z
        cases z
      have s23 := s2.trans s3
      refine ⟨_, rfl, _, rfl, ?_⟩
      rw [decide_eq_false hxn]
      have hfl : fs.length ≤ 1000000 := by rw [hfs.1, List.length_take, stepVals_len]; have := hin.short; omega
      refine iteF ⟨_, rfl, .inl ⟨rfl, fs, .inl (.inl (s23 _ _ eF))⟩, _, rfl, F, fs, _, rfl, rfl, s23 _ _ eF, sz_lt' (by omega), ?_⟩
      refine ⟨_, _, _, _, rfl, smut (s1.trans s23) hF, upd_same, ?_⟩
      rw [take_snoc (stepVals_get est)]
      have k4 := kp_lst (ys := fs ++ [x]) (s23 _ _ eF)
      exact (hfs.mono fun x t h => h.kp ((skp s23).trans k4)).snoc (hx.kp k4)
    · obtain ⟨y5, y6, y7, fs, rfl, s1, eF, hfs⟩ := p
      rw [List.take_of_length_le (by rw [stepVals_len, hxa.1]; exact Nat.le_refl _)] at hfs
      refine ⟨_, rfl, by rw [sizeLine_eq]; show 2 ≤ _; omega, fun p o hp ho => ?_⟩
      obtain ⟨w1, w2, w3⟩ := frz_new (K := K) (xs := [V.ref F, V.non]) hp ho
      exact q p F _ (s1.trans w1) w2 ⟨fs, .inl (.inl (w1 _ _ eF)), hfs.mono fun x t h => h.kp (skp w1)⟩
def sp_steps_sums (K : PySem.W.Frag) : Sp := fun vs H Q _ => ∃ (zv : V) (sz : List Nat) (sa ga va : Addr) (told : Sums) (sts : List Step), vs = [zv, .ref sa, .ref ga, .ref va] ∧ PrIn K H zv sa ga va sz told sts ∧
  ∀ l H', Same H H' → AheadV K H' l (stepVals sz.length told sts) → Q (.ref l) H'
theorem sc_steps_sums : FnScope ["sizes", "sums", "given", "value", "found", "wrong"] ["sizes", "sums", "given", "value"] (defScope (topS 28)) := ⟨rfl, rfl, rfl, by decide +kernel, rfl, by decide +kernel, by decide +kernel⟩
theorem ok_steps_sums (fr : Free mg) (D : DefAt K mg "steps_sums" (topS 28)) (d_walk_steps : OkD P w K mg base 6 "walk_steps" ["sizes", "sums", "given", "steps"] (sp_walk_steps K)) : OkD P w K mg base 7 "steps_sums" ["sizes", "sums", "given", "value"] (sp_steps_sums K) := by
  refine D.ok sc_steps_sums (fun _ _ _ _ _ _ us hl => match us, hl with | [_, _, _, _], _ => rfl) (fun vs H Q E h => ?_) (fun f cdv A outer s H vs Q E hr h => ?_)
  · obtain ⟨zv, sz, sa, ga, va, told, sts, rfl, _⟩ := h; rfl
  · obtain ⟨zv, sz, sa, ga, va, told, sts, rfl, hin, q⟩ := h
    refine ⟨_, (pss_cons (ps_if (pt_not (pt_val (pe_callB (cr_isTupK (K := K)) (by rfl) fr.isinstance (by decide +kernel) (pa_cons (pv 3) (pa_cons (pe_bltn (v := .ty "tuple") (by rfl) fr.tuple (by decide +kernel) rfl) pa_nil))))) (pss_one (ps_ret pe_non)) pss_nil)
 (pss_cons (ps_asg (pe_callD d_walk_steps (hr.mono (by decide)) (by rfl) (pa_cons (pv 0) (pa_cons (pv 1) (pa_cons (pv 2) (pa_cons (pv 3) pa_nil))))) (pg_tupK (K := K) (n := 2) (by rfl) (pgs_cons (pg_name (i := 4) sc_steps_sums.nd rfl (by first | exact .inl rfl | exact .inr rfl)) (pgs_cons (pg_name (i := 5) sc_steps_sums.nd rfl (by first | exact .inl rfl | exact .inr rfl)) pgs_nil))))
 (pss_one (ps_ret (pe_ifExp (pt_cmp (pc_isN (pv 5))) (pv 4) pe_non))))), ?_⟩
    obtain ⟨xs, hxs, hxa⟩ := id hin.steps
    refine ⟨_, rfl, va, _, rfl, hxs, true, rfl, iteF ?_⟩
    refine ⟨_, rfl, _, rfl, _, rfl, _, rfl, zv, sz, sa, ga, va, told, sts, rfl, hin, fun p l H1 s1 hp hl => ?_⟩
    refine ⟨p, _, rfl, hp, rfl, _, _, rfl, _, _, rfl, rfl, ?_⟩
    refine ⟨_, rfl, _, rfl, ?_⟩
    rw [decide_eq_true rfl]
    exact iteT ⟨_, rfl, q l H1 s1 hl⟩
/-! the checks -/
def sp_check_sums (K : PySem.W.Frag) : Sp := fun vs H Q _ => ∃ (zv : V) (sz : List Nat) (sa : Addr) (xs : List V) (ss : Sums), vs = [zv, .ref sa] ∧ Pur K H zv (dSizes sz) ∧ SqT K H sa xs ∧ A2 (fun v s => Pur K H v (dSum s)) xs ss ∧ (∀ s ∈ ss, SumOk sz s) ∧ ss.length ≤ 1000 ∧ sz.length ≤ 60 ∧ (∀ n ∈ sz, n ≤ 1000) ∧
  ∀ H', Same H H' → Q (.ref sa) H'
theorem sc_check_sums : FnScope ["sizes", "value", "line"] ["sizes", "value"] (defScope (topS 31)) := ⟨rfl, rfl, rfl, by decide +kernel, rfl, by decide +kernel, by decide +kernel⟩
theorem ok_check_sums (fr : Free mg) (D : DefAt K mg "check_sums" (topS 31)) (d_is_sum : OkD P w K mg base 4 "is_sum" ["sizes", "value"] (sp_is_sum K)) : OkD P w K mg base 5 "check_sums" ["sizes", "value"] (sp_check_sums K) := by
  refine D.ok sc_check_sums (fun _ _ _ _ _ _ us hl => match us, hl with | [_, _], _ => rfl) (fun vs H Q E h => ?_) (fun f cdv A outer s H vs Q E hr h => ?_)
  · obtain ⟨zv, sz, sa, xs, ss, rfl, _⟩ := h; rfl
  · obtain ⟨zv, sz, sa, xs, ss, rfl, hsz, hsa, hx, hok, hl, hn, hz, q⟩ := h
    refine ⟨_, (pss_cons (ps_if (PW.pt (pw_or (pt_not (pt_val (pe_callB (cr_isTupK (K := K)) (by rfl) fr.isinstance (by decide +kernel) (pa_cons (pv 1) (pa_cons (pe_bltn (v := .ty "tuple") (by rfl) fr.tuple (by decide +kernel) rfl) pa_nil))))) (pw_or1 (pt_cmpR op_gt (pe_callB (cr_lenK (K := K)) (by rfl) fr.len (by decide +kernel) (pa_cons (pv 1) pa_nil)) (pe_glob (v := .int 40000) (by rfl) fr.ms.choose_spec ⟨_, rfl⟩) (nomark _))))) (pss_one ps_never) pss_nil)
 (pss_cons (ps_for PassesOwn.never rfl (pi_seqK (K := K) (pv 1)) (pg_name (i := 2) sc_check_sums.nd rfl (by first | exact .inl rfl | exact .inr rfl)) (pss_one (ps_if (pt_not (pt_val (pe_callD d_is_sum (hr.mono (by decide)) (by rfl) (pa_cons (pv 0) (pa_cons (pv 2) pa_nil))))) (pss_one ps_never) pss_nil)))
 (pss_one (ps_ret (pv 1))))), ?_⟩
    refine ⟨_, rfl, sa, _, rfl, hsa, true, rfl, iteF ?_⟩
    refine ⟨_, rfl, sa, false, _, rfl, hsa, _, _, rfl, rfl, _, rfl, ?_⟩
    rw [decide_eq_false (by rw [hx.1]; omega)]
    refine iteF ⟨_, rfl, sa, false, rfl, ⟨xs, hsa⟩, ?_⟩
    refine for_it (walk_seq (k := false) (xs := xs)) (fun i σ H' => ∃ y2, σ = [some zv, some (.ref sa), y2] ∧ Same H H') ⟨none, rfl, Same.refl _⟩ (fun i σ H' _ p => (skp p.choose_spec.2).sqT hsa) (fun i x σ H1 H2 hi p y => ?_) (fun σ H' p => ?_)
    · obtain ⟨y2, rfl, s1⟩ := p
      obtain ⟨rfl, ex⟩ := y
      obtain ⟨s, es, hs⟩ := hx.getL ex
      have ho := hok s (List.mem_of_getElem? es)
      exact ⟨_, rfl, _, rfl, zv, x, sz, s, rfl, hsz.kp (skp s1), hs.kp (skp s1), ho, Nat.le_trans ho.1.len (by omega), hz, fun H3 s3 => ⟨true, rfl, iteF ⟨_, rfl, s1.trans s3⟩⟩⟩
    · obtain ⟨y2, rfl, s1⟩ := p
      exact ⟨_, rfl, q _ s1⟩
theorem sc_is_pair : FnScope ["sizes", "value"] ["sizes", "value"] (defScope (topS 32)) := ⟨rfl, rfl, rfl, by decide +kernel, rfl, by decide +kernel, by decide +kernel⟩
theorem ok_is_pair (D : DefAt K mg "is_pair" (topS 32)) : OkD P w K mg base 1 "is_pair" ["sizes", "value"] (fun _ _ _ _ => False) :=
  D.ok sc_is_pair (fun _ _ _ _ _ _ us hl => match us, hl with | [_, _], _ => rfl) (fun vs H Q E h => h.elim) (fun f cdv A outer s H vs Q E hr h => h.elim)
def sp_check_fixed (K : PySem.W.Frag) : Sp := fun vs H Q _ => ∃ (zv : V) (fa : Addr), vs = [zv, .ref fa] ∧ SqT K H fa [] ∧ ∀ H', Same H H' → Q (.ref fa) H'
theorem sc_check_fixed : FnScope ["sizes", "value", "pair", "near", "far"] ["sizes", "value"] (defScope (topS 33)) := ⟨rfl, rfl, rfl, by decide +kernel, rfl, by decide +kernel, by decide +kernel⟩
theorem ok_check_fixed (fr : Free mg) (D : DefAt K mg "check_fixed" (topS 33)) (d_is_pair : OkD P w K mg base 1 "is_pair" ["sizes", "value"] (fun _ _ _ _ => False)) : OkD P w K mg base 2 "check_fixed" ["sizes", "value"] (sp_check_fixed K) := by
  refine D.ok sc_check_fixed (fun _ _ _ _ _ _ us hl => match us, hl with | [_, _], _ => rfl) (fun vs H Q E h => ?_) (fun f cdv A outer s H vs Q E hr h => ?_)
  · obtain ⟨zv, fa, rfl, _⟩ := h; rfl
  · obtain ⟨zv, fa, rfl, hf, q⟩ := h
    refine ⟨_, (pss_cons (ps_if (PW.pt (pw_or (pt_not (pt_val (pe_callB (cr_isTupK (K := K)) (by rfl) fr.isinstance (by decide +kernel) (pa_cons (pv 1) (pa_cons (pe_bltn (v := .ty "tuple") (by rfl) fr.tuple (by decide +kernel) rfl) pa_nil))))) (pw_or1 (pt_cmpR op_gt (pe_callB (cr_lenK (K := K)) (by rfl) fr.len (by decide +kernel) (pa_cons (pe_lc (own := [("pair", 2)]) rfl sc_check_fixed.nd (pi_seqK (K := K) (pv 1)) (blkOk_by (by kernel_rfl)) (fun _ _ _ _ _ => (pg_name (i := 2) sc_check_fixed.nd rfl (by first | exact .inl rfl | exact .inr rfl))) (fun _ _ _ _ _ => (pts_one (pt_not (pt_val (pe_callD d_is_pair (hr.mono (by decide)) (by rfl) (pa_cons (pv 0) (pa_cons (pv 2) pa_nil))))))) (fun _ _ _ _ _ => pe_int)) pa_nil)) pe_int (nomark _))))) (pss_one ps_never) pss_nil)
 (pss_cons (ps_if (pt_cmpR op_gt (pe_callB (cr_lenK (K := K)) (by rfl) fr.len (by decide +kernel) (pa_cons (pe_lc (own := [("near", 3), ("far", 4)]) rfl sc_check_fixed.nd (pi_zipK (K := K) (by rfl) fr.zip (pa_cons (pv 1) (pa_cons (pe_slice (sl_G (K := K)) (pv 1) (po_some pe_int) po_none) pa_nil))) (blkOk_by (by kernel_rfl)) (fun _ _ _ _ _ => (pg_tupK (K := K) (n := 2) (by rfl) (pgs_cons (pg_name (i := 3) sc_check_fixed.nd rfl (by first | exact .inl rfl | exact .inr rfl)) (pgs_cons (pg_name (i := 4) sc_check_fixed.nd rfl (by first | exact .inl rfl | exact .inr rfl)) pgs_nil)))) (fun _ _ _ _ _ => (pts_one (pt_cmpR op_ge (pe_ix (ix_tupK (K := K)) (pv 3) pe_int (fun _ _ => rfl)) (pe_ix (ix_tupK (K := K)) (pv 4) pe_int (fun _ _ => rfl)) (nomark _)))) (fun _ _ _ _ _ => pe_int)) pa_nil)) pe_int (nomark _)) (pss_one ps_never) pss_nil)
 (pss_one (ps_ret (pv 1))))), ?_⟩
    refine ⟨_, rfl, fa, _, rfl, hf, true, rfl, iteF ?_⟩
    refine ⟨_, rfl, fa, false, rfl, ⟨_, hf⟩, fun D hD => ?_⟩
    refine lc_gen (walk_seq (k := false) (xs := [])) (Nat.zero_le _) hD (fun H' s => sq_same (k := false) s hf) (fun _ acc _ => acc = []) (fun _ _ _ _ _ p => p) (fun _ => rfl) (fun i x H1 H2 acc C N hi s p y cC cN => absurd hi (Nat.not_lt_zero _)) (fun acc H1 s1 e l p => ?_)
    subst p
    refine ⟨D, true, [], rfl, .inl (.inl e), _, _, rfl, rfl, false, rfl, iteF ?_⟩
    have hf1 := (skp s1).sqT hf
    refine ⟨_, rfl, _, rfl, 1, rfl, fa, [], rfl, hf1, fun p H2 s2 hp2 => ?_⟩
    refine ⟨fa, p, false, false, [], _, rfl, (skp s2).sqT hf1, hp2, fun D2 hD2 => ?_⟩
    refine lc_gen (walk_zipB rfl) (by rw [List.length_nil, Nat.zero_min]; exact Nat.zero_le _) hD2 (fun H' s => ⟨sq_same (k := false) s ((skp s2).sqT hf1), sq_same (k := false) s hp2⟩) (fun _ acc _ => acc = []) (fun _ _ _ _ _ p => p) (fun _ => rfl) (fun i x H3 H4 acc C N hi s p y cC cN => absurd hi (by rw [List.length_nil, Nat.zero_min]; exact Nat.not_lt_zero _)) (fun acc H3 s3 e3 l3 p3 => ?_)
    subst p3
    exact ⟨D2, true, [], rfl, .inl (.inl e3), _, _, rfl, rfl, false, rfl, iteF ⟨_, rfl, q _ ((s1.trans s2).trans s3)⟩⟩
def sp_check_problem (K : PySem.W.Frag) : Sp := fun vs H Q _ => ∃ (zv : V) (sz : List Nat) (sa fa : Addr) (xs : List V) (ss : Sums), vs = [zv, .ref sa, .ref fa] ∧ Pur K H zv (dSizes sz) ∧ SizesOk sz ∧ SqT K H sa xs ∧ A2 (fun v s => Pur K H v (dSum s)) xs ss ∧ (∀ s ∈ ss, SumOk sz s) ∧ ss.length ≤ 1000 ∧ sz.length ≤ 60 ∧ SqT K H fa [] ∧
  ∀ H', Same H H' → Q .non H'
theorem sc_check_problem : FnScope ["sizes", "sums", "fixed"] ["sizes", "sums", "fixed"] (defScope (topS 34)) := ⟨rfl, rfl, rfl, by decide +kernel, rfl, by decide +kernel, by decide +kernel⟩
theorem ok_check_problem (fr : Free mg) (D : DefAt K mg "check_problem" (topS 34)) (d_check_sizes : OkD P w K mg base 3 "check_sizes" ["value"] (sp_check_sizes K)) (d_check_sums : OkD P w K mg base 5 "check_sums" ["sizes", "value"] (sp_check_sums K))
    (d_check_fixed : OkD P w K mg base 2 "check_fixed" ["sizes", "value"] (sp_check_fixed K)) : OkD P w K mg base 6 "check_problem" ["sizes", "sums", "fixed"] (sp_check_problem K) := by
  refine D.ok sc_check_problem (fun _ _ _ _ _ _ us hl => match us, hl with | [_, _, _], _ => rfl) (fun vs H Q E h => ?_) (fun f cdv A outer s H vs Q E hr h => ?_)
  · obtain ⟨zv, sz, sa, fa, xs, ss, rfl, _⟩ := h; rfl
  · obtain ⟨zv, sz, sa, fa, xs, ss, rfl, hsz, hso, hsa, hx, hok, hl, hn, hf, q⟩ := h
    refine ⟨_, (pss_cons (ps_expr (pe_callD d_check_sizes (hr.mono (by decide)) (by rfl) (pa_cons (pv 0) pa_nil)))
 (pss_cons (ps_expr (pe_callD d_check_sums (hr.mono (by decide)) (by rfl) (pa_cons (pv 0) (pa_cons (pv 1) pa_nil))))
 (pss_one (ps_expr (pe_callD d_check_fixed (hr.mono (by decide)) (by rfl) (pa_cons (pv 0) (pa_cons (pv 2) pa_nil))))))), ?_⟩
    have hz : ∀ n ∈ sz, n ≤ 1000 := fun n h => by have := hso.2 n h; omega
    refine ⟨_, rfl, zv, sz, rfl, hsz, hso, fun H1 s1 => ?_⟩
    refine ⟨_, rfl, _, rfl, zv, sz, sa, xs, ss, rfl, hsz.kp (skp s1), (skp s1).sqT hsa, hx.mono fun v s h => h.kp (skp s1), hok, hl, hn, hz, fun H2 s2 => ?_⟩
    exact ⟨_, rfl, _, rfl, zv, fa, rfl, (skp (s1.trans s2)).sqT hf, fun H3 s3 => q _ ((s1.trans s2).trans s3)⟩
end
end Bh
namespace Bh
/-! ### sets of values as bits -/
def vals (b : Nat) : List Nat := (List.range 4).filter fun v => b.testBit v
def orBits (vs : List Nat) : Nat := vs.foldl (fun a v => a ||| 2 ^ v) 0
def aboveB (w : List Int) (low : Int) : Nat := orBits ((List.range w.length).filter fun v => decide (low < w.getD v 0))
def topB (w : List Int) (b : Nat) : Int := lmax ((vals b).map fun v => w.getD v 0)
theorem testBit_orBits (vs : List Nat) (v : Nat) : (orBits vs).testBit v = decide (v ∈ vs) := by
  unfold orBits
  have h : ∀ (l : List Nat) (a : Nat), (l.foldl (fun a v => a ||| 2 ^ v) a).testBit v = (a.testBit v || decide (v ∈ l)) := fun l => by
    induction l with
    | nil => intro a; simp
    | cons x r ih =>
      intro a
      rw [List.foldl_cons, ih, Nat.testBit_or, Nat.testBit_two_pow]
      by_cases hx : x = v
      · subst hx; simp
      · have : ¬ v = x := fun z => hx z.symm
        simp [hx, this]
  rw [h, Nat.zero_testBit, Bool.false_or]
theorem orBits_lt {vs : List Nat} {n : Nat} (h : ∀ v ∈ vs, v < n) : orBits vs < 2 ^ n := by
  refine Nat.lt_pow_two_of_testBit _ fun i hi => ?_
  rw [testBit_orBits]
  exact decide_eq_false fun z => by have := h i z; omega
theorem testBit_above (w : List Int) (low : Int) (v : Nat) : (aboveB w low).testBit v = (decide (v < w.length) && decide (low < w.getD v 0)) := by
  unfold aboveB
  rw [testBit_orBits]
  by_cases h1 : v < w.length <;> by_cases h2 : low < w.getD v 0 <;> simp [List.mem_filter, List.mem_range, h1, h2]
theorem above_lt (w : List Int) (low : Int) : aboveB w low < 2 ^ w.length := by
  unfold aboveB
  exact orBits_lt fun v hv => List.mem_range.mp (List.mem_filter.mp hv).1
theorem lt16 {n b : Nat} (hn : n ≤ 4) (h : b < 2 ^ n) : b < 16 := Nat.lt_of_lt_of_le h (Nat.pow_le_pow_right (by decide) hn)
theorem mem_vals {b v : Nat} : v ∈ vals b ↔ v < 4 ∧ b.testBit v = true := by
  unfold vals
  rw [List.mem_filter, List.mem_range]
theorem mem_valsN {n b v : Nat} (hn : n ≤ 4) (h : b < 2 ^ n) : v ∈ vals b ↔ b.testBit v = true := by
  rw [mem_vals]
  refine ⟨fun z => z.2, fun z => ⟨?_, z⟩⟩
  have := Nat.ge_two_pow_of_testBit z
  have h16 := lt16 hn h
  by_cases hv : v < 4
  · exact hv
  · have : 2 ^ 4 ≤ 2 ^ v := Nat.pow_le_pow_right (by decide) (by omega)
    omega
theorem bit_lt {n b v : Nat} (h : b < 2 ^ n) (hv : b.testBit v = true) : v < n := by
  by_cases hh : v < n
  · exact hh
  · have := Nat.ge_two_pow_of_testBit hv
    have : 2 ^ n ≤ 2 ^ v := Nat.pow_le_pow_right (by decide) (by omega)
    omega
theorem vals_ne {b : Nat} (h : b < 16) (h0 : b ≠ 0) : vals b ≠ [] := by
  have : ∀ b < 16, b ≠ 0 → vals b ≠ [] := by decide
  exact this b h h0
theorem vals_len (b : Nat) : (vals b).length ≤ 4 := by
  unfold vals
  exact Nat.le_trans (List.length_filter_le _ _) (by rw [List.length_range]; exact Nat.le_refl _)
theorem vals_sorted (b : Nat) : (vals b).Pairwise (· < ·) := List.Pairwise.filter _ List.pairwise_lt_range
end Bh
namespace Bh
open PySem PySem.Spec PyProof.Rows L2
theorem int_or16 : ∀ a < 16, ∀ v < 4, Builtin.bitOr ((a : Nat) : Int) (1 * 2 ^ ((v : Nat) : Int).toNat) = ((a ||| 2 ^ v : Nat) : Int) := by decide +kernel
theorem int_and16 : ∀ a < 16, ∀ b < 16, Builtin.bitAnd ((a : Nat) : Int) ((b : Nat) : Int) = ((a &&& b : Nat) : Int) := by decide +kernel
theorem int_oror16 : ∀ a < 16, ∀ b < 16, Builtin.bitOr ((a : Nat) : Int) ((b : Nat) : Int) = ((a ||| b : Nat) : Int) := by decide +kernel
def natsV (ns : List Nat) : List V := ns.map fun (n : Nat) => V.int (n : Int)
theorem natsV_len (ns : List Nat) : (natsV ns).length = ns.length := List.length_map _
theorem natsV_get {ns : List Nat} {i n : Nat} (h : ns[i]? = some n) : (natsV ns)[i]? = some (.int (n : Nat)) := by unfold natsV; rw [List.getElem?_map, h]; rfl
theorem natsV_inv {ns : List Nat} {i : Nat} {x : V} (h : (natsV ns)[i]? = some x) : ∃ n, ns[i]? = some n ∧ x = .int (n : Nat) := by
  unfold natsV at h
  rw [List.getElem?_map] at h
  obtain ⟨n, e, rfl⟩ := Option.map_eq_some_iff.mp h
  exact ⟨n, e, rfl⟩
theorem natsV_ints (ns : List Nat) : natsV ns = (ns.map fun (n : Nat) => (n : Int)).map V.int := by unfold natsV; rw [List.map_map]; rfl
theorem natsV_app (a b : List Nat) : natsV (a ++ b) = natsV a ++ natsV b := by unfold natsV; rw [List.map_append]
section
variable {P : Program} {w : World} {K : PySem.W.Frag} {mg : Str → Option Value} {base : Heap}
def sp_values_of (K : PySem.W.Frag) : Sp := fun vs H Q _ => ∃ b : Nat, vs = [.int (b : Nat)] ∧ b < 16 ∧ ∀ p H', Same H H' → SqT K H' p (natsV (vals b)) → PlT K H' p → Q (.ref p) H'
theorem sc_values_of : FnScope ["bits", "found", "value"] ["bits"] (defScope (topS 35)) := ⟨rfl, rfl, rfl, by decide +kernel, rfl, by decide +kernel, by decide +kernel⟩
theorem bit_step : ∀ b < 16, ∀ v < 4, (((b / 2 ^ v : Nat) : Int).fmod 2 = 1 ↔ b.testBit v = true) := by decide +kernel
theorem half_step : ∀ b < 16, ∀ v < 4, ((b / 2 ^ v : Nat) : Int).fdiv 2 = ((b / 2 ^ (v + 1) : Nat) : Int) := by decide +kernel
theorem half_zero : ∀ b < 16, b / 2 ^ 4 = 0 := by decide
theorem vals_zero : ∀ b < 16, ∀ v < 5, b / 2 ^ v = 0 → (List.range v).filter (fun u => b.testBit u) = vals b := by decide
theorem ok_values_of (fr : Free mg) (D : DefAt K mg "values_of" (topS 35)) : OkD P w K mg base 1 "values_of" ["bits"] (sp_values_of K) := by
  refine D.ok sc_values_of (fun _ _ _ _ _ _ us hl => match us, hl with | [_], _ => rfl) (fun vs H Q E h => ?_) (fun f cdv A outer s H vs Q E hr h => ?_)
  · obtain ⟨b, rfl, _⟩ := h; rfl
  · obtain ⟨b, rfl, hb, q⟩ := h
    refine ⟨_, (pss_cons (ps_par (i := 1) (j := 2) (by rfl) sc_values_of.nd rfl rfl (by decide) rfl rfl (pa_cons (pe_lst pa_nil) (pa_cons pe_int pa_nil)) (by rfl))
 (pss_cons (ps_while PassesOwn.never (pt_cmpR op_gt (pv 0) pe_int (nomark _)) (pss_cons (ps_if (pt_cmpR op_eq (pe_op op_modN (pv 0) pe_int) pe_int (nomark _)) (pss_one (ps_expr (pe_bm PySem.F.plainAttrs_list PySem.F.slot_list_append PySem.F.type_list_append mt_append (pv 1) (pa_cons (pv 2) pa_nil)))) pss_nil)
 (pss_one (ps_par (i := 0) (j := 2) (by rfl) sc_values_of.nd rfl rfl (by decide) rfl rfl (pa_cons (pe_op op_fdivN (pv 0) pe_int) (pa_cons (pe_op op_add (pv 2) pe_int) pa_nil)) (by rfl)))))
 (pss_one (ps_ret (pe_callTy (cr_tupK (K := K)) (by rfl) fr.tuple (by decide +kernel) (pa_cons (pv 1) pa_nil)))))), ?_⟩
    refine ⟨Nat.zero_le _, fun F hF => ⟨_, _, rfl, ?_⟩⟩
    refine ⟨fun m σ H' => ∃ v, v ≤ 4 ∧ m = 4 - v ∧ σ = [some (.int ((b / 2 ^ v : Nat) : Int)), some (.ref F), some (.int (v : Nat))] ∧ Same H H' ∧ H' F = some (.lst (natsV ((List.range v).filter fun u => b.testBit u))), ⟨4, 0, by omega, rfl, by rw [Nat.pow_zero, Nat.div_one]; rfl, same_new hF, upd_same⟩, fun m σ H' p => ?_⟩
    obtain ⟨v, hv, rfl, rfl, s1, eF⟩ := p
    refine ⟨_, rfl, _, _, rfl, rfl, _, rfl, ?_⟩
    by_cases h0 : b / 2 ^ v = 0
    · rw [decide_eq_false (by omega)]
      refine iteF ⟨_, rfl, F, true, _, rfl, .inl (.inl eF), fun _ l o hl ho => ?_, fun z => nomatch z⟩
      obtain ⟨u1, u2, u3⟩ := frz_new (K := K) (xs := natsV ((List.range v).filter fun u => b.testBit u)) hl ho
      rw [vals_zero b hb v (by omega) h0] at u1 u2 u3 ⊢
      exact q _ _ (s1.trans u1) u2 u3
    · have hpos : (0 : Int) < ((b / 2 ^ v : Nat) : Int) := Int.ofNat_lt.mpr (Nat.pos_of_ne_zero h0)
      have hv4 : v < 4 := by
        rcases Nat.lt_or_ge v 4 with h | h
        · exact h
        · have : v = 4 := by omega
          subst this
          exact absurd (half_zero b hb) h0
      rw [decide_eq_true hpos]
      refine iteT ⟨fun σ' H2 => ∃ m', m' < 4 - v ∧ ∃ v, v ≤ 4 ∧ m' = 4 - v ∧ σ' = [some (.int ((b / 2 ^ v : Nat) : Int)), some (.ref F), some (.int (v : Nat))] ∧ Same H H2 ∧ H2 F = some (.lst (natsV ((List.range v).filter fun u => b.testBit u))), fun σ' H2 h => h, ?_⟩
      refine ⟨_, rfl, _, _, rfl, rfl, (by show (2 : Int) ≠ 0; decide), rfl, _, rfl, ?_⟩
      have hstep := bit_step b hb v hv4
      have hhalf := half_step b hb v hv4
      have nxt : ∀ H2, Same H H2 → H2 F = some (.lst (natsV ((List.range (v + 1)).filter fun u => b.testBit u))) → ∃ m', m' < 4 - v ∧ ∃ v', v' ≤ 4 ∧ m' = 4 - v' ∧ [some (V.int (((b / 2 ^ v : Nat) : Int).fdiv 2)), some (V.ref F), some (V.int ((v : Nat) + 1))] = [some (.int ((b / 2 ^ v' : Nat) : Int)), some (.ref F), some (.int (v' : Nat))] ∧ Same H H2 ∧ H2 F = some (.lst (natsV ((List.range v').filter fun u => b.testBit u))) := fun H2 h1 h2 => ⟨4 - (v + 1), by omega, v + 1, by omega, rfl, by rw [hhalf]; rfl, h1, h2⟩
      by_cases hb2 : b.testBit v = true
      · rw [decide_eq_true (show V.int (Int.fmod _ 2) = V.int 1 by rw [hstep.mpr hb2])]
        refine iteT ⟨_, rfl, .inl ⟨rfl, _, .inl (.inl eF)⟩, _, rfl, F, _, _, rfl, rfl, eF, sz_lt' (by rw [natsV_len]; exact Nat.lt_of_le_of_lt (List.length_filter_le _ _) (by rw [List.length_range]; omega)), ?_⟩
        refine ⟨_, rfl, _, _, rfl, rfl, ⟨by decide, by decide⟩, _, rfl, _, _, rfl, rfl, _, _, rfl, nxt _ (smut s1 hF) ?_⟩
        rw [upd_same, List.range_succ, List.filter_append, natsV_app]
        simp [hb2, natsV]
      · rw [decide_eq_false (fun z => hb2 (hstep.mp (V.int.inj z)))]
        refine iteF ⟨_, rfl, _, _, rfl, rfl, ⟨by decide, by decide⟩, _, rfl, _, _, rfl, rfl, _, _, rfl, nxt _ s1 ?_⟩
        rw [eF, List.range_succ, List.filter_append, natsV_app]
        simp [hb2, natsV]
def sp_bits_of (K : PySem.W.Frag) : Sp := fun vs H Q _ => ∃ (a : Addr) (k : Bool) (ns : List Nat), vs = [.ref a] ∧ Sq K k H a (natsV ns) ∧ (∀ v ∈ ns, v < 4) ∧ ∀ H', Same H H' → Q (.int ((orBits ns : Nat) : Int)) H'
theorem sc_bits_of : FnScope ["values", "found", "value"] ["values"] (defScope (topS 36)) := ⟨rfl, rfl, rfl, by decide +kernel, rfl, by decide +kernel, by decide +kernel⟩
theorem ok_bits_of (fr : Free mg) (D : DefAt K mg "bits_of" (topS 36)) : OkD P w K mg base 1 "bits_of" ["values"] (sp_bits_of K) := by
  refine D.ok sc_bits_of (fun _ _ _ _ _ _ us hl => match us, hl with | [_], _ => rfl) (fun vs H Q E h => ?_) (fun f cdv A outer s H vs Q E hr h => ?_)
  · obtain ⟨a, k, ns, rfl, _⟩ := h; rfl
  · obtain ⟨a, k, ns, rfl, ha, hns, q⟩ := h
    refine ⟨_, (pss_cons (ps_set (i := 1) sc_bits_of.nd rfl (by first | exact .inl rfl | exact .inr rfl) pe_int)
 (pss_cons (ps_for PassesOwn.never rfl (pi_seqK (K := K) (pv 0)) (pg_name (i := 2) sc_bits_of.nd rfl (by first | exact .inl rfl | exact .inr rfl)) (pss_one (ps_aug (i := 1) sc_bits_of.nd rfl (by first | exact .inl rfl | exact .inr rfl) (pe_op op_shl pe_int (pv 2)) ip_or)))
 (pss_one (ps_ret (pv 1))))), ?_⟩
    refine ⟨_, rfl, a, k, rfl, ⟨_, ha⟩, ?_⟩
    refine for_it (walk_seq (k := k) (xs := natsV ns)) (fun i σ H' => H' = H ∧ ∃ y2, σ = [some (.ref a), some (.int ((orBits (ns.take i) : Nat) : Int)), y2]) ⟨rfl, none, rfl⟩ (fun i σ H' _ p => p.1 ▸ ha) (fun i x σ H1 H2 hi p y => ?_) (fun σ H' p => ?_)
    · obtain ⟨rfl, y2, rfl⟩ := p
      obtain ⟨rfl, ex⟩ := y
      obtain ⟨n, en, rfl⟩ := natsV_inv ex
      have hn4 := hns n (List.mem_of_getElem? en)
      have hlt : orBits (ns.take i) < 16 := orBits_lt (n := 4) fun v hv => hns v (List.mem_of_mem_take hv)
      refine ⟨_, rfl, _, rfl, _, _, rfl, rfl, ⟨by omega, by omega, by decide⟩, _, _, rfl, rfl, rfl, some (.int (n : Nat)), ?_⟩
      show [some (V.ref a), some (V.int (Builtin.bitOr _ _)), some (V.int (n : Nat))] = _
      rw [int_or16 _ hlt n hn4, take_snoc en]
      unfold orBits
      rw [List.foldl_append]
      rfl
    · obtain ⟨rfl, y2, rfl⟩ := p
      rw [natsV_len, List.take_length]
      exact ⟨_, rfl, q _ (Same.refl _)⟩
def sp_bits_above (K : PySem.W.Frag) : Sp := fun vs H Q _ => ∃ (a : Addr) (k : Bool) (w : List Int) (low : Int), vs = [.ref a, .int low] ∧ Sq K k H a (w.map V.int) ∧ w.length ≤ 4 ∧ ∀ H', Same H H' → Q (.int ((aboveB w low : Nat) : Int)) H'
theorem sc_bits_above : FnScope ["weights", "low", "value", "weight"] ["weights", "low"] (defScope (topS 37)) := ⟨rfl, rfl, rfl, by decide +kernel, rfl, by decide +kernel, by decide +kernel⟩
theorem ok_bits_above (fr : Free mg) (D : DefAt K mg "bits_above" (topS 37)) (d_bits_of : OkD P w K mg base 1 "bits_of" ["values"] (sp_bits_of K)) : OkD P w K mg base 2 "bits_above" ["weights", "low"] (sp_bits_above K) := by
  refine D.ok sc_bits_above (fun _ _ _ _ _ _ us hl => match us, hl with | [_, _], _ => rfl) (fun vs H Q E h => ?_) (fun f cdv A outer s H vs Q E hr h => ?_)
  · obtain ⟨a, k, wt, low, rfl, _⟩ := h; rfl
  · obtain ⟨a, k, wt, low, rfl, ha, hl, q⟩ := h
    refine ⟨_, (pss_one (ps_ret (pe_callD d_bits_of (hr.mono (by decide)) (by rfl) (pa_cons (pe_lc (own := [("value", 2), ("weight", 3)]) rfl sc_bits_above.nd (pi_enumK (K := K) (by rfl) fr.enumerate (pa_cons (pv 0) pa_nil)) (blkOk_by (by kernel_rfl)) (fun _ _ _ _ _ => (pg_tupK (K := K) (n := 2) (by rfl) (pgs_cons (pg_name (i := 2) sc_bits_above.nd rfl (by first | exact .inl rfl | exact .inr rfl)) (pgs_cons (pg_name (i := 3) sc_bits_above.nd rfl (by first | exact .inl rfl | exact .inr rfl)) pgs_nil)))) (fun _ _ _ _ _ => (pts_one (pt_cmpR op_gt (pv 3) (pv 1) (nomark _)))) (fun _ _ _ _ _ => (pv 2))) pa_nil)))), ?_⟩
    refine ⟨_, rfl, a, k, _, rfl, ha, fun D hD => ?_⟩
    refine lc_gen (walk_enumB (k := k) (xs := wt.map V.int)) (by rw [List.length_map]; omega) hD (fun H' s => sq_same s ha) (fun i acc _ => acc = natsV ((List.range i).filter fun v => decide (low < wt.getD v 0))) (fun _ _ _ _ _ p => p) (fun _ => rfl) (fun i x H1 H2 acc C N hi s p y cC cN => ?_) (fun acc H1 s1 e l p => ?_)
    · obtain ⟨T, x1, x2, rfl, hT, s2, eT, e1, e2⟩ := same_pair y
      cases e1
      rw [List.getElem?_map] at e2
      obtain ⟨z, ez, rfl⟩ := Option.map_eq_some_iff.mp e2
      have eg : wt.getD i 0 = z := by rw [List.getD_eq_getElem?_getD, ez]; rfl
      refine ⟨T, _, rfl, .inl (.inl eT), rfl, _, _, rfl, _, _, rfl, rfl, rfl, ?_⟩
      refine ⟨_, rfl, _, rfl, _, _, rfl, rfl, _, rfl, ?_⟩
      by_cases hz : low < z
      · rw [decide_eq_true hz]
        refine iteT ⟨_, rfl, cC _ _ s2 ?_⟩
        rw [p, List.range_succ, List.filter_append, natsV_app, List.filter_cons, eg, if_pos (decide_eq_true hz), List.filter_nil]
        rfl
      · rw [decide_eq_false hz]
        refine iteF (cN _ s2 ?_)
        rw [p, List.range_succ, List.filter_append, natsV_app, List.filter_cons, eg, if_neg (fun z => hz (of_decide_eq_true z)), List.filter_nil]
        exact (List.append_nil _).symm
    · rw [List.length_map] at p
      subst p
      exact ⟨D, true, _, rfl, .inl (.inl e), fun v hv => by have := List.mem_range.mp (List.mem_filter.mp hv).1; omega, fun H3 s3 => q _ (s1.trans s3)⟩
def sp_top_of (K : PySem.W.Frag) : Sp := fun vs H Q _ => ∃ (a : Addr) (w : List Int) (b : Nat), vs = [.ref a, .int (b : Nat)] ∧ SqT K H a (w.map V.int) ∧ w.length ≤ 4 ∧ b < 2 ^ w.length ∧ b ≠ 0 ∧ ∀ H', Same H H' → Q (.int (topB w b)) H'
theorem sc_top_of : FnScope ["weights", "bits", "value"] ["weights", "bits"] (defScope (topS 38)) := ⟨rfl, rfl, rfl, by decide +kernel, rfl, by decide +kernel, by decide +kernel⟩
theorem ok_top_of (fr : Free mg) (D : DefAt K mg "top_of" (topS 38)) (d_values_of : OkD P w K mg base 1 "values_of" ["bits"] (sp_values_of K)) : OkD P w K mg base 2 "top_of" ["weights", "bits"] (sp_top_of K) := by
  refine D.ok sc_top_of (fun _ _ _ _ _ _ us hl => match us, hl with | [_, _], _ => rfl) (fun vs H Q E h => ?_) (fun f cdv A outer s H vs Q E hr h => ?_)
  · obtain ⟨a, w, b, rfl, _⟩ := h; rfl
  · obtain ⟨a, wt, b, rfl, ha, hl, hb, h0, q⟩ := h
    refine ⟨_, (pss_one (ps_ret (pe_callB (cr_maxK (K := K) rfl (hu_of hr)) (by rfl) fr.max (by decide +kernel) (pa_cons (pe_lc (own := [("value", 2)]) rfl sc_top_of.nd (pi_seqK (K := K) (pe_callD d_values_of (hr.mono (by decide)) (by rfl) (pa_cons (pv 1) pa_nil))) (blkOk_by (by kernel_rfl)) (fun _ _ _ _ _ => (pg_name (i := 2) sc_top_of.nd rfl (by first | exact .inl rfl | exact .inr rfl))) (fun _ _ _ _ _ => pts_nil) (fun _ _ _ _ _ => (pe_ix (ix_tupK (K := K)) (pv 0) (pv 2) (fun _ _ => rfl)))) pa_nil)))), ?_⟩
    have hb16 := lt16 hl hb
    refine ⟨_, rfl, b, rfl, hb16, fun p H1 s1 hp _ => ?_⟩
    refine ⟨p, false, rfl, ⟨_, hp⟩, fun D hD => ?_⟩
    have hvl := vals_len b
    refine lc_gen (walk_seq (k := false) (xs := natsV (vals b))) (by rw [natsV_len]; omega) hD (fun H' s => sq_same (k := false) s hp) (fun i acc _ => acc = (((vals b).map fun v => wt.getD v 0).take i).map V.int) (fun _ _ _ _ _ p => p) (fun _ => rfl) (fun i x H2 H3 acc C N hi s p y cC cN => ?_) (fun acc H2 s2 e l p => ?_)
    · obtain ⟨rfl, ex⟩ := y
      obtain ⟨v, ev, rfl⟩ := natsV_inv ex
      have hv := bit_lt hb (mem_vals.mp (List.mem_of_getElem? ev)).2
      have ew : wt[v]? = some (wt.getD v 0) := by rw [List.getD_eq_getElem?_getD, List.getElem?_eq_getElem hv]; rfl
      refine ⟨rfl, yesT ⟨_, rfl, _, rfl, a, _, _, .int (wt.getD v 0), rfl, rfl, (skp (s1.trans s)).sqT ha, atI_nat (by rw [List.getElem?_map, ew]; rfl), cC _ _ (Same.refl _) ?_⟩⟩
      rw [take_snoc (show ((vals b).map fun v => wt.getD v 0)[i]? = some (wt.getD v 0) by rw [List.getElem?_map, ev]; rfl), List.map_append, p]
      rfl
    · rw [natsV_len, show (vals b).length = ((vals b).map fun v => wt.getD v 0).length from (List.length_map _).symm, List.take_length] at p
      subst p
      exact ⟨D, true, _, rfl, .inl (.inl e), (fun z => vals_ne hb16 h0 (List.map_eq_nil_iff.mp z)), q _ (s1.trans s2)⟩
def fulls (sz : List Nat) : List Nat := sz.map fun n => 2 ^ n - 1
theorem full_int (n : Nat) : (1 : Int) * 2 ^ ((n : Nat) : Int).toNat - 1 = ((2 ^ n - 1 : Nat) : Int) := by
  have h : 1 ≤ 2 ^ n := Nat.one_le_two_pow
  rw [Int.toNat_natCast, Int.one_mul, Int.ofNat_sub h]
  push_cast
  rfl
def sp_first_sets (K : PySem.W.Frag) : Sp := fun vs H Q _ => ∃ (zv : V) (sz : List Nat) (fa : Addr), vs = [zv, .ref fa] ∧ Pur K H zv (dSizes sz) ∧ SqT K H fa [] ∧ sz.length ≤ 1000 ∧ (∀ n ∈ sz, n ≤ 1000) ∧ ∀ F H', Same H H' → H F = none → H' F = some (.lst (natsV (fulls sz))) → Q (.ref F) H'
theorem sc_first_sets : FnScope ["sizes", "fixed", "found", "size", "choice", "values"] ["sizes", "fixed"] (defScope (topS 39)) := ⟨rfl, rfl, rfl, by decide +kernel, rfl, by decide +kernel, by decide +kernel⟩
theorem ok_first_sets (fr : Free mg) (D : DefAt K mg "first_sets" (topS 39)) (d_bits_of : OkD P w K mg base 1 "bits_of" ["values"] (sp_bits_of K)) : OkD P w K mg base 2 "first_sets" ["sizes", "fixed"] (sp_first_sets K) := by
  refine D.ok sc_first_sets (fun _ _ _ _ _ _ us hl => match us, hl with | [_, _], _ => rfl) (fun vs H Q E h => ?_) (fun f cdv A outer s H vs Q E hr h => ?_)
  · obtain ⟨zv, sz, fa, rfl, _⟩ := h; rfl
  · obtain ⟨zv, sz, fa, rfl, hz, hf, hl, hn, q⟩ := h
    refine ⟨_, (pss_cons (ps_setLc (i := 2) (own := [("size", 3)]) rfl sc_first_sets.nd rfl rfl (sw_true rfl rfl rfl (by decide +kernel)) (pi_seqK (K := K) (pv 0)) (blkOk_by (by kernel_rfl)) (fun _ _ _ _ _ => (pg_name (i := 3) sc_first_sets.nd rfl (by first | exact .inl rfl | exact .inr rfl))) (fun _ _ _ _ _ => pts_nil) (fun _ _ _ _ _ => (pe_op op_sub (pe_op op_shl pe_int (pv 3)) pe_int)))
 (pss_cons (ps_for PassesOwn.never rfl (pi_seqK (K := K) (pv 1)) (pg_tupK (K := K) (n := 2) (by rfl) (pgs_cons (pg_name (i := 4) sc_first_sets.nd rfl (by first | exact .inl rfl | exact .inr rfl)) (pgs_cons (pg_name (i := 5) sc_first_sets.nd rfl (by first | exact .inl rfl | exact .inr rfl)) pgs_nil))) (pss_one (ps_asg (pe_callD d_bits_of (hr.mono (by decide)) (by rfl) (pa_cons (pv 5) pa_nil)) (pg_sub (pv 2) (pv 4) set_list))))
 (pss_one (ps_ret (pv 2))))), ?_⟩
    obtain ⟨a, rfl, ha⟩ := pSizes hz
    refine ⟨_, rfl, a, false, rfl, ⟨_, ha⟩, fun D hD => ?_⟩
    refine lc_gen (walk_seq (k := false) (xs := szV sz)) (by rw [szV_len]; omega) hD (fun H' s => sq_same (k := false) s ha) (fun i acc _ => acc = natsV ((fulls sz).take i)) (fun _ _ _ _ _ p => p) (fun _ => rfl) (fun i x H1 H2 acc C N hi s p y cC cN => ?_) (fun acc H1 s1 e l p => ?_)
    · obtain ⟨rfl, hx⟩ := y
      obtain ⟨n, hn2, rfl⟩ : ∃ n, sz[i]? = some n ∧ x = .int (n : Nat) := by
        unfold szV at hx
        rw [List.map_map, List.getElem?_map] at hx
        obtain ⟨n, e, rfl⟩ := Option.map_eq_some_iff.mp hx
        exact ⟨n, e, rfl⟩
      have hn3 := hn n (List.mem_of_getElem? hn2)
      refine ⟨rfl, yesT ⟨_, rfl, _, _, rfl, rfl, ⟨by omega, by omega, by decide⟩, _, _, rfl, rfl, cC _ _ (Same.refl _) ?_⟩⟩
      rw [take_snoc (show (fulls sz)[i]? = some (2 ^ n - 1) by unfold fulls; rw [List.getElem?_map, hn2]; rfl), natsV_app, p]
      show _ ++ [V.int (1 * 2 ^ ((n : Nat) : Int).toNat - 1)] = _
      rw [full_int]
      rfl
    · rw [szV_len, show sz.length = (fulls sz).length from (List.length_map _).symm, List.take_length] at p
      subst p
      refine ⟨_, rfl, fa, false, rfl, ⟨_, (skp s1).sqT hf⟩, ?_⟩
      refine for_it (walk_seq (k := false) (xs := [])) (fun i σ H' => H' = H1 ∧ ∃ y3 y4 y5, σ = [some (.ref a), some (.ref fa), some (.ref D), y3, y4, y5]) ⟨rfl, _, _, _, rfl⟩ (fun i σ H' _ p => p.1 ▸ (skp s1).sqT hf) (fun i x σ H1 H2 hi p y => absurd hi (Nat.not_lt_zero _)) (fun σ H' p => ?_)
      obtain ⟨rfl, y3, y4, y5, rfl⟩ := p
      exact ⟨_, rfl, q D H' s1 hD e⟩
end
end Bh
namespace Bh
/-! ### terms as tables -/
theorem fm_congr {α β : Type} {f g : α → Option β} : ∀ {l : List α}, (∀ x ∈ l, f x = g x) → l.filterMap f = l.filterMap g
  | [], _ => rfl
  | x :: r, h => by rw [List.filterMap_cons, List.filterMap_cons, h x (List.mem_cons_self ..), fm_congr fun y hy => h y (List.mem_cons_of_mem _ hy)]
theorem tabT_congr {n : Nat} {f g : Tab} (h : ∀ c, c < n → f c = g c) : tabT n f = tabT n g := by
  unfold tabT
  refine fm_congr fun c hc => ?_
  rw [h c (List.mem_range.mp hc)]
theorem look_mem {ts : Terms} (h : (ts.map (·.1)).Pairwise (· < ·)) {t : Nat × List Int} (ht : t ∈ ts) : look ts t.1 = some t.2 := by
  induction ts with
  | nil => cases ht
  | cons u r ih =>
    rw [List.map_cons, List.pairwise_cons] at h
    unfold look
    rw [List.find?_cons]
    rcases List.mem_cons.mp ht with rfl | hr
    · simp
    · have := h.1 t.1 (List.mem_map.mpr ⟨t, hr, rfl⟩)
      rw [decide_eq_false (by omega : ¬ u.1 = t.1)]
      exact ih h.2 hr
theorem look_some {ts : Terms} {c : Nat} {w : List Int} (h : look ts c = some w) : (c, w) ∈ ts := by
  unfold look at h
  obtain ⟨t, e, rfl⟩ := Option.map_eq_some_iff.mp h
  have h1 := List.mem_of_find?_eq_some e
  have h2 : t.1 = c := of_decide_eq_true (List.find?_some (p := fun (t : Nat × List Int) => decide (t.1 = c)) e)
  subst h2
  exact h1
theorem look_none {ts : Terms} {c : Nat} (h : look ts c = none) {t : Nat × List Int} (ht : t ∈ ts) : t.1 ≠ c := by
  unfold look at h
  rw [Option.map_eq_none_iff, List.find?_eq_none] at h
  have := h t ht
  simpa using this
theorem look_iff {ts : Terms} (h : (ts.map (·.1)).Pairwise (· < ·)) {c : Nat} {w : List Int} : look ts c = some w ↔ (c, w) ∈ ts := ⟨look_some, fun m => look_mem h m⟩
theorem asc_ext {xs ys : Terms} (hx : (xs.map (·.1)).Pairwise (· < ·)) (hy : (ys.map (·.1)).Pairwise (· < ·)) (h : ∀ t, t ∈ xs ↔ t ∈ ys) : xs = ys := by
  have nx : xs.Nodup := (pw_fst.mp hx).imp fun {a b} hab z => by subst z; omega
  have ny : ys.Nodup := (pw_fst.mp hy).imp fun {a b} hab z => by subst z; omega
  exact List.Perm.eq_of_pairwise (le := fun a b => a.1 < b.1) (fun a b _ _ h1 h2 => by omega) (pw_fst.mp hx) (pw_fst.mp hy) ((List.perm_ext_iff_of_nodup nx ny).mpr h)
theorem tabT_asc (n : Nat) (f : Tab) : ((tabT n f).map (·.1)).Pairwise (· < ·) := by
  rw [pw_fst]
  unfold tabT
  rw [List.pairwise_filterMap]
  refine List.pairwise_lt_range.imp fun {a b} hab x hx y hy => ?_
  obtain ⟨u, _, rfl⟩ := Option.map_eq_some_iff.mp hx
  obtain ⟨v, _, rfl⟩ := Option.map_eq_some_iff.mp hy
  exact hab
theorem canon {sz : List Nat} {ts : Terms} (h : TermsOk sz ts) : tabT sz.length (look ts) = ts := by
  refine asc_ext (tabT_asc _ _) h.2 fun t => ?_
  rw [mem_tabT]
  refine ⟨fun ⟨_, e⟩ => look_some e, fun m => ⟨?_, look_mem h.2 m⟩⟩
  obtain ⟨k, e, _⟩ := h.1 t m
  exact (List.getElem?_eq_some_iff.mp e).1
theorem look_tabT {n : Nat} {f : Tab} {c : Nat} : look (tabT n f) c = if c < n then f c else none := by
  by_cases hc : c < n
  · rw [if_pos hc]
    cases hf : f c with
    | some w => exact (look_iff (tabT_asc n f)).mpr (mem_tabT.mpr ⟨hc, hf⟩)
    | none =>
      cases hl : look (tabT n f) c with
      | none => rfl
      | some w =>
        have := (mem_tabT.mp (look_some hl)).2
        rw [hf] at this
        cases this
  · rw [if_neg hc]
    cases hl : look (tabT n f) c with
    | none => rfl
    | some w => exact absurd (mem_tabT.mp (look_some hl)).1 hc
/-- the form of one choice's weights -/
def form1 (w : List Int) : Option (List Int) := if lmin w < lmax w then some (w.map (· - lmin w)) else none
theorem formT_tab (n : Nat) (f : Tab) : formT (tabT n f) = tabT n fun c => (f c).bind form1 := by
  unfold formT tabT
  rw [List.filterMap_filterMap]
  refine fm_congr fun c _ => ?_
  show _ = Option.map (fun w => (c, w)) ((f c).bind form1)
  cases f c with
  | none => rfl
  | some w =>
    show (if lmin w < lmax w then some (c, w.map (· - lmin w)) else none) = (form1 w).map fun w => (c, w)
    unfold form1
    split <;> rfl
def lm (o : Option (List Int)) : Int := match o with
  | some w => lmin w
  | none => 0
theorem sum_tab (g : Nat × List Int → Int) (n : Nat) (f : Tab) : ((tabT n f).map g).sum = ((List.range n).map fun c => match f c with | some w => g (c, w) | none => 0).sum := by
  unfold tabT
  induction List.range n with
  | nil => rfl
  | cons c r ih =>
    rw [List.filterMap_cons, List.map_cons, List.sum_cons, ← ih]
    cases f c with
    | none => show (List.map g (List.filterMap _ r)).sum = 0 + _; rw [Int.zero_add]
    | some w => rfl
theorem formB_tab (n : Nat) (f : Tab) (b : Int) : formB (tabT n f) b = b - ((List.range n).map fun c => lm (f c)).sum := by
  unfold formB
  rw [sum_tab]
  rfl
theorem form_tab (n : Nat) (f : Tab) (b : Int) (h : 0 < b - ((List.range n).map fun c => lm (f c)).sum) : form (tabT n f) b = (tabT n fun c => (f c).bind form1, b - ((List.range n).map fun c => lm (f c)).sum) := by
  unfold form
  rw [formB_tab, if_pos h, formT_tab]
theorem sum_congr {l : List Nat} {f g : Nat → Int} (h : ∀ c ∈ l, f c = g c) : (l.map f).sum = (l.map g).sum := by rw [List.map_congr_left h]
theorem sum_add (l : List Nat) (f g : Nat → Int) : (l.map fun c => f c + g c).sum = (l.map f).sum + (l.map g).sum := by
  induction l with
  | nil => rfl
  | cons c r ih => rw [List.map_cons, List.map_cons, List.map_cons, List.sum_cons, List.sum_cons, List.sum_cons, ih]; omega
theorem sum_le {l : List Nat} {f g : Nat → Int} (h : ∀ c ∈ l, f c ≤ g c) : (l.map f).sum ≤ (l.map g).sum := by
  induction l with
  | nil => exact Int.le_refl _
  | cons c r ih =>
    rw [List.map_cons, List.map_cons, List.sum_cons, List.sum_cons]
    have := h c (List.mem_cons_self ..)
    have := ih fun d hd => h d (List.mem_cons_of_mem _ hd)
    omega
theorem sum_zero {l : List Nat} {f : Nat → Int} (h : ∀ c ∈ l, f c = 0) : (l.map f).sum = 0 := by
  induction l with
  | nil => rfl
  | cons c r ih => rw [List.map_cons, List.sum_cons, h c (List.mem_cons_self ..), ih fun d hd => h d (List.mem_cons_of_mem _ hd)]; rfl
theorem sum_one {l : List Nat} (hl : l.Nodup) {f : Nat → Int} {c : Nat} (hc : c ∈ l) (h : ∀ d ∈ l, d ≠ c → f d = 0) : (l.map f).sum = f c := by
  induction l with
  | nil => cases hc
  | cons x r ih =>
    rw [List.map_cons, List.sum_cons]
    rw [List.nodup_cons] at hl
    by_cases hx : x = c
    · subst hx
      rw [sum_zero fun d hd => h d (List.mem_cons_of_mem _ hd) fun z => hl.1 (z ▸ hd), Int.add_zero]
    · rw [h x (List.mem_cons_self ..) hx, Int.zero_add]
      exact ih hl.2 ((List.mem_cons.mp hc).resolve_left fun z => hx z.symm) fun d hd => h d (List.mem_cons_of_mem _ hd)
/-! folds of put and add -/
theorem foldPut_look (ts : Terms) (f : Tab) (c : Nat) (h : (ts.map (·.1)).Pairwise (· < ·)) : (ts.foldl (fun f t => f.put t.1 t.2) f) c = (look ts c).or (f c) := by
  induction ts generalizing f with
  | nil => rfl
  | cons t r ih =>
    rw [List.map_cons, List.pairwise_cons] at h
    rw [List.foldl_cons, ih _ h.2]
    unfold look Tab.put
    rw [List.find?_cons]
    by_cases hc : t.1 = c
    · subst hc
      have : (List.find? (fun u => decide (u.1 = t.1)) r) = none := by
        rw [List.find?_eq_none]
        intro u hu z
        have := h.1 u.1 (List.mem_map.mpr ⟨u, hu, rfl⟩)
        have := of_decide_eq_true z
        omega
      rw [this]
      simp
    · rw [if_neg (fun z => hc z.symm)]
      simp [hc]
theorem foldOne_look (m : Int) (ts : Terms) (f : Tab) (c : Nat) (h : (ts.map (·.1)).Pairwise (· < ·)) : (ts.foldl (addOne m) f) c = match look ts c with
    | some w => some (addW m ((f c).getD (zeros w.length)) w)
    | none => f c := by
  induction ts generalizing f with
  | nil => rfl
  | cons t r ih =>
    rw [List.map_cons, List.pairwise_cons] at h
    rw [List.foldl_cons, ih _ h.2]
    by_cases hc : t.1 = c
    · subst hc
      have e : look r t.1 = none := by
        unfold look
        rw [Option.map_eq_none_iff, List.find?_eq_none]
        intro u hu z
        have := h.1 u.1 (List.mem_map.mpr ⟨u, hu, rfl⟩)
        have := of_decide_eq_true z
        omega
      have e2 : look (t :: r) t.1 = some t.2 := by unfold look; rw [List.find?_cons]; simp
      rw [e, e2]
      show (addOne m f t) t.1 = _
      unfold addOne Tab.put
      rw [if_pos rfl]
    · have e2 : look (t :: r) c = look r c := by unfold look; rw [List.find?_cons]; simp [hc]
      rw [e2]
      have e3 : (addOne m f t) c = f c := by unfold addOne Tab.put; rw [if_neg (fun z => hc z.symm)]
      rw [e3]
end Bh
namespace Bh
/-! ### clauses: for some choice the row's value is among the bits -/
abbrev Cl := Nat → Nat
def bitsW (n b : Nat) : List Int := (List.range n).map fun v => if b.testBit v then 1 else 0
def szOf (sz : List Nat) (c : Nat) : Nat := sz.getD c 0
def clSum (sz : List Nat) (k : Cl) : PSum := (tabT sz.length fun c => if k c = 0 then none else some (bitsW (szOf sz c) (k c)), 1)
def Exact (sz : List Nat) (v : PSum) (k : Cl) : Prop := ((∃ c, c < sz.length ∧ k c ≠ 0) ∧ v = clSum sz k) ∨ ((∀ c, c < sz.length → k c = 0) ∧ v.1 = [] ∧ 1 ≤ v.2)
theorem bit_ex {b : Nat} (h : b ≠ 0) : ∃ v, b.testBit v = true := Nat.exists_testBit_of_ne_zero h
theorem bit_zero {b : Nat} (h : ∀ v, b.testBit v = false) : b = 0 := by
  by_cases h0 : b = 0
  · exact h0
  · obtain ⟨v, hv⟩ := bit_ex h0
    rw [h v] at hv
    cases hv
theorem bits_ext {a b : Nat} (h : ∀ v, a.testBit v = b.testBit v) : a = b := Nat.eq_of_testBit_eq h
theorem list_range (w : List Int) : w = (List.range w.length).map fun v => w.getD v 0 := by
  refine List.ext_getElem (by rw [List.length_map, List.length_range]) fun i h1 h2 => ?_
  rw [List.getElem_map, List.getElem_range, List.getD_eq_getElem?_getD, List.getElem?_eq_getElem h1]
  rfl
theorem map_rg {n : Nat} {f g : Nat → Int} (h : ∀ v, v < n → f v = g v) : (List.range n).map f = (List.range n).map g := List.map_congr_left fun v hv => h v (List.mem_range.mp hv)
theorem lmin_rg {n : Nat} {f : Nat → Int} {m : Int} {u : Nat} (hu : u < n) (e : f u = m) (h : ∀ v, v < n → m ≤ f v) : lmin ((List.range n).map f) = m := by
  refine lmin_eq (List.mem_map.mpr ⟨u, List.mem_range.mpr hu, e⟩) fun y hy => ?_
  obtain ⟨v, hv, rfl⟩ := List.mem_map.mp hy
  exact h v (List.mem_range.mp hv)
theorem lmax_rg {n : Nat} {f : Nat → Int} {m : Int} {u : Nat} (hu : u < n) (e : f u = m) (h : ∀ v, v < n → f v ≤ m) : lmax ((List.range n).map f) = m := by
  refine lmax_eq (List.mem_map.mpr ⟨u, List.mem_range.mpr hu, e⟩) fun y hy => ?_
  obtain ⟨v, hv, rfl⟩ := List.mem_map.mp hy
  exact h v (List.mem_range.mp hv)
/-! facts of a sum's weights -/
structure WOk (n : Nat) (w : List Int) : Prop where
  len : w.length = n
  lo : lmin w = 0
  hi : 0 < lmax w
theorem WOk.ne {n : Nat} {w : List Int} (h : WOk n w) : w ≠ [] := fun z => by have := h.hi; rw [z] at this; exact absurd this (by decide)
theorem WOk.nn {n : Nat} {w : List Int} (h : WOk n w) (v : Nat) : 0 ≤ w.getD v 0 := by
  rw [List.getD_eq_getElem?_getD]
  cases e : w[v]? with
  | none => exact Int.le_refl _
  | some x => have := lmin_le (List.mem_of_getElem? e); rw [h.lo] at this; exact this
theorem WOk.le {n : Nat} {w : List Int} (h : WOk n w) (v : Nat) : w.getD v 0 ≤ lmax w := by
  rw [List.getD_eq_getElem?_getD]
  cases e : w[v]? with
  | none => exact Int.le_of_lt h.hi
  | some x => exact le_lmax (List.mem_of_getElem? e)
theorem WOk.zero {n : Nat} {w : List Int} (h : WOk n w) : ∃ v, v < n ∧ w.getD v 0 = 0 := by
  have := lmin_mem h.ne
  rw [h.lo] at this
  obtain ⟨i, hi⟩ := List.getElem?_of_mem this
  refine ⟨i, h.len ▸ (List.getElem?_eq_some_iff.mp hi).1, ?_⟩
  rw [List.getD_eq_getElem?_getD, hi]
  rfl
theorem WOk.top {n : Nat} {w : List Int} (h : WOk n w) : ∃ v, v < n ∧ w.getD v 0 = lmax w := by
  obtain ⟨i, hi⟩ := List.getElem?_of_mem (lmax_mem h.ne)
  refine ⟨i, h.len ▸ (List.getElem?_eq_some_iff.mp hi).1, ?_⟩
  rw [List.getD_eq_getElem?_getD, hi]
  rfl
theorem WOk.rg {n : Nat} {w : List Int} (h : WOk n w) : w = (List.range n).map fun v => w.getD v 0 := by
  have := list_range w
  rw [h.len] at this
  exact this
theorem SumOk.w {sz : List Nat} {s : PSum} (h : SumOk sz s) {c : Nat} {w : List Int} (e : look s.1 c = some w) : c < sz.length ∧ WOk (szOf sz c) w := by
  have hm := look_some e
  obtain ⟨n, h1, h2⟩ := h.1.1 _ hm
  have h3 := h.2.1 _ hm
  have hlt := (List.getElem?_eq_some_iff.mp h1).1
  refine ⟨hlt, ⟨?_, h3.1, ?_⟩⟩
  · unfold szOf
    rw [List.getD_eq_getElem?_getD, h1]
    exact h2
  · have hne : w ≠ [] := fun z => by rw [z] at h3; exact h3.2 rfl
    have := lmin_le (lmax_mem hne)
    rw [h3.1] at this
    have h4 : lmax w ≠ 0 := h3.2
    omega
/-! weights raised to a top -/
def mxW (w : List Int) (d : Int) : List Int := w.map fun x => if d > x then d else x
theorem mxW_rg {n : Nat} {w : List Int} (h : WOk n w) (d : Int) : mxW w d = (List.range n).map fun v => if d > w.getD v 0 then d else w.getD v 0 := by
  unfold mxW
  conv => lhs; rw [h.rg]
  rw [List.map_map]
  rfl
theorem mxW_lmin {n : Nat} {w : List Int} (h : WOk n w) {d : Int} (hd : 0 ≤ d) : lmin (mxW w d) = d := by
  rw [mxW_rg h]
  obtain ⟨v, hv, e⟩ := h.zero
  refine lmin_rg hv (by rw [e]; split <;> omega) fun u hu => ?_
  split <;> omega
theorem mxW_lmax {n : Nat} {w : List Int} (h : WOk n w) {d : Int} (hd : d < lmax w) : lmax (mxW w d) = lmax w := by
  rw [mxW_rg h]
  obtain ⟨v, hv, e⟩ := h.top
  refine lmax_rg hv (by rw [e]; split <;> omega) fun u hu => ?_
  have := h.le u
  split <;> omega
theorem mxW_lmax2 {n : Nat} {w : List Int} (h : WOk n w) {d : Int} (hd : ¬ d < lmax w) : lmax (mxW w d) = d := by
  rw [mxW_rg h]
  obtain ⟨v, hv, e⟩ := h.zero
  have := h.hi
  refine lmax_rg hv (by rw [e]; split <;> omega) fun u hu => ?_
  have := h.le u
  split <;> omega
theorem mxW_zero {n : Nat} {w : List Int} (h : WOk n w) : mxW w 0 = w := by
  rw [mxW_rg h]
  conv => rhs; rw [h.rg]
  refine map_rg fun v _ => ?_
  have := h.nn v
  split <;> omega
theorem mxW_form1 {n : Nat} {w : List Int} (h : WOk n w) {d : Int} (hd : 0 ≤ d) : form1 (mxW w d) = if d < lmax w then some ((mxW w d).map (· - d)) else none := by
  unfold form1
  rw [mxW_lmin h hd]
  by_cases h1 : d < lmax w
  · rw [mxW_lmax h h1]
  · rw [mxW_lmax2 h h1, if_neg h1, if_neg (by omega)]
/-- the sum behind raising all weights to the tops -/
def cutTab (s : PSum) (tf : Nat → Int) : Tab := fun c => (look s.1 c).bind fun w => if tf c < lmax w then some ((mxW w (tf c)).map (· - tf c)) else none
def sumTf (s : PSum) (tf : Nat → Int) : Int := (s.1.map fun t => tf t.1).sum
def cutSum (n : Nat) (s : PSum) (tf : Nat → Int) : PSum := (tabT n (cutTab s tf), s.2 - sumTf s tf)
def rTerms (s : PSum) (tf : Nat → Int) : Terms := s.1.filterMap fun t => if lmin t.2 < tf t.1 then some (t.1, mxW t.2 (tf t.1)) else none
theorem rTerms_tab {sz : List Nat} {s : PSum} (h : SumOk sz s) (tf : Nat → Int) : rTerms s tf = tabT sz.length fun c => (look s.1 c).bind fun w => if lmin w < tf c then some (mxW w (tf c)) else none := by
  unfold rTerms
  conv => lhs; rw [← canon h.1]
  unfold tabT
  rw [List.filterMap_filterMap]
  refine fm_congr fun c _ => ?_
  show _ = Option.map (fun w => (c, w)) ((look s.1 c).bind fun w => if lmin w < tf c then some (mxW w (tf c)) else none)
  cases look s.1 c with
  | none => rfl
  | some w =>
    show (if lmin w < tf c then some (c, mxW w (tf c)) else none) = Option.map (fun w => (c, w)) (if lmin w < tf c then some (mxW w (tf c)) else none)
    split <;> rfl
theorem sumTf_tab {sz : List Nat} {s : PSum} (h : SumOk sz s) (tf : Nat → Int) : sumTf s tf = ((List.range sz.length).map fun c => match look s.1 c with | some _ => tf c | none => 0).sum := by
  unfold sumTf
  conv => lhs; rw [← canon h.1]
  rw [sum_tab]
  all_goals exact sum_congr fun c _ => by cases look s.1 c <;> rfl
theorem raise_tops {sz : List Nat} {s : PSum} {tf : Nat → Int} (h : SumOk sz s) (ht : ∀ c w, look s.1 c = some w → 0 ≤ tf c) (hd : 0 < s.2 - sumTf s tf) : raised sz.length s (rTerms s tf) = cutSum sz.length s tf := by
  have e : tabT sz.length (raisedF s.1 (rTerms s tf)) = tabT sz.length fun c => (look s.1 c).map fun w => mxW w (tf c) := by
    refine tabT_congr fun c hc => ?_
    unfold raisedF
    rw [rTerms_tab h, foldPut_look _ _ _ (tabT_asc _ _), look_tabT, if_pos hc, foldPut_look _ _ _ h.1.2, Option.or_none]
    cases hl : look s.1 c with
    | none => rfl
    | some w =>
      obtain ⟨_, hw⟩ := h.w hl
      have := ht c w hl
      show (if lmin w < tf c then some (mxW w (tf c)) else none).or (some w) = some (mxW w (tf c))
      rw [hw.lo]
      by_cases h0 : 0 < tf c
      · rw [if_pos h0]; rfl
      · have : tf c = 0 := by omega
        rw [if_neg h0, this, mxW_zero hw]
        rfl
  have es : ((List.range sz.length).map fun c => lm ((look s.1 c).map fun w => mxW w (tf c))).sum = sumTf s tf := by
    rw [sumTf_tab h]
    refine sum_congr fun c hc => ?_
    cases hl : look s.1 c with
    | none => rfl
    | some w => exact mxW_lmin (h.w hl).2 (ht c w hl)
  unfold raised
  rw [e, form_tab _ _ _ (by rw [es]; exact hd), es]
  unfold cutSum
  congr 1
  refine tabT_congr fun c hc => ?_
  unfold cutTab
  cases hl : look s.1 c with
  | none => rfl
  | some w => exact mxW_form1 (h.w hl).2 (ht c w hl)
theorem noraise_tops {sz : List Nat} {s : PSum} {tf : Nat → Int} (h : SumOk sz s) (ht : ∀ c w, look s.1 c = some w → 0 ≤ tf c) (hr : rTerms s tf = []) : s = cutSum sz.length s tf := by
  have h0 : ∀ c w, look s.1 c = some w → tf c = 0 := fun c w hl => by
    obtain ⟨hc, hw⟩ := h.w hl
    have := ht c w hl
    by_cases h1 : 0 < tf c
    · have hm : (c, mxW w (tf c)) ∈ rTerms s tf := by
        rw [rTerms_tab h]
        refine mem_tabT.mpr ⟨hc, ?_⟩
        show (look s.1 c).bind _ = _
        rw [hl]
        show (if lmin w < tf c then some (mxW w (tf c)) else none) = _
        rw [hw.lo, if_pos h1]
      rw [hr] at hm
      cases hm
    · omega
  have e1 : s.1 = tabT sz.length (cutTab s tf) := by
    conv => lhs; rw [← canon h.1]
    refine tabT_congr fun c hc => ?_
    unfold cutTab
    cases hl : look s.1 c with
    | none => rfl
    | some w =>
      have hw := (h.w hl).2
      show some w = if tf c < lmax w then some ((mxW w (tf c)).map (· - tf c)) else none
      rw [h0 c w hl, if_pos hw.hi, mxW_zero hw]
      congr 1
      refine (List.map_id' w).symm.trans (List.map_congr_left fun x _ => ?_)
      omega
  have e2 : sumTf s tf = 0 := by
    rw [sumTf_tab h]
    refine sum_zero fun c _ => ?_
    cases hl : look s.1 c with
    | none => rfl
    | some w => exact h0 c w hl
  unfold cutSum
  rw [← e1, e2, Int.sub_zero]
/-! the clause of a sum -/
def clOf (s : PSum) (tf : Nat → Int) : Cl := fun c => match look s.1 c with
  | some w => aboveB w (tf c)
  | none => 0
theorem above_ne {n : Nat} {w : List Int} (h : WOk n w) (d : Int) : aboveB w d ≠ 0 ↔ d < lmax w := by
  constructor
  · intro h0
    obtain ⟨v, hv⟩ := bit_ex h0
    rw [testBit_above, Bool.and_eq_true] at hv
    have := of_decide_eq_true hv.2
    have := h.le v
    omega
  · intro hd z
    obtain ⟨v, hv, e⟩ := h.top
    have := testBit_above w d v
    rw [z, Nat.zero_testBit, h.len, decide_eq_true hv, e, decide_eq_true hd] at this
    cases this
theorem bitsW_lmin {n b u : Nat} (hu : u < n) (h : b.testBit u = false) : lmin (bitsW n b) = 0 := by
  unfold bitsW
  refine lmin_rg hu (by rw [h]; rfl) fun v _ => ?_
  split <;> omega
theorem bitsW_lmax {n b u : Nat} (hu : u < n) (h : b.testBit u = true) : lmax (bitsW n b) = 1 := by
  unfold bitsW
  refine lmax_rg hu (by rw [h]; rfl) fun v _ => ?_
  split <;> omega
theorem sub_zero_map (l : List Int) : l.map (· - 0) = l := (List.map_congr_left fun x _ => Int.sub_zero x).trans (List.map_id' l)
theorem bitsW_form1 {n b u v : Nat} (hu : u < n) (h : b.testBit u = false) (hv : v < n) (h2 : b.testBit v = true) : form1 (bitsW n b) = some (bitsW n b) := by
  unfold form1
  rw [bitsW_lmin hu h, bitsW_lmax hv h2, if_pos (by decide), sub_zero_map]
theorem cut_bits {n : Nat} {w : List Int} (h : WOk n w) {d : Int} (hd : 0 ≤ d) (f : Int → Int) (hf : ∀ v, f ((if d > w.getD v 0 then d else w.getD v 0) - d) = if d < w.getD v 0 then 1 else 0) : ((mxW w d).map (· - d)).map f = bitsW n (aboveB w d) := by
  rw [mxW_rg h, List.map_map, List.map_map]
  unfold bitsW
  refine map_rg fun v hv => ?_
  show f ((if d > w.getD v 0 then d else w.getD v 0) - d) = _
  rw [hf, testBit_above, h.len, decide_eq_true hv, Bool.true_and]
  by_cases h1 : d < w.getD v 0 <;> simp [h1]
theorem upI_one {x g : Int} (h0 : 0 < x) (hg : x ≤ g) : upI x g = 1 := by
  unfold upI
  rw [Int.fdiv_eq_ediv_of_nonneg _ (by omega)]
  have : -x / g = -1 := by
    rw [Int.ediv_eq_iff_of_pos (by omega)]
    omega
  rw [this]
  rfl
theorem upI_zero (g : Int) : upI 0 g = 0 := by unfold upI; rw [Int.neg_zero, Int.zero_fdiv]; rfl
/-- the table of the clause, by the sum's weights -/
theorem clSum_of {sz : List Nat} {s : PSum} {tf : Nat → Int} (h : SumOk sz s) : tabT sz.length (fun c => if clOf s tf c = 0 then none else some (bitsW (szOf sz c) (clOf s tf c))) = tabT sz.length fun c => (look s.1 c).bind fun w => if tf c < lmax w then some (bitsW (szOf sz c) (aboveB w (tf c))) else none := by
  refine tabT_congr fun c hc => ?_
  unfold clOf
  cases hl : look s.1 c with
  | none => rfl
  | some w =>
    have hw := (h.w hl).2
    show (if aboveB w (tf c) = 0 then none else some (bitsW (szOf sz c) (aboveB w (tf c)))) = if tf c < lmax w then some (bitsW (szOf sz c) (aboveB w (tf c))) else none
    by_cases h1 : tf c < lmax w
    · rw [if_neg ((above_ne hw _).mpr h1), if_pos h1]
    · rw [if_neg h1, if_pos (Classical.byContradiction fun z => h1 ((above_ne hw _).mp z))]
theorem divide_cut {sz : List Nat} {s : PSum} {tf : Nat → Int} {g : Int} (h : SumOk sz s) (ht : ∀ c w, look s.1 c = some w → 0 ≤ tf c) (hd : 0 < s.2 - sumTf s tf) (hg : s.2 - sumTf s tf ≤ g) (hm : ∀ c w, look s.1 c = some w → lmax w - tf c ≤ g) : divided (cutSum sz.length s tf) g = clSum sz (clOf s tf) := by
  have e : (cutSum sz.length s tf).1.map (fun t => (t.1, t.2.map fun w => upI w g)) = tabT sz.length fun c => (look s.1 c).bind fun w => if tf c < lmax w then some (bitsW (szOf sz c) (aboveB w (tf c))) else none := by
    unfold cutSum tabT
    rw [List.map_filterMap]
    refine fm_congr fun c _ => ?_
    show Option.map _ (Option.map (fun w => (c, w)) (cutTab s tf c)) = Option.map (fun w => (c, w)) ((look s.1 c).bind fun w => if tf c < lmax w then some (bitsW (szOf sz c) (aboveB w (tf c))) else none)
    unfold cutTab
    cases hl : look s.1 c with
    | none => rfl
    | some w =>
      have hw := (h.w hl).2
      have h0 := ht c w hl
      have h3 := hm c w hl
      show Option.map _ (Option.map (fun w => (c, w)) (if tf c < lmax w then some ((mxW w (tf c)).map (· - tf c)) else none)) = Option.map (fun w => (c, w)) (if tf c < lmax w then some (bitsW (szOf sz c) (aboveB w (tf c))) else none)
      by_cases h1 : tf c < lmax w
      · rw [if_pos h1, if_pos h1]
        show some (c, ((mxW w (tf c)).map (· - tf c)).map fun w => upI w g) = some (c, _)
        rw [cut_bits hw h0 (fun w => upI w g) fun v => ?_]
        have := hw.le v
        by_cases h2 : tf c < w.getD v 0
        · rw [if_neg (by omega), if_pos h2]
          exact upI_one (by omega) (by omega)
        · rw [if_neg h2]
          have : (if tf c > w.getD v 0 then tf c else w.getD v 0) - tf c = 0 := by split <;> omega
          rw [this]
          exact upI_zero g
      · rw [if_neg h1, if_neg h1]
        rfl
  have nolm : ∀ c, c < sz.length → lm ((look s.1 c).bind fun w => if tf c < lmax w then some (bitsW (szOf sz c) (aboveB w (tf c))) else none) = 0 ∧ ((look s.1 c).bind fun w => if tf c < lmax w then some (bitsW (szOf sz c) (aboveB w (tf c))) else none).bind form1 = (look s.1 c).bind fun w => if tf c < lmax w then some (bitsW (szOf sz c) (aboveB w (tf c))) else none := fun c hc => by
    cases hl : look s.1 c with
    | none => exact ⟨rfl, rfl⟩
    | some w =>
      have hw := (h.w hl).2
      have h0 := ht c w hl
      show lm (if tf c < lmax w then some (bitsW (szOf sz c) (aboveB w (tf c))) else none) = 0 ∧ (if tf c < lmax w then some (bitsW (szOf sz c) (aboveB w (tf c))) else none).bind form1 = if tf c < lmax w then some (bitsW (szOf sz c) (aboveB w (tf c))) else none
      by_cases h1 : tf c < lmax w
      · rw [if_pos h1]
        obtain ⟨u, hu, eu⟩ := hw.zero
        obtain ⟨v, hv, ev⟩ := hw.top
        have bu : (aboveB w (tf c)).testBit u = false := by rw [testBit_above, eu, decide_eq_false (by omega : ¬ tf c < 0), Bool.and_false]
        have bv : (aboveB w (tf c)).testBit v = true := by rw [testBit_above, ev, hw.len, decide_eq_true hv, decide_eq_true h1]; rfl
        exact ⟨bitsW_lmin hu bu, bitsW_form1 hu bu hv bv⟩
      · rw [if_neg h1]
        exact ⟨rfl, rfl⟩
  have eb : upI (cutSum sz.length s tf).2 g = 1 := upI_one hd hg
  unfold divided clSum
  rw [eb, e, form_tab, sum_zero fun c hc => (nolm c (List.mem_range.mp hc)).1, clSum_of h]
  · congr 1
    exact tabT_congr fun c hc => (nolm c hc).2
  · rw [sum_zero fun c hc => (nolm c (List.mem_range.mp hc)).1]
    decide
theorem nodivide_cut {sz : List Nat} {s : PSum} {tf : Nat → Int} (h : SumOk sz s) (ht : ∀ c w, look s.1 c = some w → 0 ≤ tf c) (hd : s.2 - sumTf s tf = 1) (hm : ∀ c w, look s.1 c = some w → lmax w - tf c ≤ 1) : cutSum sz.length s tf = clSum sz (clOf s tf) := by
  unfold cutSum clSum
  rw [hd, clSum_of h]
  congr 1
  refine tabT_congr fun c hc => ?_
  unfold cutTab
  cases hl : look s.1 c with
  | none => rfl
  | some w =>
    have hw := (h.w hl).2
    have h0 := ht c w hl
    have h3 := hm c w hl
    show (if tf c < lmax w then some ((mxW w (tf c)).map (· - tf c)) else none) = if tf c < lmax w then some (bitsW (szOf sz c) (aboveB w (tf c))) else none
    by_cases h1 : tf c < lmax w
    · rw [if_pos h1, if_pos h1]
      congr 1
      have := cut_bits hw h0 (fun x => x) fun v => ?_
      · rw [← this, List.map_id']
      · have := hw.le v
        show (if tf c > w.getD v 0 then tf c else w.getD v 0) - tf c = _
        by_cases h2 : tf c < w.getD v 0
        · rw [if_neg (by omega), if_pos h2]; omega
        · rw [if_neg h2]; split <;> omega
    · rw [if_neg h1, if_neg h1]
theorem cut_none {sz : List Nat} {s : PSum} {tf : Nat → Int} (h : SumOk sz s) (h0 : ∀ c, c < sz.length → clOf s tf c = 0) : (cutSum sz.length s tf).1 = [] := by
  show tabT sz.length (cutTab s tf) = []
  have : tabT sz.length (cutTab s tf) = tabT sz.length fun _ => none := tabT_congr fun c hc => by
    have hk := h0 c hc
    unfold clOf at hk
    unfold cutTab
    cases hl : look s.1 c with
    | none => rfl
    | some w =>
      rw [hl] at hk
      have hw := (h.w hl).2
      show (if tf c < lmax w then some ((mxW w (tf c)).map (· - tf c)) else none) = none
      rw [if_neg fun z => (above_ne hw _).mpr z hk]
  rw [this]
  unfold tabT
  induction List.range sz.length with
  | nil => rfl
  | cons c r ih => rw [List.filterMap_cons]; exact ih
end Bh
namespace Bh
/-! ### the greatest part above the tops -/
def grF (tf : Nat → Int) (a : Int) (t : Nat × List Int) : Int := if tf t.1 < lmax t.2 then (if lmax t.2 - tf t.1 > a then lmax t.2 - tf t.1 else a) else a
def grOf (s : PSum) (tf : Nat → Int) : Int := s.1.foldl (grF tf) 0
def grAll (s : PSum) (tf : Nat → Int) : Int := if s.2 - sumTf s tf > grOf s tf then s.2 - sumTf s tf else grOf s tf
theorem gr_fold (tf : Nat → Int) : ∀ (ts : Terms) (a : Int), a ≤ ts.foldl (grF tf) a ∧ ∀ t ∈ ts, tf t.1 < lmax t.2 → lmax t.2 - tf t.1 ≤ ts.foldl (grF tf) a
  | [], a => ⟨Int.le_refl _, fun t h => nomatch h⟩
  | u :: r, a => by
    rw [List.foldl_cons]
    obtain ⟨h1, h2⟩ := gr_fold tf r (grF tf a u)
    have h3 : a ≤ grF tf a u ∧ (tf u.1 < lmax u.2 → lmax u.2 - tf u.1 ≤ grF tf a u) := by
      unfold grF
      by_cases g1 : tf u.1 < lmax u.2
      · rw [if_pos g1]
        by_cases g2 : lmax u.2 - tf u.1 > a
        · rw [if_pos g2]; exact ⟨by omega, fun _ => Int.le_refl _⟩
        · rw [if_neg g2]; exact ⟨Int.le_refl _, fun _ => by omega⟩
      · rw [if_neg g1]; exact ⟨Int.le_refl _, fun z => absurd z g1⟩
    refine ⟨Int.le_trans h3.1 h1, fun t ht hl => ?_⟩
    rcases List.mem_cons.mp ht with rfl | ht
    · exact Int.le_trans (h3.2 hl) h1
    · exact h2 t ht hl
theorem gr_fold_le (tf : Nat → Int) (B : Int) : ∀ (ts : Terms) (a : Int), a ≤ B → (∀ t ∈ ts, tf t.1 < lmax t.2 → lmax t.2 - tf t.1 ≤ B) → ts.foldl (grF tf) a ≤ B
  | [], a, h, _ => h
  | u :: r, a, h, hb => by
    rw [List.foldl_cons]
    refine gr_fold_le tf B r _ ?_ fun t ht => hb t (List.mem_cons_of_mem _ ht)
    unfold grF
    have := hb u (List.mem_cons_self ..)
    by_cases g1 : tf u.1 < lmax u.2
    · rw [if_pos g1]; split
      · exact this g1
      · exact h
    · rw [if_neg g1]; exact h
theorem grAll_ge {sz : List Nat} {s : PSum} {tf : Nat → Int} (h : SumOk sz s) : s.2 - sumTf s tf ≤ grAll s tf ∧ 0 ≤ grAll s tf ∧ ∀ c w, look s.1 c = some w → lmax w - tf c ≤ grAll s tf := by
  have h1 := gr_fold tf s.1 0
  have h2 : grOf s tf ≤ grAll s tf ∧ s.2 - sumTf s tf ≤ grAll s tf := by unfold grAll; split <;> constructor <;> omega
  have h0 : 0 ≤ grOf s tf := h1.1
  refine ⟨h2.2, by omega, fun c w hl => ?_⟩
  by_cases g : tf c < lmax w
  · have := h1.2 _ (look_some hl) g
    have e : lmax w - tf c ≤ grOf s tf := this
    omega
  · omega
theorem grAll_le {sz : List Nat} {s : PSum} {tf : Nat → Int} {B : Int} (h : SumOk sz s) (hB : 0 ≤ B) (hb : s.2 - sumTf s tf ≤ B) (hm : ∀ t ∈ s.1, lmax t.2 - tf t.1 ≤ B) : grAll s tf ≤ B := by
  have : grOf s tf ≤ B := gr_fold_le tf B s.1 0 hB fun t ht _ => hm t ht
  unfold grAll
  split <;> assumption
/-- the sum at the place, once divided where that is asked, is the clause's -/
theorem clause_exact {sz : List Nat} {s : PSum} {tf : Nat → Int} (h : SumOk sz s) (ht : ∀ c w, look s.1 c = some w → 0 ≤ tf c) (hd : 0 < s.2 - sumTf s tf) :
    Exact sz (if (∃ c, c < sz.length ∧ clOf s tf c ≠ 0) ∧ 1 < grAll s tf then divided (cutSum sz.length s tf) (grAll s tf) else cutSum sz.length s tf) (clOf s tf) := by
  obtain ⟨g1, g2, g3⟩ := grAll_ge h (tf := tf)
  by_cases hn : ∃ c, c < sz.length ∧ clOf s tf c ≠ 0
  · refine .inl ⟨hn, ?_⟩
    by_cases hg : 1 < grAll s tf
    · rw [if_pos ⟨hn, hg⟩]
      exact divide_cut h ht hd g1 g3
    · rw [if_neg fun z => hg z.2]
      exact nodivide_cut h ht (by omega) fun c w hl => by have := g3 c w hl; omega
  · have h0 : ∀ c, c < sz.length → clOf s tf c = 0 := fun c hc => Classical.byContradiction fun z => hn ⟨c, hc, z⟩
    rw [if_neg fun z => hn z.1]
    exact .inr ⟨h0, cut_none h h0, hd⟩
/-! ### the cut of two clauses -/
def wideB (n a b : Nat) : Nat := a ||| (2 ^ n - 1 - b)
theorem testBit_wide {n a b : Nat} (ha : a < 2 ^ n) (hb : b < 2 ^ n) (v : Nat) : (wideB n a b).testBit v = (a.testBit v || (decide (v < n) && !b.testBit v)) := by
  unfold wideB
  rw [Nat.testBit_or, show 2 ^ n - 1 - b = 2 ^ n - (b + 1) by omega, Nat.testBit_two_pow_sub_succ hb]
theorem wide_lt {n a b : Nat} (ha : a < 2 ^ n) (hb : b < 2 ^ n) : wideB n a b < 2 ^ n := by
  unfold wideB
  exact Nat.or_lt_two_pow ha (by omega)
def wideC (sz : List Nat) (c : Nat) (k1 k2 : Cl) : Cl := fun s => if s = c then wideB (szOf sz c) (k1 c) (k2 c) else k1 s
def cutC (c : Nat) (k1 k2 : Cl) : Cl := fun s => if s = c then k1 s &&& k2 s else k1 s ||| k2 s
structure CutOk (sz : List Nat) (c : Nat) (k1 k2 : Cl) : Prop where
  hc : c < sz.length
  lt1 : ∀ s, s < sz.length → k1 s < 2 ^ szOf sz s
  lt2 : ∀ s, s < sz.length → k2 s < 2 ^ szOf sz s
  out : ∀ s, s < sz.length → s ≠ c → ∃ v, v < szOf sz s ∧ (k1 s).testBit v = false ∧ (k2 s).testBit v = false
  at2 : ∃ v, v < szOf sz c ∧ (k1 c).testBit v = false ∧ (k2 c).testBit v = true
  at1 : k1 c ≠ 0
def clTab (sz : List Nat) (k : Cl) : Tab := fun c => if k c = 0 then none else some (bitsW (szOf sz c) (k c))
theorem clTab_zero {sz : List Nat} {k : Cl} {c : Nat} (h : k c = 0) : clTab sz k c = none := by unfold clTab; rw [if_pos h]
theorem clTab_pos {sz : List Nat} {k : Cl} {c : Nat} (h : k c ≠ 0) : clTab sz k c = some (bitsW (szOf sz c) (k c)) := by unfold clTab; rw [if_neg h]
theorem look_cl {sz : List Nat} {k : Cl} {c : Nat} (hc : c < sz.length) : look (clSum sz k).1 c = clTab sz k c := by
  show look (tabT sz.length (clTab sz k)) c = _
  rw [look_tabT, if_pos hc]
theorem cl_asc {sz : List Nat} {k : Cl} : ((clSum sz k).1.map (·.1)).Pairwise (· < ·) := tabT_asc _ _
theorem bit_size {n b v : Nat} (h : b < 2 ^ n) (hv : b.testBit v = true) : v < n := bit_lt h hv
/-- a table of bits is in form already, where a value lies outside -/
theorem clTab_form {sz : List Nat} {k : Cl} {c u : Nat} (hl : k c < 2 ^ szOf sz c) (hu : u < szOf sz c) (h : (k c).testBit u = false) : lm (clTab sz k c) = 0 ∧ (clTab sz k c).bind form1 = clTab sz k c := by
  by_cases h0 : k c = 0
  · rw [clTab_zero h0]; exact ⟨rfl, rfl⟩
  · rw [clTab_pos h0]
    obtain ⟨v, hv⟩ := bit_ex h0
    exact ⟨bitsW_lmin hu h, bitsW_form1 hu h (bit_size hl hv) hv⟩
theorem form_cl {sz : List Nat} {k : Cl} (h : ∀ c, c < sz.length → k c < 2 ^ szOf sz c ∧ ∃ u, u < szOf sz c ∧ (k c).testBit u = false) : form (tabT sz.length (clTab sz k)) 1 = clSum sz k := by
  have z : ((List.range sz.length).map fun c => lm (clTab sz k c)).sum = 0 := sum_zero fun c hc => by
    obtain ⟨h1, u, h2, h3⟩ := h c (List.mem_range.mp hc)
    exact (clTab_form h1 h2 h3).1
  rw [form_tab _ _ _ (by rw [z]; decide), z]
  show (_, _) = (tabT sz.length (clTab sz k), (1 : Int))
  congr 1
  refine tabT_congr fun c hc => ?_
  obtain ⟨h1, u, h2, h3⟩ := h c hc
  exact (clTab_form h1 h2 h3).2
theorem cut_wide {sz : List Nat} {c : Nat} {k1 k2 : Cl} (h : CutOk sz c k1 k2) : raised sz.length (clSum sz k1) [(c, bitsW (szOf sz c) (wideB (szOf sz c) (k1 c) (k2 c)))] = clSum sz (wideC sz c k1 k2) := by
  have e : tabT sz.length (raisedF (clSum sz k1).1 [(c, bitsW (szOf sz c) (wideB (szOf sz c) (k1 c) (k2 c)))]) = tabT sz.length (clTab sz (wideC sz c k1 k2)) := by
    refine tabT_congr fun s hs => ?_
    unfold raisedF
    rw [foldPut_look _ _ _ (by simp), foldPut_look _ _ _ cl_asc, look_cl hs, Option.or_none]
    by_cases hsc : s = c
    · subst hsc
      have hw : wideB (szOf sz s) (k1 s) (k2 s) ≠ 0 := fun z => by
        obtain ⟨v, hv⟩ := bit_ex h.at1
        have := testBit_wide (h.lt1 s hs) (h.lt2 s hs) v
        rw [z, hv, Nat.zero_testBit] at this
        cases this
      have e2 : wideC sz s k1 k2 s = wideB (szOf sz s) (k1 s) (k2 s) := if_pos rfl
      rw [clTab_pos (k := wideC sz s k1 k2) (by rw [e2]; exact hw), e2]
      unfold look
      simp
    · have e2 : wideC sz c k1 k2 s = k1 s := if_neg hsc
      have e3 : look [(c, bitsW (szOf sz c) (wideB (szOf sz c) (k1 c) (k2 c)))] s = none := by unfold look; simp; exact fun z => hsc z.symm
      rw [e3, Option.none_or]
      unfold clTab
      rw [e2]
  unfold raised
  rw [e]
  refine form_cl fun s hs => ?_
  by_cases hsc : s = c
  · subst hsc
    have e2 : wideC sz s k1 k2 s = wideB (szOf sz s) (k1 s) (k2 s) := if_pos rfl
    rw [e2]
    obtain ⟨v, hv, h1, h2⟩ := h.at2
    exact ⟨wide_lt (h.lt1 s hs) (h.lt2 s hs), v, hv, by rw [testBit_wide (h.lt1 s hs) (h.lt2 s hs), h1, h2]; simp⟩
  · have e2 : wideC sz c k1 k2 s = k1 s := if_neg hsc
    rw [e2]
    obtain ⟨v, hv, h1, _⟩ := h.out s hs hsc
    exact ⟨h.lt1 s hs, v, hv, h1⟩
/-- the weights of a sum of two clauses -/
def sumW (n a b : Nat) : List Int := (List.range n).map fun v => (if a.testBit v then 1 else 0) + (if b.testBit v then 1 else 0)
theorem addW_bits (n a b : Nat) : addW 1 (bitsW n a) (bitsW n b) = sumW n a b := by
  unfold addW bitsW sumW
  refine List.ext_getElem? fun i => ?_
  rw [List.getElem?_zipWith, List.getElem?_map, List.getElem?_map, List.getElem?_map]
  cases (List.range n)[i]? with
  | none => rfl
  | some v => simp
theorem bitsW_len (n b : Nat) : (bitsW n b).length = n := by unfold bitsW; rw [List.length_map, List.length_range]
theorem zeros_bits (n : Nat) : zeros n = bitsW n 0 := by
  unfold zeros bitsW
  refine List.ext_getElem? fun i => ?_
  rw [List.getElem?_map, List.getElem?_replicate]
  by_cases h : i < n
  · rw [if_pos h, List.getElem?_range h]; simp
  · rw [if_neg h, List.getElem?_eq_none (by rw [List.length_range]; omega)]; rfl
theorem sumW_zero (n b : Nat) : sumW n 0 b = bitsW n b := by
  unfold sumW bitsW
  refine map_rg fun v _ => ?_
  simp
theorem sumW_zero2 (n b : Nat) : sumW n b 0 = bitsW n b := by
  unfold sumW bitsW
  refine map_rg fun v _ => ?_
  simp
def sumTab (sz : List Nat) (k1 k2 : Cl) : Tab := fun s => if k1 s = 0 ∧ k2 s = 0 then none else some (sumW (szOf sz s) (k1 s) (k2 s))
theorem add_tab {sz : List Nat} {k1 k2 : Cl} {s : Nat} (hs : s < sz.length) : addAll [(clSum sz k1, 1), (clSum sz k2, 1)] s = sumTab sz k1 k2 s := by
  show ((clSum sz k2).1.foldl (addOne 1) ((clSum sz k1).1.foldl (addOne 1) fun _ => none)) s = _
  rw [foldOne_look _ _ _ _ cl_asc, foldOne_look _ _ _ _ cl_asc, look_cl hs, look_cl hs]
  unfold sumTab
  by_cases h1 : k1 s = 0 <;> by_cases h2 : k2 s = 0
  · rw [clTab_zero h1, clTab_zero h2, if_pos ⟨h1, h2⟩]
  · rw [clTab_zero h1, clTab_pos h2, if_neg fun z => h2 z.2]
    show some (addW 1 ((none : Option (List Int)).getD (zeros (bitsW (szOf sz s) (k2 s)).length)) (bitsW (szOf sz s) (k2 s))) = _
    rw [bitsW_len, Option.getD_none, zeros_bits, addW_bits, h1]
  · rw [clTab_pos h1, clTab_zero h2, if_neg fun z => h1 z.1]
    show some (addW 1 ((none : Option (List Int)).getD (zeros (bitsW (szOf sz s) (k1 s)).length)) (bitsW (szOf sz s) (k1 s))) = _
    rw [bitsW_len, Option.getD_none, zeros_bits, addW_bits, h2, sumW_zero, sumW_zero2]
  · rw [clTab_pos h1, clTab_pos h2, if_neg fun z => h1 z.1]
    show some (addW 1 ((some (addW 1 ((none : Option (List Int)).getD (zeros (bitsW (szOf sz s) (k1 s)).length)) (bitsW (szOf sz s) (k1 s)))).getD _) (bitsW (szOf sz s) (k2 s))) = _
    rw [bitsW_len, Option.getD_none, zeros_bits, addW_bits, sumW_zero, Option.getD_some, addW_bits]
/-- what stands after the addition -/
def addTab (sz : List Nat) (c : Nat) (k1 k2 : Cl) : Tab := fun s => if s = c then clTab sz (cutC c k1 k2) c else sumTab sz k1 k2 s
theorem cut_add {sz : List Nat} {c : Nat} {k1 k2 : Cl} (h : CutOk sz c k1 k2) : added sz.length [(clSum sz (wideC sz c k1 k2), 1), (clSum sz k2, 1)] = (tabT sz.length (addTab sz c k1 k2), 1) := by
  have e : tabT sz.length (addAll [(clSum sz (wideC sz c k1 k2), 1), (clSum sz k2, 1)]) = tabT sz.length (sumTab sz (wideC sz c k1 k2) k2) := tabT_congr fun s hs => add_tab hs
  have ew : wideC sz c k1 k2 c = wideB (szOf sz c) (k1 c) (k2 c) := if_pos rfl
  obtain ⟨u, hu, u1, u2⟩ := h.at2
  have l1 := h.lt1 c h.hc
  have l2 := h.lt2 c h.hc
  have n0 : ¬ (wideC sz c k1 k2 c = 0 ∧ k2 c = 0) := fun z => by rw [z.2, Nat.zero_testBit] at u2; cases u2
  have tc : sumTab sz (wideC sz c k1 k2) k2 c = some ((List.range (szOf sz c)).map fun v => 1 + (if (k1 c &&& k2 c).testBit v then (1 : Int) else 0)) := by
    unfold sumTab
    rw [if_neg n0, ew]
    unfold sumW
    congr 1
    refine map_rg fun v hv => ?_
    rw [testBit_wide l1 l2, Nat.testBit_and, decide_eq_true hv]
    cases (k1 c).testBit v <;> cases (k2 c).testBit v <;> rfl
  have lc : lm (sumTab sz (wideC sz c k1 k2) k2 c) = 1 := by
    rw [tc]
    refine lmin_rg hu (by rw [Nat.testBit_and, u1]; rfl) fun v _ => ?_
    split <;> omega
  have fc : (sumTab sz (wideC sz c k1 k2) k2 c).bind form1 = clTab sz (cutC c k1 k2) c := by
    have lc2 := lc
    rw [tc] at lc2 ⊢
    show form1 _ = _
    unfold form1
    rw [show lmin _ = (1 : Int) from lc2]
    have e2 : cutC c k1 k2 c = k1 c &&& k2 c := if_pos rfl
    by_cases h0 : k1 c &&& k2 c = 0
    · rw [clTab_zero (by rw [e2]; exact h0)]
      rw [lmax_rg (m := 1) hu (by rw [h0, Nat.zero_testBit]; rfl) fun v _ => by rw [h0, Nat.zero_testBit]; decide]
      rw [if_neg (by decide)]
    · rw [clTab_pos (by rw [e2]; exact h0), e2]
      obtain ⟨v, hv⟩ := bit_ex h0
      have hvn : v < szOf sz c := by
        rw [Nat.testBit_and, Bool.and_eq_true] at hv
        exact bit_size l1 hv.1
      rw [lmax_rg (m := 2) hvn (by rw [hv]; rfl) fun v _ => by split <;> decide]
      rw [if_pos (by decide), List.map_map]
      congr 1
      unfold bitsW
      refine map_rg fun v _ => ?_
      show 1 + _ - 1 = _
      omega
  have oth : ∀ s, s < sz.length → s ≠ c → lm (sumTab sz (wideC sz c k1 k2) k2 s) = 0 ∧ (sumTab sz (wideC sz c k1 k2) k2 s).bind form1 = sumTab sz k1 k2 s := fun s hs hsc => by
    have e2 : wideC sz c k1 k2 s = k1 s := if_neg hsc
    have e3 : sumTab sz (wideC sz c k1 k2) k2 s = sumTab sz k1 k2 s := by unfold sumTab; rw [e2]
    rw [e3]
    unfold sumTab
    by_cases h0 : k1 s = 0 ∧ k2 s = 0
    · rw [if_pos h0]; exact ⟨rfl, rfl⟩
    · rw [if_neg h0]
      obtain ⟨v, hv, v1, v2⟩ := h.out s hs hsc
      have hmin : lmin (sumW (szOf sz s) (k1 s) (k2 s)) = 0 := lmin_rg hv (by rw [v1, v2]; rfl) fun v _ => by split <;> split <;> decide
      refine ⟨hmin, ?_⟩
      show form1 _ = _
      unfold form1
      rw [hmin, sub_zero_map]
      have : ∃ x, x < szOf sz s ∧ 0 < (if (k1 s).testBit x then (1 : Int) else 0) + (if (k2 s).testBit x then (1 : Int) else 0) := by
        by_cases h1 : k1 s = 0
        · obtain ⟨x, hx⟩ := bit_ex (fun z => h0 ⟨h1, z⟩)
          exact ⟨x, bit_size (h.lt2 s hs) hx, by rw [hx]; simp only [if_true]; split <;> decide⟩
        · obtain ⟨x, hx⟩ := bit_ex h1
          exact ⟨x, bit_size (h.lt1 s hs) hx, by rw [hx]; simp only [if_true]; split <;> decide⟩
      obtain ⟨x, hx, hp⟩ := this
      have h9 : (if (k1 s).testBit x then (1 : Int) else 0) + (if (k2 s).testBit x then (1 : Int) else 0) ≤ lmax (sumW (szOf sz s) (k1 s) (k2 s)) := le_lmax (List.mem_map.mpr ⟨x, List.mem_range.mpr hx, rfl⟩)
      rw [if_pos (Int.lt_of_lt_of_le hp h9)]
  have es : ((List.range sz.length).map fun s => lm (sumTab sz (wideC sz c k1 k2) k2 s)).sum = 1 := by
    rw [sum_one List.nodup_range (List.mem_range.mpr h.hc) fun s hs hsc => (oth s (List.mem_range.mp hs) hsc).1]
    exact lc
  have eb : addB [(clSum sz (wideC sz c k1 k2), 1), (clSum sz k2, 1)] = 2 := rfl
  unfold added
  rw [e, eb, form_tab _ _ _ (by rw [es]; decide), es]
  congr 1
  refine tabT_congr fun s hs => ?_
  unfold addTab
  by_cases hsc : s = c
  · subst hsc; rw [if_pos rfl]; exact fc
  · rw [if_neg hsc]; exact (oth s hs hsc).2
def twiceC (n c : Nat) (k1 k2 : Cl) : Prop := ∃ s, s < n ∧ s ≠ c ∧ k1 s &&& k2 s ≠ 0
theorem or_zero {a b : Nat} : a ||| b = 0 ↔ a = 0 ∧ b = 0 := by
  constructor
  · intro h
    refine ⟨bit_zero fun v => ?_, bit_zero fun v => ?_⟩
    · have := congrArg (fun x => x.testBit v) h
      simp [Nat.testBit_or] at this
      exact this.1
    · have := congrArg (fun x => x.testBit v) h
      simp [Nat.testBit_or] at this
      exact this.2
  · rintro ⟨rfl, rfl⟩; rfl
theorem cutC_lt {sz : List Nat} {c : Nat} {k1 k2 : Cl} (h : CutOk sz c k1 k2) {s : Nat} (hs : s < sz.length) : cutC c k1 k2 s < 2 ^ szOf sz s := by
  unfold cutC
  by_cases hsc : s = c
  · rw [if_pos hsc]; exact Nat.and_lt_two_pow _ (h.lt2 s hs)
  · rw [if_neg hsc]; exact Nat.or_lt_two_pow (h.lt1 s hs) (h.lt2 s hs)
theorem cutC_out {sz : List Nat} {c : Nat} {k1 k2 : Cl} (h : CutOk sz c k1 k2) {s : Nat} (hs : s < sz.length) : ∃ v, v < szOf sz s ∧ (cutC c k1 k2 s).testBit v = false := by
  unfold cutC
  by_cases hsc : s = c
  · subst hsc
    rw [if_pos rfl]
    obtain ⟨v, hv, h1, _⟩ := h.at2
    exact ⟨v, hv, by rw [Nat.testBit_and, h1]; rfl⟩
  · rw [if_neg hsc]
    obtain ⟨v, hv, h1, h2⟩ := h.out s hs hsc
    exact ⟨v, hv, by rw [Nat.testBit_or, h1, h2]; rfl⟩
theorem cut_once {sz : List Nat} {c : Nat} {k1 k2 : Cl} (h : CutOk sz c k1 k2) (ht : ¬ twiceC sz.length c k1 k2) : (tabT sz.length (addTab sz c k1 k2), (1 : Int)) = clSum sz (cutC c k1 k2) := by
  show _ = (tabT sz.length (clTab sz (cutC c k1 k2)), (1 : Int))
  congr 1
  refine tabT_congr fun s hs => ?_
  unfold addTab
  by_cases hsc : s = c
  · subst hsc; rw [if_pos rfl]
  · rw [if_neg hsc]
    have e2 : cutC c k1 k2 s = k1 s ||| k2 s := if_neg hsc
    have h0 : k1 s &&& k2 s = 0 := Classical.byContradiction fun z => ht ⟨s, hs, hsc, z⟩
    unfold sumTab clTab
    rw [e2]
    by_cases hz : k1 s = 0 ∧ k2 s = 0
    · rw [if_pos hz, if_pos (or_zero.mpr hz)]
    · rw [if_neg hz, if_neg fun z => hz (or_zero.mp z)]
      congr 1
      unfold sumW bitsW
      refine map_rg fun v _ => ?_
      have := congrArg (fun x => x.testBit v) h0
      rw [Nat.testBit_or]
      simp only [Nat.testBit_and, Nat.zero_testBit] at this
      revert this
      cases (k1 s).testBit v <;> cases (k2 s).testBit v <;> simp
theorem cl_exact {sz : List Nat} {k : Cl} : Exact sz (clSum sz k) k := by
  by_cases h : ∃ c, c < sz.length ∧ k c ≠ 0
  · exact .inl ⟨h, rfl⟩
  · have h0 : ∀ c, c < sz.length → k c = 0 := fun c hc => Classical.byContradiction fun z => h ⟨c, hc, z⟩
    refine .inr ⟨h0, ?_, Int.le_refl _⟩
    show tabT sz.length (clTab sz k) = []
    rw [tabT_congr (g := fun _ => none) fun c hc => clTab_zero (h0 c hc)]
    unfold tabT
    induction List.range sz.length with
    | nil => rfl
    | cons c r ih => rw [List.filterMap_cons]; exact ih
def cap1 (w : Int) : Int := if 1 < w then 1 else w
theorem cut_twice {sz : List Nat} {c : Nat} {k1 k2 : Cl} (h : CutOk sz c k1 k2) : capped (tabT sz.length (addTab sz c k1 k2), (1 : Int)) = clSum sz (cutC c k1 k2) := by
  show form ((tabT sz.length (addTab sz c k1 k2)).map fun t => (t.1, t.2.map cap1)) 1 = _
  rw [← form_cl (k := cutC c k1 k2) fun s hs => ⟨cutC_lt h hs, cutC_out h hs⟩]
  congr 1
  unfold tabT
  rw [List.map_filterMap]
  refine fm_congr fun s hs => ?_
  have hs := List.mem_range.mp hs
  show Option.map _ (Option.map (fun w => (s, w)) (addTab sz c k1 k2 s)) = Option.map (fun w => (s, w)) (clTab sz (cutC c k1 k2) s)
  unfold addTab
  by_cases hsc : s = c
  · subst hsc
    rw [if_pos rfl]
    unfold clTab
    split
    · rfl
    · show some (s, (bitsW _ _).map _) = some (s, bitsW _ _)
      congr 2
      unfold bitsW
      rw [List.map_map]
      refine map_rg fun v _ => ?_
      show cap1 (if (cutC s k1 k2 s).testBit v = true then 1 else 0) = if (cutC s k1 k2 s).testBit v = true then 1 else 0
      split <;> rfl
  · rw [if_neg hsc]
    have e2 : cutC c k1 k2 s = k1 s ||| k2 s := if_neg hsc
    unfold sumTab clTab
    rw [e2]
    by_cases hz : k1 s = 0 ∧ k2 s = 0
    · rw [if_pos hz, if_pos (or_zero.mpr hz)]; rfl
    · rw [if_neg hz, if_neg fun z => hz (or_zero.mp z)]
      show some (s, (sumW _ _ _).map _) = some (s, bitsW _ _)
      congr 2
      unfold sumW bitsW
      rw [List.map_map]
      refine map_rg fun v _ => ?_
      rw [Nat.testBit_or]
      show cap1 ((if (k1 s).testBit v = true then 1 else 0) + (if (k2 s).testBit v = true then 1 else 0)) = _
      cases (k1 s).testBit v <;> cases (k2 s).testBit v <;> rfl
end Bh
namespace Bh
/-! ### the state of the search -/
structure MS where
  sums : Sums
  index : List (List Nat)
  sets : List Nat
  trail : List (Nat × Nat × Int)
  steps : List Step
  places : Nat → Option Nat
  queue : List Nat
def sAt (sets : List Nat) (c : Nat) : Nat := sets.getD c 0
def topF (s : PSum) (sets : List Nat) : Nat → Int := fun d => match look s.1 d with
  | some w => topB w (sAt sets d)
  | none => 0
def Broken (s : PSum) (sets : List Nat) : Prop := sumTf s (topF s sets) < s.2
def rv (r : List Nat) (c : Nat) : Nat := r.getD c 0
def rowF (s : PSum) (r : List Nat) : Nat → Int := fun d => match look s.1 d with
  | some w => w.getD (rv r d) 0
  | none => 0
def Valid (sz : List Nat) (r : List Nat) : Prop := r.length = sz.length ∧ ∀ c, c < sz.length → rv r c < szOf sz c
def Keeps (s : PSum) (r : List Nat) : Prop := s.2 ≤ sumTf s (rowF s r)
def Sol (sz : List Nat) (T : Sums) (r : List Nat) : Prop := Valid sz r ∧ ∀ u ∈ T, Keeps u r
def InS (sz : List Nat) (sets : List Nat) (r : List Nat) : Prop := ∀ c, c < sz.length → (sAt sets c).testBit (rv r c) = true
def SetsOk (sz : List Nat) (sets : List Nat) : Prop := sets.length = sz.length ∧ ∀ c, c < sz.length → sAt sets c ≠ 0 ∧ sAt sets c < 2 ^ szOf sz c
/-- at most four choices of at most four values -/
def Tiny (sz : List Nat) : Prop := sz.length ≤ 4 ∧ ∀ n ∈ sz, 1 ≤ n ∧ n ≤ 4
theorem Tiny.le {sz : List Nat} (h : Tiny sz) (c : Nat) : szOf sz c ≤ 4 := by
  unfold szOf
  rw [List.getD_eq_getElem?_getD]
  cases e : sz[c]? with
  | none => exact Nat.zero_le _
  | some n => exact (h.2 n (List.mem_of_getElem? e)).2
theorem Tiny.pos {sz : List Nat} (h : Tiny sz) {c : Nat} (hc : c < sz.length) : 1 ≤ szOf sz c := by
  unfold szOf
  rw [List.getD_eq_getElem?_getD, List.getElem?_eq_getElem hc]
  exact (h.2 _ (List.getElem_mem hc)).1
theorem szOf_get {sz : List Nat} {c : Nat} (hc : c < sz.length) : sz[c]? = some (szOf sz c) := by
  unfold szOf
  rw [List.getD_eq_getElem?_getD, List.getElem?_eq_getElem hc]
  rfl
theorem sAt_get {sets : List Nat} {c : Nat} (hc : c < sets.length) : sets[c]? = some (sAt sets c) := by
  unfold sAt
  rw [List.getD_eq_getElem?_getD, List.getElem?_eq_getElem hc]
  rfl
theorem sAt_set {sets : List Nat} {c b d : Nat} (hc : c < sets.length) : sAt (sets.set c b) d = if d = c then b else sAt sets d := by
  unfold sAt
  rw [List.getD_eq_getElem?_getD, List.getD_eq_getElem?_getD, List.getElem?_set]
  by_cases h : c = d
  · subst h; rw [if_pos rfl, if_pos hc, if_pos rfl]; rfl
  · rw [if_neg h, if_neg fun z => h z.symm]
/-! tops -/
theorem topB_mem {w : List Int} {b : Nat} (h16 : b < 16) (h0 : b ≠ 0) : ∃ v, b.testBit v = true ∧ topB w b = w.getD v 0 := by
  have hm := lmax_mem (l := (vals b).map fun v => w.getD v 0) fun z => vals_ne h16 h0 (List.map_eq_nil_iff.mp z)
  obtain ⟨v, hv, e⟩ := List.mem_map.mp hm
  exact ⟨v, (mem_vals.mp hv).2, e.symm⟩
theorem le_topB {w : List Int} {n b v : Nat} (hn : n ≤ 4) (hb : b < 2 ^ n) (hv : b.testBit v = true) : w.getD v 0 ≤ topB w b := le_lmax (List.mem_map.mpr ⟨v, (mem_valsN hn hb).mpr hv, rfl⟩)
theorem topB_mono {w : List Int} {n a b : Nat} (hn : n ≤ 4) (hb : b < 2 ^ n) (ha : a < 2 ^ n) (h0 : a ≠ 0) (hs : ∀ v, a.testBit v = true → b.testBit v = true) : topB w a ≤ topB w b := by
  obtain ⟨v, hv, e⟩ := topB_mem (w := w) (lt16 hn ha) h0
  rw [e]
  exact le_topB hn hb (hs v hv)
theorem topB_nn {n : Nat} {w : List Int} (h : WOk n w) {b : Nat} (h16 : b < 16) (h0 : b ≠ 0) : 0 ≤ topB w b ∧ topB w b ≤ lmax w := by
  obtain ⟨v, _, e⟩ := topB_mem (w := w) h16 h0
  rw [e]
  exact ⟨h.nn v, h.le v⟩
theorem tsum_le {f g : Nat → Int} : ∀ {ts : Terms}, (∀ t ∈ ts, f t.1 ≤ g t.1) → (ts.map fun t => f t.1).sum ≤ (ts.map fun t => g t.1).sum
  | [], _ => Int.le_refl _
  | t :: r, h => by
    rw [List.map_cons, List.map_cons, List.sum_cons, List.sum_cons]
    have := h t (List.mem_cons_self ..)
    have := tsum_le (ts := r) fun u hu => h u (List.mem_cons_of_mem _ hu)
    omega
theorem sumTf_le {s : PSum} {f g : Nat → Int} (h : ∀ t ∈ s.1, f t.1 ≤ g t.1) : sumTf s f ≤ sumTf s g := tsum_le h
theorem tsum_nn {f : Nat → Int} : ∀ {ts : Terms}, (∀ t ∈ ts, 0 ≤ f t.1) → 0 ≤ (ts.map fun t => f t.1).sum
  | [], _ => Int.le_refl _
  | t :: r, h => by
    rw [List.map_cons, List.sum_cons]
    have := h t (List.mem_cons_self ..)
    have := tsum_nn (ts := r) fun u hu => h u (List.mem_cons_of_mem _ hu)
    omega
theorem sumTf_nn {s : PSum} {f : Nat → Int} (h : ∀ t ∈ s.1, 0 ≤ f t.1) : 0 ≤ sumTf s f := tsum_nn h
theorem sumTf_congr {s : PSum} {f g : Nat → Int} (h : ∀ t ∈ s.1, f t.1 = g t.1) : sumTf s f = sumTf s g := by
  unfold sumTf
  rw [List.map_congr_left h]
/-- a row within the sets weighs no more than the tops -/
theorem row_le {sz : List Nat} {s : PSum} {sets r : List Nat} (hz : Tiny sz) (h : SumOk sz s) (hs : SetsOk sz sets) (hr : InS sz sets r) : sumTf s (rowF s r) ≤ sumTf s (topF s sets) := by
  refine sumTf_le fun t ht => ?_
  have hl := look_mem h.1.2 ht
  obtain ⟨hc, hw⟩ := h.w hl
  unfold rowF topF
  rw [hl]
  exact le_topB (hz.le t.1) (hs.2 t.1 hc).2 (hr t.1 hc)
theorem not_broken {sz : List Nat} {s : PSum} {sets r : List Nat} (hz : Tiny sz) (h : SumOk sz s) (hs : SetsOk sz sets) (hr : InS sz sets r) (hk : Keeps s r) : ¬ Broken s sets := fun hb => by
  have := row_le hz h hs hr
  unfold Broken at hb
  unfold Keeps at hk
  omega
/-- a row that keeps the sum has a value above any tops that are too little -/
theorem some_above {sz : List Nat} {s : PSum} {tf : Nat → Int} {r : List Nat} (h : SumOk sz s) (hv : Valid sz r) (hk : Keeps s r) (hd : sumTf s tf < s.2) : ∃ c, c < sz.length ∧ (clOf s tf c).testBit (rv r c) = true := by
  apply Classical.byContradiction
  intro hn
  have : sumTf s (rowF s r) ≤ sumTf s tf := sumTf_le fun t ht => by
    have hl := look_mem h.1.2 ht
    obtain ⟨hc, hw⟩ := h.w hl
    have hnb : ¬ (clOf s tf t.1).testBit (rv r t.1) = true := fun z => hn ⟨t.1, hc, z⟩
    unfold rowF
    unfold clOf at hnb
    rw [hl] at hnb ⊢
    have hb : ¬ (aboveB t.2 (tf t.1)).testBit (rv r t.1) = true := hnb
    rw [testBit_above, hw.len, decide_eq_true (hv.2 t.1 hc), Bool.true_and] at hb
    have : ¬ tf t.1 < t.2.getD (rv r t.1) 0 := fun z => hb (decide_eq_true z)
    show t.2.getD (rv r t.1) 0 ≤ tf t.1
    omega
  unfold Keeps at hk
  omega
/-! ### what is true of the trail -/
def Single (b : Nat) : Prop := ∀ u v, b.testBit u = true → b.testBit v = true → u = v
def goneTf (s : PSum) (sets : List Nat) (c : Nat) (w : List Int) (gone : Nat) : Nat → Int := fun d => if d = c then topB w gone else topF s sets d
def Why (sz : List Nat) (T sums : Sums) (sets : List Nat) (c now : Nat) (r : Int) : Prop :=
  (r = -1 ∧ (∃ v, now = 2 ^ v ∧ ∀ u, (sAt sets c).testBit u = true → v ≤ u) ∧ (∀ d, d < c → Single (sAt sets d)) ∧ ∀ u ∈ T, ¬ Broken u sets) ∨
  ∃ i : Nat, r = (i : Int) ∧ i < sums.length ∧ ∃ w, look (at0 sums i).1 c = some w ∧ sumTf (at0 sums i) (goneTf (at0 sums i) sets c w (sAt sets c - now)) < (at0 sums i).2 ∧ ∀ u, now.testBit u = true → topB w (sAt sets c - now) < w.getD u 0
inductive TrailOk (sz : List Nat) (T sums : Sums) : List Nat → List (Nat × Nat × Int) → Prop
  | nil : TrailOk sz T sums (sz.map fun n => 2 ^ n - 1) []
  | cons {sets : List Nat} {rest : List (Nat × Nat × Int)} {c now : Nat} {r : Int} : TrailOk sz T sums sets rest → c < sz.length → (∀ v, now.testBit v = true → (sAt sets c).testBit v = true) → now ≠ 0 → now ≠ sAt sets c → Why sz T sums sets c now r →
      TrailOk sz T sums (sets.set c now) ((c, sAt sets c, r) :: rest)
theorem fulls_ok {sz : List Nat} (hz : Tiny sz) : SetsOk sz (sz.map fun n => 2 ^ n - 1) := by
  refine ⟨List.length_map _, fun c hc => ?_⟩
  have e : sAt (sz.map fun n => 2 ^ n - 1) c = 2 ^ szOf sz c - 1 := by
    unfold sAt
    rw [List.getD_eq_getElem?_getD, List.getElem?_map, szOf_get hc]
    rfl
  rw [e]
  have := hz.pos hc
  have h1 : 2 ^ 1 ≤ 2 ^ szOf sz c := Nat.pow_le_pow_right (by decide) this
  omega
theorem sub_lt {n a b : Nat} (hb : b < 2 ^ n) (h : ∀ v, a.testBit v = true → b.testBit v = true) : a < 2 ^ n := by
  refine Nat.lt_pow_two_of_testBit _ fun i hi => ?_
  cases e : a.testBit i with
  | false => rfl
  | true => have := bit_lt hb (h i e); omega
theorem SetsOk.set {sz sets : List Nat} (h : SetsOk sz sets) {c now : Nat} (hc : c < sz.length) (h0 : now ≠ 0) (hl : now < 2 ^ szOf sz c) : SetsOk sz (sets.set c now) := by
  refine ⟨by rw [List.length_set]; exact h.1, fun d hd => ?_⟩
  rw [sAt_set (by rw [h.1]; exact hc)]
  by_cases e : d = c
  · subst e; rw [if_pos rfl]; exact ⟨h0, hl⟩
  · rw [if_neg e]; exact h.2 d hd
theorem TrailOk.sets {sz : List Nat} {T sums : Sums} {sets : List Nat} {tr : List (Nat × Nat × Int)} (hz : Tiny sz) (h : TrailOk sz T sums sets tr) : SetsOk sz sets := by
  induction h with
  | nil => exact fulls_ok hz
  | cons h hc hs h0 hn hw ih => exact ih.set hc h0 (sub_lt (ih.2 _ hc).2 hs)
theorem Why.more {sz : List Nat} {T sums l : Sums} {sets : List Nat} {c now : Nat} {r : Int} (h : Why sz T sums sets c now r) : Why sz T (sums ++ l) sets c now r := by
  rcases h with h | ⟨i, rfl, hi, w, h1, h2, h3⟩
  · exact .inl h
  · have e : at0 (sums ++ l) i = at0 sums i := by
      unfold at0
      rw [List.getD_eq_getElem?_getD, List.getD_eq_getElem?_getD, List.getElem?_append_left hi]
    refine .inr ⟨i, rfl, by rw [List.length_append]; omega, w, ?_⟩
    rw [e]
    exact ⟨h1, h2, h3⟩
theorem TrailOk.more {sz : List Nat} {T sums l : Sums} {sets : List Nat} {tr : List (Nat × Nat × Int)} (h : TrailOk sz T sums sets tr) : TrailOk sz T (sums ++ l) sets tr := by
  induction h with
  | nil => exact .nil
  | cons h hc hs h0 hn hw ih => exact .cons ih hc hs h0 hn hw.more
theorem TrailOk.pop {sz : List Nat} {T sums : Sums} {sets : List Nat} {c b : Nat} {r : Int} {rest : List (Nat × Nat × Int)} (hz : Tiny sz) (h : TrailOk sz T sums sets ((c, b, r) :: rest)) :
    ∃ s', s' = sets.set c b ∧ TrailOk sz T sums s' rest ∧ c < sz.length ∧ b = sAt s' c ∧ sets = s'.set c (sAt sets c) ∧ (∀ v, (sAt sets c).testBit v = true → b.testBit v = true) ∧ sAt sets c ≠ 0 ∧ sAt sets c ≠ b ∧ Why sz T sums s' c (sAt sets c) r := by
  generalize ht : (c, b, r) :: rest = tr at h
  cases h with
  | nil => cases ht
  | @cons s' rest' c' now r' h hc hs h0 hn hw =>
    injection ht with h1 h2
    injection h1 with h3 h4
    injection h4 with h5 h6
    subst h2 h3 h5 h6
    have hl := (h.sets hz).1
    have e : sAt (s'.set c now) c = now := by rw [sAt_set (by rw [hl]; exact hc), if_pos rfl]
    refine ⟨s', ?_, h, hc, rfl, by rw [e], by rw [e]; exact hs, by rw [e]; exact h0, by rw [e]; exact hn, by rw [e]; exact hw⟩
    rw [List.set_set]
    have : s'[c]? = some (sAt s' c) := sAt_get (by rw [hl]; exact hc)
    have hlt := (List.getElem?_eq_some_iff.mp this).1
    have h2 := (List.getElem?_eq_some_iff.mp this).2
    rw [← h2, List.set_getElem_self]
/-! ### what is true of the state -/
structure Base (sz : List Nat) (T : Sums) (st : MS) : Prop where
  pre : ∃ l, st.sums = T ++ l
  ok : ∀ s ∈ st.sums, SumOk sz s
  small : ∀ s ∈ st.sums, s.2 ≤ 1000 ∧ ∀ t ∈ s.1, lmax t.2 ≤ 1000
  imp : ∀ s ∈ st.sums, ∀ r, Sol sz T r → Keeps s r
  good : StepsGood sz T st.steps
  plc : ∀ i j, st.places i = some j → i < st.sums.length ∧ j < st.steps.length ∧ at0 (stepVals sz.length T st.steps) j = at0 st.sums i
  lrn : ∀ i, T.length ≤ i → i < st.sums.length → ∃ j, st.places i = some j
  idl : st.index.length = sz.length
  idx : ∀ c l, st.index[c]? = some l → l.length ≤ st.sums.length ∧ ∀ i, i ∈ l ↔ i < st.sums.length ∧ look (at0 st.sums i).1 c ≠ none
  que : ∀ i ∈ st.queue, i < st.sums.length
  trl : TrailOk sz T st.sums st.sets st.trail
theorem at0_app {xs ys : Sums} {i : Nat} (hi : i < xs.length) : at0 (xs ++ ys) i = at0 xs i := by
  unfold at0
  rw [List.getD_eq_getElem?_getD, List.getD_eq_getElem?_getD, List.getElem?_append_left hi]
theorem at0_mem {xs : Sums} {i : Nat} (hi : i < xs.length) : at0 xs i ∈ xs := List.mem_of_getElem? (at0_get hi)
theorem at0_last {xs : Sums} {s : PSum} : at0 (xs ++ [s]) xs.length = s := by
  unfold at0
  rw [List.getD_eq_getElem?_getD, List.getElem?_append_right (Nat.le_refl _), Nat.sub_self]
  rfl
end Bh
namespace Bh
/-! ### the moves of the search -/
def stepM (st : MS) (x : Step) : MS := { st with steps := st.steps ++ [x] }
def putP (f : Nat → Option Nat) (i j : Nat) : Nat → Option Nat := fun k => if k = i then some j else f k
def placeM (st : MS) (i : Nat) : Nat × MS := match st.places i with
  | some j => (j, st)
  | none => (st.steps.length, { st with steps := st.steps ++ [.demand i], places := putP st.places i st.steps.length })
def clL (s : PSum) (tf : Nat → Int) : List (Nat × Nat) := s.1.filterMap fun t => if tf t.1 < lmax t.2 then some (t.1, aboveB t.2 (tf t.1)) else none
def raiseM (st : MS) (i : Nat) (tf : Nat → Int) : Nat × MS :=
  if rTerms (at0 st.sums i) tf = [] then placeM st i else ((placeM st i).2.steps.length, stepM (placeM st i).2 (.raise (placeM st i).1 (rTerms (at0 st.sums i) tf)))
def clauseM (st : MS) (i : Nat) (tf : Nat → Int) : Nat × MS :=
  if clL (at0 st.sums i) tf ≠ [] ∧ 1 < grAll (at0 st.sums i) tf then ((raiseM st i tf).2.steps.length, stepM (raiseM st i tf).2 (.divide (raiseM st i tf).1 (grAll (at0 st.sums i) tf))) else raiseM st i tf
def wideM (sz : List Nat) (st : MS) (one : Nat) (k1 k2 : Cl) (c : Nat) : Nat × MS :=
  if wideB (szOf sz c) (k1 c) (k2 c) = k1 c then (one, st) else (st.steps.length, stepM st (.raise one [(c, bitsW (szOf sz c) (wideB (szOf sz c) (k1 c) (k2 c)))]))
def twiceB (n c : Nat) (k1 k2 : Cl) : Bool := (List.range n).any fun s => decide (s ≠ c) && decide (k1 s &&& k2 s ≠ 0)
def addM (sz : List Nat) (st : MS) (one : Nat) (k1 : Cl) (two : Nat) (k2 : Cl) (c : Nat) : Nat × MS :=
  ((wideM sz st one k1 k2 c).2.steps.length, stepM (wideM sz st one k1 k2 c).2 (.add [((wideM sz st one k1 k2 c).1, 1), (two, 1)]))
def cutM (sz : List Nat) (st : MS) (one : Nat) (k1 : Cl) (two : Nat) (k2 : Cl) (c : Nat) : Nat × MS :=
  if twiceB sz.length c k1 k2 = true then ((addM sz st one k1 two k2 c).2.steps.length, stepM (addM sz st one k1 two k2 c).2 (.cap (addM sz st one k1 two k2 c).1)) else addM sz st one k1 two k2 c
def popM (st : MS) (c b : Nat) (rest : List (Nat × Nat × Int)) : MS := { st with trail := rest, sets := st.sets.set c b }
def narrowM (st : MS) (c now : Nat) (r : Int) : MS := { st with trail := (c, sAt st.sets c, r) :: st.trail, sets := st.sets.set c now, queue := st.queue ++ st.index.getD c [] }
def tellM (sz : List Nat) (T : Sums) (st : MS) (place : Nat) (k : Cl) : MS :=
  { st with sums := st.sums ++ [clSum sz k], places := putP st.places st.sums.length place,
            index := (List.range sz.length).map fun c => st.index.getD c [] ++ (if k c = 0 then [] else [st.sums.length]),
            queue := st.queue ++ (List.range (st.sums.length + 1 - T.length)).map (T.length + ·) }
def learnM (sz : List Nat) (T : Sums) (st : MS) (place : Nat) (k : Cl) (c : Nat) : MS := narrowM (tellM sz T st place k) c (sAt st.sets c &&& k c) (st.sums.length : Int)
/-- only steps and places grow -/
structure Grow (n : Nat) (T : Sums) (k : Nat) (st st' : MS) : Prop where
  sums : st'.sums = st.sums
  index : st'.index = st.index
  sets : st'.sets = st.sets
  trail : st'.trail = st.trail
  queue : st'.queue = st.queue
  app : ∃ l, st'.steps = st.steps ++ l ∧ l.length ≤ k
theorem Grow.refl {n : Nat} {T : Sums} (st : MS) : Grow n T 0 st st := ⟨rfl, rfl, rfl, rfl, rfl, [], (List.append_nil _).symm, Nat.le_refl _⟩
theorem Grow.trans {n : Nat} {T : Sums} {k j : Nat} {a b c : MS} (h : Grow n T k a b) (g : Grow n T j b c) : Grow n T (k + j) a c := by
  obtain ⟨l, e1, e2⟩ := h.app
  obtain ⟨m, e3, e4⟩ := g.app
  exact ⟨g.sums.trans h.sums, g.index.trans h.index, g.sets.trans h.sets, g.trail.trans h.trail, g.queue.trans h.queue, l ++ m, by rw [e3, e1, List.append_assoc], by rw [List.length_append]; omega⟩
theorem Grow.mono {n : Nat} {T : Sums} {k j : Nat} {a b : MS} (h : Grow n T k a b) (hj : k ≤ j) : Grow n T j a b := by
  obtain ⟨l, e1, e2⟩ := h.app
  exact ⟨h.sums, h.index, h.sets, h.trail, h.queue, l, e1, Nat.le_trans e2 hj⟩
theorem Grow.len {n : Nat} {T : Sums} {k : Nat} {a b : MS} (h : Grow n T k a b) : a.steps.length ≤ b.steps.length ∧ b.steps.length ≤ a.steps.length + k := by
  obtain ⟨l, e1, e2⟩ := h.app
  rw [e1, List.length_append]
  omega
theorem vals_old {n : Nat} {T : Sums} {a l : List Step} {j : Nat} (hj : j < a.length) : at0 (stepVals n T (a ++ l)) j = at0 (stepVals n T a) j := by
  have h := stepVals_take n T (a ++ l) a.length
  rw [List.take_left] at h
  have e : at0 ((stepVals n T (a ++ l)).take a.length) j = at0 (stepVals n T (a ++ l)) j := by
    unfold at0
    rw [List.getD_eq_getElem?_getD, List.getD_eq_getElem?_getD, List.getElem?_take_of_lt hj]
  rw [h, e]
theorem Grow.old {n : Nat} {T : Sums} {k : Nat} {a b : MS} (h : Grow n T k a b) {j : Nat} (hj : j < a.steps.length) : at0 (stepVals n T b.steps) j = at0 (stepVals n T a.steps) j := by
  obtain ⟨l, e1, _⟩ := h.app
  rw [e1]
  exact vals_old hj
theorem step_grow {n : Nat} {T : Sums} (st : MS) (x : Step) : Grow n T 1 st (stepM st x) := ⟨rfl, rfl, rfl, rfl, rfl, [x], rfl, Nat.le_refl _⟩
theorem step_val {n : Nat} {T : Sums} (sts : List Step) (x : Step) : at0 (stepVals n T (sts ++ [x])) sts.length = stepVal n T (stepVals n T sts) x := by
  rw [stepVals_snoc, ← stepVals_len n T sts, at0_last]
theorem Base.step {sz : List Nat} {T : Sums} {st : MS} {x : Step} (h : Base sz T st) (g : StepGood sz T (stepVals sz.length T st.steps) x) : Base sz T (stepM st x) :=
  ⟨h.pre, h.ok, h.small, h.imp, .snoc h.good g, fun i j e => by
    obtain ⟨h1, h2, h3⟩ := h.plc i j e
    refine ⟨h1, ?_, ?_⟩
    · show j < (st.steps ++ [x]).length
      rw [List.length_append]
      omega
    · show at0 (stepVals _ _ (st.steps ++ [x])) j = _
      rw [vals_old h2]
      exact h3, h.lrn, h.idl, h.idx, h.que, h.trl⟩
theorem Base.told {sz : List Nat} {T : Sums} {st : MS} (h : Base sz T st) {i : Nat} (hi : i < T.length) : at0 st.sums i = at0 T i ∧ i < st.sums.length := by
  obtain ⟨l, e⟩ := h.pre
  rw [e]
  exact ⟨at0_app hi, by rw [List.length_append]; omega⟩
theorem place_ok {sz : List Nat} {T : Sums} {st : MS} {i : Nat} (h : Base sz T st) (hi : i < st.sums.length) : Base sz T (placeM st i).2 ∧ Grow sz.length T 1 st (placeM st i).2 ∧ (placeM st i).1 < (placeM st i).2.steps.length ∧ at0 (stepVals sz.length T (placeM st i).2.steps) (placeM st i).1 = at0 st.sums i := by
  unfold placeM
  cases hp : st.places i with
  | some j =>
    obtain ⟨_, h2, h3⟩ := h.plc i j hp
    exact ⟨h, (Grow.refl st).mono (by decide), h2, h3⟩
  | none =>
    have hT : i < T.length := Classical.byContradiction fun z => by
      obtain ⟨j, e⟩ := h.lrn i (by omega) hi
      rw [hp] at e
      cases e
    have g : StepGood sz T (stepVals sz.length T st.steps) (.demand i) := hT
    have b := h.step g
    have hv : at0 (stepVals sz.length T (st.steps ++ [.demand i])) st.steps.length = at0 st.sums i := by
      rw [step_val, (h.told hT).1]
      rfl
    refine ⟨⟨b.pre, b.ok, b.small, b.imp, b.good, fun k j e => ?_, fun k h1 h2 => ?_, b.idl, b.idx, b.que, b.trl⟩, ⟨rfl, rfl, rfl, rfl, rfl, [_], rfl, Nat.le_refl _⟩, ?_, hv⟩
    · show k < st.sums.length ∧ j < (st.steps ++ [Step.demand i]).length ∧ at0 (stepVals _ _ (st.steps ++ [.demand i])) j = at0 st.sums k
      have e : putP st.places i st.steps.length k = some j := e
      unfold putP at e
      by_cases hk : k = i
      · subst hk
        rw [if_pos rfl] at e
        cases e
        exact ⟨hi, by rw [List.length_append]; exact Nat.lt_succ_self _, hv⟩
      · rw [if_neg hk] at e
        exact b.plc k j e
    · show ∃ j, putP st.places i st.steps.length k = some j
      obtain ⟨j, e⟩ := h.lrn k h1 h2
      unfold putP
      by_cases hk : k = i
      · exact ⟨_, if_pos hk⟩
      · exact ⟨j, by rw [if_neg hk]; exact e⟩
    · show st.steps.length < (st.steps ++ [Step.demand i]).length
      rw [List.length_append]
      exact Nat.lt_succ_self _
/-! the sum's clause -/
theorem mxW_len (w : List Int) (d : Int) : (mxW w d).length = w.length := List.length_map _
theorem rTerms_in {sz : List Nat} {s : PSum} {tf : Nat → Int} (hz : Tiny sz) (h : SumOk sz s) : TermsOk sz (rTerms s tf) ∧ (∀ t ∈ rTerms s tf, 2 ≤ t.2.length) ∧ Raises s (rTerms s tf) := by
  have key : ∀ c u, ((look s.1 c).bind fun w => if lmin w < tf c then some (mxW w (tf c)) else none) = some u → ∃ w, look s.1 c = some w ∧ u = mxW w (tf c) := fun c u e => by
    cases hl : look s.1 c with
    | none => rw [hl] at e; cases e
    | some w =>
      rw [hl] at e
      have e : (if lmin w < tf c then some (mxW w (tf c)) else none) = some u := e
      by_cases h1 : lmin w < tf c
      · rw [if_pos h1] at e; cases e; exact ⟨w, rfl, rfl⟩
      · rw [if_neg h1] at e; cases e
  have hz1 : ∀ n ∈ sz, n ≤ 1000 := fun n hn => by have := (hz.2 n hn).2; omega
  have hin := h.inn hz1
  have tin : TabIn sz fun c => (look s.1 c).bind fun w => if lmin w < tf c then some (mxW w (tf c)) else none := fun c u e => by
    obtain ⟨w, hl, rfl⟩ := key c u e
    rw [mxW_len]
    exact hin _ (look_some hl)
  rw [rTerms_tab h]
  refine ⟨tabT_ok tin, fun t ht => (tin t.1 t.2 (mem_tabT.mp ht).2).2.1, fun t ht i a b ea eb => ?_⟩
  obtain ⟨w, hl, e⟩ := key t.1 t.2 (mem_tabT.mp ht).2
  rw [hl, Option.getD_some] at ea
  rw [e] at eb
  unfold mxW at eb
  rw [List.getElem?_map, ea] at eb
  have eb : some (if tf t.1 > a then tf t.1 else a) = some b := eb
  injection eb with eb
  subst eb
  split <;> omega
theorem clL_ne {sz : List Nat} {s : PSum} {tf : Nat → Int} (h : SumOk sz s) : clL s tf ≠ [] ↔ ∃ c, c < sz.length ∧ clOf s tf c ≠ 0 := by
  constructor
  · intro hn
    obtain ⟨p, hp⟩ := List.exists_mem_of_ne_nil _ hn
    unfold clL at hp
    obtain ⟨t, ht, e⟩ := List.mem_filterMap.mp hp
    have hl := look_mem h.1.2 ht
    obtain ⟨hc, hw⟩ := h.w hl
    refine ⟨t.1, hc, ?_⟩
    unfold clOf
    rw [hl]
    by_cases h1 : tf t.1 < lmax t.2
    · exact (above_ne hw _).mpr h1
    · rw [if_neg h1] at e; cases e
  · rintro ⟨c, hc, h0⟩ hn
    unfold clOf at h0
    cases hl : look s.1 c with
    | none => rw [hl] at h0; exact h0 rfl
    | some w =>
      rw [hl] at h0
      have hw := (h.w hl).2
      have h1 := (above_ne hw _).mp h0
      have : (c, aboveB w (tf c)) ∈ clL s tf := by
        unfold clL
        exact List.mem_filterMap.mpr ⟨(c, w), look_some hl, by show (if tf c < lmax w then _ else _) = _; rw [if_pos h1]⟩
      rw [hn] at this
      cases this
theorem raise_ok {sz : List Nat} {T : Sums} {st : MS} {i : Nat} {tf : Nat → Int} (hz : Tiny sz) (h : Base sz T st) (hi : i < st.sums.length) (ht : ∀ c w, look (at0 st.sums i).1 c = some w → 0 ≤ tf c) (hd : sumTf (at0 st.sums i) tf < (at0 st.sums i).2) :
    Base sz T (raiseM st i tf).2 ∧ Grow sz.length T 2 st (raiseM st i tf).2 ∧ (raiseM st i tf).1 < (raiseM st i tf).2.steps.length ∧ at0 (stepVals sz.length T (raiseM st i tf).2.steps) (raiseM st i tf).1 = cutSum sz.length (at0 st.sums i) tf := by
  obtain ⟨p1, p2, p3, p4⟩ := place_ok h hi
  have hs := h.ok _ (at0_mem hi)
  unfold raiseM
  by_cases hr : rTerms (at0 st.sums i) tf = []
  · rw [if_pos hr]
    refine ⟨p1, p2.mono (by decide), p3, ?_⟩
    rw [p4]
    exact noraise_tops hs ht hr
  · rw [if_neg hr]
    obtain ⟨r1, r2, r3⟩ := rTerms_in (tf := tf) hz hs
    refine ⟨p1.step ⟨by rw [stepVals_len]; exact p3, r1, r2, by rw [p4]; exact r3⟩, p2.trans (step_grow _ _), ?_, ?_⟩
    · show (placeM st i).2.steps.length < ((placeM st i).2.steps ++ [_]).length
      rw [List.length_append]
      exact Nat.lt_succ_self _
    · show at0 (stepVals _ _ ((placeM st i).2.steps ++ [_])) (placeM st i).2.steps.length = _
      rw [step_val]
      show raised sz.length (at0 (stepVals sz.length T (placeM st i).2.steps) (placeM st i).1) _ = _
      rw [p4]
      exact raise_tops hs ht (by omega)
theorem clause_ok {sz : List Nat} {T : Sums} {st : MS} {i : Nat} {tf : Nat → Int} (hz : Tiny sz) (h : Base sz T st) (hi : i < st.sums.length) (ht : ∀ c w, look (at0 st.sums i).1 c = some w → 0 ≤ tf c) (hd : sumTf (at0 st.sums i) tf < (at0 st.sums i).2) :
    Base sz T (clauseM st i tf).2 ∧ Grow sz.length T 3 st (clauseM st i tf).2 ∧ (clauseM st i tf).1 < (clauseM st i tf).2.steps.length ∧ Exact sz (at0 (stepVals sz.length T (clauseM st i tf).2.steps) (clauseM st i tf).1) (clOf (at0 st.sums i) tf) := by
  obtain ⟨p1, p2, p3, p4⟩ := raise_ok hz h hi ht hd
  have hs := h.ok _ (at0_mem hi)
  have hsm := h.small _ (at0_mem hi)
  have hex := clause_exact hs ht (by omega : 0 < (at0 st.sums i).2 - sumTf (at0 st.sums i) tf)
  have hnn : ∀ t ∈ (at0 st.sums i).1, 0 ≤ tf t.1 := fun t htm => ht t.1 t.2 (look_mem hs.1.2 htm)
  unfold clauseM
  by_cases hg : clL (at0 st.sums i) tf ≠ [] ∧ 1 < grAll (at0 st.sums i) tf
  · rw [if_pos hg]
    rw [if_pos ⟨(clL_ne hs).mp hg.1, hg.2⟩] at hex
    have hle : grAll (at0 st.sums i) tf ≤ 1000 := grAll_le hs (by decide) (by have := sumTf_nn hnn; omega) fun t htm => by have := hnn t htm; have := hsm.2 t htm; omega
    refine ⟨p1.step ⟨by rw [stepVals_len]; exact p3, by omega, by omega⟩, p2.trans (step_grow _ _), ?_, ?_⟩
    · show (raiseM st i tf).2.steps.length < ((raiseM st i tf).2.steps ++ [_]).length
      rw [List.length_append]
      exact Nat.lt_succ_self _
    · show Exact sz (at0 (stepVals _ _ ((raiseM st i tf).2.steps ++ [_])) (raiseM st i tf).2.steps.length) _
      rw [step_val]
      show Exact sz (divided (at0 (stepVals sz.length T (raiseM st i tf).2.steps) (raiseM st i tf).1) _) _
      rw [p4]
      exact hex
  · rw [if_neg hg]
    rw [if_neg fun z => hg ⟨(clL_ne hs).mpr z.1, z.2⟩] at hex
    exact ⟨p1, p2.mono (by decide), p3, by rw [p4]; exact hex⟩
/-! the cut -/
theorem twice_iff {n c : Nat} {k1 k2 : Cl} : twiceB n c k1 k2 = true ↔ twiceC n c k1 k2 := by
  unfold twiceB twiceC
  rw [List.any_eq_true]
  constructor
  · rintro ⟨s, h1, h2⟩
    rw [Bool.and_eq_true] at h2
    exact ⟨s, List.mem_range.mp h1, of_decide_eq_true h2.1, of_decide_eq_true h2.2⟩
  · rintro ⟨s, h1, h2, h3⟩
    exact ⟨s, List.mem_range.mpr h1, by rw [decide_eq_true h2, decide_eq_true h3]; rfl⟩
theorem wide_ok {sz : List Nat} {T : Sums} {st : MS} {one c : Nat} {k1 k2 : Cl} (hz : Tiny sz) (h : Base sz T st) (hc : CutOk sz c k1 k2) (h1 : one < st.steps.length) (e1 : at0 (stepVals sz.length T st.steps) one = clSum sz k1) :
    Base sz T (wideM sz st one k1 k2 c).2 ∧ Grow sz.length T 1 st (wideM sz st one k1 k2 c).2 ∧ (wideM sz st one k1 k2 c).1 < (wideM sz st one k1 k2 c).2.steps.length ∧ at0 (stepVals sz.length T (wideM sz st one k1 k2 c).2.steps) (wideM sz st one k1 k2 c).1 = clSum sz (wideC sz c k1 k2) := by
  unfold wideM
  by_cases hw : wideB (szOf sz c) (k1 c) (k2 c) = k1 c
  · rw [if_pos hw]
    refine ⟨h, (Grow.refl st).mono (by decide), h1, ?_⟩
    rw [e1]
    have : wideC sz c k1 k2 = k1 := by
      funext s
      unfold wideC
      by_cases hs : s = c
      · subst hs; rw [if_pos rfl]; exact hw
      · rw [if_neg hs]
    rw [this]
  · rw [if_neg hw]
    have l1 := hc.lt1 c hc.hc
    have l2 := hc.lt2 c hc.hc
    have h2 : 2 ≤ szOf sz c := by
      obtain ⟨v, hv, v1, _⟩ := hc.at2
      obtain ⟨u, hu⟩ := bit_ex hc.at1
      have := bit_lt l1 hu
      have : u ≠ v := fun z => by subst z; rw [hu] at v1; cases v1
      omega
    have g : StepGood sz T (stepVals sz.length T st.steps) (.raise one [(c, bitsW (szOf sz c) (wideB (szOf sz c) (k1 c) (k2 c)))]) := by
      refine ⟨by rw [stepVals_len]; exact h1, ⟨fun t ht => ?_, by simp⟩, fun t ht => ?_, fun t ht i a b ea eb => ?_⟩
      · rw [List.mem_singleton] at ht
        subst ht
        exact ⟨szOf sz c, szOf_get hc.hc, bitsW_len _ _⟩
      · rw [List.mem_singleton] at ht
        subst ht
        show 2 ≤ (bitsW _ _).length
        rw [bitsW_len]
        exact h2
      · rw [List.mem_singleton] at ht
        subst ht
        rw [e1, look_cl hc.hc, clTab_pos hc.at1, Option.getD_some] at ea
        have eb : (bitsW (szOf sz c) (wideB (szOf sz c) (k1 c) (k2 c)))[i]? = some b := eb
        unfold bitsW at ea eb
        rw [List.getElem?_map] at ea eb
        cases hr : (List.range (szOf sz c))[i]? with
        | none => rw [hr] at ea; cases ea
        | some v =>
          rw [hr] at ea eb
          injection ea with ea
          injection eb with eb
          subst ea eb
          have := testBit_wide l1 l2 v
          show (if (k1 c).testBit v = true then (1 : Int) else 0) ≤ if (wideB (szOf sz c) (k1 c) (k2 c)).testBit v = true then 1 else 0
          rw [this]
          cases (k1 c).testBit v with
          | false => rw [if_neg (by decide)]; split <;> decide
          | true => rw [Bool.true_or]; exact Int.le_refl _
    refine ⟨h.step g, step_grow _ _, ?_, ?_⟩
    · show st.steps.length < (st.steps ++ [_]).length
      rw [List.length_append]
      exact Nat.lt_succ_self _
    · show at0 (stepVals _ _ (st.steps ++ [_])) st.steps.length = _
      rw [step_val]
      show raised sz.length (at0 (stepVals sz.length T st.steps) one) _ = _
      rw [e1]
      exact cut_wide hc
theorem cut_ok {sz : List Nat} {T : Sums} {st : MS} {one two c : Nat} {k1 k2 : Cl} (hz : Tiny sz) (h : Base sz T st) (hc : CutOk sz c k1 k2) (h1 : one < st.steps.length) (e1 : at0 (stepVals sz.length T st.steps) one = clSum sz k1)
    (h2 : two < st.steps.length) (e2 : at0 (stepVals sz.length T st.steps) two = clSum sz k2) :
    Base sz T (cutM sz st one k1 two k2 c).2 ∧ Grow sz.length T 3 st (cutM sz st one k1 two k2 c).2 ∧ (cutM sz st one k1 two k2 c).1 < (cutM sz st one k1 two k2 c).2.steps.length ∧ Exact sz (at0 (stepVals sz.length T (cutM sz st one k1 two k2 c).2.steps) (cutM sz st one k1 two k2 c).1) (cutC c k1 k2) := by
  obtain ⟨w1, w2, w3, w4⟩ := wide_ok hz h hc h1 e1
  have h2' : two < (wideM sz st one k1 k2 c).2.steps.length := by have := w2.len; omega
  have e2' : at0 (stepVals sz.length T (wideM sz st one k1 k2 c).2.steps) two = clSum sz k2 := by rw [w2.old h2]; exact e2
  have ga : StepGood sz T (stepVals sz.length T (wideM sz st one k1 k2 c).2.steps) (.add [((wideM sz st one k1 k2 c).1, 1), (two, 1)]) := by
    refine ⟨(by show (2 : Nat) ≤ 1000; decide), fun p hp => ?_⟩
    rw [stepVals_len]
    simp only [List.mem_cons, List.not_mem_nil, or_false] at hp
    rcases hp with rfl | rfl
    · exact ⟨w3, Int.le_refl 1, (by show (1 : Int) < 2 ^ 60; decide)⟩
    · exact ⟨h2', Int.le_refl 1, (by show (1 : Int) < 2 ^ 60; decide)⟩
  have a1 : Base sz T (addM sz st one k1 two k2 c).2 := w1.step ga
  have a2 : Grow sz.length T 2 st (addM sz st one k1 two k2 c).2 := w2.trans (step_grow _ _)
  have a3 : (addM sz st one k1 two k2 c).1 < (addM sz st one k1 two k2 c).2.steps.length := by
    show (wideM sz st one k1 k2 c).2.steps.length < ((wideM sz st one k1 k2 c).2.steps ++ [_]).length
    rw [List.length_append]
    exact Nat.lt_succ_self _
  have a4 : at0 (stepVals sz.length T (addM sz st one k1 two k2 c).2.steps) (addM sz st one k1 two k2 c).1 = (tabT sz.length (addTab sz c k1 k2), 1) := by
    show at0 (stepVals _ _ ((wideM sz st one k1 k2 c).2.steps ++ [_])) (wideM sz st one k1 k2 c).2.steps.length = _
    rw [step_val]
    show added sz.length [(at0 _ (wideM sz st one k1 k2 c).1, 1), (at0 _ two, 1)] = _
    rw [w4, e2']
    exact cut_add hc
  unfold cutM
  by_cases ht : twiceB sz.length c k1 k2 = true
  · rw [if_pos ht]
    refine ⟨a1.step ⟨by rw [stepVals_len]; exact a3, by rw [a4]; exact (by decide : (0 : Int) < 1)⟩, a2.trans (step_grow _ _), ?_, ?_⟩
    · show (addM sz st one k1 two k2 c).2.steps.length < ((addM sz st one k1 two k2 c).2.steps ++ [_]).length
      rw [List.length_append]
      exact Nat.lt_succ_self _
    · show Exact sz (at0 (stepVals _ _ ((addM sz st one k1 two k2 c).2.steps ++ [_])) (addM sz st one k1 two k2 c).2.steps.length) _
      rw [step_val]
      show Exact sz (capped (at0 _ (addM sz st one k1 two k2 c).1)) _
      rw [a4, cut_twice hc]
      exact cl_exact
  · rw [if_neg ht]
    refine ⟨a1, a2.mono (by decide), a3, ?_⟩
    rw [a4, cut_once hc fun z => ht (twice_iff.mpr z)]
    exact cl_exact
end Bh
namespace Bh
/-! ### bits once more -/
theorem sub_bits4 : ∀ a < 16, ∀ b < 16, a &&& b = b → ∀ v < 4, (a - b).testBit v = (a.testBit v && !b.testBit v) := by decide +kernel
theorem sub_and {a b : Nat} (h : ∀ v, b.testBit v = true → a.testBit v = true) : a &&& b = b := bits_ext fun v => by
  rw [Nat.testBit_and]
  cases hb : b.testBit v with
  | false => rw [Bool.and_false]
  | true => rw [h v hb]; rfl
theorem sub_bits {a b : Nat} (ha : a < 16) (h : ∀ v, b.testBit v = true → a.testBit v = true) (v : Nat) : (a - b).testBit v = (a.testBit v && !b.testBit v) := by
  have hb : b < 16 := sub_lt (n := 4) ha h
  by_cases hv : v < 4
  · exact sub_bits4 a ha b hb (sub_and h) v hv
  · have e1 : a.testBit v = false := by
      cases e : a.testBit v with
      | false => rfl
      | true => exact absurd (bit_lt (n := 4) ha e) hv
    have e2 : (a - b).testBit v = false := by
      cases e : (a - b).testBit v with
      | false => rfl
      | true => exact absurd (bit_lt (n := 4) (by omega : a - b < 2 ^ 4) e) hv
    rw [e1, e2]
    rfl
theorem ne_bit {a b : Nat} (h : ∀ v, b.testBit v = true → a.testBit v = true) (hn : b ≠ a) : ∃ v, a.testBit v = true ∧ b.testBit v = false := by
  apply Classical.byContradiction
  intro hx
  apply hn
  refine bits_ext fun v => ?_
  cases ha : a.testBit v with
  | false =>
    cases hb : b.testBit v with
    | false => rfl
    | true => rw [h v hb] at ha; cases ha
  | true =>
    cases hb : b.testBit v with
    | false => exact absurd ⟨v, ha, hb⟩ hx
    | true => rfl
theorem and_ne {a b : Nat} : a &&& b ≠ 0 ↔ ∃ v, a.testBit v = true ∧ b.testBit v = true := by
  constructor
  · intro h
    obtain ⟨v, hv⟩ := bit_ex h
    rw [Nat.testBit_and, Bool.and_eq_true] at hv
    exact ⟨v, hv⟩
  · rintro ⟨v, h1, h2⟩ z
    have := Nat.testBit_and a b v
    rw [z, Nat.zero_testBit, h1, h2] at this
    cases this
/-! ### moves that keep what is true -/
theorem Base.setsOk {sz : List Nat} {T : Sums} {st : MS} (hz : Tiny sz) (h : Base sz T st) : SetsOk sz st.sets := h.trl.sets hz
theorem SetsOk.lt16 {sz sets : List Nat} (hz : Tiny sz) (h : SetsOk sz sets) {c : Nat} (hc : c < sz.length) : sAt sets c < 16 := Bh.lt16 (hz.le c) (h.2 c hc).2
theorem pop_ok {sz : List Nat} {T : Sums} {st : MS} {c b : Nat} {r : Int} {rest : List (Nat × Nat × Int)} (hz : Tiny sz) (h : Base sz T st) (ht : st.trail = (c, b, r) :: rest) : Base sz T (popM st c b rest) := by
  have trl := h.trl
  rw [ht] at trl
  obtain ⟨s', e, h1, _⟩ := trl.pop hz
  refine ⟨h.pre, h.ok, h.small, h.imp, h.good, h.plc, h.lrn, h.idl, h.idx, h.que, ?_⟩
  show TrailOk sz T st.sums (st.sets.set c b) rest
  rw [← e]
  exact h1
theorem index_get {sz : List Nat} {T : Sums} {st : MS} (h : Base sz T st) {c : Nat} (hc : c < sz.length) : st.index[c]? = some (st.index.getD c []) := by
  rw [List.getD_eq_getElem?_getD, List.getElem?_eq_getElem (by rw [h.idl]; exact hc)]
  rfl
theorem narrow_ok {sz : List Nat} {T : Sums} {st : MS} {c now : Nat} {r : Int} (h : Base sz T st) (hc : c < sz.length) (hs : ∀ v, now.testBit v = true → (sAt st.sets c).testBit v = true) (h0 : now ≠ 0) (hn : now ≠ sAt st.sets c) (hw : Why sz T st.sums st.sets c now r) : Base sz T (narrowM st c now r) := by
  refine ⟨h.pre, h.ok, h.small, h.imp, h.good, h.plc, h.lrn, h.idl, h.idx, fun i hi => ?_, .cons h.trl hc hs h0 hn hw⟩
  have hi : i ∈ st.queue ++ st.index.getD c [] := hi
  rcases List.mem_append.mp hi with hi | hi
  · exact h.que i hi
  · exact (((h.idx c _ (index_get h hc)).2 i).mp hi).1
def ToldOk (T : Sums) (st : MS) : Prop := ∀ i, i < T.length → i ∈ st.queue ∨ ¬ Broken (at0 T i) st.sets
theorem broken_set {s : PSum} {sets : List Nat} {c now : Nat} (hc : c < sets.length) (hl : look s.1 c = none) : Broken s (sets.set c now) → Broken s sets := by
  intro hb
  unfold Broken at hb ⊢
  have : sumTf s (topF s (sets.set c now)) = sumTf s (topF s sets) := sumTf_congr fun t ht => by
    unfold topF
    rw [sAt_set hc, if_neg (look_none hl ht)]
  rw [this] at hb
  exact hb
theorem narrow_told {sz : List Nat} {T : Sums} {st : MS} {c now : Nat} {r : Int} (hz : Tiny sz) (h : Base sz T st) (hc : c < sz.length) (ht : ToldOk T st) : ToldOk T (narrowM st c now r) := fun i hi => by
  rcases ht i hi with h1 | h1
  · exact .inl (List.mem_append_left _ h1)
  · cases hl : look (at0 T i).1 c with
    | none => exact .inr fun hb => h1 (broken_set (by rw [(h.setsOk hz).1]; exact hc) hl hb)
    | some w =>
      obtain ⟨e, hlt⟩ := h.told hi
      refine .inl (List.mem_append_right _ (((h.idx c _ (index_get h hc)).2 i).mpr ⟨hlt, ?_⟩))
      rw [e, hl]
      exact Option.some_ne_none w
/-! a learnt clause -/
theorem clTab_in {sz : List Nat} {k : Cl} (hz : Tiny sz) (hl : ∀ c, c < sz.length → k c < 2 ^ szOf sz c) (ho : ∀ c, sz.length ≤ c → k c = 0) (hx : ∀ c, c < sz.length → ∃ u, u < szOf sz c ∧ (k c).testBit u = false) : TabIn sz (clTab sz k) := fun c w e => by
  by_cases h0 : k c = 0
  · rw [clTab_zero h0] at e; cases e
  · rw [clTab_pos h0] at e
    cases e
    have hc : c < sz.length := Classical.byContradiction fun z => h0 (ho c (by omega))
    rw [bitsW_len]
    obtain ⟨u, hu, h1⟩ := hx c hc
    obtain ⟨v, hv⟩ := bit_ex h0
    have := bit_lt (hl c hc) hv
    have : u ≠ v := fun z => by subst z; rw [hv] at h1; cases h1
    have := hz.le c
    exact ⟨szOf_get hc, by omega, by omega⟩
theorem clSum_ok {sz : List Nat} {k : Cl} (hz : Tiny sz) (hl : ∀ c, c < sz.length → k c < 2 ^ szOf sz c) (ho : ∀ c, sz.length ≤ c → k c = 0) (hx : ∀ c, c < sz.length → ∃ u, u < szOf sz c ∧ (k c).testBit u = false) : SumOk sz (clSum sz k) := by
  rw [← form_cl fun c hc => ⟨hl c hc, hx c hc⟩]
  exact tab_form_ok (clTab_in hz hl ho hx)
theorem bitsW_get {n b v : Nat} (hv : v < n) : (bitsW n b).getD v 0 = if b.testBit v then 1 else 0 := by
  unfold bitsW
  rw [List.getD_eq_getElem?_getD, List.getElem?_map, List.getElem?_range hv]
  rfl
theorem sum_ge {l : List Nat} {f : Nat → Int} (h : ∀ d ∈ l, 0 ≤ f d) {c : Nat} (hc : c ∈ l) : f c ≤ (l.map f).sum := by
  induction l with
  | nil => cases hc
  | cons x r ih =>
    rw [List.map_cons, List.sum_cons]
    have h1 := h x (List.mem_cons_self ..)
    have h2 : 0 ≤ (r.map f).sum := by
      have := sum_le (l := r) (f := fun _ => 0) (g := f) fun d hd => h d (List.mem_cons_of_mem _ hd)
      rw [sum_zero (f := fun _ => (0 : Int)) fun _ _ => rfl] at this
      exact this
    rcases List.mem_cons.mp hc with rfl | hc
    · omega
    · have := ih (fun d hd => h d (List.mem_cons_of_mem _ hd)) hc
      omega
theorem clSum_keeps {sz : List Nat} {k : Cl} {r : List Nat} (hs : SumOk sz (clSum sz k)) (hv : Valid sz r) {c : Nat} (hc : c < sz.length) (hb : (k c).testBit (rv r c) = true) : Keeps (clSum sz k) r := by
  unfold Keeps
  rw [sumTf_tab hs]
  have h0 : k c ≠ 0 := fun z => by rw [z, Nat.zero_testBit] at hb; cases hb
  have hnn : ∀ d ∈ List.range sz.length, 0 ≤ (match look (clSum sz k).1 d with | some _ => rowF (clSum sz k) r d | none => 0) := fun d hd => by
    cases hl : look (clSum sz k).1 d with
    | none => exact Int.le_refl _
    | some w =>
      show 0 ≤ rowF (clSum sz k) r d
      unfold rowF
      rw [hl]
      exact (hs.w hl).2.nn _
  have h1 := sum_ge hnn (List.mem_range.mpr hc)
  refine Int.le_trans ?_ h1
  have hl : look (clSum sz k).1 c = some (bitsW (szOf sz c) (k c)) := by rw [look_cl hc, clTab_pos h0]
  rw [hl]
  show (1 : Int) ≤ rowF (clSum sz k) r c
  unfold rowF
  rw [hl]
  show (1 : Int) ≤ (bitsW (szOf sz c) (k c)).getD (rv r c) 0
  rw [bitsW_get (hv.2 c hc), hb]
  exact Int.le_refl _
/-- what is true while the search turns back -/
structure BackI (sz : List Nat) (T : Sums) (st : MS) (place : Nat) (k : Cl) : Prop where
  base : Base sz T st
  lt : ∀ c, c < sz.length → k c < 2 ^ szOf sz c
  off : ∀ c, sz.length ≤ c → k c = 0
  dis : ∀ c, c < sz.length → ∀ v, (k c).testBit v = true → (sAt st.sets c).testBit v = false
  pl : place < st.steps.length
  ex : Exact sz (at0 (stepVals sz.length T st.steps) place) k
  imp : ∀ r, Sol sz T r → ∃ c, c < sz.length ∧ (k c).testBit (rv r c) = true
theorem BackI.out {sz : List Nat} {T : Sums} {st : MS} {place : Nat} {k : Cl} (hz : Tiny sz) (h : BackI sz T st place k) (c : Nat) (hc : c < sz.length) : ∃ u, u < szOf sz c ∧ (k c).testBit u = false := by
  have hs := (h.base.setsOk hz).2 c hc
  obtain ⟨v, hv⟩ := bit_ex hs.1
  refine ⟨v, bit_lt hs.2 hv, ?_⟩
  cases e : (k c).testBit v with
  | false => rfl
  | true => have := h.dis c hc v e; rw [hv] at this; cases this
theorem clOf_lt {sz : List Nat} {s : PSum} {tf : Nat → Int} (h : SumOk sz s) : (∀ c, c < sz.length → clOf s tf c < 2 ^ szOf sz c) ∧ ∀ c, sz.length ≤ c → clOf s tf c = 0 := by
  refine ⟨fun c hc => ?_, fun c hc => ?_⟩
  · unfold clOf
    cases hl : look s.1 c with
    | none => exact Nat.two_pow_pos _
    | some w =>
      have := above_lt w (tf c)
      rw [(h.w hl).2.len] at this
      exact this
  · unfold clOf
    cases hl : look s.1 c with
    | none => rfl
    | some w => have := (h.w hl).1; omega
theorem clOf_bit {s : PSum} {tf : Nat → Int} {c v : Nat} (h : (clOf s tf c).testBit v = true) : ∃ w, look s.1 c = some w ∧ v < w.length ∧ tf c < w.getD v 0 := by
  unfold clOf at h
  cases hl : look s.1 c with
  | none => rw [hl] at h; rw [Nat.zero_testBit] at h; cases h
  | some w =>
    rw [hl] at h
    rw [testBit_above, Bool.and_eq_true] at h
    exact ⟨w, rfl, of_decide_eq_true h.1, of_decide_eq_true h.2⟩
theorem topF_nn {sz : List Nat} {s : PSum} {sets : List Nat} (hz : Tiny sz) (h : SumOk sz s) (hs : SetsOk sz sets) {c : Nat} {w : List Int} (hl : look s.1 c = some w) : 0 ≤ topF s sets c := by
  obtain ⟨hc, hw⟩ := h.w hl
  unfold topF
  rw [hl]
  exact (topB_nn hw (hs.lt16 hz hc) (hs.2 c hc).1).1
theorem back_start {sz : List Nat} {T : Sums} {st : MS} {i : Nat} (hz : Tiny sz) (h : Base sz T st) (hi : i < st.sums.length) (hb : Broken (at0 st.sums i) st.sets) :
    BackI sz T (clauseM st i (topF (at0 st.sums i) st.sets)).2 (clauseM st i (topF (at0 st.sums i) st.sets)).1 (clOf (at0 st.sums i) (topF (at0 st.sums i) st.sets)) ∧ Grow sz.length T 3 st (clauseM st i (topF (at0 st.sums i) st.sets)).2 := by
  have hs := h.ok _ (at0_mem hi)
  have hso := h.setsOk hz
  obtain ⟨c1, c2, c3, c4⟩ := clause_ok hz h hi (fun c w hl => topF_nn hz hs hso hl) hb
  refine ⟨⟨c1, (clOf_lt hs).1, (clOf_lt hs).2, fun c hc v hv => ?_, c3, c4, fun r hr => some_above hs hr.1 (h.imp _ (at0_mem hi) r hr) hb⟩, c2⟩
  rw [c2.sets]
  obtain ⟨w, hl, hvl, hlt⟩ := clOf_bit hv
  cases e : (sAt st.sets c).testBit v with
  | false => rfl
  | true =>
    have := le_topB (w := w) (hz.le c) (hso.2 c hc).2 e
    unfold topF at hlt
    rw [hl] at hlt
    have hlt : topB w (sAt st.sets c) < w.getD v 0 := hlt
    omega
theorem back_skip {sz : List Nat} {T : Sums} {st : MS} {place c b : Nat} {r : Int} {rest : List (Nat × Nat × Int)} {k : Cl} (hz : Tiny sz) (h : BackI sz T st place k) (ht : st.trail = (c, b, r) :: rest) (h0 : k c &&& b = 0) : BackI sz T (popM st c b rest) place k := by
  have trl := h.base.trl
  rw [ht] at trl
  obtain ⟨s', e, h1, hc, e2, e3, _⟩ := trl.pop hz
  have hl : st.sets.length = sz.length := (h.base.setsOk hz).1
  refine ⟨pop_ok hz h.base ht, h.lt, h.off, fun d hd v hv => ?_, h.pl, h.ex, h.imp⟩
  show (sAt (st.sets.set c b) d).testBit v = false
  rw [sAt_set (by rw [hl]; exact hc)]
  by_cases hdc : d = c
  · subst hdc
    rw [if_pos rfl]
    cases e : b.testBit v with
    | false => rfl
    | true => exact absurd h0 (and_ne.mpr ⟨v, hv, e⟩)
  · rw [if_neg hdc]
    exact h.dis d hd v hv
theorem exact_pos {sz : List Nat} {v : PSum} {k : Cl} (h : Exact sz v k) {c : Nat} (hc : c < sz.length) (h0 : k c ≠ 0) : v = clSum sz k := by
  rcases h with h | h
  · exact h.2
  · exact absurd (h.1 c hc) h0
/-- the reason's clause, and the cut -/
theorem back_cut {sz : List Nat} {T : Sums} {st : MS} {place c b i : Nat} {rest : List (Nat × Nat × Int)} {k : Cl} (hz : Tiny sz) (h : BackI sz T st place k) (ht : st.trail = (c, b, (i : Int)) :: rest) (h0 : k c &&& b ≠ 0) {w : List Int} (hlw : look (at0 st.sums i).1 c = some w) :
    i < st.sums.length ∧ b - sAt st.sets c ≠ 0 ∧ b - sAt st.sets c < 2 ^ szOf sz c ∧ sumTf (at0 st.sums i) (goneTf (at0 st.sums i) (st.sets.set c b) c w (b - sAt st.sets c)) < (at0 st.sums i).2 ∧
    (let tf := goneTf (at0 st.sums i) (st.sets.set c b) c w (b - sAt st.sets c)
     let far := clauseM (popM st c b rest) i tf
     let cut := cutM sz far.2 place k far.1 (clOf (at0 st.sums i) tf) c
     CutOk sz c k (clOf (at0 st.sums i) tf) ∧ clOf (at0 st.sums i) tf c ≠ 0 ∧ Grow sz.length T 3 (popM st c b rest) far.2 ∧ Grow sz.length T 3 far.2 cut.2 ∧ BackI sz T cut.2 cut.1 (cutC c k (clOf (at0 st.sums i) tf))) := by
  have trl := h.base.trl
  rw [ht] at trl
  obtain ⟨s', e, h1, hc, e2, e3, hsub, hne0, hneb, hwhy⟩ := trl.pop hz
  have hl : st.sets.length = sz.length := (h.base.setsOk hz).1
  rcases hwhy with ⟨hr, _⟩ | ⟨i', hi', hlt, w', hlw', hsum, hab⟩
  · have : (0 : Int) ≤ (i : Int) := Int.natCast_nonneg i
    omega
  have : i' = i := Int.ofNat.inj hi'.symm
  subst this
  rw [hlw] at hlw'
  cases hlw'
  rw [← e2] at hsum hab
  rw [e] at hsum
  have pb := pop_ok hz h.base ht
  have hs := h.base.ok _ (at0_mem hlt)
  have hso : SetsOk sz (st.sets.set c b) := pb.setsOk hz
  have hb16 : b < 16 := by
    have := hso.lt16 hz hc
    rw [sAt_set (by rw [hl]; exact hc), if_pos rfl] at this
    exact this
  have hblt : b < 2 ^ szOf sz c := by
    have := (hso.2 c hc).2
    rw [sAt_set (by rw [hl]; exact hc), if_pos rfl] at this
    exact this
  have hgone := sub_bits hb16 hsub
  have hg0 : b - sAt st.sets c ≠ 0 := fun z => by
    obtain ⟨v, v1, v2⟩ := ne_bit hsub hneb
    have := hgone v
    rw [z, Nat.zero_testBit, v1, v2] at this
    cases this
  have hglt : b - sAt st.sets c < 2 ^ szOf sz c := by omega
  obtain ⟨_, hw⟩ := hs.w hlw
  have hnn : ∀ d u, look (at0 st.sums i').1 d = some u → 0 ≤ goneTf (at0 st.sums i') (st.sets.set c b) c w (b - sAt st.sets c) d := fun d u hl2 => by
    unfold goneTf
    by_cases hd : d = c
    · rw [if_pos hd]
      exact (topB_nn hw (lt16 (hz.le c) hglt) hg0).1
    · rw [if_neg hd]
      exact topF_nn hz hs hso hl2
  refine ⟨hlt, hg0, hglt, hsum, ?_⟩
  generalize htf : goneTf (at0 st.sums i') (st.sets.set c b) c w (b - sAt st.sets c) = tf at hsum hnn
  obtain ⟨c1, c2, c3, c4⟩ := clause_ok (st := popM st c b rest) (i := i') (tf := tf) hz pb hlt hnn hsum
  have c4 : Exact sz (at0 (stepVals sz.length T (clauseM (popM st c b rest) i' tf).2.steps) (clauseM (popM st c b rest) i' tf).1) (clOf (at0 st.sums i') tf) := c4
  have tfc : tf c = topB w (b - sAt st.sets c) := by rw [← htf]; exact if_pos rfl
  have tfd : ∀ d, d ≠ c → tf d = topF (at0 st.sums i') (st.sets.set c b) d := fun d hd => by rw [← htf]; exact if_neg hd
  -- the reason's clause off the sets, but for the gone
  have offd : ∀ d, d < sz.length → d ≠ c → ∀ v, (clOf (at0 st.sums i') tf d).testBit v = true → (sAt (st.sets.set c b) d).testBit v = false := fun d hd hdc v hv => by
    obtain ⟨u, hl2, hvl, hlt2⟩ := clOf_bit hv
    cases ev : (sAt (st.sets.set c b) d).testBit v with
    | false => rfl
    | true =>
      have := le_topB (w := u) (hz.le d) (hso.2 d hd).2 ev
      rw [tfd d hdc] at hlt2
      unfold topF at hlt2
      rw [hl2] at hlt2
      have hlt2 : topB u (sAt (st.sets.set c b) d) < u.getD v 0 := hlt2
      omega
  have offc : ∀ v, (clOf (at0 st.sums i') tf c).testBit v = true → (b - sAt st.sets c).testBit v = false := fun v hv => by
    obtain ⟨u, hl2, hvl, hlt2⟩ := clOf_bit hv
    rw [hlw] at hl2
    cases hl2
    cases ev : (b - sAt st.sets c).testBit v with
    | false => rfl
    | true =>
      have := le_topB (w := w) (hz.le c) hglt ev
      rw [tfc] at hlt2
      omega
  obtain ⟨kv, hkv⟩ := bit_ex hne0
  have hkvb := hsub kv hkv
  have hck : CutOk sz c k (clOf (at0 st.sums i') tf) := by
    refine ⟨hc, h.lt, (clOf_lt hs).1, fun d hd hdc => ?_, ⟨kv, bit_lt hblt hkvb, ?_, ?_⟩, fun z => h0 (by rw [z]; exact Nat.zero_and _)⟩
    · obtain ⟨v, hv⟩ := bit_ex (hso.2 d hd).1
      have e5 : sAt (st.sets.set c b) d = sAt st.sets d := by rw [sAt_set (by rw [hl]; exact hc), if_neg hdc]
      refine ⟨v, bit_lt (hso.2 d hd).2 hv, ?_, ?_⟩
      · cases ev : (k d).testBit v with
        | false => rfl
        | true => have := h.dis d hd v ev; rw [← e5, hv] at this; cases this
      · cases ev : (clOf (at0 st.sums i') tf d).testBit v with
        | false => rfl
        | true => have := offd d hd hdc v ev; rw [hv] at this; cases this
    · cases ev : (k c).testBit kv with
      | false => rfl
      | true => have := h.dis c hc kv ev; rw [hkv] at this; cases this
    · unfold clOf
      rw [hlw]
      show (aboveB w (tf c)).testBit kv = true
      rw [testBit_above, hw.len, decide_eq_true (bit_lt hblt hkvb), tfc, decide_eq_true (hab kv hkv)]
      rfl
  have k2c : clOf (at0 st.sums i') tf c ≠ 0 := fun z => by
    obtain ⟨v, _, _, v2⟩ := hck.at2
    rw [z, Nat.zero_testBit] at v2
    cases v2
  have e1 : at0 (stepVals sz.length T (clauseM (popM st c b rest) i' tf).2.steps) place = clSum sz k := by
    rw [c2.old (show place < (popM st c b rest).steps.length from h.pl)]
    exact exact_pos h.ex hc hck.at1
  obtain ⟨d1, d2, d3, d4⟩ := cut_ok hz c1 hck (by have := c2.len; have := h.pl; exact Nat.lt_of_lt_of_le h.pl c2.len.1) e1 c3 (exact_pos c4 hc k2c)
  refine ⟨hck, k2c, c2, d2, d1, fun d hd => cutC_lt hck hd, fun d hd => ?_, fun d hd v hv => ?_, d3, d4, fun r hr => ?_⟩
  · have z1 := h.off d hd
    have z2 := (clOf_lt (tf := tf) hs).2 d hd
    unfold cutC
    rw [z1, z2]
    split <;> rfl
  · rw [d2.sets, c2.sets]
    show (sAt (st.sets.set c b) d).testBit v = false
    unfold cutC at hv
    by_cases hdc : d = c
    · subst hdc
      rw [if_pos rfl, Nat.testBit_and, Bool.and_eq_true] at hv
      rw [sAt_set (by rw [hl]; exact hc), if_pos rfl]
      cases ev : b.testBit v with
      | false => rfl
      | true =>
        have g1 := offc v hv.2
        rw [hgone, ev, h.dis d hd v hv.1] at g1
        cases g1
    · rw [if_neg hdc, Nat.testBit_or, Bool.or_eq_true] at hv
      rcases hv with hv | hv
      · rw [sAt_set (by rw [hl]; exact hc), if_neg hdc]
        exact h.dis d hd v hv
      · exact offd d hd hdc v hv
  · obtain ⟨x, hx, bx⟩ := h.imp r hr
    have hk : Keeps (at0 st.sums i') r := h.base.imp _ (at0_mem hlt) r hr
    obtain ⟨y, hy, byy⟩ := some_above (tf := tf) hs hr.1 hk hsum
    by_cases hxc : x = c
    · subst hxc
      by_cases hyc : y = x
      · subst hyc
        exact ⟨y, hy, by unfold cutC; rw [if_pos rfl, Nat.testBit_and, bx, byy]; rfl⟩
      · exact ⟨y, hy, by unfold cutC; rw [if_neg hyc, Nat.testBit_or, byy, Bool.or_true]⟩
    · exact ⟨x, hx, by unfold cutC; rw [if_neg hxc, Nat.testBit_or, bx]; rfl⟩
end Bh
namespace Bh
/-! ### the end without a decision -/
def RefOk (sz : List Nat) (T : Sums) (sts : List Step) : Prop := StepsGood sz T sts ∧ sts ≠ [] ∧ (at0 (stepVals sz.length T sts) (sts.length - 1)).1 = [] ∧ 1 ≤ (at0 (stepVals sz.length T sts) (sts.length - 1)).2
theorem full_bit {n v : Nat} (hv : v < n) : (2 ^ n - 1).testBit v = true := by
  rw [Nat.testBit_two_pow_sub_one]
  exact decide_eq_true hv
theorem fulls_at {sz : List Nat} {c : Nat} (hc : c < sz.length) : sAt (sz.map fun n => 2 ^ n - 1) c = 2 ^ szOf sz c - 1 := by
  unfold sAt
  rw [List.getD_eq_getElem?_getD, List.getElem?_map, szOf_get hc]
  rfl
theorem back_end {sz : List Nat} {T : Sums} {st : MS} {place : Nat} {k : Cl} (h : BackI sz T st place k) (ht : st.trail = []) : (at0 (stepVals sz.length T st.steps) place).1 = [] ∧ 1 ≤ (at0 (stepVals sz.length T st.steps) place).2 ∧ ∀ r, ¬ Sol sz T r := by
  have trl := h.base.trl
  rw [ht] at trl
  have es : st.sets = sz.map fun n => 2 ^ n - 1 := by
    generalize hx : st.sets = x at trl
    cases trl
    rfl
  have h0 : ∀ c, c < sz.length → k c = 0 := fun c hc => by
    refine bit_zero fun v => ?_
    cases e : (k c).testBit v with
    | false => rfl
    | true =>
      have h1 := h.dis c hc v e
      rw [es, fulls_at hc, full_bit (bit_lt (h.lt c hc) e)] at h1
      cases h1
  refine ⟨?_, ?_, fun r hr => ?_⟩
  · rcases h.ex with ⟨⟨c, hc, hn⟩, _⟩ | h1
    · exact absurd (h0 c hc) hn
    · exact h1.2.1
  · rcases h.ex with ⟨⟨c, hc, hn⟩, _⟩ | h1
    · exact absurd (h0 c hc) hn
    · exact h1.2.2
  · obtain ⟨c, hc, hb⟩ := h.imp r hr
    rw [h0 c hc, Nat.zero_testBit] at hb
    cases hb
theorem capped_nil {v : PSum} (h1 : v.1 = []) (h2 : 1 ≤ v.2) : capped v = ([], v.2) := by
  unfold capped
  rw [h1]
  unfold form formB formT
  simp
  omega
/-- the last steps of a proof -/
def endM (st : MS) (place : Nat) : MS := if place = st.steps.length - 1 then st else stepM st (.cap place)
theorem end_ok {sz : List Nat} {T : Sums} {st : MS} {place : Nat} {k : Cl} (h : BackI sz T st place k) (ht : st.trail = []) : RefOk sz T (endM st place).steps ∧ Grow sz.length T 1 st (endM st place) ∧ Base sz T (endM st place) := by
  obtain ⟨e1, e2, _⟩ := back_end h ht
  have hp := h.pl
  unfold endM
  by_cases hpl : place = st.steps.length - 1
  · rw [if_pos hpl]
    refine ⟨⟨h.base.good, fun z => by rw [z] at hp; exact Nat.not_lt_zero _ hp, ?_, ?_⟩, (Grow.refl st).mono (by decide), h.base⟩
    · rw [← hpl]; exact e1
    · rw [← hpl]; exact e2
  · rw [if_neg hpl]
    have hb : Base sz T (stepM st (.cap place)) := h.base.step ⟨by rw [stepVals_len]; exact hp, by omega⟩
    have hv : at0 (stepVals sz.length T (st.steps ++ [.cap place])) ((st.steps ++ [Step.cap place]).length - 1) = ([], (at0 (stepVals sz.length T st.steps) place).2) := by
      rw [List.length_append]
      show at0 _ (st.steps.length + 1 - 1) = _
      rw [Nat.add_sub_cancel, step_val]
      exact capped_nil e1 e2
    refine ⟨⟨hb.good, by show st.steps ++ [Step.cap place] ≠ []; simp, ?_, ?_⟩, step_grow _ _, hb⟩
    · show (at0 (stepVals sz.length T (st.steps ++ [.cap place])) ((st.steps ++ [Step.cap place]).length - 1)).1 = []
      rw [hv]
    · show 1 ≤ (at0 (stepVals sz.length T (st.steps ++ [.cap place])) ((st.steps ++ [Step.cap place]).length - 1)).2
      rw [hv]
      exact e2
/-! ### learning -/
theorem tell_ok {sz : List Nat} {T : Sums} {st : MS} {place : Nat} {k : Cl} (hz : Tiny sz) (h : Base sz T st) (hp : place < st.steps.length) (he : at0 (stepVals sz.length T st.steps) place = clSum sz k) (hl : ∀ c, c < sz.length → k c < 2 ^ szOf sz c) (ho : ∀ c, sz.length ≤ c → k c = 0)
    (hx : ∀ c, c < sz.length → ∃ u, u < szOf sz c ∧ (k c).testBit u = false) (hi : ∀ r, Sol sz T r → ∃ c, c < sz.length ∧ (k c).testBit (rv r c) = true) : Base sz T (tellM sz T st place k) := by
  have hs := clSum_ok hz hl ho hx
  have hT : T.length ≤ st.sums.length := by
    obtain ⟨l, e⟩ := h.pre
    rw [e, List.length_append]
    omega
  refine ⟨?_, fun s hsm => ?_, fun s hsm => ?_, fun s hsm r hr => ?_, h.good, fun i j e => ?_, fun i h1 h2 => ?_, ?_, fun c l e => ?_, fun i hq => ?_, h.trl.more⟩
  · obtain ⟨l, e⟩ := h.pre
    exact ⟨l ++ [clSum sz k], by show st.sums ++ _ = _; rw [e, List.append_assoc]⟩
  · rcases List.mem_append.mp hsm with hsm | hsm
    · exact h.ok s hsm
    · rw [List.mem_singleton] at hsm; subst hsm; exact hs
  · rcases List.mem_append.mp hsm with hsm | hsm
    · exact h.small s hsm
    · rw [List.mem_singleton] at hsm
      subst hsm
      refine ⟨by show (1 : Int) ≤ 1000; decide, fun t ht => ?_⟩
      have ht : t ∈ tabT sz.length (clTab sz k) := ht
      have e := (mem_tabT.mp ht).2
      have hc := (mem_tabT.mp ht).1
      by_cases h0 : k t.1 = 0
      · rw [clTab_zero h0] at e; cases e
      · rw [clTab_pos h0] at e
        injection e with e
        rw [← e]
        obtain ⟨v, hv⟩ := bit_ex h0
        rw [bitsW_lmax (bit_lt (hl t.1 hc) hv) hv]
        decide
  · rcases List.mem_append.mp hsm with hsm | hsm
    · exact h.imp s hsm r hr
    · rw [List.mem_singleton] at hsm
      subst hsm
      obtain ⟨c, hc, hb⟩ := hi r hr
      exact clSum_keeps hs hr.1 hc hb
  · show i < (st.sums ++ [clSum sz k]).length ∧ j < st.steps.length ∧ at0 (stepVals sz.length T st.steps) j = at0 (st.sums ++ [clSum sz k]) i
    rw [List.length_append]
    have e : putP st.places st.sums.length place i = some j := e
    unfold putP at e
    by_cases hii : i = st.sums.length
    · subst hii
      rw [if_pos rfl] at e
      cases e
      exact ⟨Nat.lt_succ_self _, hp, by rw [at0_last]; exact he⟩
    · rw [if_neg hii] at e
      obtain ⟨g1, g2, g3⟩ := h.plc i j e
      exact ⟨Nat.lt_succ_of_lt g1, g2, by rw [at0_app g1]; exact g3⟩
  · show ∃ j, putP st.places st.sums.length place i = some j
    have h2 : i < (st.sums ++ [clSum sz k]).length := h2
    rw [List.length_append] at h2
    have h2 : i < st.sums.length + 1 := h2
    unfold putP
    by_cases hii : i = st.sums.length
    · exact ⟨_, if_pos hii⟩
    · rw [if_neg hii]
      exact h.lrn i h1 (by omega)
  · show ((List.range sz.length).map _).length = sz.length
    rw [List.length_map, List.length_range]
  · have e : ((List.range sz.length).map fun c => st.index.getD c [] ++ (if k c = 0 then [] else [st.sums.length]))[c]? = some l := e
    rw [List.getElem?_map] at e
    obtain ⟨c', ec, el⟩ := Option.map_eq_some_iff.mp e
    have hc : c < sz.length := by have := (List.getElem?_eq_some_iff.mp ec).1; rwa [List.length_range] at this
    rw [List.getElem?_range hc] at ec
    injection ec with ec
    subst ec
    obtain ⟨g1, g2⟩ := h.idx c _ (index_get h hc)
    show l.length ≤ (st.sums ++ [clSum sz k]).length ∧ ∀ i, i ∈ l ↔ i < (st.sums ++ [clSum sz k]).length ∧ look (at0 (st.sums ++ [clSum sz k]) i).1 c ≠ none
    rw [← el, List.length_append, List.length_append]
    by_cases h0 : k c = 0
    · rw [if_pos h0]
      refine ⟨by show (st.index.getD c []).length + 0 ≤ st.sums.length + 1; omega, fun i => ?_⟩
      rw [List.append_nil, g2 i]
      constructor
      · rintro ⟨a, b⟩
        rw [at0_app a]
        exact ⟨Nat.lt_succ_of_lt a, b⟩
      · rintro ⟨a, b⟩
        have a : i < st.sums.length + 1 := a
        by_cases hii : i = st.sums.length
        · subst hii
          rw [at0_last, look_cl hc, clTab_zero h0] at b
          exact absurd rfl b
        · have : i < st.sums.length := by omega
          rw [at0_app this] at b
          exact ⟨this, b⟩
    · rw [if_neg h0]
      refine ⟨Nat.add_le_add_right g1 1, fun i => ?_⟩
      rw [List.mem_append, List.mem_singleton, g2 i]
      constructor
      · rintro (⟨a, b⟩ | rfl)
        · rw [at0_app a]
          exact ⟨Nat.lt_succ_of_lt a, b⟩
        · refine ⟨Nat.lt_succ_self _, ?_⟩
          rw [at0_last, look_cl hc, clTab_pos h0]
          exact Option.some_ne_none _
      · rintro ⟨a, b⟩
        have a : i < st.sums.length + 1 := a
        by_cases hii : i = st.sums.length
        · exact .inr hii
        · have : i < st.sums.length := by omega
          rw [at0_app this] at b
          exact .inl ⟨this, b⟩
  · show i < (st.sums ++ [clSum sz k]).length
    rw [List.length_append]
    have hq : i ∈ st.queue ++ (List.range (st.sums.length + 1 - T.length)).map (T.length + ·) := hq
    rcases List.mem_append.mp hq with hq | hq
    · exact Nat.lt_succ_of_lt (h.que i hq)
    · obtain ⟨x, hx, rfl⟩ := List.mem_map.mp hq
      have := List.mem_range.mp hx
      show T.length + x < st.sums.length + 1
      omega
theorem learn_ok {sz : List Nat} {T : Sums} {st : MS} {place c b : Nat} {rest : List (Nat × Nat × Int)} {k : Cl} (hz : Tiny sz) (h : BackI sz T st place k) (ht : st.trail = (c, b, -1) :: rest) (h0 : k c &&& b ≠ 0) :
    Base sz T (learnM sz T (popM st c b rest) place k c) ∧ ToldOk T (learnM sz T (popM st c b rest) place k c) ∧ c < sz.length ∧ b &&& k c ≠ 0 ∧ b &&& k c ≠ b ∧ b < 16 ∧ sAt (popM st c b rest).sets c = b ∧ (∀ d, d < c → Single (sAt (popM st c b rest).sets d)) := by
  have trl := h.base.trl
  rw [ht] at trl
  obtain ⟨s', e, h1, hc, e2, e3, hsub, hne0, hneb, hwhy⟩ := trl.pop hz
  have hl : st.sets.length = sz.length := (h.base.setsOk hz).1
  have pb := pop_ok hz h.base ht
  have hso : SetsOk sz (st.sets.set c b) := pb.setsOk hz
  have ec : sAt (st.sets.set c b) c = b := by rw [sAt_set (by rw [hl]; exact hc), if_pos rfl]
  have hb16 : b < 16 := by
    have := hso.lt16 hz hc
    rwa [ec] at this
  have hblt : b < 2 ^ szOf sz c := by
    have := (hso.2 c hc).2
    rwa [ec] at this
  obtain ⟨hold, hsing⟩ : (∀ u ∈ T, ¬ Broken u s') ∧ ∀ d, d < c → Single (sAt s' d) := by
    rcases hwhy with ⟨_, _, h3, h4⟩ | ⟨i, hr, _⟩
    · exact ⟨h4, h3⟩
    · have : (0 : Int) ≤ (i : Int) := Int.natCast_nonneg i
      omega
  rw [e] at hold hsing
  have hkc : k c ≠ 0 := fun z => h0 (by rw [z]; exact Nat.zero_and _)
  have hout := fun d hd => h.out hz d hd
  have tb : Base sz T (tellM sz T (popM st c b rest) place k) := tell_ok hz pb h.pl (exact_pos h.ex hc hkc) h.lt h.off hout h.imp
  have hs := clSum_ok hz h.lt h.off hout
  have hand : k c &&& b = b &&& k c := Nat.and_comm _ _
  have hn0 : b &&& k c ≠ 0 := by rw [← hand]; exact h0
  obtain ⟨kv, hkv⟩ := bit_ex hne0
  have hkk : (k c).testBit kv = false := by
    cases ev : (k c).testBit kv with
    | false => rfl
    | true => have := h.dis c hc kv ev; rw [hkv] at this; cases this
  have hnb : b &&& k c ≠ b := fun z => by
    have := Nat.testBit_and b (k c) kv
    rw [z, hsub kv hkv, hkk] at this
    cases this
  have hsub2 : ∀ v, (b &&& k c).testBit v = true → b.testBit v = true := fun v hv => by
    rw [Nat.testBit_and, Bool.and_eq_true] at hv
    exact hv.1
  have hgone := sub_bits hb16 hsub2
  have hg0 : b - (b &&& k c) ≠ 0 := fun z => by
    obtain ⟨v, v1, v2⟩ := ne_bit hsub2 hnb
    have := hgone v
    rw [z, Nat.zero_testBit, v1, v2] at this
    cases this
  have hglt : b - (b &&& k c) < 2 ^ szOf sz c := by omega
  have htop0 : topB (bitsW (szOf sz c) (k c)) (b - (b &&& k c)) = 0 := by
    obtain ⟨v, hv, e4⟩ := topB_mem (w := bitsW (szOf sz c) (k c)) (lt16 (hz.le c) hglt) hg0
    rw [e4, bitsW_get (bit_lt hglt hv)]
    rw [hgone, Bool.and_eq_true, Nat.testBit_and] at hv
    rw [hv.1] at hv
    have : (k c).testBit v = false := by
      cases ev : (k c).testBit v with
      | false => rfl
      | true => rw [ev] at hv; cases hv.2
    rw [this]
    rfl
  have hlook : look (clSum sz k).1 c = some (bitsW (szOf sz c) (k c)) := by rw [look_cl hc, clTab_pos hkc]
  have hwhy2 : Why sz T (tellM sz T (popM st c b rest) place k).sums (tellM sz T (popM st c b rest) place k).sets c (b &&& k c) (st.sums.length : Int) := by
    refine .inr ⟨st.sums.length, rfl, ?_, bitsW (szOf sz c) (k c), ?_⟩
    · show st.sums.length < (st.sums ++ [_]).length
      rw [List.length_append]
      exact Nat.lt_succ_self _
    · show look (at0 (st.sums ++ [clSum sz k]) st.sums.length).1 c = _ ∧ sumTf (at0 (st.sums ++ [clSum sz k]) st.sums.length) (goneTf (at0 (st.sums ++ [clSum sz k]) st.sums.length) (st.sets.set c b) c _ (sAt (st.sets.set c b) c - (b &&& k c))) < (at0 (st.sums ++ [clSum sz k]) st.sums.length).2 ∧ ∀ u, (b &&& k c).testBit u = true → topB _ (sAt (st.sets.set c b) c - (b &&& k c)) < _
      rw [at0_last, ec, htop0]
      refine ⟨hlook, ?_, fun u hu => ?_⟩
      · have : sumTf (clSum sz k) (goneTf (clSum sz k) (st.sets.set c b) c (bitsW (szOf sz c) (k c)) (b - (b &&& k c))) ≤ sumTf (clSum sz k) fun _ => 0 := sumTf_le fun t htm => by
          have hl2 := look_mem hs.1.2 htm
          obtain ⟨hd, hw⟩ := hs.w hl2
          unfold goneTf
          by_cases hdc : t.1 = c
          · rw [if_pos hdc, htop0]; exact Int.le_refl _
          · rw [if_neg hdc]
            unfold topF
            rw [hl2]
            show topB t.2 (sAt (st.sets.set c b) t.1) ≤ 0
            have e5 : sAt (st.sets.set c b) t.1 = sAt st.sets t.1 := by rw [sAt_set (by rw [hl]; exact hc), if_neg hdc]
            obtain ⟨v, hv, e6⟩ := topB_mem (w := t.2) (hso.lt16 hz hd) (hso.2 t.1 hd).1
            rw [e6]
            rw [look_cl hd] at hl2
            by_cases hk0 : k t.1 = 0
            · rw [clTab_zero hk0] at hl2; cases hl2
            · rw [clTab_pos hk0] at hl2
              injection hl2 with hl2
              rw [← hl2, bitsW_get (bit_lt (hso.2 t.1 hd).2 hv)]
              have : (k t.1).testBit v = false := by
                cases ev : (k t.1).testBit v with
                | false => rfl
                | true => have := h.dis t.1 hd v ev; rw [← e5, hv] at this; cases this
              rw [this]
              decide
        have z : sumTf (clSum sz k) (fun _ => 0) = 0 := by
          rw [sumTf_tab hs]
          exact sum_zero fun d _ => by cases look (clSum sz k).1 d <;> rfl
        rw [z] at this
        show _ < (1 : Int)
        omega
      · rw [bitsW_get (bit_lt hblt (hsub2 u hu))]
        rw [Nat.testBit_and, Bool.and_eq_true] at hu
        rw [hu.2]
        decide
  have en : b &&& k c = sAt (popM st c b rest).sets c &&& k c := by
    show _ = sAt (st.sets.set c b) c &&& k c
    rw [ec]
  have nb : Base sz T (narrowM (tellM sz T (popM st c b rest) place k) c (b &&& k c) (st.sums.length : Int)) := by
    refine narrow_ok tb hc (fun v hv => ?_) hn0 ?_ hwhy2
    · show (sAt (st.sets.set c b) c).testBit v = true
      rw [ec]
      exact hsub2 v hv
    · show b &&& k c ≠ sAt (st.sets.set c b) c
      rw [ec]
      exact hnb
  have tt : ToldOk T (tellM sz T (popM st c b rest) place k) := fun i hi => by
    refine .inr ?_
    show ¬ Broken (at0 T i) (st.sets.set c b)
    exact hold _ (at0_mem hi)
  refine ⟨?_, ?_, hc, hn0, hnb, hb16, ec, hsing⟩
  · unfold learnM
    rw [← en]
    exact nb
  · unfold learnM
    exact narrow_told hz tb hc tt
end Bh
namespace Bh
/-! ### the measure -/
def gM : Nat → Nat → Nat
  | 0, _ => 0
  | _ + 1, 0 => 0
  | d + 1, s + 1 => gM (d + 1) s + 1 + gM d s
theorem gM_step (d s : Nat) : gM (d + 1) (s + 1) = gM (d + 1) s + 1 + gM d s := by rw [gM]
theorem gM_le_s (d : Nat) : ∀ s, gM d s ≤ gM d (s + 1) := fun s => by
  cases d with
  | zero => rw [gM, gM]; exact Nat.le_refl _
  | succ d => rw [gM_step]; omega
theorem gM_mono_s (d : Nat) {s t : Nat} (h : s ≤ t) : gM d s ≤ gM d t := by
  induction h with
  | refl => exact Nat.le_refl _
  | step _ ih => exact Nat.le_trans ih (gM_le_s d _)
theorem gM_lt_s {d s t : Nat} (h : s < t) : gM (d + 1) s + 1 + gM d s ≤ gM (d + 1) t := by
  rw [← gM_step]
  exact gM_mono_s _ h
theorem gM_le_d : ∀ (d s : Nat), gM d s ≤ gM (d + 1) s
  | 0, s => by rw [gM]; exact Nat.zero_le _
  | d + 1, 0 => by rw [gM, gM]; exact Nat.le_refl _
  | d + 1, s + 1 => by
    rw [gM_step, gM_step]
    have := gM_le_d (d + 1) s
    have := gM_le_d d s
    omega
theorem gM_mono_d (s : Nat) {d e : Nat} (h : d ≤ e) : gM d s ≤ gM e s := by
  induction h with
  | refl => exact Nat.le_refl _
  | step _ ih => exact Nat.le_trans ih (gM_le_d _ s)
def lev : List (Nat × Nat × Int) → Nat
  | [] => 0
  | (_, _, r) :: rest => if r = -1 then lev rest + 1 else lev rest
def exc (n : Nat) (sets : List Nat) : Nat := ((List.range n).map fun c => (vals (sAt sets c)).length - 1).sum
def acc (n : Nat) : List Nat → List (Nat × Nat × Int) → Nat
  | _, [] => 0
  | sets, (c, b, r) :: rest => (if r = -1 then gM (n + 1 - lev rest) (exc n (sets.set c b)) else 0) + acc n (sets.set c b) rest
def mu (n : Nat) (sets : List Nat) (tr : List (Nat × Nat × Int)) : Nat := acc n sets tr + gM (n + 1 - lev tr) (exc n sets) + gM (n - lev tr) (exc n sets)
theorem nsum_le {l : List Nat} {f g : Nat → Nat} (h : ∀ d ∈ l, f d ≤ g d) : (l.map f).sum ≤ (l.map g).sum := by
  induction l with
  | nil => exact Nat.le_refl _
  | cons x r ih =>
    rw [List.map_cons, List.map_cons, List.sum_cons, List.sum_cons]
    have := h x (List.mem_cons_self ..)
    have := ih fun d hd => h d (List.mem_cons_of_mem _ hd)
    omega
theorem nsum_lt {l : List Nat} {f g : Nat → Nat} (h : ∀ d ∈ l, f d ≤ g d) {c : Nat} (hc : c ∈ l) (hlt : f c < g c) : (l.map f).sum < (l.map g).sum := by
  induction l with
  | nil => cases hc
  | cons x r ih =>
    rw [List.map_cons, List.map_cons, List.sum_cons, List.sum_cons]
    have h1 := h x (List.mem_cons_self ..)
    have h2 := nsum_le (l := r) fun d hd => h d (List.mem_cons_of_mem _ hd)
    rcases List.mem_cons.mp hc with rfl | hc
    · omega
    · have := ih (fun d hd => h d (List.mem_cons_of_mem _ hd)) hc
      omega
theorem cnt_lt : ∀ a < 16, ∀ b < 16, b &&& a = a → a ≠ b → (vals a).length < (vals b).length := by decide +kernel
theorem cnt_pos {b : Nat} (h16 : b < 16) (h0 : b ≠ 0) : 1 ≤ (vals b).length := List.length_pos_iff.mpr (vals_ne h16 h0)
theorem exc_set {sz sets : List Nat} (hz : Tiny sz) (hs : SetsOk sz sets) {c now : Nat} (hc : c < sz.length) (hsub : ∀ v, now.testBit v = true → (sAt sets c).testBit v = true) (h0 : now ≠ 0) (hn : now ≠ sAt sets c) : exc sz.length (sets.set c now) < exc sz.length sets := by
  have h16 := hs.lt16 hz hc
  have hlt : now < 16 := sub_lt (n := 4) h16 hsub
  have hcn := cnt_lt now hlt _ h16 (sub_and hsub) hn
  have hp := cnt_pos hlt h0
  have e : ∀ d, sAt (sets.set c now) d = if d = c then now else sAt sets d := fun d => sAt_set (by rw [hs.1]; exact hc)
  unfold exc
  refine nsum_lt (fun d _ => ?_) (List.mem_range.mpr hc) ?_
  · rw [e]
    by_cases hd : d = c
    · subst hd; rw [if_pos rfl]; omega
    · rw [if_neg hd]; exact Nat.le_refl _
  · rw [e, if_pos rfl]
    omega
theorem trail_len {sz : List Nat} {T sums : Sums} {sets : List Nat} {tr : List (Nat × Nat × Int)} (hz : Tiny sz) (h : TrailOk sz T sums sets tr) : tr.length + exc sz.length sets ≤ exc sz.length (sz.map fun n => 2 ^ n - 1) := by
  induction h with
  | nil => rw [List.length_nil, Nat.zero_add]; exact Nat.le_refl _
  | cons h hc hs h0 hn hw ih =>
    have := exc_set hz (h.sets hz) hc hs h0 hn
    rw [List.length_cons]
    omega
theorem cnt_full : ∀ n < 5, (vals (2 ^ n - 1)).length = n := by decide
theorem exc_full {sz : List Nat} (hz : Tiny sz) : exc sz.length (sz.map fun n => 2 ^ n - 1) ≤ 12 := by
  unfold exc
  have : ((List.range sz.length).map fun c => (vals (sAt (sz.map fun n => 2 ^ n - 1) c)).length - 1).sum ≤ ((List.range sz.length).map fun _ => 3).sum := nsum_le fun c hc => by
    have hc := List.mem_range.mp hc
    rw [fulls_at hc, cnt_full _ (by have := hz.le c; omega)]
    have := hz.le c
    omega
  have e : ∀ n, ((List.range n).map fun _ => 3).sum = 3 * n := fun n => by
    induction n with
    | zero => rfl
    | succ n ih => rw [List.range_succ, List.map_append, List.sum_append, ih]; simp; omega
  rw [e] at this
  have := hz.1
  omega
theorem least_ex {p : Nat → Prop} (h : ∃ c, p c) : ∃ c, p c ∧ ∀ d, d < c → ¬ p d := by
  obtain ⟨c, hc⟩ := h
  induction c using Nat.strongRecOn with
  | ind c ih =>
    by_cases hx : ∃ d, d < c ∧ p d
    · obtain ⟨d, hd, hp⟩ := hx
      exact ih d hd hp
    · exact ⟨c, hc, fun d hd hp => hx ⟨d, hd, hp⟩⟩
theorem single_pow (v : Nat) : Single (2 ^ v) := fun a b ha hb => by
  rw [Nat.testBit_two_pow] at ha hb
  have ha := of_decide_eq_true ha
  have hb := of_decide_eq_true hb
  omega
theorem not_single {a b : Nat} (hs : ∀ v, a.testBit v = true → b.testBit v = true) (h0 : a ≠ 0) (hn : a ≠ b) : ¬ Single b := fun h => by
  obtain ⟨u, hu⟩ := bit_ex h0
  obtain ⟨v, hv, hv2⟩ := ne_bit hs hn
  have := h u v (hs u hu) hv
  subst this
  rw [hu] at hv2
  cases hv2
theorem lev_le {sz : List Nat} {T sums : Sums} {sets : List Nat} {tr : List (Nat × Nat × Int)} (hz : Tiny sz) (h : TrailOk sz T sums sets tr) : ∀ c, (∀ d, d < c → Single (sAt sets d)) → ¬ Single (sAt sets c) → lev tr ≤ c := by
  induction h with
  | nil => intro c _ _; exact Nat.zero_le _
  | @cons sets rest c0 now r h hc hs h0 hn hw ih =>
    intro c h1 h2
    have hl := (h.sets hz).1
    have e : ∀ d, sAt (sets.set c0 now) d = if d = c0 then now else sAt sets d := fun d => sAt_set (by rw [hl]; exact hc)
    unfold lev
    by_cases hr : r = -1
    · rw [if_pos hr]
      rcases hw with ⟨_, ⟨v, ev, _⟩, h3, _⟩ | ⟨i, hi, _⟩
      · have hns : ¬ Single (sAt sets c0) := not_single hs h0 hn
        have := ih c0 h3 hns
        have hcc : c0 < c := by
          apply Classical.byContradiction
          intro z
          rw [e] at h2
          by_cases hcc : c = c0
          · rw [if_pos hcc, ev] at h2; exact h2 (single_pow v)
          · rw [if_neg hcc] at h2; exact h2 (h3 c (by omega))
        omega
      · have : (0 : Int) ≤ (i : Int) := Int.natCast_nonneg i
        omega
    · rw [if_neg hr]
      have hold : ¬ Single (sAt sets c) := fun z => by
        rw [e] at h2
        by_cases hcc : c = c0
        · rw [if_pos hcc] at h2
          subst hcc
          exact h2 fun u v hu hv => z u v (hs u hu) (hs v hv)
        · rw [if_neg hcc] at h2; exact h2 z
      obtain ⟨c', hc', hmin⟩ := least_ex (p := fun c => ¬ Single (sAt sets c)) ⟨c, hold⟩
      have hle : c' ≤ c := by
        apply Classical.byContradiction
        intro z
        exact hmin c (by omega) hold
      exact Nat.le_trans (ih c' (fun d hd => Classical.byContradiction (hmin d hd)) hc') hle
theorem lev_lt {sz : List Nat} {T sums : Sums} {sets : List Nat} {tr : List (Nat × Nat × Int)} (hz : Tiny sz) (h : TrailOk sz T sums sets tr) {c : Nat} (hc : c < sz.length) (hn : ¬ Single (sAt sets c)) : lev tr < sz.length := by
  obtain ⟨c', hc', hmin⟩ := least_ex (p := fun c => ¬ Single (sAt sets c)) ⟨c, hn⟩
  have hle : c' ≤ c := by
    apply Classical.byContradiction
    intro z
    exact hmin c (by omega) hn
  have := lev_le hz h c' (fun d hd => Classical.byContradiction (hmin d hd)) hc'
  omega
theorem set_back {sets : List Nat} {c now : Nat} (hc : c < sets.length) : (sets.set c now).set c (sAt sets c) = sets := by
  rw [List.set_set]
  have := (List.getElem?_eq_some_iff.mp (sAt_get hc)).2
  rw [← this, List.set_getElem_self]
/-- a narrowing brings the measure down -/
theorem mu_narrow {sz : List Nat} {T : Sums} {st : MS} {c now : Nat} {i : Nat} (hz : Tiny sz) (h : Base sz T st) (hc : c < sz.length) (hs : ∀ v, now.testBit v = true → (sAt st.sets c).testBit v = true) (h0 : now ≠ 0) (hn : now ≠ sAt st.sets c) :
    mu sz.length (narrowM st c now (i : Int)).sets (narrowM st c now (i : Int)).trail < mu sz.length st.sets st.trail := by
  have hso := h.setsOk hz
  have he := exc_set hz hso hc hs h0 hn
  have hlv := lev_lt hz h.trl hc (not_single hs h0 hn)
  have hr : ¬ ((i : Int) = -1) := by omega
  show mu sz.length (st.sets.set c now) ((c, sAt st.sets c, (i : Int)) :: st.trail) < _
  unfold mu
  rw [acc, lev, if_neg hr, if_neg hr, set_back (by rw [hso.1]; exact hc), Nat.zero_add]
  obtain ⟨d, hd⟩ : ∃ d, sz.length + 1 - lev st.trail = d + 1 := ⟨sz.length - lev st.trail, by omega⟩
  rw [hd]
  have h1 := gM_lt_s (d := d) he
  have h2 := gM_mono_s (sz.length - lev st.trail) (Nat.le_of_lt he)
  omega
theorem mu_decide {sz : List Nat} {T : Sums} {st : MS} {c now : Nat} (hz : Tiny sz) (h : Base sz T st) (hc : c < sz.length) (hs : ∀ v, now.testBit v = true → (sAt st.sets c).testBit v = true) (h0 : now ≠ 0) (hn : now ≠ sAt st.sets c) :
    mu sz.length (narrowM st c now (-1)).sets (narrowM st c now (-1)).trail < mu sz.length st.sets st.trail := by
  have hso := h.setsOk hz
  have he := exc_set hz hso hc hs h0 hn
  have hlv := lev_lt hz h.trl hc (not_single hs h0 hn)
  show mu sz.length (st.sets.set c now) ((c, sAt st.sets c, -1) :: st.trail) < _
  unfold mu
  rw [acc, lev, if_pos rfl, if_pos rfl, set_back (by rw [hso.1]; exact hc)]
  obtain ⟨d, hd⟩ : ∃ d, sz.length - lev st.trail = d + 1 := ⟨sz.length - lev st.trail - 1, by omega⟩
  have e1 : sz.length + 1 - (lev st.trail + 1) = d + 1 := by omega
  have e2 : sz.length - (lev st.trail + 1) = d := by omega
  rw [e1, e2, hd]
  have h1 := gM_lt_s (d := d) he
  omega
/-- the measure after a turn back to a decision -/
theorem mu_learn {sz : List Nat} {T : Sums} {st : MS} {place c b : Nat} {rest : List (Nat × Nat × Int)} {k : Cl} (hz : Tiny sz) (h : BackI sz T st place k) (ht : st.trail = (c, b, -1) :: rest) (h0 : k c &&& b ≠ 0) :
    mu sz.length (learnM sz T (popM st c b rest) place k c).sets (learnM sz T (popM st c b rest) place k c).trail < acc sz.length st.sets st.trail := by
  obtain ⟨_, _, hc, hn0, hnb, hb16, eb, _⟩ := learn_ok hz h ht h0
  have pb := pop_ok hz h.base ht
  have hso := pb.setsOk hz
  have eb2 : sAt (st.sets.set c b) c = b := eb
  have hsub : ∀ v, (b &&& k c).testBit v = true → (sAt (st.sets.set c b) c).testBit v = true := fun v hv => by
    rw [eb2]
    rw [Nat.testBit_and, Bool.and_eq_true] at hv
    exact hv.1
  have he := exc_set (sets := st.sets.set c b) hz hso hc hsub hn0 (by rw [eb2]; exact hnb)
  have hlv := lev_lt hz pb.trl hc (not_single hsub hn0 (by rw [eb]; exact hnb))
  have hlv : lev rest < sz.length := hlv
  have hr : ¬ ((st.sums.length : Int) = -1) := by omega
  show mu sz.length ((st.sets.set c b).set c (sAt (st.sets.set c b) c &&& k c)) ((c, sAt (st.sets.set c b) c, (st.sums.length : Int)) :: rest) < _
  rw [ht, acc, if_pos rfl, eb2]
  unfold mu
  rw [acc, lev, if_neg hr, if_neg hr]
  have e3 : ((st.sets.set c b).set c (b &&& k c)).set c b = st.sets.set c b := by rw [List.set_set, List.set_set]
  rw [e3, Nat.zero_add]
  obtain ⟨d, hd⟩ : ∃ d, sz.length + 1 - lev rest = d + 1 := ⟨sz.length - lev rest, by omega⟩
  have e2 : sz.length - lev rest = d := by omega
  rw [hd, e2]
  have h1 := gM_lt_s (d := d) he
  omega
theorem acc_pop {n : Nat} {sets : List Nat} {c b : Nat} {r : Int} {rest : List (Nat × Nat × Int)} : acc n (sets.set c b) rest ≤ acc n sets ((c, b, r) :: rest) := by
  rw [acc]
  exact Nat.le_add_left _ _
theorem acc_le_mu {n : Nat} {sets : List Nat} {tr : List (Nat × Nat × Int)} : acc n sets tr ≤ mu n sets tr := by
  unfold mu
  omega
theorem mu_first {sz : List Nat} (hz : Tiny sz) : mu sz.length (sz.map fun n => 2 ^ n - 1) [] ≤ 2378 := by
  have he := exc_full hz
  have hn := hz.1
  unfold mu
  rw [acc, lev, Nat.zero_add]
  have h1 : gM (sz.length + 1 - 0) (exc sz.length (sz.map fun n => 2 ^ n - 1)) ≤ gM 5 12 := Nat.le_trans (gM_mono_s _ he) (gM_mono_d _ (by omega))
  have h2 : gM (sz.length - 0) (exc sz.length (sz.map fun n => 2 ^ n - 1)) ≤ gM 4 12 := Nat.le_trans (gM_mono_s _ he) (gM_mono_d _ (by omega))
  have h3 : gM 5 12 + gM 4 12 = 2378 := by decide +kernel
  omega
/-! ### looking at a sum -/
def onT (s : PSum) (f : Nat → Int) (d : Nat) : Int := match look s.1 d with
  | some _ => f d
  | none => 0
theorem sumTf_on {sz : List Nat} {s : PSum} (h : SumOk sz s) (f : Nat → Int) : sumTf s f = ((List.range sz.length).map (onT s f)).sum := sumTf_tab h f
theorem sumTf_put {sz : List Nat} {s : PSum} (h : SumOk sz s) {c : Nat} {w : List Int} (hl : look s.1 c = some w) (f : Nat → Int) (x : Int) : sumTf s (fun d => if d = c then x else f d) = sumTf s f - f c + x := by
  rw [sumTf_on h, sumTf_on h]
  have hc := (h.w hl).1
  have e : ∀ d, onT s (fun d => if d = c then x else f d) d = onT s f d + if d = c then x - f c else 0 := fun d => by
    unfold onT
    by_cases hd : d = c
    · subst hd
      rw [hl, if_pos rfl]
      show (if d = d then x else f d) = f d + (x - f d)
      rw [if_pos rfl]
      omega
    · rw [if_neg hd, Int.add_zero]
      cases look s.1 d with
      | none => rfl
      | some u => exact if_neg hd
  rw [sum_congr fun d _ => e d, sum_add, sum_one (f := fun d => if d = c then x - f c else 0) List.nodup_range (List.mem_range.mpr hc) fun d _ hd => if_neg hd, if_pos rfl]
  omega
def keptM (st : MS) (t : Nat × List Int) (top spare : Int) : Nat := sAt st.sets t.1 &&& aboveB t.2 (top - spare - 1)
structure LookI (sz : List Nat) (T : Sums) (st0 : MS) (i j : Nat) (st : MS) : Prop where
  base : Base sz T st
  told : ToldOk T st
  sums : st.sums = st0.sums
  index : st.index = st0.index
  steps : st.steps = st0.steps
  places : st.places = st0.places
  que : st.queue.length ≤ st0.queue.length + j * st0.sums.length
  go : st = st0 ∨ (mu sz.length st.sets st.trail < mu sz.length st0.sets st0.trail ∧ st0.trail.length < st.trail.length)
  sub : ∀ d, d < sz.length → ∀ v, (sAt st.sets d).testBit v = true → (sAt st0.sets d).testBit v = true
  rest : ∀ m t, j ≤ m → (at0 st0.sums i).1[m]? = some t → sAt st.sets t.1 = sAt st0.sets t.1
theorem look_first {sz : List Nat} {T : Sums} {st : MS} {i : Nat} (h : Base sz T st) (ht : ToldOk T st) : LookI sz T st i 0 st := ⟨h, ht, rfl, rfl, rfl, rfl, by omega, .inl rfl, fun _ _ _ h => h, fun _ _ _ _ => rfl⟩
theorem look_step {sz : List Nat} {T : Sums} {st0 st : MS} {i j : Nat} {t : Nat × List Int} (hz : Tiny sz) (h0 : Base sz T st0) (hi : i < st0.sums.length) (h : LookI sz T st0 i j st) (hj : (at0 st0.sums i).1[j]? = some t) {spare : Int} (hsp : spare = sumTf (at0 st0.sums i) (topF (at0 st0.sums i) st0.sets) - (at0 st0.sums i).2) (hnn : 0 ≤ spare) :
    t.1 < sz.length ∧ keptM st t (topB t.2 (sAt st0.sets t.1)) spare < 16 ∧ (keptM st t (topB t.2 (sAt st0.sets t.1)) spare = sAt st.sets t.1 → LookI sz T st0 i (j + 1) st) ∧
    (keptM st t (topB t.2 (sAt st0.sets t.1)) spare ≠ sAt st.sets t.1 → LookI sz T st0 i (j + 1) (narrowM st t.1 (keptM st t (topB t.2 (sAt st0.sets t.1)) spare) (i : Int))) := by
  have hs := h0.ok _ (at0_mem hi)
  have htm := List.mem_of_getElem? hj
  have hl := look_mem hs.1.2 htm
  obtain ⟨hc, hw⟩ := hs.w hl
  have hso := h.base.setsOk hz
  have hso0 := h0.setsOk hz
  have e0 := h.rest j t (Nat.le_refl _) hj
  have h16 := hso.lt16 hz hc
  have hsub : ∀ v, (keptM st t (topB t.2 (sAt st0.sets t.1)) spare).testBit v = true → (sAt st.sets t.1).testBit v = true := fun v hv => by
    unfold keptM at hv
    rw [Nat.testBit_and, Bool.and_eq_true] at hv
    exact hv.1
  have hklt : keptM st t (topB t.2 (sAt st0.sets t.1)) spare < 16 := sub_lt (n := 4) h16 hsub
  refine ⟨hc, hklt, fun _ => ⟨h.base, h.told, h.sums, h.index, h.steps, h.places, Nat.le_trans h.que (by rw [Nat.add_mul]; omega), h.go, h.sub, fun m u hm hu => h.rest m u (by omega) hu⟩, fun hne => ?_⟩
  obtain ⟨v, hv, ev⟩ := topB_mem (w := t.2) (hso0.lt16 hz hc) (hso0.2 t.1 hc).1
  have hk0 : keptM st t (topB t.2 (sAt st0.sets t.1)) spare ≠ 0 := fun z => by
    have : (keptM st t (topB t.2 (sAt st0.sets t.1)) spare).testBit v = true := by
      unfold keptM
      rw [Nat.testBit_and, e0, hv, testBit_above, hw.len, decide_eq_true (bit_lt (hso0.2 t.1 hc).2 hv), ← ev, decide_eq_true (by omega : topB t.2 (sAt st0.sets t.1) - spare - 1 < topB t.2 (sAt st0.sets t.1))]
      rfl
    rw [z, Nat.zero_testBit] at this
    cases this
  have hgone := sub_bits h16 hsub
  have hg0 : sAt st.sets t.1 - keptM st t (topB t.2 (sAt st0.sets t.1)) spare ≠ 0 := fun z => by
    obtain ⟨v, v1, v2⟩ := ne_bit hsub hne
    have := hgone v
    rw [z, Nat.zero_testBit, v1, v2] at this
    cases this
  have hblt := (hso.2 t.1 hc).2
  have hglt : sAt st.sets t.1 - keptM st t (topB t.2 (sAt st0.sets t.1)) spare < 2 ^ szOf sz t.1 := by omega
  have hgt : topB t.2 (sAt st.sets t.1 - keptM st t (topB t.2 (sAt st0.sets t.1)) spare) ≤ topB t.2 (sAt st0.sets t.1) - spare - 1 := by
    obtain ⟨u, hu, eu⟩ := topB_mem (w := t.2) (lt16 (hz.le t.1) hglt) hg0
    rw [eu]
    rw [hgone, Bool.and_eq_true] at hu
    have hk : (keptM st t (topB t.2 (sAt st0.sets t.1)) spare).testBit u = false := by
      have := hu.2
      cases e : (keptM st t (topB t.2 (sAt st0.sets t.1)) spare).testBit u with
      | false => rfl
      | true => rw [e] at this; cases this
    unfold keptM at hk
    rw [Nat.testBit_and, hu.1, testBit_above, hw.len, decide_eq_true (bit_lt hblt hu.1), Bool.true_and, Bool.true_and] at hk
    have := of_decide_eq_false hk
    omega
  have hwhy : Why sz T st.sums st.sets t.1 (keptM st t (topB t.2 (sAt st0.sets t.1)) spare) (i : Int) := by
    refine .inr ⟨i, rfl, by rw [h.sums]; exact hi, t.2, ?_⟩
    rw [h.sums]
    refine ⟨hl, ?_, fun u hu => ?_⟩
    · have : sumTf (at0 st0.sums i) (goneTf (at0 st0.sums i) st.sets t.1 t.2 (sAt st.sets t.1 - keptM st t (topB t.2 (sAt st0.sets t.1)) spare)) ≤ sumTf (at0 st0.sums i) fun d => if d = t.1 then topB t.2 (sAt st0.sets t.1) - spare - 1 else topF (at0 st0.sums i) st0.sets d := sumTf_le fun u hu => by
        unfold goneTf
        by_cases hd : u.1 = t.1
        · rw [if_pos hd, if_pos hd]; exact hgt
        · rw [if_neg hd, if_neg hd]
          have hl2 := look_mem hs.1.2 hu
          obtain ⟨hd2, _⟩ := hs.w hl2
          unfold topF
          rw [hl2]
          exact topB_mono (hz.le u.1) (hso0.2 u.1 hd2).2 (hso.2 u.1 hd2).2 (hso.2 u.1 hd2).1 (h.sub u.1 hd2)
      rw [sumTf_put hs hl] at this
      have et : topF (at0 st0.sums i) st0.sets t.1 = topB t.2 (sAt st0.sets t.1) := by unfold topF; rw [hl]
      rw [et] at this
      omega
    · unfold keptM at hu
      rw [Nat.testBit_and, Bool.and_eq_true, testBit_above, Bool.and_eq_true] at hu
      have := of_decide_eq_true hu.2.2
      exact Int.lt_of_le_of_lt hgt this
  have hmu := mu_narrow (i := i) hz h.base hc hsub hk0 hne
  have hb2 := narrow_ok h.base hc hsub hk0 hne hwhy
  refine ⟨hb2, narrow_told hz h.base hc h.told, h.sums, h.index, h.steps, h.places, ?_, .inr ?_, fun d hd v hv => ?_, fun m u hm hu => ?_⟩
  · show (st.queue ++ st.index.getD t.1 []).length ≤ _
    rw [List.length_append]
    have := (h.base.idx t.1 _ (index_get h.base hc)).1
    rw [h.sums] at this
    have := h.que
    rw [Nat.add_mul]
    omega
  · refine ⟨?_, ?_⟩
    · rcases h.go with rfl | ⟨g, _⟩
      · exact hmu
      · exact Nat.lt_trans hmu g
    · show st0.trail.length < (_ :: st.trail).length
      rw [List.length_cons]
      rcases h.go with rfl | ⟨_, g⟩
      · exact Nat.lt_succ_self _
      · omega
  · have hv : (sAt (st.sets.set t.1 (keptM st t (topB t.2 (sAt st0.sets t.1)) spare)) d).testBit v = true := hv
    rw [sAt_set (by rw [hso.1]; exact hc)] at hv
    by_cases hdc : d = t.1
    · subst hdc
      rw [if_pos rfl] at hv
      exact h.sub _ hd v (hsub v hv)
    · rw [if_neg hdc] at hv
      exact h.sub d hd v hv
  · show sAt (st.sets.set t.1 _) u.1 = _
    have hne2 : u.1 ≠ t.1 := by
      have hasc := pw_fst.mp hs.1.2
      rw [List.pairwise_iff_getElem] at hasc
      have g1 := List.getElem?_eq_some_iff.mp hj
      have g2 := List.getElem?_eq_some_iff.mp hu
      have := hasc j m g1.1 g2.1 (by omega)
      rw [g1.2, g2.2] at this
      omega
    rw [sAt_set (by rw [hso.1]; exact hc), if_neg hne2]
    exact h.rest m u (by omega) hu
end Bh
namespace Bh
/-! ### deciding, and the row -/
def lowN (b : Nat) : Nat := (vals b).headD 0
theorem low_facts : ∀ b < 16, b ≠ 0 → b.testBit (lowN b) = true ∧ ∀ u < 4, b.testBit u = true → lowN b ≤ u := by decide +kernel
theorem low_le {b u : Nat} (h16 : b < 16) (h0 : b ≠ 0) (hu : b.testBit u = true) : lowN b ≤ u := (low_facts b h16 h0).2 u (bit_lt (n := 4) h16 hu) hu
theorem single_len : ∀ b < 16, ∀ u < 4, ∀ v < 4, ((vals b).length ≤ 1 ∧ b.testBit u = true ∧ b.testBit v = true) → u = v := by decide +kernel
theorem len_single {b : Nat} (h16 : b < 16) (h : (vals b).length ≤ 1) : Single b := fun u v hu hv => single_len b h16 u (bit_lt (n := 4) h16 hu) v (bit_lt (n := 4) h16 hv) ⟨h, hu, hv⟩
theorem not_single_len {b : Nat} (h16 : b < 16) (h : 2 ≤ (vals b).length) : ¬ Single b := fun hs => by
  have hp := vals_sorted b
  rw [List.pairwise_iff_getElem] at hp
  have h1 := hp 0 1 (by omega) (by omega) (by omega)
  have m0 := (mem_vals.mp (List.getElem_mem (show 0 < (vals b).length by omega))).2
  have m1 := (mem_vals.mp (List.getElem_mem (show 1 < (vals b).length by omega))).2
  have := hs _ _ m0 m1
  omega
theorem decide_ok {sz : List Nat} {T : Sums} {st : MS} {c : Nat} (hz : Tiny sz) (h : Base sz T st) (ht : ToldOk T st) (hq : st.queue = []) (hc : c < sz.length) (hs : ∀ d, d < c → Single (sAt st.sets d)) (hn : ¬ Single (sAt st.sets c)) :
    Base sz T (narrowM st c (2 ^ lowN (sAt st.sets c)) (-1)) ∧ ToldOk T (narrowM st c (2 ^ lowN (sAt st.sets c)) (-1)) ∧ mu sz.length (narrowM st c (2 ^ lowN (sAt st.sets c)) (-1)).sets (narrowM st c (2 ^ lowN (sAt st.sets c)) (-1)).trail < mu sz.length st.sets st.trail := by
  have hso := h.setsOk hz
  have h16 := hso.lt16 hz hc
  have h0 := (hso.2 c hc).1
  obtain ⟨l1, _⟩ := low_facts _ h16 h0
  have hsub : ∀ v, (2 ^ lowN (sAt st.sets c)).testBit v = true → (sAt st.sets c).testBit v = true := fun v hv => by
    rw [Nat.testBit_two_pow] at hv
    rw [← of_decide_eq_true hv]
    exact l1
  have hp : (2 : Nat) ^ lowN (sAt st.sets c) ≠ 0 := Nat.ne_of_gt (Nat.two_pow_pos _)
  have hne : 2 ^ lowN (sAt st.sets c) ≠ sAt st.sets c := fun z => hn (z ▸ single_pow _)
  have hold : ∀ u ∈ T, ¬ Broken u st.sets := fun u hu => by
    obtain ⟨i, hi⟩ := List.getElem?_of_mem hu
    have hlt := (List.getElem?_eq_some_iff.mp hi).1
    have e : at0 T i = u := by
      have := at0_get hlt
      rw [hi] at this
      injection this with this
      exact this.symm
    rcases ht i hlt with h1 | h1
    · rw [hq] at h1; cases h1
    · rw [e] at h1; exact h1
  refine ⟨narrow_ok h hc hsub hp hne (.inl ⟨rfl, ⟨_, rfl, fun u hu => low_le h16 h0 hu⟩, hs, hold⟩), narrow_told hz h hc ht, mu_decide hz h hc hsub hp hne⟩
def LexLt (n : Nat) (r q : List Nat) : Prop := ∃ c, c < n ∧ (∀ d, d < c → rv r d = rv q d) ∧ rv r c < rv q c
theorem trail_least {sz : List Nat} {T sums : Sums} {sets : List Nat} {tr : List (Nat × Nat × Int)} (hz : Tiny sz) (hok : ∀ s ∈ sums, SumOk sz s) (himp : ∀ s ∈ sums, ∀ r, Sol sz T r → Keeps s r) (h : TrailOk sz T sums sets tr) :
    ∀ f q, InS sz sets f → Sol sz T q → InS sz sets q ∨ LexLt sz.length f q := by
  induction h with
  | nil =>
    intro f q _ hq
    refine .inl fun c hc => ?_
    rw [fulls_at hc]
    exact full_bit (hq.1.2 c hc)
  | @cons sets rest c now r h hc hs h0 hn hw ih =>
    intro f q hf hq
    have hso := h.sets hz
    have e : ∀ d, sAt (sets.set c now) d = if d = c then now else sAt sets d := fun d => sAt_set (by rw [hso.1]; exact hc)
    have hf' : InS sz sets f := fun d hd => by
      have := hf d hd
      rw [e] at this
      by_cases hdc : d = c
      · subst hdc; rw [if_pos rfl] at this; exact hs _ this
      · rw [if_neg hdc] at this; exact this
    rcases ih f q hf' hq with h1 | h1
    · cases hb : now.testBit (rv q c) with
      | true =>
        refine .inl fun d hd => ?_
        rw [e]
        by_cases hdc : d = c
        · subst hdc; rw [if_pos rfl]; exact hb
        · rw [if_neg hdc]; exact h1 d hd
      | false =>
        refine .inr ?_
        rcases hw with ⟨_, ⟨v, ev, hv⟩, h3, _⟩ | ⟨i, _, hi, w, hl, hsum, _⟩
        · have hfc := hf c hc
          rw [e, if_pos rfl, ev, Nat.testBit_two_pow] at hfc
          have hfc := of_decide_eq_true hfc
          have hle := hv _ (h1 c hc)
          have hne : ¬ v = rv q c := fun z => by
            rw [ev, z, Nat.testBit_two_pow, decide_eq_true rfl] at hb
            cases hb
          exact ⟨c, hc, fun d hd => h3 d hd _ _ (hf' d (by omega)) (h1 d (by omega)), by omega⟩
        · exfalso
          have hok1 := hok _ (at0_mem hi)
          have hk := himp _ (at0_mem hi) q hq
          have hw := (hok1.w hl).2
          have h16 := hso.lt16 hz hc
          have hgone := sub_bits h16 hs
          have hblt := (hso.2 c hc).2
          have hglt : sAt sets c - now < 2 ^ szOf sz c := by omega
          have : sumTf (at0 sums i) (rowF (at0 sums i) q) ≤ sumTf (at0 sums i) (goneTf (at0 sums i) sets c w (sAt sets c - now)) := sumTf_le fun t ht => by
            have hl2 := look_mem hok1.1.2 ht
            obtain ⟨hd, hw2⟩ := hok1.w hl2
            unfold rowF goneTf
            rw [hl2]
            by_cases hdc : t.1 = c
            · rw [if_pos hdc]
              rw [hdc, hl] at hl2
              injection hl2 with hl2
              subst hl2
              rw [hdc]
              exact le_topB (hz.le c) hglt (by rw [hgone, h1 c hc, hb]; rfl)
            · rw [if_neg hdc]
              unfold topF
              rw [hl2]
              exact le_topB (hz.le t.1) (hso.2 t.1 hd).2 (h1 t.1 hd)
          unfold Keeps at hk
          omega
    · exact .inr h1
theorem rv_map {sets : List Nat} {c : Nat} (hc : c < sets.length) : rv (sets.map lowN) c = lowN (sAt sets c) := by
  unfold rv sAt
  rw [List.getD_eq_getElem?_getD, List.getD_eq_getElem?_getD, List.getElem?_map, List.getElem?_eq_getElem hc]
  rfl
/-- where all is fixed and nothing told is broken, the row keeps all and is the least -/
theorem row_ok {sz : List Nat} {T : Sums} {st : MS} (hz : Tiny sz) (h : Base sz T st) (ht : ToldOk T st) (hq : st.queue = []) (hs : ∀ d, d < sz.length → Single (sAt st.sets d)) : Sol sz T (st.sets.map lowN) ∧ ∀ q, Sol sz T q → st.sets.map lowN = q ∨ LexLt sz.length (st.sets.map lowN) q := by
  have hso := h.setsOk hz
  have hin : InS sz st.sets (st.sets.map lowN) := fun c hc => by
    rw [rv_map (by rw [hso.1]; exact hc)]
    exact (low_facts _ (hso.lt16 hz hc) (hso.2 c hc).1).1
  have hval : Valid sz (st.sets.map lowN) := ⟨by rw [List.length_map]; exact hso.1, fun c hc => bit_lt (hso.2 c hc).2 (hin c hc)⟩
  refine ⟨⟨hval, fun u hu => ?_⟩, fun q hqs => ?_⟩
  · obtain ⟨i, hi⟩ := List.getElem?_of_mem hu
    have hlt := (List.getElem?_eq_some_iff.mp hi).1
    have e : at0 T i = u := by
      have := at0_get hlt
      rw [hi] at this
      injection this with this
      exact this.symm
    have hnb : ¬ Broken u st.sets := by
      rcases ht i hlt with h1 | h1
      · rw [hq] at h1; cases h1
      · rw [e] at h1; exact h1
    have hok : SumOk sz u := by
      obtain ⟨l, el⟩ := h.pre
      exact h.ok u (by rw [el]; exact List.mem_append_left _ hu)
    have : sumTf u (topF u st.sets) ≤ sumTf u (rowF u (st.sets.map lowN)) := sumTf_le fun t htm => by
      have hl := look_mem hok.1.2 htm
      obtain ⟨hd, _⟩ := hok.w hl
      unfold topF rowF
      rw [hl]
      obtain ⟨v, hv, ev⟩ := topB_mem (w := t.2) (hso.lt16 hz hd) (hso.2 t.1 hd).1
      have : v = rv (st.sets.map lowN) t.1 := hs t.1 hd _ _ hv (hin t.1 hd)
      show topB t.2 (sAt st.sets t.1) ≤ t.2.getD (rv (st.sets.map lowN) t.1) 0
      rw [ev, this]
      exact Int.le_refl _
    unfold Broken at hnb
    unfold Keeps
    omega
  · rcases trail_least hz h.ok h.imp h.trl _ q hin hqs with h1 | h1
    · refine .inl (List.ext_getElem (by rw [hval.1, hqs.1.1]) fun c h2 h3 => ?_)
      have hc : c < sz.length := by rw [← hval.1]; exact h2
      have := hs c hc _ _ (hin c hc) (h1 c hc)
      unfold rv at this
      rw [List.getD_eq_getElem?_getD, List.getD_eq_getElem?_getD, List.getElem?_eq_getElem h2, List.getElem?_eq_getElem h3] at this
      exact this
    · exact .inr h1
/-! ### all rows in order -/
def rowsOf : List Nat → List (List Nat)
  | sz => sz.foldl (fun found n => found.flatMap fun r => (List.range n).map fun v => r ++ [v]) [[]]
theorem rowsOf_snoc (sz : List Nat) (n : Nat) : rowsOf (sz ++ [n]) = (rowsOf sz).flatMap fun r => (List.range n).map fun v => r ++ [v] := by
  unfold rowsOf
  rw [List.foldl_append]
  rfl
theorem rv_snoc {r : List Nat} {v c : Nat} : rv (r ++ [v]) c = if c < r.length then rv r c else if c = r.length then v else 0 := by
  unfold rv
  rw [List.getD_eq_getElem?_getD, List.getD_eq_getElem?_getD]
  by_cases h : c < r.length
  · rw [if_pos h, List.getElem?_append_left h]
  · rw [if_neg h, List.getElem?_append_right (by omega)]
    by_cases h2 : c = r.length
    · rw [if_pos h2, h2, Nat.sub_self]; rfl
    · rw [if_neg h2]
      have : c - r.length ≠ 0 := by omega
      rw [List.getElem?_eq_none (by show 1 ≤ c - r.length; omega)]
      rfl
theorem szOf_snoc {sz : List Nat} {n c : Nat} : szOf (sz ++ [n]) c = if c < sz.length then szOf sz c else if c = sz.length then n else 0 := rv_snoc
theorem mem_rows (sz : List Nat) : ∀ r, r ∈ rowsOf sz ↔ Valid sz r := by
  induction sz using snoc_ind with
  | nil =>
    intro r
    show r ∈ [[]] ↔ _
    rw [List.mem_singleton]
    constructor
    · rintro rfl; exact ⟨rfl, fun c hc => absurd hc (Nat.not_lt_zero _)⟩
    · intro h; exact List.eq_nil_of_length_eq_zero h.1
  | snoc sz n ih =>
    intro r
    rw [rowsOf_snoc, List.mem_flatMap]
    constructor
    · rintro ⟨q, hq, hr⟩
      obtain ⟨v, hv, rfl⟩ := List.mem_map.mp hr
      have hv := List.mem_range.mp hv
      have hq := (ih q).mp hq
      refine ⟨by rw [List.length_append, List.length_append, hq.1]; rfl, fun c hc => ?_⟩
      rw [rv_snoc, szOf_snoc, hq.1]
      rw [List.length_append] at hc
      have hc : c < sz.length + 1 := hc
      by_cases h : c < sz.length
      · rw [if_pos h, if_pos h]; exact hq.2 c h
      · rw [if_neg h, if_neg h, if_pos (by omega), if_pos (by omega)]; exact hv
    · intro h
      have hl : r.length = sz.length + 1 := by have := h.1; rw [List.length_append] at this; exact this
      have hne : r ≠ [] := fun z => by rw [z] at hl; cases hl
      have hs := List.dropLast_concat_getLast hne
      have hdl : r.dropLast.length = sz.length := by rw [List.length_dropLast, hl]; rfl
      refine ⟨r.dropLast, (ih _).mpr ⟨hdl, fun c hc => ?_⟩, List.mem_map.mpr ⟨r.getLast hne, List.mem_range.mpr ?_, hs⟩⟩
      · have := h.2 c (by rw [List.length_append]; exact Nat.lt_succ_of_lt hc)
        rw [← hs, rv_snoc, szOf_snoc, hdl, if_pos hc, if_pos hc] at this
        exact this
      · have := h.2 sz.length (by rw [List.length_append]; exact Nat.lt_succ_self _)
        rw [← hs, rv_snoc, szOf_snoc, hdl, if_neg (Nat.lt_irrefl _), if_neg (Nat.lt_irrefl _), if_pos rfl, if_pos rfl] at this
        exact this
theorem rows_len (sz : List Nat) : ∀ r ∈ rowsOf sz, r.length = sz.length := fun r h => ((mem_rows sz r).mp h).1
theorem rows_asc (sz : List Nat) : (rowsOf sz).Pairwise (LexLt sz.length) := by
  induction sz using snoc_ind with
  | nil => exact List.pairwise_singleton _ _
  | snoc sz n ih =>
    rw [rowsOf_snoc, List.pairwise_flatMap]
    refine ⟨fun r hr => ?_, ?_⟩
    · have hl := rows_len sz r hr
      rw [List.pairwise_map]
      refine List.pairwise_lt_range.imp fun {u v} huv => ⟨sz.length, by rw [List.length_append]; exact Nat.lt_succ_self _, fun d hd => ?_, ?_⟩
      · rw [rv_snoc, rv_snoc, hl, if_pos hd, if_pos hd]
      · rw [rv_snoc, rv_snoc, hl, if_neg (Nat.lt_irrefl _), if_neg (Nat.lt_irrefl _), if_pos rfl, if_pos rfl]
        exact huv
    · have hp := ih
      rw [List.pairwise_iff_getElem] at hp ⊢
      intro i j hi hj hij x hx y hy
      obtain ⟨u, _, rfl⟩ := List.mem_map.mp hx
      obtain ⟨v, _, rfl⟩ := List.mem_map.mp hy
      obtain ⟨c, hc, h1, h2⟩ := hp i j hi hj hij
      have l1 := rows_len sz _ (List.getElem_mem hi)
      have l2 := rows_len sz _ (List.getElem_mem hj)
      refine ⟨c, by rw [List.length_append]; exact Nat.lt_succ_of_lt hc, fun d hd => ?_, ?_⟩
      · rw [rv_snoc, rv_snoc, l1, l2, if_pos (by omega), if_pos (by omega)]; exact h1 d hd
      · rw [rv_snoc, rv_snoc, l1, l2, if_pos hc, if_pos hc]; exact h2
theorem lex_asymm {n : Nat} {a b : List Nat} (h : LexLt n a b) : ¬ LexLt n b a := by
  obtain ⟨c, hc, h1, h2⟩ := h
  rintro ⟨d, hd, h3, h4⟩
  rcases Nat.lt_trichotomy c d with h | h | h
  · have := h3 c h; omega
  · subst h; omega
  · have := h1 d h; omega
/-- the first of the rows that keep all is the least -/
theorem first_row {sz : List Nat} {p : List Nat → Bool} {r : List Nat} (hr : Valid sz r) (hp : p r = true) (hl : ∀ q, Valid sz q → p q = true → r = q ∨ LexLt sz.length r q) : ∃ l, (rowsOf sz).filter p = r :: l := by
  have hm : r ∈ (rowsOf sz).filter p := List.mem_filter.mpr ⟨(mem_rows sz r).mpr hr, hp⟩
  have ha : ((rowsOf sz).filter p).Pairwise (LexLt sz.length) := (rows_asc sz).filter p
  cases hf : (rowsOf sz).filter p with
  | nil => rw [hf] at hm; cases hm
  | cons x l =>
    have hx : x ∈ (rowsOf sz).filter p := by rw [hf]; exact List.mem_cons_self ..
    rw [List.mem_filter] at hx
    rcases hl x ((mem_rows sz x).mp hx.1) hx.2 with h | h
    · exact ⟨l, by rw [h]⟩
    · rw [hf] at hm ha
      rcases List.mem_cons.mp hm with h1 | h1
      · exact ⟨l, by rw [h1]⟩
      · rw [List.pairwise_cons] at ha
        exact absurd h (lex_asymm (ha.1 r h1))
end Bh
namespace Bh
open PySem PySem.Spec PyProof.Rows L2
/-! ### the state of the search on the heap -/
structure Fx where
  zv : V
  sz : List Nat
  T : Sums
  L : Nat → Addr
structure Wit where
  vs : List V
  ts : List V
  ss : List V
  kvs : List (Key × V)
def dTrail (t : Nat × Nat × Int) : PyData := .tuple [.int (t.1 : Nat), .int (t.2.1 : Nat), .int t.2.2]
def headC (X : Fx) (dn : V) : List (Key × V) :=
  [(.inr "sizes", X.zv), (.inr "sums", .ref (X.L 1)), (.inr "told", .int (X.T.length : Nat)), (.inr "index", .ref (X.L 2)), (.inr "sets", .ref (X.L 3)), (.inr "trail", .ref (X.L 4)), (.inr "steps", .ref (X.L 5)), (.inr "places", .ref (X.L 6)), (.inr "queue", .ref (X.L 7)), (.inr "done", dn)]
def cell (X : Fx) (dn : V) (st : MS) (w : Wit) : Nat → HO
  | 0 => .dK (headC X dn)
  | 1 => .lst w.vs
  | 2 => .lst ((List.range X.sz.length).map fun c => .ref (X.L (c + 8)))
  | 3 => .lst (natsV st.sets)
  | 4 => .lst w.ts
  | 5 => .lst w.ss
  | 6 => .dK w.kvs
  | 7 => .lst (natsV st.queue)
  | c + 8 => .lst (natsV (st.index.getD c []))
theorem cell_mut (X : Fx) (dn : V) (st : MS) (w : Wit) (i : Nat) : (∃ xs, cell X dn st w i = .lst xs) ∨ ∃ ks, cell X dn st w i = .dK ks := by
  match i with
  | 0 => exact .inr ⟨_, rfl⟩
  | 1 => exact .inl ⟨_, rfl⟩
  | 2 => exact .inl ⟨_, rfl⟩
  | 3 => exact .inl ⟨_, rfl⟩
  | 4 => exact .inl ⟨_, rfl⟩
  | 5 => exact .inl ⟨_, rfl⟩
  | 6 => exact .inr ⟨_, rfl⟩
  | 7 => exact .inl ⟨_, rfl⟩
  | c + 8 => exact .inl ⟨_, rfl⟩
structure Dat (K : PySem.W.Frag) (H : Hp) (X : Fx) (st : MS) (w : Wit) : Prop where
  pz : Pur K H X.zv (dSizes X.sz)
  ps : A2 (fun v s => Pur K H v (dSum s)) w.vs st.sums
  pt : A2 (fun v t => Pur K H v (dTrail t)) w.ts st.trail.reverse
  pp : A2 (StepV K H) w.ss st.steps
  pl : ∀ i : Nat, valV w.kvs (.inl (i : Int)) = (st.places i).map fun (j : Nat) => V.int (j : Int)
  pk : w.kvs.length ≤ st.steps.length + st.sums.length
theorem Dat.kp {K : PySem.W.Frag} {H H' : Hp} {X : Fx} {st : MS} {w : Wit} (e : Kp H H') (h : Dat K H X st w) : Dat K H' X st w :=
  ⟨h.pz.kp e, h.ps.mono fun v s p => p.kp e, h.pt.mono fun v s p => p.kp e, h.pp.mono fun v s p => p.kp e, h.pl, h.pk⟩
structure IsS (K : PySem.W.Frag) (H : Hp) (X : Fx) (dn : V) (st : MS) (w : Wit) : Prop where
  inj : ∀ i j, i < X.sz.length + 8 → j < X.sz.length + 8 → X.L i = X.L j → i = j
  cells : ∀ i, i < X.sz.length + 8 → H (X.L i) = some (cell X dn st w i)
  dat : Dat K H X st w
/-- all but the state stays -/
def Fr (X : Fx) (H H' : Hp) : Prop := ∀ a u, (∀ i, i < X.sz.length + 8 → a ≠ X.L i) → H a = some u → H' a = some u
theorem Fr.refl {X : Fx} (H : Hp) : Fr X H H := fun _ _ _ e => e
theorem Fr.trans {X : Fx} {A B C : Hp} (h : Fr X A B) (g : Fr X B C) : Fr X A C := fun a u n e => g a u n (h a u n e)
theorem Fr.of {X : Fx} {A B : Hp} (s : Same A B) : Fr X A B := fun a u _ e => s a u e
theorem Fr.upd {X : Fx} {H : Hp} {i : Nat} {o : HO} (hi : i < X.sz.length + 8) : Fr X H (upd H (X.L i) o) := fun a u n e => (upd_ne (n i hi)).trans e
theorem kp_mut {H : Hp} {p : Addr} {o : HO} (h1 : ∀ xs, H p ≠ some (.tup xs)) (h2 : ∀ ob xs, H p ≠ some (.frz ob (.tup xs))) : Kp H (upd H p o) :=
  ⟨fun a zs e => (upd_ne (by rintro rfl; exact h1 _ e)).trans e, fun a ob u e => (upd_ne (by rintro rfl; exact h2 _ _ e)).trans e⟩
section
variable {K : PySem.W.Frag} {H H' : Hp} {X : Fx} {dn dn' : V} {st st' : MS} {w w' : Wit}
theorem IsS.same (h : IsS K H X dn st w) (s : Same H H') : IsS K H' X dn st w := ⟨h.inj, fun i hi => s _ _ (h.cells i hi), h.dat.kp (skp s)⟩
theorem IsS.kpm (h : IsS K H X dn st w) {i : Nat} (hi : i < X.sz.length + 8) {o : HO} : Kp H (upd H (X.L i) o) := by
  have e := h.cells i hi
  rcases cell_mut X dn st w i with ⟨xs, z⟩ | ⟨ks, z⟩
  · rw [z] at e
    exact kp_mut (fun xs e2 => by rw [e] at e2; cases e2) fun ob u e2 => by rw [e] at e2; cases e2
  · rw [z] at e
    exact kp_mut (fun xs e2 => by rw [e] at e2; cases e2) fun ob u e2 => by rw [e] at e2; cases e2
theorem IsS.kpf (h : IsS K H X dn st w) (f : Fr X H H') : Kp H H' := by
  have ne : ∀ a u, H a = some u → (∀ xs, u ≠ .lst xs) → (∀ ks, u ≠ .dK ks) → ∀ i, i < X.sz.length + 8 → a ≠ X.L i := fun a u e n1 n2 i hi z => by
    subst z
    rw [h.cells i hi] at e
    injection e with e
    rcases cell_mut X dn st w i with ⟨xs, z⟩ | ⟨ks, z⟩
    · exact n1 xs (e.symm.trans z)
    · exact n2 ks (e.symm.trans z)
  exact ⟨fun a xs e => f a _ (ne a _ e (fun _ z => by cases z) fun _ z => by cases z) e, fun a ob u e => f a _ (ne a _ e (fun _ z => by cases z) fun _ z => by cases z) e⟩
theorem IsS.put (h : IsS K H X dn st w) {i : Nat} (hi : i < X.sz.length + 8) {o : HO} (ho : cell X dn' st' w' i = o) (hc : ∀ j, j ≠ i → cell X dn' st' w' j = cell X dn st w j) (hd : Dat K (upd H (X.L i) o) X st' w') : IsS K (upd H (X.L i) o) X dn' st' w' := by
  refine ⟨h.inj, fun j hj => ?_, hd⟩
  by_cases e : j = i
  · subst e
    rw [ho]
    exact upd_same
  · rw [hc j e]
    exact (upd_ne fun z => e (h.inj j i hj hi z)).trans (h.cells j hj)
/-- a place that is not of the state -/
def OffS (X : Fx) (a : Addr) : Prop := ∀ i, i < X.sz.length + 8 → a ≠ X.L i
theorem IsS.off (h : IsS K H X dn st w) {p : Addr} (hp : H p = none) : OffS X p := fun i hi z => by
  subst z
  rw [h.cells i hi] at hp
  cases hp
theorem Fr.at {a : Addr} {u : HO} (f : Fr X H H') (ho : OffS X a) (e : H a = some u) : H' a = some u := f a u ho e
/-! what the state's dict tells -/
theorem IsS.c0 (h : IsS K H X dn st w) : H (X.L 0) = some (.dK (headC X dn)) := h.cells 0 (by omega)
theorem IsS.c1 (h : IsS K H X dn st w) : H (X.L 1) = some (.lst w.vs) := h.cells 1 (by omega)
theorem IsS.c2 (h : IsS K H X dn st w) : H (X.L 2) = some (.lst ((List.range X.sz.length).map fun c => .ref (X.L (c + 8)))) := h.cells 2 (by omega)
theorem IsS.c3 (h : IsS K H X dn st w) : H (X.L 3) = some (.lst (natsV st.sets)) := h.cells 3 (by omega)
theorem IsS.c4 (h : IsS K H X dn st w) : H (X.L 4) = some (.lst w.ts) := h.cells 4 (by omega)
theorem IsS.c5 (h : IsS K H X dn st w) : H (X.L 5) = some (.lst w.ss) := h.cells 5 (by omega)
theorem IsS.c6 (h : IsS K H X dn st w) : H (X.L 6) = some (.dK w.kvs) := h.cells 6 (by omega)
theorem IsS.c7 (h : IsS K H X dn st w) : H (X.L 7) = some (.lst (natsV st.queue)) := h.cells 7 (by omega)
theorem IsS.c8 (h : IsS K H X dn st w) {c : Nat} (hc : c < X.sz.length) : H (X.L (c + 8)) = some (.lst (natsV (st.index.getD c []))) := h.cells (c + 8) (by omega)
theorem IsS.dSizes (h : IsS K H X dn st w) : DGet H (X.L 0) (.str "sizes") (some X.zv) := .inl ⟨_, .inr "sizes", .inl h.c0, rfl, rfl⟩
theorem IsS.dSums (h : IsS K H X dn st w) : DGet H (X.L 0) (.str "sums") (some (.ref (X.L 1))) := .inl ⟨_, .inr "sums", .inl h.c0, rfl, rfl⟩
theorem IsS.dTold (h : IsS K H X dn st w) : DGet H (X.L 0) (.str "told") (some (.int (X.T.length : Nat))) := .inl ⟨_, .inr "told", .inl h.c0, rfl, rfl⟩
theorem IsS.dIndex (h : IsS K H X dn st w) : DGet H (X.L 0) (.str "index") (some (.ref (X.L 2))) := .inl ⟨_, .inr "index", .inl h.c0, rfl, rfl⟩
theorem IsS.dSets (h : IsS K H X dn st w) : DGet H (X.L 0) (.str "sets") (some (.ref (X.L 3))) := .inl ⟨_, .inr "sets", .inl h.c0, rfl, rfl⟩
theorem IsS.dTrail (h : IsS K H X dn st w) : DGet H (X.L 0) (.str "trail") (some (.ref (X.L 4))) := .inl ⟨_, .inr "trail", .inl h.c0, rfl, rfl⟩
theorem IsS.dSteps (h : IsS K H X dn st w) : DGet H (X.L 0) (.str "steps") (some (.ref (X.L 5))) := .inl ⟨_, .inr "steps", .inl h.c0, rfl, rfl⟩
theorem IsS.dPlaces (h : IsS K H X dn st w) : DGet H (X.L 0) (.str "places") (some (.ref (X.L 6))) := .inl ⟨_, .inr "places", .inl h.c0, rfl, rfl⟩
theorem IsS.dQueue (h : IsS K H X dn st w) : DGet H (X.L 0) (.str "queue") (some (.ref (X.L 7))) := .inl ⟨_, .inr "queue", .inl h.c0, rfl, rfl⟩
theorem IsS.dDone (h : IsS K H X dn st w) : DGet H (X.L 0) (.str "done") (some dn) := .inl ⟨_, .inr "done", .inl h.c0, rfl, rfl⟩
theorem head_done (v : V) : putK (headC X dn) (.inr "done") v = headC X v := rfl
theorem IsS.done (h : IsS K H X dn st w) (v : V) : IsS K (upd H (X.L 0) (.dK (headC X v))) X v st w :=
  h.put (by omega) rfl (fun j hj => by
    match j with
    | 0 => exact absurd rfl hj
    | 1 => rfl
    | 2 => rfl
    | 3 => rfl
    | 4 => rfl
    | 5 => rfl
    | 6 => rfl
    | 7 => rfl
    | c + 8 => rfl) (h.dat.kp (h.kpm (by omega)))
/-! the moves of one part -/
theorem IsS.pushTrail (h : IsS K H X dn st w) {v : V} {t : Nat × Nat × Int} (hv : Pur K H v (Bh.dTrail t)) : IsS K (upd H (X.L 4) (.lst (w.ts ++ [v]))) X dn { st with trail := t :: st.trail } { w with ts := w.ts ++ [v] } := by
  have k := h.kpm (i := 4) (o := .lst (w.ts ++ [v])) (by omega)
  have d := h.dat.kp k
  refine h.put (by omega) rfl (fun j hj => by
    match j with
    | 0 => rfl
    | 1 => rfl
    | 2 => rfl
    | 3 => rfl
    | 4 => exact absurd rfl hj
    | 5 => rfl
    | 6 => rfl
    | 7 => rfl
    | c + 8 => rfl) ⟨d.pz, d.ps, ?_, d.pp, d.pl, d.pk⟩
  show A2 _ (w.ts ++ [v]) (t :: st.trail).reverse
  rw [List.reverse_cons]
  exact d.pt.snoc (hv.kp k)
theorem IsS.popTrail (h : IsS K H X dn st w) {t : Nat × Nat × Int} {rest : List (Nat × Nat × Int)} (ht : st.trail = t :: rest) : (∃ v, w.ts[w.ts.length - 1]? = some v ∧ Pur K H v (Bh.dTrail t)) ∧ IsS K (upd H (X.L 4) (.lst w.ts.dropLast)) X dn { st with trail := rest } { w with ts := w.ts.dropLast } := by
  have k := h.kpm (i := 4) (o := .lst w.ts.dropLast) (by omega)
  have d := h.dat.kp k
  have hl := h.dat.pt.1
  rw [ht, List.reverse_cons, List.length_append] at hl
  have hl : w.ts.length = rest.reverse.length + 1 := hl
  refine ⟨?_, h.put (by omega) rfl (fun j hj => by
    match j with
    | 0 => rfl
    | 1 => rfl
    | 2 => rfl
    | 3 => rfl
    | 4 => exact absurd rfl hj
    | 5 => rfl
    | 6 => rfl
    | 7 => rfl
    | c + 8 => rfl) ⟨d.pz, d.ps, ?_, d.pp, d.pl, d.pk⟩⟩
  · have e : st.trail.reverse[w.ts.length - 1]? = some t := by
      rw [ht, List.reverse_cons, List.getElem?_append_right (by omega), show w.ts.length - 1 - rest.reverse.length = 0 by omega]
      rfl
    obtain ⟨v, ev, hv⟩ := h.dat.pt.getR e
    exact ⟨v, ev, hv⟩
  · have e := d.pt
    rw [ht, List.reverse_cons] at e
    refine ⟨by show w.ts.dropLast.length = rest.reverse.length; rw [List.length_dropLast, hl]; rfl, fun i x u ex eu => ?_⟩
    have eu : rest.reverse[i]? = some u := eu
    have hi := (List.getElem?_eq_some_iff.mp eu).1
    have ex : w.ts.dropLast[i]? = some x := ex
    rw [List.getElem?_dropLast, if_pos (by omega)] at ex
    exact e.2 i x u ex (by rw [List.getElem?_append_left hi]; exact eu)
theorem IsS.setSets (h : IsS K H X dn st w) (s : List Nat) : IsS K (upd H (X.L 3) (.lst (natsV s))) X dn { st with sets := s } w := by
  have d := h.dat.kp (h.kpm (i := 3) (o := .lst (natsV s)) (by omega))
  exact h.put (by omega) rfl (fun j hj => by
    match j with
    | 0 => rfl
    | 1 => rfl
    | 2 => rfl
    | 3 => exact absurd rfl hj
    | 4 => rfl
    | 5 => rfl
    | 6 => rfl
    | 7 => rfl
    | c + 8 => rfl) ⟨d.pz, d.ps, d.pt, d.pp, d.pl, d.pk⟩
theorem IsS.setQueue (h : IsS K H X dn st w) (q : List Nat) : IsS K (upd H (X.L 7) (.lst (natsV q))) X dn { st with queue := q } w := by
  have d := h.dat.kp (h.kpm (i := 7) (o := .lst (natsV q)) (by omega))
  exact h.put (by omega) rfl (fun j hj => by
    match j with
    | 0 => rfl
    | 1 => rfl
    | 2 => rfl
    | 3 => rfl
    | 4 => rfl
    | 5 => rfl
    | 6 => rfl
    | 7 => exact absurd rfl hj
    | c + 8 => rfl) ⟨d.pz, d.ps, d.pt, d.pp, d.pl, d.pk⟩
theorem IsS.pushStep (h : IsS K H X dn st w) {v : V} {x : Step} (hv : StepV K H v x) : IsS K (upd H (X.L 5) (.lst (w.ss ++ [v]))) X dn (stepM st x) { w with ss := w.ss ++ [v] } := by
  have k := h.kpm (i := 5) (o := .lst (w.ss ++ [v])) (by omega)
  have d := h.dat.kp k
  refine h.put (by omega) rfl (fun j hj => by
    match j with
    | 0 => rfl
    | 1 => rfl
    | 2 => rfl
    | 3 => rfl
    | 4 => rfl
    | 5 => exact absurd rfl hj
    | 6 => rfl
    | 7 => rfl
    | c + 8 => rfl) ⟨d.pz, d.ps, d.pt, d.pp.snoc (hv.kp k), d.pl, ?_⟩
  show w.kvs.length ≤ (st.steps ++ [x]).length + st.sums.length
  rw [List.length_append]
  have := d.pk
  show _ ≤ st.steps.length + 1 + _
  omega
theorem IsS.pushSum (h : IsS K H X dn st w) {v : V} {s : PSum} (hv : Pur K H v (dSum s)) : IsS K (upd H (X.L 1) (.lst (w.vs ++ [v]))) X dn { st with sums := st.sums ++ [s] } { w with vs := w.vs ++ [v] } := by
  have k := h.kpm (i := 1) (o := .lst (w.vs ++ [v])) (by omega)
  have d := h.dat.kp k
  refine h.put (by omega) rfl (fun j hj => by
    match j with
    | 0 => rfl
    | 1 => exact absurd rfl hj
    | 2 => rfl
    | 3 => rfl
    | 4 => rfl
    | 5 => rfl
    | 6 => rfl
    | 7 => rfl
    | c + 8 => rfl) ⟨d.pz, d.ps.snoc (hv.kp k), d.pt, d.pp, d.pl, ?_⟩
  show w.kvs.length ≤ st.steps.length + (st.sums ++ [s]).length
  rw [List.length_append]
  have := d.pk
  show _ ≤ _ + (st.sums.length + 1)
  omega
/-- where the place is a step or a sum more -/
theorem IsS.setPlace (h : IsS K H X dn st w) (i j : Nat) (hk : w.kvs.length < st.steps.length + st.sums.length) : IsS K (upd H (X.L 6) (.dK (putK w.kvs (.inl (i : Int)) (.int (j : Nat))))) X dn { st with places := putP st.places i j } { w with kvs := putK w.kvs (.inl (i : Int)) (.int (j : Nat)) } := by
  have d := h.dat.kp (h.kpm (i := 6) (o := .dK (putK w.kvs (.inl (i : Int)) (.int (j : Nat)))) (by omega))
  refine h.put (by omega) rfl (fun j hj => by
    match j with
    | 0 => rfl
    | 1 => rfl
    | 2 => rfl
    | 3 => rfl
    | 4 => rfl
    | 5 => rfl
    | 6 => exact absurd rfl hj
    | 7 => rfl
    | c + 8 => rfl) ⟨d.pz, d.ps, d.pt, d.pp, fun m => ?_, ?_⟩
  · show valV (putK w.kvs (.inl (i : Int)) (.int (j : Nat))) (.inl (m : Int)) = (putP st.places i j m).map _
    rw [valV_put]
    unfold putP
    by_cases e : m = i
    · subst e; rw [if_pos rfl, if_pos rfl]; rfl
    · rw [if_neg (fun z => e (by injection z with z; exact Int.ofNat.inj z)), if_neg e]
      exact d.pl m
  · have := length_putK w.kvs (.inl (i : Int)) (.int (j : Nat))
    show (putK w.kvs (.inl (i : Int)) (.int (j : Nat))).length ≤ st.steps.length + st.sums.length
    omega
theorem IsS.setIndex (h : IsS K H X dn st w) {c : Nat} (hc : c < X.sz.length) (l : List Nat) (hl : st.index.length = X.sz.length) : IsS K (upd H (X.L (c + 8)) (.lst (natsV l))) X dn { st with index := st.index.set c l } w := by
  have d := h.dat.kp (h.kpm (i := c + 8) (o := .lst (natsV l)) (by omega))
  refine h.put (by omega) ?_ (fun j hj => by
    match j with
    | 0 => rfl
    | 1 => rfl
    | 2 => rfl
    | 3 => rfl
    | 4 => rfl
    | 5 => rfl
    | 6 => rfl
    | 7 => rfl
    | e + 8 =>
      show HO.lst (natsV ((st.index.set c l).getD e [])) = .lst (natsV (st.index.getD e []))
      rw [List.getD_eq_getElem?_getD, List.getElem?_set, if_neg (by omega), List.getD_eq_getElem?_getD]) ⟨d.pz, d.ps, d.pt, d.pp, d.pl, d.pk⟩
  show HO.lst (natsV ((st.index.set c l).getD c [])) = .lst (natsV l)
  rw [List.getD_eq_getElem?_getD, List.getElem?_set, if_pos rfl, if_pos (by omega)]
  rfl
/-! what it holds -/
theorem IsS.sumAt (h : IsS K H X dn st w) {i : Nat} (hi : i < st.sums.length) : ∃ v, w.vs[i]? = some v ∧ Pur K H v (dSum (at0 st.sums i)) := by
  obtain ⟨v, e, hv⟩ := h.dat.ps.getR (at0_get hi)
  exact ⟨v, e, hv⟩
theorem IsS.setAt (h : IsS K H X dn st w) {c : Nat} (hc : c < st.sets.length) : (natsV st.sets)[c]? = some (.int (sAt st.sets c : Nat)) := natsV_get (sAt_get hc)
end
theorem hu0 {k : Nat} {A : Around} (hr : Room k A) : A.units < cLine := by
  have := hr.units
  omega
end Bh
namespace Bh
open PySem PySem.Spec PyProof.Rows L2
section
variable {P : Program} {w : World} {K : PySem.W.Frag} {mg : Str → Option Value} {base : Heap}
theorem ixN_at {m j : Nat} (hj : j < m) : ixN m ((j : Nat) : Int) = some j := by
  have h0 : (0 : Int) ≤ ((j : Nat) : Int) := Int.natCast_nonneg j
  have h1 : ((j : Nat) : Int) < ((m : Nat) : Int) := Int.ofNat_lt.mpr hj
  unfold ixN
  rw [if_pos h0, if_pos h1, Int.toNat_natCast]
theorem range_at {n c : Nat} {f : Nat → V} (hc : c < n) : ((List.range n).map f)[c]? = some (f c) := by rw [List.getElem?_map, List.getElem?_range hc]; rfl
/-- the promise of a def that moves the state -/
def After (K : PySem.W.Frag) (X : Fx) (dn : V) (H : Hp) (st' : MS) (R : Hp → Prop) : Prop := ∀ H' w', IsS K H' X dn st' w' → Fr X H H' → R H'
def sp_narrow (K : PySem.W.Frag) : Sp := fun vs H Q _ => ∃ (X : Fx) (dn : V) (st : MS) (wt : Wit) (c b : Nat) (r : Int), vs = [.ref (X.L 0), .int (c : Nat), .int (b : Nat), .int r] ∧ IsS K H X dn st wt ∧ c < X.sz.length ∧ st.sets.length = X.sz.length ∧
  st.trail.length ≤ 1000 ∧ st.queue.length + (st.index.getD c []).length ≤ sizeLine ∧ After K X dn H (narrowM st c b r) (Q .non)
theorem sc_narrow : FnScope ["state", "choice", "bits", "reason"] ["state", "choice", "bits", "reason"] (defScope (topS 41)) := ⟨rfl, rfl, rfl, by decide +kernel, rfl, by decide +kernel, by decide +kernel⟩
theorem ok_narrow (fr : Free mg) (D : DefAt K mg "narrow" (topS 41)) : OkD P w K mg base 1 "narrow" ["state", "choice", "bits", "reason"] (sp_narrow K) := by
  refine D.ok sc_narrow (fun _ _ _ _ _ _ us hl => match us, hl with | [_, _, _, _], _ => rfl) (fun vs H Q E h => ?_) (fun f cdv A outer s H vs Q E hr h => ?_)
  · obtain ⟨X, dn, st, wt, c, b, r, rfl, _⟩ := h; rfl
  · obtain ⟨X, dn, st, wt, c, b, r, rfl, hS, hc, hsl, htl, hql, q⟩ := h
    refine ⟨_, (pss_cons (ps_expr (pe_bm PySem.F.plainAttrs_list PySem.F.slot_list_append PySem.F.type_list_append mt_append (pe_dget (hu_of hr) (pv 0) pe_str (fun _ _ => rfl)) (pa_cons (pe_tupF (pa_cons (pv 1) (pa_cons (pe_ix (ix_listK (K := K)) (pe_dget (hu_of hr) (pv 0) pe_str (fun _ _ => rfl)) (pv 1) (fun _ _ => rfl)) (pa_cons (pv 3) pa_nil)))) pa_nil)))
 (pss_cons (ps_asg (pv 2) (pg_sub (pe_dget (hu_of hr) (pv 0) pe_str (fun _ _ => rfl)) (pv 1) set_list))
 (pss_one (ps_expr (pe_bm PySem.F.plainAttrs_list PySem.F.slot_list_extend PySem.F.type_list_extend mt_extend (pe_dget (hu_of hr) (pv 0) pe_str (fun _ _ => rfl)) (pa_cons (pe_ix (ix_listK (K := K)) (pe_dget (hu_of hr) (pv 0) pe_str (fun _ _ => rfl)) (pv 1) (fun _ _ => rfl)) pa_nil)))))), ?_⟩
    have hc3 : c < st.sets.length := hsl ▸ hc
    have ixa : ∀ (H : Hp) (a : Addr) (xs : List V), H a = some (.lst xs) → SqL K H a xs := fun H a xs e => .inl (.inl e)
    refine ⟨_, rfl, _, _, rfl, hS.dTrail, .inl ⟨rfl, _, ixa _ _ _ hS.c4⟩, _, rfl, ?_⟩
    refine ⟨_, rfl, _, _, rfl, hS.dSets, _, rfl, X.L 3, _, _, _, rfl, rfl, ixa _ _ _ hS.c3, atI_nat (hS.setAt hc3), _, rfl, by rw [sizeLine_eq]; show 3 ≤ _; omega, fun p o hp ho => ?_⟩
    obtain ⟨u1, u2, u3⟩ := frz_new (K := K) (xs := [V.int (c : Nat), V.int (sAt st.sets c : Nat), V.int r]) hp ho
    have hS1 := hS.same u1
    have htl2 : wt.ts.length = st.trail.length := by rw [hS.dat.pt.1, List.length_reverse]
    refine ⟨X.L 4, wt.ts, .ref p, rfl, rfl, hS1.c4, sz_lt' (by omega), ?_⟩
    have hS2 := hS1.pushTrail (v := .ref p) (t := (c, sAt st.sets c, r)) (.tup u2 (.cons (.int _) (.cons (.int _) (.cons (.int _) .nil))))
    refine ⟨_, rfl, _, rfl, _, _, rfl, hS2.dSets, _, rfl, X.L 3, natsV st.sets, (c : Int), c, rfl, rfl, hS2.c3, ixN_at (by rw [natsV_len]; exact hc3), ?_⟩
    have e3 : (natsV st.sets).set c (.int (b : Nat)) = natsV (st.sets.set c b) := by
      unfold natsV
      rw [List.map_set]
    rw [e3]
    have hS3 := hS2.setSets (st.sets.set c b)
    refine ⟨_, rfl, _, _, rfl, hS3.dQueue, .inl ⟨rfl, _, ixa _ _ _ hS3.c7⟩, _, rfl, _, _, rfl, hS3.dIndex, _, rfl, X.L 2, _, _, _, rfl, rfl, ixa _ _ _ hS3.c2, atI_nat (range_at hc), ?_⟩
    refine ⟨X.L 7, X.L (c + 8), natsV st.queue, natsV (st.index.getD c []), rfl, rfl, hS3.c7, hS3.c8 hc, by rw [natsV_len, natsV_len]; exact hql, ?_⟩
    rw [← natsV_app]
    have hS4 := hS3.setQueue (st.queue ++ st.index.getD c [])
    exact q _ _ hS4 ((((Fr.of u1).trans (Fr.upd (by omega))).trans (Fr.upd (by omega))).trans (Fr.upd (by omega)))
theorem lstA {H : Hp} {a : Addr} {xs : List V} (e : H a = some (.lst xs)) : SqL K H a xs := .inl (.inl e)
def topsL (s : PSum) (tf : Nat → Int) : List Int := s.1.map fun t => tf t.1
def sp_tops_of (K : PySem.W.Frag) : Sp := fun vs H Q _ => ∃ (X : Fx) (dn : V) (st : MS) (wt : Wit) (i : Nat), vs = [.ref (X.L 0), .int (i : Nat)] ∧ IsS K H X dn st wt ∧ i < st.sums.length ∧ SumOk X.sz (at0 st.sums i) ∧ SetsOk X.sz st.sets ∧ Tiny X.sz ∧
  ∀ p H', Same H H' → H p = none → H' p = some (.lst ((topsL (at0 st.sums i) (topF (at0 st.sums i) st.sets)).map V.int)) → Q (.ref p) H'
theorem sc_tops_of : FnScope ["state", "number", "choice", "weights"] ["state", "number"] (defScope (topS 42)) := ⟨rfl, rfl, rfl, by decide +kernel, rfl, by decide +kernel, by decide +kernel⟩
theorem ok_tops_of (fr : Free mg) (D : DefAt K mg "tops_of" (topS 42)) (d_top_of : OkD P w K mg base 2 "top_of" ["weights", "bits"] (sp_top_of K)) : OkD P w K mg base 3 "tops_of" ["state", "number"] (sp_tops_of K) := by
  refine D.ok sc_tops_of (fun _ _ _ _ _ _ us hl => match us, hl with | [_, _], _ => rfl) (fun vs H Q E h => ?_) (fun f cdv A outer s H vs Q E hr h => ?_)
  · obtain ⟨X, dn, st, wt, i, rfl, _⟩ := h; rfl
  · obtain ⟨X, dn, st, wt, i, rfl, hS, hi, hs, hso, hz, q⟩ := h
    refine ⟨_, (pss_one (ps_ret (pe_lc (own := [("choice", 2), ("weights", 3)]) rfl sc_tops_of.nd (pi_seqK (K := K) (pe_ix (ix_tupK (K := K)) (pe_ix (ix_listK (K := K)) (pe_dget (hu_of hr) (pv 0) pe_str (fun _ _ => rfl)) (pv 1) (fun _ _ => rfl)) pe_int (fun _ _ => rfl))) (blkOk_by (by kernel_rfl)) (fun _ _ _ _ _ => (pg_tupK (K := K) (n := 2) (by rfl) (pgs_cons (pg_name (i := 2) sc_tops_of.nd rfl (by first | exact .inl rfl | exact .inr rfl)) (pgs_cons (pg_name (i := 3) sc_tops_of.nd rfl (by first | exact .inl rfl | exact .inr rfl)) pgs_nil)))) (fun _ _ _ _ _ => pts_nil) (fun _ _ _ _ _ => (pe_callD d_top_of (hr.mono (by decide)) (by rfl) (pa_cons (pv 3) (pa_cons (pe_ix (ix_listK (K := K)) (pe_dget (hu_of hr) (pv 0) pe_str (fun _ _ => rfl)) (pv 2) (fun _ _ => rfl)) pa_nil))))))), ?_⟩
    obtain ⟨v, ev, hv⟩ := hS.sumAt hi
    obtain ⟨b, tt, rfl, hb, htt⟩ := pSum hv
    obtain ⟨t, us, rfl, ht, hul, hus⟩ := pTerms htt
    refine ⟨_, rfl, _, _, rfl, hS.dSums, _, rfl, X.L 1, _, _, _, rfl, rfl, lstA hS.c1, atI_nat ev, b, _, _, _, rfl, rfl, hb, atI_nat (j := 0) rfl, t, false, rfl, ⟨us, ht⟩, fun D hD => ?_⟩
    have hlen : us.length = (topsL (at0 st.sums i) (topF (at0 st.sums i) st.sets)).length := by unfold topsL; rw [List.length_map]; exact hul
    refine lc_gen (walk_seq (k := false) (xs := us)) (by rw [hul]; have := hs.1.len; have := hz.1; omega) hD (fun H' s => sq_same (k := false) s ht) (fun j acc _ => acc = ((topsL (at0 st.sums i) (topF (at0 st.sums i) st.sets)).take j).map V.int) (fun _ _ _ _ _ p => p) (fun _ => rfl) (fun j x H1 H2 acc C N hj s1 p y cC cN => ?_) (fun acc H1 s1 e l p => ?_)
    · obtain ⟨rfl, ex⟩ := y
      obtain ⟨tm, et, hpt⟩ := hus j x ex
      obtain ⟨c2, w2, rfl, qc2, qw⟩ := pTerm hpt
      have hl := look_mem hs.1.2 (List.mem_of_getElem? et)
      obtain ⟨hc, hw⟩ := hs.w hl
      have hS1 := hS.same s1
      have hc3 : tm.1 < st.sets.length := hso.1 ▸ hc
      have hwl := hw.len
      have hz4 := hz.le tm.1
      refine ⟨c2, _, rfl, (skp s1).sqT qc2, rfl, _, _, rfl, _, _, rfl, rfl, rfl, yesT ?_⟩
      refine ⟨_, rfl, _, rfl, _, _, rfl, hS1.dSets, _, rfl, X.L 3, _, _, _, rfl, rfl, lstA hS1.c3, atI_nat (hS1.setAt hc3), w2, tm.2, sAt st.sets tm.1, rfl, (skp s1).sqT qw, by omega, by rw [hwl]; exact (hso.2 tm.1 hc).2, (hso.2 tm.1 hc).1, fun H3 s3 => cC _ _ s3 ?_⟩
      have et2 : (topsL (at0 st.sums i) (topF (at0 st.sums i) st.sets))[j]? = some (topB tm.2 (sAt st.sets tm.1)) := by
        unfold topsL
        rw [List.getElem?_map, et]
        show some (topF _ _ tm.1) = _
        unfold topF
        rw [hl]
      rw [take_snoc et2, List.map_append, p]
      rfl
    · rw [hlen, List.take_length] at p
      subst p
      exact q D H1 s1 hD e
def sp_put_step (K : PySem.W.Frag) : Sp := fun vs H Q _ => ∃ (X : Fx) (dn : V) (st : MS) (wt : Wit) (v : V) (x : Step), vs = [.ref (X.L 0), v] ∧ IsS K H X dn st wt ∧ StepV K H v x ∧ st.steps.length ≤ 1000000 ∧ ∀ H' w', IsS K H' X dn (stepM st x) w' → w'.kvs = wt.kvs → Fr X H H' → Q (.int (st.steps.length : Nat)) H'
theorem sc_put_step : FnScope ["state", "step"] ["state", "step"] (defScope (topS 44)) := ⟨rfl, rfl, rfl, by decide +kernel, rfl, by decide +kernel, by decide +kernel⟩
theorem ok_put_step (fr : Free mg) (D : DefAt K mg "put_step" (topS 44)) : OkD P w K mg base 1 "put_step" ["state", "step"] (sp_put_step K) := by
  refine D.ok sc_put_step (fun _ _ _ _ _ _ us hl => match us, hl with | [_, _], _ => rfl) (fun vs H Q E h => ?_) (fun f cdv A outer s H vs Q E hr h => ?_)
  · obtain ⟨X, dn, st, wt, v, x, rfl, _⟩ := h; rfl
  · obtain ⟨X, dn, st, wt, v, x, rfl, hS, hv, hl, q⟩ := h
    refine ⟨_, (pss_cons (ps_expr (pe_bm PySem.F.plainAttrs_list PySem.F.slot_list_append PySem.F.type_list_append mt_append (pe_dget (hu_of hr) (pv 0) pe_str (fun _ _ => rfl)) (pa_cons (pv 1) pa_nil)))
 (pss_one (ps_ret (pe_op op_sub (pe_callB (cr_lenK (K := K)) (by rfl) fr.len (by decide +kernel) (pa_cons (pe_dget (hu_of hr) (pv 0) pe_str (fun _ _ => rfl)) pa_nil)) pe_int)))), ?_⟩
    have hls := hS.dat.pp.1
    refine ⟨_, rfl, _, _, rfl, hS.dSteps, .inl ⟨rfl, _, lstA hS.c5⟩, _, rfl, X.L 5, wt.ss, v, rfl, rfl, hS.c5, sz_lt' (by omega), ?_⟩
    have hS2 := hS.pushStep hv
    refine ⟨_, rfl, _, _, rfl, hS2.dSteps, X.L 5, true, _, rfl, lstA hS2.c5, _, _, rfl, rfl, ?_⟩
    have e : (((wt.ss ++ [v]).length : Nat) : Int) - 1 = ((st.steps.length : Nat) : Int) := by rw [List.length_append, hls]; show ((st.steps.length + 1 : Nat) : Int) - 1 = _; omega
    show Q (.int ((((wt.ss ++ [v]).length : Nat) : Int) - 1)) _
    rw [e]
    exact q _ _ hS2 rfl (Fr.upd (by omega))
def sp_place_of (K : PySem.W.Frag) : Sp := fun vs H Q _ => ∃ (X : Fx) (dn : V) (st : MS) (wt : Wit) (i : Nat), vs = [.ref (X.L 0), .int (i : Nat)] ∧ IsS K H X dn st wt ∧ st.steps.length ≤ 1000000 ∧ st.sums.length ≤ 1000000 ∧ After K X dn H (placeM st i).2 (Q (.int ((placeM st i).1 : Nat)))
theorem sc_place_of : FnScope ["state", "number"] ["state", "number"] (defScope (topS 45)) := ⟨rfl, rfl, rfl, by decide +kernel, rfl, by decide +kernel, by decide +kernel⟩
theorem ok_place_of (fr : Free mg) (D : DefAt K mg "place_of" (topS 45)) (d_put_step : OkD P w K mg base 1 "put_step" ["state", "step"] (sp_put_step K)) : OkD P w K mg base 2 "place_of" ["state", "number"] (sp_place_of K) := by
  refine D.ok sc_place_of (fun _ _ _ _ _ _ us hl => match us, hl with | [_, _], _ => rfl) (fun vs H Q E h => ?_) (fun f cdv A outer s H vs Q E hr h => ?_)
  · obtain ⟨X, dn, st, wt, i, rfl, _⟩ := h; rfl
  · obtain ⟨X, dn, st, wt, i, rfl, hS, hl, hl2, q⟩ := h
    refine ⟨_, (pss_cons (ps_if (pt_cmp (pc_dnotin (hu_of hr) (pv 1) (pe_dget (hu_of hr) (pv 0) pe_str (fun _ _ => rfl)))) (pss_one (ps_dput (hu_of hr) (pe_dget (hu_of hr) (pv 0) pe_str (fun _ _ => rfl)) (pv 1) (pe_callD d_put_step (hr.mono (by decide)) (by rfl) (pa_cons (pv 0) (pa_cons (pe_tupF (pa_cons pe_str (pa_cons (pv 1) pa_nil))) pa_nil))) rfl)) pss_nil)
 (pss_one (ps_ret (pe_dget (hu_of hr) (pe_dget (hu_of hr) (pv 0) pe_str (fun _ _ => rfl)) (pv 1) (fun _ _ => rfl))))), ?_⟩
    have hpl := hS.dat.pl i
    refine ⟨_, rfl, _, rfl, _, _, rfl, hS.dPlaces, X.L 6, _, rfl, DGet.k (k := .inl ((i : Nat) : Int)) hS.c6, _, rfl, ?_⟩
    unfold placeM at q
    cases hp : st.places i with
    | some j =>
      rw [hp] at q hpl
      rw [hpl]
      have g : DGet H (X.L 6) (.int (i : Nat)) (some (.int (j : Nat))) := by
        have := DGet.k (k := .inl ((i : Nat) : Int)) hS.c6
        rw [hpl] at this
        exact this
      exact iteF ⟨_, rfl, _, _, rfl, hS.dPlaces, _, rfl, X.L 6, .int (j : Nat), rfl, g, q H wt hS (Fr.refl H)⟩
    | none =>
      rw [hp] at q hpl
      rw [hpl]
      refine iteT ⟨_, rfl, _, rfl, by rw [sizeLine_eq]; show 2 ≤ _; omega, fun p o hp2 ho => ?_⟩
      obtain ⟨u1, u2, u3⟩ := frz_new (K := K) (xs := [V.str "demand", V.int (i : Nat)]) hp2 ho
      have hpk := hS.dat.pk
      refine ⟨X, dn, st, wt, .ref p, .demand i, rfl, hS.same u1, .tup u2 (.cons (.str _) (.cons (.int _) .nil)), hl, fun H2 w2 hS2 ek f2 => ?_⟩
      have hlen2 : (stepM st (.demand i)).steps.length = st.steps.length + 1 := by show (st.steps ++ [Step.demand i]).length = _; rw [List.length_append]; rfl
      have hsl2 : (stepM st (.demand i)).sums.length = st.sums.length := rfl
      have hk : w2.kvs.length < (stepM st (.demand i)).steps.length + (stepM st (.demand i)).sums.length := by rw [hlen2, hsl2, ek]; omega
      refine ⟨_, rfl, _, _, rfl, hS2.dPlaces, _, rfl, X.L 6, _, rfl, DPut.k (k := .inl ((i : Nat) : Int)) hS2.c6 (sz_lt' (by rw [ek]; omega)), ?_⟩
      have hS3 := hS2.setPlace i st.steps.length hk
      have g : DGet (upd H2 (X.L 6) (.dK (putK w2.kvs (.inl (i : Int)) (.int (st.steps.length : Nat))))) (X.L 6) (.int (i : Nat)) (some (.int (st.steps.length : Nat))) := by
        have := DGet.k (k := .inl ((i : Nat) : Int)) hS3.c6
        rw [valV_put, if_pos rfl] at this
        exact this
      exact ⟨_, rfl, _, _, rfl, hS3.dPlaces, _, rfl, X.L 6, .int (st.steps.length : Nat), rfl, g, q _ _ hS3 (((Fr.of u1).trans f2).trans (Fr.upd (by omega)))⟩
end
end Bh
namespace Bh
open PySem PySem.Spec PyProof.Rows L2
/-! ### clauses as dicts -/
def clK (l : List (Nat × Nat)) : List (Key × V) := l.map fun p => (.inl (p.1 : Int), .int (p.2 : Nat))
theorem clK_snoc (l : List (Nat × Nat)) (p : Nat × Nat) : clK (l ++ [p]) = clK l ++ [(.inl (p.1 : Int), .int (p.2 : Nat))] := by unfold clK; rw [List.map_append]; rfl
theorem clK_none {l : List (Nat × Nat)} {c : Nat} (h : ∀ p ∈ l, p.1 ≠ c) : valV (clK l) (.inl (c : Int)) = none := by
  induction l with
  | nil => rfl
  | cons p r ih =>
    show valV ((Sum.inl (p.1 : Int), V.int (p.2 : Nat)) :: clK r) _ = none
    rw [valV_neg (fun z => h p (List.mem_cons_self ..) (by injection z with z; exact Int.ofNat.inj z))]
    exact ih fun q hq => h q (List.mem_cons_of_mem _ hq)
theorem Fr.mut {X : Fx} {H H' : Hp} {p : Addr} {o : HO} (f : Fr X H H') (hp : H p = none) : Fr X H (L2.upd H' p o) := fun a u n e => (upd_ne (ne_of_none e hp)).trans (f a u n e)
section
variable {K : PySem.W.Frag} {H : Hp} {X : Fx} {dn : V} {st : MS} {w : Wit}
/-- another place may change -/
theorem IsS.other (h : IsS K H X dn st w) {p : Addr} {o : HO} (hp : OffS X p) (k : Kp H (upd H p o)) : IsS K (upd H p o) X dn st w := ⟨h.inj, fun i hi => (upd_ne fun z => hp i hi z.symm).trans (h.cells i hi), h.dat.kp k⟩
end
/-- both ways of an if meet again -/
theorem ifs_join {c : TT} {tb te : TS} {D : Ends} {σ : L2.St} {H : Hp} (R : L2.St → Hp → Prop) (hR : ∀ σ' H', R σ' H' → D.nx σ' H') (h : (∀ σ' H', R σ' H' → D.nx σ' H') → tIfS c tb te D σ H) : tIfS c tb te D σ H := h hR
theorem rT_snoc (ts : Terms) (t : Nat × List Int) (b : Int) (tf : Nat → Int) : rTerms (ts ++ [t], b) tf = if lmin t.2 < tf t.1 then rTerms (ts, b) tf ++ [(t.1, mxW t.2 (tf t.1))] else rTerms (ts, b) tf := by
  show (ts ++ [t]).filterMap _ = _
  rw [List.filterMap_append]
  by_cases h : lmin t.2 < tf t.1
  · rw [if_pos h]
    show ts.filterMap _ ++ [t].filterMap _ = ts.filterMap _ ++ _
    rw [List.filterMap_cons, if_pos h]
    rfl
  · rw [if_neg h]
    show ts.filterMap _ ++ [t].filterMap _ = ts.filterMap _
    rw [List.filterMap_cons, if_neg h]
    exact List.append_nil _
theorem clL_snoc (ts : Terms) (t : Nat × List Int) (b : Int) (tf : Nat → Int) : clL (ts ++ [t], b) tf = if tf t.1 < lmax t.2 then clL (ts, b) tf ++ [(t.1, aboveB t.2 (tf t.1))] else clL (ts, b) tf := by
  show (ts ++ [t]).filterMap _ = _
  rw [List.filterMap_append]
  by_cases h : tf t.1 < lmax t.2
  · rw [if_pos h]
    show ts.filterMap _ ++ [t].filterMap _ = ts.filterMap _ ++ _
    rw [List.filterMap_cons, if_pos h]
    rfl
  · rw [if_neg h]
    show ts.filterMap _ ++ [t].filterMap _ = ts.filterMap _
    rw [List.filterMap_cons, if_neg h]
    exact List.append_nil _
theorem gr_snoc (ts : Terms) (t : Nat × List Int) (b : Int) (tf : Nat → Int) : grOf (ts ++ [t], b) tf = grF tf (grOf (ts, b) tf) t := by
  show (ts ++ [t]).foldl _ _ = _
  rw [List.foldl_append]
  rfl
theorem mem_clL {ts : Terms} {b : Int} {tf : Nat → Int} {p : Nat × Nat} (h : p ∈ clL (ts, b) tf) : ∃ t ∈ ts, t.1 = p.1 := by
  obtain ⟨t, ht, e⟩ := List.mem_filterMap.mp h
  by_cases h1 : tf t.1 < lmax t.2
  · rw [if_pos h1] at e
    cases e
    exact ⟨t, ht, rfl⟩
  · rw [if_neg h1] at e
    cases e
theorem take_lt {ts : Terms} (h : (ts.map (·.1)).Pairwise (· < ·)) {j : Nat} {t u : Nat × List Int} (hj : ts[j]? = some t) (hu : u ∈ ts.take j) : u.1 < t.1 := by
  have hasc := pw_fst.mp h
  rw [List.pairwise_iff_getElem] at hasc
  obtain ⟨m, hm⟩ := List.getElem?_of_mem hu
  have hml := (List.getElem?_eq_some_iff.mp hm).1
  rw [List.length_take] at hml
  rw [List.getElem?_take_of_lt (by omega)] at hm
  have g1 := List.getElem?_eq_some_iff.mp hm
  have g2 := List.getElem?_eq_some_iff.mp hj
  have := hasc m j g1.1 g2.1 (by omega)
  rw [g1.2, g2.2] at this
  exact this
section
variable {P : Program} {w : World} {K : PySem.W.Frag} {mg : Str → Option Value} {base : Heap}
def sp_clause_of_sum (K : PySem.W.Frag) : Sp := fun vs H Q _ => ∃ (X : Fx) (dn : V) (st : MS) (wt : Wit) (i : Nat) (tf : Nat → Int) (ta : Addr), vs = [.ref (X.L 0), .int (i : Nat), .ref ta] ∧ IsS K H X dn st wt ∧ OffS X ta ∧ H ta = some (.lst ((topsL (at0 st.sums i) tf).map V.int)) ∧
  i < st.sums.length ∧ SumOk X.sz (at0 st.sums i) ∧ Tiny X.sz ∧ st.steps.length ≤ 900000 ∧ st.sums.length ≤ 900000 ∧
  ∀ p d H' w', IsS K H' X dn (clauseM st i tf).2 w' → Fr X H H' → SqT K H' p [.int ((clauseM st i tf).1 : Nat), .ref d] → H' d = some (.dK (clK (clL (at0 st.sums i) tf))) → OffS X d → H d = none → Q (.ref p) H'
theorem sc_clause_of_sum : FnScope ["state", "number", "tops", "terms", "bound", "place", "clause", "raised", "greatest", "choice", "weights", "top", "weight"] ["state", "number", "tops"] (defScope (topS 46)) := ⟨rfl, rfl, rfl, by decide +kernel, rfl, by decide +kernel, by decide +kernel⟩
theorem ok_clause_of_sum (fr : Free mg) (D : DefAt K mg "clause_of_sum" (topS 46)) (d_place_of : OkD P w K mg base 2 "place_of" ["state", "number"] (sp_place_of K)) (d_put_step : OkD P w K mg base 1 "put_step" ["state", "step"] (sp_put_step K))
    (d_bits_above : OkD P w K mg base 2 "bits_above" ["weights", "low"] (sp_bits_above K)) : OkD P w K mg base 3 "clause_of_sum" ["state", "number", "tops"] (sp_clause_of_sum K) := by
  refine D.ok sc_clause_of_sum (fun _ _ _ _ _ _ us hl => match us, hl with | [_, _, _], _ => rfl) (fun vs H Q E h => ?_) (fun f cdv A outer s H vs Q E hr h => ?_)
  · obtain ⟨X, dn, st, wt, i, tf, ta, rfl, _⟩ := h; rfl
  · obtain ⟨X, dn, st, wt, i, tf, ta, rfl, hS, hoa, hta, hi, hs, hz, hl1, hl2, q⟩ := h
    refine ⟨_, (pss_cons (ps_asg (pe_ix (ix_listK (K := K)) (pe_dget (hu_of hr) (pv 0) pe_str (fun _ _ => rfl)) (pv 1) (fun _ _ => rfl)) (pg_tupK (K := K) (n := 2) (by rfl) (pgs_cons (pg_name (i := 3) sc_clause_of_sum.nd rfl (by first | exact .inl rfl | exact .inr rfl)) (pgs_cons (pg_name (i := 4) sc_clause_of_sum.nd rfl (by first | exact .inl rfl | exact .inr rfl)) pgs_nil))))
 (pss_cons (ps_asg (pe_tupF (pa_cons (pe_callD d_place_of (hr.mono (by decide)) (by rfl) (pa_cons (pv 0) (pa_cons (pv 1) pa_nil))) (pa_cons pe_dnewK (pa_cons (pe_lst pa_nil) (pa_cons pe_int pa_nil))))) (pg_tupK (K := K) (n := 4) (by rfl) (pgs_cons (pg_name (i := 5) sc_clause_of_sum.nd rfl (by first | exact .inl rfl | exact .inr rfl)) (pgs_cons (pg_name (i := 6) sc_clause_of_sum.nd rfl (by first | exact .inl rfl | exact .inr rfl)) (pgs_cons (pg_name (i := 7) sc_clause_of_sum.nd rfl (by first | exact .inl rfl | exact .inr rfl)) (pgs_cons (pg_name (i := 8) sc_clause_of_sum.nd rfl (by first | exact .inl rfl | exact .inr rfl)) pgs_nil))))))
 (pss_cons (ps_for PassesOwn.never rfl (pi_zipK (K := K) (by rfl) fr.zip (pa_cons (pv 3) (pa_cons (pv 2) pa_nil))) (pg_tupK (K := K) (n := 2) (by rfl) (pgs_cons (pg_tupK (K := K) (n := 2) (by rfl) (pgs_cons (pg_name (i := 9) sc_clause_of_sum.nd rfl (by first | exact .inl rfl | exact .inr rfl)) (pgs_cons (pg_name (i := 10) sc_clause_of_sum.nd rfl (by first | exact .inl rfl | exact .inr rfl)) pgs_nil))) (pgs_cons (pg_name (i := 11) sc_clause_of_sum.nd rfl (by first | exact .inl rfl | exact .inr rfl)) pgs_nil))) (pss_cons (ps_if (pt_cmpR op_lt (pe_callB (cr_minK (K := K) rfl (hu_of hr)) (by rfl) fr.min (by decide +kernel) (pa_cons (pv 10) pa_nil)) (pv 11) (nomark _)) (pss_one (ps_expr (pe_bm PySem.F.plainAttrs_list PySem.F.slot_list_append PySem.F.type_list_append mt_append (pv 7) (pa_cons (pe_tupF (pa_cons (pv 9) (pa_cons (pe_callTy (cr_tupK (K := K)) (by rfl) fr.tuple (by decide +kernel) (pa_cons (pe_lc (own := [("weight", 12)]) rfl sc_clause_of_sum.nd (pi_seqK (K := K) (pv 10)) (blkOk_by (by kernel_rfl)) (fun _ _ _ _ _ => (pg_name (i := 12) sc_clause_of_sum.nd rfl (by first | exact .inl rfl | exact .inr rfl))) (fun _ _ _ _ _ => pts_nil) (fun _ _ _ _ _ => (pe_callB (call_max2 rfl) (by rfl) fr.max (by decide +kernel) (pa_cons (pv 12) (pa_cons (pv 11) pa_nil))))) pa_nil)) pa_nil))) pa_nil)))) pss_nil)
 (pss_one (ps_if (pt_cmpR op_gt (pe_callB (cr_maxK (K := K) rfl (hu_of hr)) (by rfl) fr.max (by decide +kernel) (pa_cons (pv 10) pa_nil)) (pv 11) (nomark _)) (pss_cons (ps_dput (hu_of hr) (pv 6) (pv 9) (pe_callD d_bits_above (hr.mono (by decide)) (by rfl) (pa_cons (pv 10) (pa_cons (pv 11) pa_nil))) rfl)
 (pss_one (ps_set (i := 8) sc_clause_of_sum.nd rfl (by first | exact .inl rfl | exact .inr rfl) (pe_callB (call_max2 rfl) (by rfl) fr.max (by decide +kernel) (pa_cons (pv 8) (pa_cons (pe_op op_sub (pe_callB (cr_maxK (K := K) rfl (hu_of hr)) (by rfl) fr.max (by decide +kernel) (pa_cons (pv 10) pa_nil)) (pv 11)) pa_nil)))))) pss_nil))))
 (pss_cons (ps_if (pt_cmpR (op_neL (hu0 hr)) (pv 7) (pe_lst pa_nil) (nomark _)) (pss_one (ps_set (i := 5) sc_clause_of_sum.nd rfl (by first | exact .inl rfl | exact .inr rfl) (pe_callD d_put_step (hr.mono (by decide)) (by rfl) (pa_cons (pv 0) (pa_cons (pe_tupF (pa_cons pe_str (pa_cons (pv 5) (pa_cons (pe_callTy (cr_tupK (K := K)) (by rfl) fr.tuple (by decide +kernel) (pa_cons (pv 7) pa_nil)) pa_nil)))) pa_nil))))) pss_nil)
 (pss_cons (ps_set (i := 8) sc_clause_of_sum.nd rfl (by first | exact .inl rfl | exact .inr rfl) (pe_callB (call_max2 rfl) (by rfl) fr.max (by decide +kernel) (pa_cons (pv 8) (pa_cons (pe_op op_sub (pv 4) (pe_callB (cr_sumK (K := K) rfl) (by rfl) fr.sum (by decide +kernel) (pa_cons (pv 2) pa_nil))) pa_nil))))
 (pss_cons (ps_if (PW.pt (pw_and (pt_cmpR (op_neE (hu0 hr)) (pv 6) pe_dnewK (nomark _)) (pw_and1 (pt_cmpR op_gt (pv 8) pe_int (nomark _))))) (pss_one (ps_set (i := 5) sc_clause_of_sum.nd rfl (by first | exact .inl rfl | exact .inr rfl) (pe_callD d_put_step (hr.mono (by decide)) (by rfl) (pa_cons (pv 0) (pa_cons (pe_tupF (pa_cons pe_str (pa_cons (pv 5) (pa_cons (pv 8) pa_nil)))) pa_nil))))) pss_nil)
 (pss_one (ps_ret (pe_tupF (pa_cons (pv 5) (pa_cons (pv 6) pa_nil))))))))))), ?_⟩
    obtain ⟨v, ev, hv⟩ := hS.sumAt hi
    obtain ⟨b, tt, rfl, hb, htt⟩ := pSum hv
    obtain ⟨t, us, rfl, ht, hul, hus⟩ := pTerms htt
    refine ⟨_, rfl, _, _, rfl, hS.dSums, _, rfl, X.L 1, _, _, _, rfl, rfl, lstA hS.c1, atI_nat ev, b, _, rfl, hb, rfl, _, _, rfl, _, _, rfl, rfl, ?_⟩
    refine ⟨_, rfl, _, rfl, X, dn, st, wt, i, rfl, hS, by omega, by omega, fun H1 w1 hS1 f1 => ?_⟩
    intro d hd
    have k1 := hS.kpf f1
    have od := hS1.off hd
    have hS2 := hS1.same (same_new (o := .dK []) hd)
    have hd0 : H d = none := by
      cases e : H d with
      | none => rfl
      | some u => have := f1 d u od e; rw [hd] at this; cases this
    refine ⟨Nat.zero_le _, fun R hR => ?_⟩
    have oR := hS2.off hR
    have hS3 := hS2.same (same_new (o := .lst []) hR)
    have ed3 : (upd (upd H1 d (.dK [])) R (.lst [])) d = some (.dK []) := (same_new (o := .lst []) hR) _ _ upd_same
    have f3 : Fr X H (upd (upd H1 d (.dK [])) R (.lst [])) := (f1.trans (Fr.of (same_new (o := .dK []) hd))).trans (Fr.of (same_new (o := .lst []) hR))
    have eR3 : (upd (upd H1 d (.dK [])) R (.lst [])) R = some (.lst []) := upd_same
    have hR0 : H R = none := by
      cases e : H R with
      | none => rfl
      | some u =>
        have h1 := f1 R u oR e
        have h2 := (same_new (o := .dK []) hd) _ _ h1
        rw [hR] at h2
        cases h2
    have hdR : d ≠ R := ne_of_none (upd_same (H := H1) (a := d) (o := .dK [])) hR
    revert hS3 ed3 f3 eR3
    generalize (upd (upd H1 d (.dK [])) R (.lst [])) = H3
    intro hS3 ed3 f3 eR3
    refine ⟨by rw [sizeLine_eq]; show 4 ≤ _; omega, fun p0 o0 hp0 ho0 => ?_⟩
    obtain ⟨u1, u2, u3⟩ := frz_new (K := K) (xs := [V.int ((placeM st i).1 : Nat), .ref d, .ref R, .int 0]) hp0 ho0
    refine ⟨p0, _, rfl, u2, rfl, _, _, rfl, _, _, rfl, _, _, rfl, _, _, rfl, rfl, ?_⟩
    have hS4 := hS3.same u1
    have ed4 := u1 _ _ ed3
    have eR4 := u1 _ _ eR3
    have f4 := f3.trans (Fr.of u1)
    have hlen : min us.length ((topsL (at0 st.sums i) tf).map V.int).length = us.length := by
      unfold topsL
      rw [List.length_map, List.length_map, hul, Nat.min_self]
    have k4 := hS.kpf f4
    refine ⟨_, rfl, _, rfl, t, ta, false, true, us, _, rfl, k4.sqT ht, lstA (f4.at hoa hta), ?_⟩
    refine for_it (walk_zipB (k1 := false) (k2 := true) (xs := us) (ys := (topsL (at0 st.sums i) tf).map V.int) hlen.symm) (fun j σ H' => ∃ y9 y10 y11 rs, σ = [some (.ref (X.L 0)), some (.int (i : Nat)), some (.ref ta), some (.ref t), some (.int (at0 st.sums i).2), some (.int ((placeM st i).1 : Nat)), some (.ref d), some (.ref R), some (.int (grOf ((at0 st.sums i).1.take j, (at0 st.sums i).2) tf)), y9, y10, y11, none] ∧
        IsS K H' X dn (placeM st i).2 w1 ∧ Fr X H H' ∧ H' d = some (.dK (clK (clL ((at0 st.sums i).1.take j, (at0 st.sums i).2) tf))) ∧ H' R = some (.lst rs) ∧ PurAll K H' rs ((rTerms ((at0 st.sums i).1.take j, (at0 st.sums i).2) tf).map dTerm) ∧ rs.length ≤ j)
      ⟨none, none, none, [], rfl, hS4, f4, ed4, eR4, .nil, Nat.le_refl _⟩ (fun j σ H' _ p => ?_) (fun j x σ H5 H6 hj p y => ?_) (fun σ H' p => ?_)
    · obtain ⟨_, _, _, _, _, _, ff, _⟩ := p
      exact ⟨((hS.kpf ff).sqT ht : SqT K H' t us), lstA (ff.at hoa hta)⟩
    · obtain ⟨y9, y10, y11, rs, rfl, hS5, f5, ed5, eR5, hrs, hrl⟩ := p
      obtain ⟨T, x1, x2, rfl, hT, s6, eT, e1, e2⟩ := same_pair y
      obtain ⟨tm, et, hpt⟩ := hus j x1 e1
      obtain ⟨c2, w2, rfl, qc2, qw⟩ := pTerm hpt
      have htm := List.mem_of_getElem? et
      have hl := look_mem hs.1.2 htm
      obtain ⟨hc, hw⟩ := hs.w hl
      have e2 : ((topsL (at0 st.sums i) tf).map V.int)[j]? = some x2 := e2
      unfold topsL at e2
      rw [List.getElem?_map, List.getElem?_map, et] at e2
      injection e2 with e2
      have e2 : V.int (tf tm.1) = x2 := e2
      subst e2
      have k6 := hS.kpf (f5.trans (Fr.of s6))
      have hwne := hw.ne
      have hw4 : tm.2.length ≤ 4 := by rw [hw.len]; exact hz.le tm.1
      refine ⟨T, _, rfl, .inl (.inl eT), rfl, _, _, rfl, c2, _, rfl, k6.sqT qc2, rfl, _, _, rfl, _, _, rfl, rfl, _, _, rfl, rfl, ?_⟩
      have hS6 := hS5.same s6
      have f6 := f5.trans (Fr.of s6)
      have ed6 := s6 _ _ ed5
      have eR6 := s6 _ _ eR5
      have hrs6 := hrs.kp (skp s6)
      have htake : (at0 st.sums i).1.take (j + 1) = (at0 st.sums i).1.take j ++ [tm] := take_snoc et
      refine ifs_join (fun σ' H7 => ∃ rs7, σ' = [some (.ref (X.L 0)), some (.int (i : Nat)), some (.ref ta), some (.ref t), some (.int (at0 st.sums i).2), some (.int ((placeM st i).1 : Nat)), some (.ref d), some (.ref R), some (.int (grOf ((at0 st.sums i).1.take j, (at0 st.sums i).2) tf)), some (.int (tm.1 : Nat)), some (.ref w2), some (.int (tf tm.1)), none] ∧
        IsS K H7 X dn (placeM st i).2 w1 ∧ Fr X H H7 ∧ H7 d = some (.dK (clK (clL ((at0 st.sums i).1.take j, (at0 st.sums i).2) tf))) ∧ H7 R = some (.lst rs7) ∧ PurAll K H7 rs7 ((rTerms ((at0 st.sums i).1.take (j + 1), (at0 st.sums i).2) tf).map dTerm) ∧ rs7.length ≤ j + 1) (fun σ' H7 hx => ?_) (fun nx => ?_)
      · obtain ⟨rs7, rfl, hS7, f7, ed7, eR7, hrs7, hl7⟩ := hx
        have q7 := (hS.kpf f7).sqT qw
        refine ⟨_, rfl, w2, false, tm.2, rfl, q7, hwne, _, rfl, _, _, rfl, rfl, _, rfl, ?_⟩
        by_cases h2 : tf tm.1 < lmax tm.2
        · rw [decide_eq_true h2]
          refine iteT ⟨_, rfl, _, rfl, w2, false, tm.2, tf tm.1, rfl, q7, hw4, fun H8 s8 => ?_⟩
          have hnone : valV (clK (clL ((at0 st.sums i).1.take j, (at0 st.sums i).2) tf)) (.inl ((tm.1 : Nat) : Int)) = none := clK_none fun p hp => by
            obtain ⟨u, hu, e⟩ := mem_clL hp
            have := take_lt hs.1.2 et hu
            omega
          have hcl : clK (clL ((at0 st.sums i).1.take (j + 1), (at0 st.sums i).2) tf) = putK (clK (clL ((at0 st.sums i).1.take j, (at0 st.sums i).2) tf)) (.inl ((tm.1 : Nat) : Int)) (.int ((aboveB tm.2 (tf tm.1) : Nat) : Int)) := by
            rw [putK_new _ hnone, htake, clL_snoc, if_pos h2, clK_snoc]
          have hsz : (clK (clL ((at0 st.sums i).1.take j, (at0 st.sums i).2) tf)).length ≤ 1000 := by
            unfold clK
            rw [List.length_map]
            have h1 := List.length_filterMap_le (fun t : Nat × List Int => if tf t.1 < lmax t.2 then some (t.1, aboveB t.2 (tf t.1)) else none) ((at0 st.sums i).1.take j)
            have h2 : ((at0 st.sums i).1.take j).length ≤ (at0 st.sums i).1.length := by rw [List.length_take]; omega
            have h3 := hs.1.len
            have h4 := hz.1
            exact Nat.le_trans h1 (by omega)
          refine ⟨_, rfl, _, rfl, d, _, rfl, DPut.k (k := .inl ((tm.1 : Nat) : Int)) (s8 _ _ ed7) (sz_lt' (by omega)), ?_⟩
          rw [← hcl]
          have k8 := kp_dK (ys := clK (clL ((at0 st.sums i).1.take (j + 1), (at0 st.sums i).2) tf)) (s8 _ _ ed7)
          have q8 := k8.sqT ((skp s8).sqT q7)
          refine ⟨_, rfl, _, rfl, w2, false, tm.2, rfl, q8, hwne, _, rfl, _, _, rfl, rfl, _, _, rfl, ?_⟩
          refine ⟨some (.int (tm.1 : Nat)), some (.ref w2), some (.int (tf tm.1)), rs7, ?_, (hS7.same s8).other od k8, (f7.trans (Fr.of s8)).mut hd0, upd_same, (upd_ne hdR.symm).trans (s8 _ _ eR7), (hrs7.kp (skp s8)).kp k8, hl7⟩
          rw [htake, gr_snoc]
          unfold grF
          rw [if_pos h2]
          rfl
        · rw [decide_eq_false h2]
          refine iteF ⟨some (.int (tm.1 : Nat)), some (.ref w2), some (.int (tf tm.1)), rs7, ?_, hS7, f7, ?_, eR7, hrs7, hl7⟩
          · rw [htake, gr_snoc]
            unfold grF
            rw [if_neg h2]
          · rw [htake, clL_snoc, if_neg h2]
            exact ed7
      refine ⟨_, rfl, w2, false, tm.2, rfl, k6.sqT qw, hwne, _, rfl, _, _, rfl, rfl, _, rfl, ?_⟩
      by_cases h1 : lmin tm.2 < tf tm.1
      · rw [decide_eq_true h1]
        refine iteT ⟨_, rfl, .inl ⟨rfl, rs, lstA eR6⟩, _, rfl, _, rfl, w2, false, rfl, ⟨_, k6.sqT qw⟩, fun D hD => ?_⟩
        refine lc_gen (walk_seq (k := false)) (by rw [List.length_map]; omega) hD (fun H' s => sq_same (k := false) s (k6.sqT qw)) (fun m acc _ => acc = ((mxW tm.2 (tf tm.1)).take m).map V.int) (fun _ _ _ _ _ p => p) (fun _ => rfl) (fun m x H7 H8 acc C N hm s7 p y cC cN => ?_) (fun acc H7 s7 e l p => ?_)
        · obtain ⟨rfl, ex2⟩ := y
          rw [List.getElem?_map] at ex2
          obtain ⟨z, ez, rfl⟩ := Option.map_eq_some_iff.mp ex2
          refine ⟨rfl, yesT ⟨_, rfl, _, rfl, _, _, rfl, cC _ _ (Same.refl _) ?_⟩⟩
          rw [take_snoc (show (mxW tm.2 (tf tm.1))[m]? = some (if tf tm.1 > z then tf tm.1 else z) by unfold mxW; rw [List.getElem?_map, ez]; rfl), List.map_append, p]
          rfl
        · rw [show (tm.2.map V.int).length = (mxW tm.2 (tf tm.1)).length by rw [mxW_len, List.length_map], List.take_length] at p
          subst p
          refine ⟨D, true, _, rfl, .inl (.inl e), fun _ l o hl' ho => ?_, fun z => nomatch z⟩
          refine ⟨by rw [sizeLine_eq]; show 2 ≤ _; omega, fun p o2 hp ho2 => ?_⟩
          obtain ⟨u1, u2, u3⟩ := frz_new (K := K) (xs := ((mxW tm.2 (tf tm.1)).map V.int)) hl' ho
          obtain ⟨v1, v2, v3⟩ := frz_new (K := K) (xs := [V.int (tm.1 : Nat), V.ref l]) hp ho2
          have ss := (s7.trans u1).trans v1
          have k9 := kp_lst (ys := rs ++ [.ref p]) (ss _ _ eR6)
          refine ⟨R, rs, _, rfl, rfl, ss _ _ eR6, sz_lt' (by have := (List.getElem?_eq_some_iff.mp et).1; have := hs.1.len; have := hz.1; omega), ?_⟩
          refine nx _ _ ⟨rs ++ [.ref p], rfl, (hS6.same ss).other oR k9, (f6.trans (Fr.of ss)).mut hR0, (upd_ne hdR).trans (ss _ _ ed6), upd_same, ?_, by rw [List.length_append]; exact Nat.add_le_add_right hrl 1⟩
          rw [htake, rT_snoc, if_pos h1, List.map_append]
          exact PurAll.app ((hrs6.kp (skp ss)).kp k9) (.cons (Pur.kp k9 (.tup v2 (.cons (.int _) (.cons (.tup ((skp v1).sqT u2) (pur_ints _)) .nil)))) .nil)
      · rw [decide_eq_false h1]
        refine iteF (nx _ _ ⟨rs, rfl, hS6, f6, ed6, eR6, ?_, by omega⟩)
        rw [htake, rT_snoc, if_neg h1]
        exact hrs6
    · obtain ⟨y9, y10, y11, rs, rfl, hS5, f5, ed5, eR5, hrs, hrl⟩ := p
      rw [hul, List.take_length] at hrs ed5 ⊢
      have hrs : PurAll K H' rs ((rTerms (at0 st.sums i) tf).map dTerm) := hrs
      have ed5 : H' d = some (.dK (clK (clL (at0 st.sums i) tf))) := ed5
      have hrlen : rs.length = (rTerms (at0 st.sums i) tf).length := by rw [hrs.len, List.length_map]
      have hg1 : (placeM st i).2.steps.length ≤ st.steps.length + 1 ∧ (placeM st i).2.sums = st.sums := by
        unfold placeM
        cases st.places i with
        | some j => exact ⟨Nat.le_succ _, rfl⟩
        | none => exact ⟨by show (st.steps ++ [Step.demand i]).length ≤ _; rw [List.length_append]; exact Nat.le_refl _, rfl⟩
      have hrl2 : rs.length ≤ 1000 := by
        have := hs.1.len
        have := hz.1
        omega
      dsimp only
      refine ifs_join (fun σ' H7 => ∃ w7, σ' = [some (.ref (X.L 0)), some (.int (i : Nat)), some (.ref ta), some (.ref t), some (.int (at0 st.sums i).2), some (.int ((raiseM st i tf).1 : Nat)), some (.ref d), some (.ref R), some (.int (grOf (at0 st.sums i) tf)), y9, y10, y11, none] ∧
        IsS K H7 X dn (raiseM st i tf).2 w7 ∧ Fr X H H7 ∧ H7 d = some (.dK (clK (clL (at0 st.sums i) tf)))) (fun σ' H7 hx => ?_) (fun nx => ?_)
      · obtain ⟨w7, rfl, hS7, f7, ed7⟩ := hx
        have hg2 : (raiseM st i tf).2.steps.length ≤ st.steps.length + 2 := by
          unfold raiseM
          by_cases hr : rTerms (at0 st.sums i) tf = []
          · rw [if_pos hr]; omega
          · rw [if_neg hr]
            show ((placeM st i).2.steps ++ [_]).length ≤ _
            rw [List.length_append]
            show (placeM st i).2.steps.length + 1 ≤ _
            omega
        have eta : SqL K H7 ta ((topsL (at0 st.sums i) tf).map V.int) := lstA (f7.at hoa hta)
        have esum : (topsL (at0 st.sums i) tf).sum = sumTf (at0 st.sums i) tf := rfl
        refine ⟨_, rfl, _, rfl, _, rfl, ta, topsL (at0 st.sums i) tf, rfl, eta, _, _, rfl, rfl, _, _, rfl, ?_⟩
        rw [esum]
        dsimp only
        show tSeq (tIfS _ _ _) _ _ [some (.ref (X.L 0)), some (.int (i : Nat)), some (.ref ta), some (.ref t), some (.int (at0 st.sums i).2), some (.int ((raiseM st i tf).1 : Nat)), some (.ref d), some (.ref R), some (.int (grAll (at0 st.sums i) tf)), y9, y10, y11, none] H7
        refine ifs_join (fun σ' H8 => ∃ w8, σ' = [some (.ref (X.L 0)), some (.int (i : Nat)), some (.ref ta), some (.ref t), some (.int (at0 st.sums i).2), some (.int ((clauseM st i tf).1 : Nat)), some (.ref d), some (.ref R), some (.int (grAll (at0 st.sums i) tf)), y9, y10, y11, none] ∧
          IsS K H8 X dn (clauseM st i tf).2 w8 ∧ Fr X H H8 ∧ H8 d = some (.dK (clK (clL (at0 st.sums i) tf)))) (fun σ' H8 hx => ?_) (fun nx => ?_)
        · obtain ⟨w8, rfl, hS8, f8, ed8⟩ := hx
          refine ⟨_, rfl, _, rfl, by rw [sizeLine_eq]; show 2 ≤ _; omega, fun p o hp ho => ?_⟩
          obtain ⟨v1, v2, v3⟩ := frz_new (K := K) (xs := [V.int ((clauseM st i tf).1 : Nat), V.ref d]) hp ho
          exact q p d _ w8 (hS8.same v1) (f8.trans (Fr.of v1)) v2 (v1 _ _ ed8) od hd0
        · refine ⟨_, rfl, fun E hE => ?_⟩
          have sE := same_new (o := .dK []) hE
          refine ⟨d, E, _, rfl, rfl, sE _ _ ed7, upd_same, _, rfl, ?_⟩
          have hbig : (!(clK (clL (at0 st.sums i) tf)).isEmpty) = decide (clL (at0 st.sums i) tf ≠ []) := by
            cases clL (at0 st.sums i) tf with
            | nil => rfl
            | cons a b => exact (decide_eq_true (List.cons_ne_nil a b)).symm
          rw [hbig]
          have hS7E := hS7.same sE
          have f7E := f7.trans (Fr.of sE)
          by_cases hc1 : clL (at0 st.sums i) tf ≠ []
          · rw [decide_eq_true hc1]
            refine iteT ⟨_, rfl, _, _, rfl, rfl, _, rfl, ?_⟩
            by_cases hc2 : 1 < grAll (at0 st.sums i) tf
            · rw [decide_eq_true hc2]
              refine iteT ⟨_, rfl, _, rfl, _, rfl, by rw [sizeLine_eq]; show 3 ≤ _; omega, fun p o hp ho => ?_⟩
              obtain ⟨v1, v2, v3⟩ := frz_new (K := K) (xs := [V.str "divide", V.int ((raiseM st i tf).1 : Nat), V.int (grAll (at0 st.sums i) tf)]) hp ho
              refine ⟨X, dn, _, w7, .ref p, .divide (raiseM st i tf).1 (grAll (at0 st.sums i) tf), rfl, hS7E.same v1, .tup v2 (.cons (.str _) (.cons (.int _) (.cons (.int _) .nil))), by omega, fun H9 w9 hS9 _ f9 => ?_⟩
              have ec : clauseM st i tf = ((raiseM st i tf).2.steps.length, stepM (raiseM st i tf).2 (.divide (raiseM st i tf).1 (grAll (at0 st.sums i) tf))) := by unfold clauseM; exact if_pos ⟨hc1, hc2⟩
              refine nx _ _ ⟨w9, ?_, ?_, (f7E.trans (Fr.of v1)).trans f9, f9.at od (v1 _ _ (sE _ _ ed7))⟩
              · rw [ec]; rfl
              · rw [ec]; exact hS9
            · rw [decide_eq_false hc2]
              have ec : clauseM st i tf = raiseM st i tf := by unfold clauseM; exact if_neg fun z => hc2 z.2
              refine iteF (nx _ _ ⟨w7, ?_, ?_, f7E, sE _ _ ed7⟩)
              · rw [ec]
              · rw [ec]; exact hS7E
          · rw [decide_eq_false hc1]
            have ec : clauseM st i tf = raiseM st i tf := by unfold clauseM; exact if_neg fun z => hc1 z.1
            refine iteF (iteF (nx _ _ ⟨w7, ?_, ?_, f7E, sE _ _ ed7⟩))
            · rw [ec]
            · rw [ec]; exact hS7E
      · refine ⟨_, rfl, Nat.zero_le _, fun E hE => ?_⟩
        have sE := same_new (o := .lst []) hE
        refine ⟨R, E, rs, rfl, rfl, sE _ _ eR5, upd_same, _, rfl, ?_⟩
        by_cases hr : rTerms (at0 st.sums i) tf = []
        · have er : rs = [] := List.eq_nil_of_length_eq_zero (by rw [hrlen, hr]; rfl)
          subst er
          have ec : raiseM st i tf = placeM st i := by unfold raiseM; exact if_pos hr
          refine iteF (nx _ _ ⟨w1, ?_, ?_, f5.trans (Fr.of sE), sE _ _ ed5⟩)
          · rw [ec]
          · rw [ec]; exact hS5.same sE
        · have er : rs.isEmpty = false := by
            cases rs with
            | nil => exact absurd (List.eq_nil_of_length_eq_zero hrlen.symm) hr
            | cons a b => rfl
          rw [er]
          have ec : raiseM st i tf = ((placeM st i).2.steps.length, stepM (placeM st i).2 (.raise (placeM st i).1 (rTerms (at0 st.sums i) tf))) := by unfold raiseM; exact if_neg hr
          refine iteT ⟨_, rfl, _, rfl, _, rfl, R, true, rs, rfl, lstA (sE _ _ eR5), fun _ l o hl ho => ?_, fun z => nomatch z⟩
          obtain ⟨v1, v2, v3⟩ := frz_new (K := K) (xs := rs) hl ho
          refine ⟨by rw [sizeLine_eq]; show 3 ≤ _; omega, fun p o2 hp ho2 => ?_⟩
          obtain ⟨x1, x2, x3⟩ := frz_new (K := K) (xs := [V.str "raise", V.int ((placeM st i).1 : Nat), V.ref l]) hp ho2
          have ss := (sE.trans v1).trans x1
          refine ⟨X, dn, _, w1, .ref p, .raise (placeM st i).1 (rTerms (at0 st.sums i) tf), rfl, hS5.same ss, ⟨p, l, rfl, x2, v3.kp (skp x1), .tup ((skp x1).sqT v2) (hrs.kp (skp ss))⟩, by omega, fun H9 w9 hS9 _ f9 => ?_⟩
          refine nx _ _ ⟨w9, ?_, ?_, (f5.trans (Fr.of ss)).trans f9, f9.at od (ss _ _ ed5)⟩
          · rw [ec]; rfl
          · rw [ec]; exact hS9
end
end Bh
namespace Bh
/-! ### clauses as lists -/
def clList (n : Nat) (k : Cl) : List (Nat × Nat) := (List.range n).filterMap fun c => if k c = 0 then none else some (c, k c)
theorem clL_list {sz : List Nat} {s : PSum} {tf : Nat → Int} (h : SumOk sz s) : clL s tf = clList sz.length (clOf s tf) := by
  unfold clL clList
  conv => lhs; rw [← canon h.1]
  unfold tabT
  rw [List.filterMap_filterMap]
  refine fm_congr fun c _ => ?_
  unfold clOf
  cases hl : look s.1 c with
  | none => rfl
  | some w =>
    have hw := (h.w hl).2
    show (if tf c < lmax w then some (c, aboveB w (tf c)) else none) = if aboveB w (tf c) = 0 then none else some (c, aboveB w (tf c))
    by_cases h1 : tf c < lmax w
    · rw [if_pos h1, if_neg ((above_ne hw _).mpr h1)]
    · rw [if_neg h1, if_pos (Classical.byContradiction fun z => h1 ((above_ne hw _).mp z))]
theorem mem_clList {n : Nat} {k : Cl} {p : Nat × Nat} : p ∈ clList n k ↔ p.1 < n ∧ k p.1 ≠ 0 ∧ p.2 = k p.1 := by
  unfold clList
  rw [List.mem_filterMap]
  constructor
  · rintro ⟨c, hc, e⟩
    by_cases h : k c = 0
    · rw [if_pos h] at e; cases e
    · rw [if_neg h] at e
      cases e
      exact ⟨List.mem_range.mp hc, h, rfl⟩
  · rintro ⟨h1, h2, h3⟩
    exact ⟨p.1, List.mem_range.mpr h1, by rw [if_neg h2, ← h3]⟩
theorem clList_len (n : Nat) (k : Cl) : (clList n k).length ≤ n := by
  unfold clList
  have := List.length_filterMap_le (fun c => if k c = 0 then none else some (c, k c)) (List.range n)
  rwa [List.length_range] at this
theorem clList_fst (n : Nat) (k : Cl) : (clList n k).map (·.1) = (List.range n).filter fun c => decide (k c ≠ 0) := by
  unfold clList
  induction List.range n with
  | nil => rfl
  | cons c r ih =>
    rw [List.filterMap_cons, List.filter_cons]
    by_cases h : k c = 0
    · rw [if_pos h, if_neg (by simp [h])]; exact ih
    · rw [if_neg h, if_pos (by simp [h]), ← ih]; rfl
theorem clList_filter {n : Nat} {k : Cl} {p : Nat → Bool} (h : ∀ c, c < n → p c = false → k c = 0) : ((List.range n).filter p).filterMap (fun c => if k c = 0 then none else some (c, k c)) = clList n k := by
  unfold clList
  rw [List.filterMap_filter]
  refine fm_congr fun c hc => ?_
  cases hp : p c with
  | true => rfl
  | false => rw [if_pos (h c (List.mem_range.mp hc) hp)]; rfl
theorem set_mid {α : Type} (xs ys : List α) (x y : α) : (xs ++ x :: ys).set xs.length y = xs ++ y :: ys := by
  induction xs with
  | nil => rfl
  | cons a r ih => show a :: (r ++ x :: ys).set r.length y = _; rw [ih]; rfl
/-- the terms of a clause's sum -/
theorem clTab_list (sz : List Nat) (k : Cl) : tabT sz.length (clTab sz k) = (clList sz.length k).map fun p => (p.1, bitsW (szOf sz p.1) p.2) := by
  unfold tabT clList clTab
  rw [List.map_filterMap]
  refine fm_congr fun c _ => ?_
  by_cases h : k c = 0
  · rw [if_pos h, if_pos h]; rfl
  · rw [if_neg h, if_neg h]; rfl
end Bh
namespace Bh
open PySem PySem.Spec PyProof.Rows L2
theorem clK_get {n : Nat} {k : Cl} {c : Nat} (hc : c < n) : valV (clK (clList n k)) (.inl (c : Int)) = if k c = 0 then none else some (.int (k c : Nat)) := by
  by_cases h : k c = 0
  · rw [if_pos h]
    exact clK_none fun p hp => by
      intro e
      have := (mem_clList.mp hp).2.1
      rw [e] at this
      exact this h
  · rw [if_neg h]
    have hm : (c, k c) ∈ clList n k := mem_clList.mpr ⟨hc, h, rfl⟩
    have hu : ∀ p ∈ clList n k, p.1 = c → p.2 = k c := fun p hp e => by rw [(mem_clList.mp hp).2.2, e]
    revert hm hu
    induction clList n k with
    | nil => intro hm _; cases hm
    | cons p r ih =>
      intro hm hu
      show valV ((Sum.inl (p.1 : Int), V.int (p.2 : Nat)) :: clK r) _ = _
      by_cases e : p.1 = c
      · rw [valV_pos (by rw [e])]
        show some (V.int (p.2 : Nat)) = _
        rw [hu p (List.mem_cons_self ..) e]
      · rw [valV_neg (fun z => e (by injection z with z; exact Int.ofNat.inj z))]
        exact ih ((List.mem_cons.mp hm).resolve_left fun z => e (by rw [← z])) fun q hq => hu q (List.mem_cons_of_mem _ hq)
theorem int_bit16 : ∀ b < 16, ∀ v < 4, Builtin.bitAnd (((b : Nat) : Int) / 2 ^ ((v : Nat) : Int).toNat) 1 = if b.testBit v = true then 1 else 0 := by decide +kernel
section
variable {P : Program} {w : World} {K : PySem.W.Frag} {mg : Str → Option Value} {base : Heap}
def sp_reason_clause (K : PySem.W.Frag) : Sp := fun vs H Q _ => ∃ (X : Fx) (dn : V) (st : MS) (wt : Wit) (i c gone : Nat) (u : List Int), vs = [.ref (X.L 0), .int (i : Nat), .int (c : Nat), .int (gone : Nat)] ∧ IsS K H X dn st wt ∧
  i < st.sums.length ∧ SumOk X.sz (at0 st.sums i) ∧ SetsOk X.sz st.sets ∧ Tiny X.sz ∧ look (at0 st.sums i).1 c = some u ∧ gone ≠ 0 ∧ gone < 2 ^ szOf X.sz c ∧ st.steps.length ≤ 900000 ∧ st.sums.length ≤ 900000 ∧
  ∀ p d H' w', IsS K H' X dn (clauseM st i (goneTf (at0 st.sums i) st.sets c u gone)).2 w' → Fr X H H' → SqT K H' p [.int ((clauseM st i (goneTf (at0 st.sums i) st.sets c u gone)).1 : Nat), .ref d] →
    H' d = some (.dK (clK (clL (at0 st.sums i) (goneTf (at0 st.sums i) st.sets c u gone)))) → OffS X d → H d = none → Q (.ref p) H'
theorem sc_reason_clause : FnScope ["state", "number", "choice", "gone", "tops", "spot", "named", "weights"] ["state", "number", "choice", "gone"] (defScope (topS 50)) := ⟨rfl, rfl, rfl, by decide +kernel, rfl, by decide +kernel, by decide +kernel⟩
theorem ok_reason_clause (fr : Free mg) (D : DefAt K mg "reason_clause" (topS 50)) (d_tops_of : OkD P w K mg base 3 "tops_of" ["state", "number"] (sp_tops_of K)) (d_top_of : OkD P w K mg base 2 "top_of" ["weights", "bits"] (sp_top_of K))
    (d_clause_of_sum : OkD P w K mg base 3 "clause_of_sum" ["state", "number", "tops"] (sp_clause_of_sum K)) : OkD P w K mg base 4 "reason_clause" ["state", "number", "choice", "gone"] (sp_reason_clause K) := by
  refine D.ok sc_reason_clause (fun _ _ _ _ _ _ us hl => match us, hl with | [_, _, _, _], _ => rfl) (fun vs H Q E h => ?_) (fun f cdv A outer s H vs Q E hr h => ?_)
  · obtain ⟨X, dn, st, wt, i, c, gone, u, rfl, _⟩ := h; rfl
  · obtain ⟨X, dn, st, wt, i, c, gone, u, rfl, hS, hi, hs, hso, hz, hlu, hg0, hgl, hl1, hl2, q⟩ := h
    refine ⟨_, (pss_cons (ps_set (i := 4) sc_reason_clause.nd rfl (by first | exact .inl rfl | exact .inr rfl) (pe_callD d_tops_of (hr.mono (by decide)) (by rfl) (pa_cons (pv 0) (pa_cons (pv 1) pa_nil))))
 (pss_cons (ps_for PassesOwn.never rfl (pi_enumK (K := K) (by rfl) fr.enumerate (pa_cons (pe_ix (ix_tupK (K := K)) (pe_ix (ix_listK (K := K)) (pe_dget (hu_of hr) (pv 0) pe_str (fun _ _ => rfl)) (pv 1) (fun _ _ => rfl)) pe_int (fun _ _ => rfl)) pa_nil)) (pg_tupK (K := K) (n := 2) (by rfl) (pgs_cons (pg_name (i := 5) sc_reason_clause.nd rfl (by first | exact .inl rfl | exact .inr rfl)) (pgs_cons (pg_tupK (K := K) (n := 2) (by rfl) (pgs_cons (pg_name (i := 6) sc_reason_clause.nd rfl (by first | exact .inl rfl | exact .inr rfl)) (pgs_cons (pg_name (i := 7) sc_reason_clause.nd rfl (by first | exact .inl rfl | exact .inr rfl)) pgs_nil))) pgs_nil))) (pss_one (ps_if (pt_cmpR op_eq (pv 6) (pv 2) (nomark _)) (pss_one (ps_asg (pe_callD d_top_of (hr.mono (by decide)) (by rfl) (pa_cons (pv 7) (pa_cons (pv 3) pa_nil))) (pg_sub (pv 4) (pv 5) set_list))) pss_nil)))
 (pss_one (ps_ret (pe_callD d_clause_of_sum (hr.mono (by decide)) (by rfl) (pa_cons (pv 0) (pa_cons (pv 1) (pa_cons (pv 4) pa_nil)))))))), ?_⟩
    obtain ⟨v, ev, hv⟩ := hS.sumAt hi
    obtain ⟨b, tt, rfl, hb, htt⟩ := pSum hv
    obtain ⟨t, us, rfl, ht, hul, hus⟩ := pTerms htt
    refine ⟨_, rfl, _, rfl, X, dn, st, wt, i, rfl, hS, hi, hs, hso, hz, fun ta H1 s1 hta e1 => ?_⟩
    have hS1 := hS.same s1
    refine ⟨_, rfl, _, _, rfl, hS1.dSums, _, rfl, X.L 1, _, _, _, rfl, rfl, lstA hS1.c1, atI_nat ev, b, _, _, _, rfl, rfl, (skp s1).sqT hb, atI_nat (j := 0) rfl, t, false, us, rfl, (skp s1).sqT ht, ?_⟩
    have hlen : us.length = (at0 st.sums i).1.length := hul
    refine for_it (walk_enumB (k := false) (xs := us)) (fun j σ H' => ∃ y5 y6 y7, σ = [some (.ref (X.L 0)), some (.int (i : Nat)), some (.int (c : Nat)), some (.int (gone : Nat)), some (.ref ta), y5, y6, y7] ∧ Same H H' ∧
        H' ta = some (.lst ((((at0 st.sums i).1.take j).map (fun t => goneTf (at0 st.sums i) st.sets c u gone t.1) ++ ((at0 st.sums i).1.drop j).map (fun t => topF (at0 st.sums i) st.sets t.1)).map V.int)))
      ⟨none, none, none, rfl, s1, e1⟩ (fun j σ H' _ p => ?_) (fun j x σ H3 H4 hj p y => ?_) (fun σ H' p => ?_)
    · obtain ⟨_, _, _, _, s2, _⟩ := p
      exact (skp s2).sqT ht
    · obtain ⟨y5, y6, y7, rfl, s3, e3⟩ := p
      obtain ⟨T, x1, x2, rfl, hT, s4, eT, g1, g2⟩ := same_pair y
      cases g1
      obtain ⟨tm, et, hpt⟩ := hus j x2 g2
      obtain ⟨c2, w2, rfl, qc2, qw⟩ := pTerm hpt
      have htm := List.mem_of_getElem? et
      have hl := look_mem hs.1.2 htm
      obtain ⟨hc, hw⟩ := hs.w hl
      have k4 := skp (s3.trans s4)
      have hjl : j < (at0 st.sums i).1.length := (List.getElem?_eq_some_iff.mp et).1
      have edrop : (at0 st.sums i).1.drop j = tm :: (at0 st.sums i).1.drop (j + 1) := by
        rw [List.drop_eq_getElem_cons hjl, (List.getElem?_eq_some_iff.mp et).2]
      have enext : ((at0 st.sums i).1.take (j + 1)).map (fun t => goneTf (at0 st.sums i) st.sets c u gone t.1) ++ ((at0 st.sums i).1.drop (j + 1)).map (fun t => topF (at0 st.sums i) st.sets t.1) = ((at0 st.sums i).1.take j).map (fun t => goneTf (at0 st.sums i) st.sets c u gone t.1) ++ goneTf (at0 st.sums i) st.sets c u gone tm.1 :: ((at0 st.sums i).1.drop (j + 1)).map (fun t => topF (at0 st.sums i) st.sets t.1) := by
        rw [take_snoc et, List.map_append, List.append_assoc]
        rfl
      rw [edrop, List.map_cons] at e3
      have e4 := s4 _ _ e3
      refine ⟨T, _, rfl, .inl (.inl eT), rfl, _, _, rfl, _, _, rfl, c2, _, rfl, k4.sqT qc2, rfl, _, _, rfl, _, _, rfl, rfl, rfl, ?_⟩
      refine ⟨_, rfl, _, rfl, rfl, _, rfl, ?_⟩
      by_cases hcc : tm.1 = c
      · have hcc2 := hcc
        rw [decide_eq_true (by rw [hcc])]
        rw [hcc, hlu] at hl
        injection hl with hl
        have hgl2 : gone < 2 ^ tm.2.length := by rw [hw.len, hcc]; exact hgl
        refine iteT ⟨_, rfl, _, rfl, w2, tm.2, gone, rfl, k4.sqT qw, by rw [hw.len]; exact hz.le tm.1, hgl2, hg0, fun H5 s5 => ?_⟩
        refine ⟨_, rfl, _, rfl, ta, _, _, j, rfl, rfl, s5 _ _ e4, ixN_at (by rw [List.length_map, List.length_append, List.length_map, List.length_take, List.length_cons]; omega), ?_⟩
        refine ⟨_, _, _, rfl, smut ((s3.trans s4).trans s5) hta, ?_⟩
        have hjm : ((((at0 st.sums i).1.take j).map (fun t => goneTf (at0 st.sums i) st.sets c u gone t.1)).map V.int).length = j := by rw [List.length_map, List.length_map, List.length_take]; omega
        have e7 := set_mid ((((at0 st.sums i).1.take j).map (fun t => goneTf (at0 st.sums i) st.sets c u gone t.1)).map V.int) ((((at0 st.sums i).1.drop (j + 1)).map (fun t => topF (at0 st.sums i) st.sets t.1)).map V.int) (V.int (topF (at0 st.sums i) st.sets tm.1)) (V.int (topB tm.2 gone))
        rw [hjm] at e7
        have eg : goneTf (at0 st.sums i) st.sets c u gone tm.1 = topB tm.2 gone := by unfold goneTf; rw [if_pos hcc2, hl]
        rw [upd_same, enext, eg, List.map_append, List.map_append, List.map_cons, List.map_cons, e7]
      · have hne : ¬ (V.int ((tm.1 : Nat) : Int) = V.int ((c : Nat) : Int)) := fun z => hcc (Int.ofNat.inj (V.int.inj z))
        rw [decide_eq_false hne]
        refine iteF ⟨_, _, _, rfl, s3.trans s4, ?_⟩
        have eg : goneTf (at0 st.sums i) st.sets c u gone tm.1 = topF (at0 st.sums i) st.sets tm.1 := if_neg hcc
        rw [enext, eg]
        exact e4
    · obtain ⟨y5, y6, y7, rfl, s3, e3⟩ := p
      rw [hul, List.take_length, List.drop_length, List.map_nil, List.append_nil] at e3
      exact ⟨_, rfl, _, rfl, _, rfl, X, dn, st, wt, i, goneTf (at0 st.sums i) st.sets c u gone, ta, rfl, hS.same s3, hS.off hta, e3, hi, hs, hz, hl1, hl2, fun p d H' w' a1 a2 a3 a4 a5 a6 => q p d H' w' a1 ((Fr.of s3).trans a2) a3 a4 a5 (by
        cases e : H d with
        | none => rfl
        | some x => have := s3 _ _ e; rw [a6] at this; cases this)⟩
end
end Bh
namespace Bh
open PySem PySem.Spec PyProof.Rows L2
def rSetW (K : PySem.W.Frag) (w : World) : List V → Hp → VK → Prop := fun xs H Q => ∃ (l : Addr) (ns : List Int), xs = [.ref l] ∧ SqL K H l (ns.map V.int) ∧ ns.length ≤ 60 ∧ ∀ (p : Addr) (c : Nat), H p = none → c ≤ ns.length → Q (.ref p) (upd H p (SetO w p (fun j => decide (j ∈ ns)) c))
theorem cr_setW {X : Cx} {K : PySem.W.Frag} {w : World} (hc : X.calm = true) (hK : X.K = K := by rfl) (hw : X.w = w := by rfl) : CallR X (.type "set") (rSetW K w) := by
  subst hK hw
  exact cr_setL hc
theorem cr_sortedSetW {X : Cx} {w : World} (hc : X.calm = true) (hw : X.w = w := by rfl) : CallR X (.builtin "sorted") (rSortedSet w) := hw ▸ cr_sortedSet hc
theorem clK_keys (l : List (Nat × Nat)) : (clK l).map (fun kv => kV kv.1) = ((l.map (·.1)).map fun (c : Nat) => (c : Int)).map V.int := by
  unfold clK
  rw [List.map_map, List.map_map, List.map_map]
  rfl
/-- the sorted members of both -/
theorem sorted_nats {n : Nat} {p : Nat → Bool} {ns : List Int} (hs : ns.Pairwise (· < ·)) (hm : ∀ k : Int, k ∈ ns ↔ ∃ c : Nat, c < n ∧ p c = true ∧ k = (c : Int)) : ns = ((List.range n).filter p).map fun (c : Nat) => (c : Int) := by
  have sk : (((List.range n).filter p).map fun (c : Nat) => (c : Int)).Pairwise (· < ·) := by
    rw [List.pairwise_map]
    exact (List.pairwise_lt_range.filter p).imp fun h => by omega
  have n1 : ns.Nodup := hs.imp fun h => by omega
  have n2 : (((List.range n).filter p).map fun (c : Nat) => (c : Int)).Nodup := sk.imp fun h => by omega
  refine List.Perm.eq_of_pairwise (le := fun a b => a < b) (fun a b _ _ h1 h2 => by omega) hs sk ((List.perm_ext_iff_of_nodup n1 n2).mpr fun k => ?_)
  rw [hm, List.mem_map]
  constructor
  · rintro ⟨c, h1, h2, rfl⟩
    exact ⟨c, List.mem_filter.mpr ⟨List.mem_range.mpr h1, h2⟩, rfl⟩
  · rintro ⟨c, h1, rfl⟩
    rw [List.mem_filter, List.mem_range] at h1
    exact ⟨c, h1.1, h1.2, rfl⟩
section
variable {P : Program} {w : World} {K : PySem.W.Frag} {mg : Str → Option Value} {base : Heap}
def spotsB (n : Nat) (k1 k2 : Cl) : List Nat := (List.range n).filter fun c => decide (k1 c ≠ 0 ∨ k2 c ≠ 0)
def foundL (c : Nat) (k1 k2 : Cl) (l : List Nat) : List (Nat × Nat) := l.filterMap fun s => if cutC c k1 k2 s = 0 then none else some (s, cutC c k1 k2 s)
def twiceL (c : Nat) (k1 k2 : Cl) (l : List Nat) : Bool := l.any fun s => decide (s ≠ c) && decide (k1 s &&& k2 s ≠ 0)
theorem foundL_all (n c : Nat) (k1 k2 : Cl) : foundL c k1 k2 (spotsB n k1 k2) = clList n (cutC c k1 k2) := clList_filter fun s _ h => by
  have h := of_decide_eq_false h
  have h1 : k1 s = 0 := Classical.byContradiction fun z => h (.inl z)
  have h2 : k2 s = 0 := Classical.byContradiction fun z => h (.inr z)
  unfold cutC
  rw [h1, h2]
  split <;> rfl
theorem twiceL_all (n c : Nat) (k1 k2 : Cl) : twiceL c k1 k2 (spotsB n k1 k2) = twiceB n c k1 k2 := by
  unfold twiceL twiceB spotsB
  rw [Bool.eq_iff_iff, List.any_eq_true, List.any_eq_true]
  constructor
  · rintro ⟨s, h1, h2⟩
    exact ⟨s, (List.mem_filter.mp h1).1, h2⟩
  · rintro ⟨s, h1, h2⟩
    refine ⟨s, List.mem_filter.mpr ⟨h1, decide_eq_true (.inl fun z => ?_)⟩, h2⟩
    rw [Bool.and_eq_true] at h2
    exact of_decide_eq_true h2.2 (by rw [z, Nat.zero_and])
theorem mem_spots {n s : Nat} {k1 k2 : Cl} (h : s ∈ spotsB n k1 k2) : s < n := List.mem_range.mp (List.mem_filter.mp h).1
def sp_cut_at (K : PySem.W.Frag) : Sp := fun vs H Q _ => ∃ (X : Fx) (dn : V) (st : MS) (wt : Wit) (nr fa d1 d2 : Addr) (one two c : Nat) (k1 k2 : Cl), vs = [.ref (X.L 0), .ref nr, .ref fa, .int (c : Nat)] ∧ IsS K H X dn st wt ∧ SqT K H nr [.int (one : Nat), .ref d1] ∧ SqT K H fa [.int (two : Nat), .ref d2] ∧
  OffS X d1 ∧ OffS X d2 ∧ H d1 = some (.dK (clK (clList X.sz.length k1))) ∧ H d2 = some (.dK (clK (clList X.sz.length k2))) ∧ CutOk X.sz c k1 k2 ∧ k2 c ≠ 0 ∧ Tiny X.sz ∧ st.steps.length ≤ 900000 ∧ st.sums.length ≤ 900000 ∧
  ∀ p d H' w', IsS K H' X dn (cutM X.sz st one k1 two k2 c).2 w' → Fr X H H' → SqT K H' p [.int ((cutM X.sz st one k1 two k2 c).1 : Nat), .ref d] → H' d = some (.dK (clK (clList X.sz.length (cutC c k1 k2)))) → OffS X d → H d = none → Q (.ref p) H'
theorem sc_cut_at : FnScope ["state", "near", "far", "choice", "one", "first", "two", "second", "size", "whole", "wide", "weights", "value", "place", "found", "twice", "spot", "here", "there", "bits"] ["state", "near", "far", "choice"] (defScope (topS 47)) := ⟨rfl, rfl, rfl, by decide +kernel, rfl, by decide +kernel, by decide +kernel⟩
theorem ok_cut_at (fr : Free mg) (D : DefAt K mg "cut_at" (topS 47)) (d_put_step : OkD P w K mg base 1 "put_step" ["state", "step"] (sp_put_step K)) : OkD P w K mg base 2 "cut_at" ["state", "near", "far", "choice"] (sp_cut_at K) := by
  refine D.ok sc_cut_at (fun _ _ _ _ _ _ us hl => match us, hl with | [_, _, _, _], _ => rfl) (fun vs H Q E h => ?_) (fun f cdv A outer s H vs Q E hr h => ?_)
  · obtain ⟨X, dn, st, wt, nr, fa, d1, d2, one, two, c, k1, k2, rfl, _⟩ := h; rfl
  · obtain ⟨X, dn, st, wt, nr, fa, d1, d2, one, two, c, k1, k2, rfl, hS, hnr, hfa, o1, o2, e1, e2, hck, hk2, hz, hl1, hl2, q⟩ := h
    refine ⟨_, (pss_cons (ps_asg (pe_tupF (pa_cons (pv 1) (pa_cons (pv 2) pa_nil))) (pg_tupK (K := K) (n := 2) (by rfl) (pgs_cons (pg_tupK (K := K) (n := 2) (by rfl) (pgs_cons (pg_name (i := 4) sc_cut_at.nd rfl (by first | exact .inl rfl | exact .inr rfl)) (pgs_cons (pg_name (i := 5) sc_cut_at.nd rfl (by first | exact .inl rfl | exact .inr rfl)) pgs_nil))) (pgs_cons (pg_tupK (K := K) (n := 2) (by rfl) (pgs_cons (pg_name (i := 6) sc_cut_at.nd rfl (by first | exact .inl rfl | exact .inr rfl)) (pgs_cons (pg_name (i := 7) sc_cut_at.nd rfl (by first | exact .inl rfl | exact .inr rfl)) pgs_nil))) pgs_nil))))
 (pss_cons (ps_set (i := 8) sc_cut_at.nd rfl (by first | exact .inl rfl | exact .inr rfl) (pe_ix (ix_tupK (K := K)) (pe_dget (hu_of hr) (pv 0) pe_str (fun _ _ => rfl)) (pv 3) (fun _ _ => rfl)))
 (pss_cons (ps_set (i := 9) sc_cut_at.nd rfl (by first | exact .inl rfl | exact .inr rfl) (pe_op op_sub (pe_op op_shl pe_int (pv 8)) pe_int))
 (pss_cons (ps_set (i := 10) sc_cut_at.nd rfl (by first | exact .inl rfl | exact .inr rfl) (pe_op op_or (pe_dget (hu_of hr) (pv 5) (pv 3) (fun _ _ => rfl)) (pe_op op_sub (pv 9) (pe_dget (hu_of hr) (pv 7) (pv 3) (fun _ _ => rfl)))))
 (pss_cons (ps_if (pt_cmpR op_ne (pv 10) (pe_dget (hu_of hr) (pv 5) (pv 3) (fun _ _ => rfl)) (nomark _)) (pss_cons (ps_set (i := 11) sc_cut_at.nd rfl (by first | exact .inl rfl | exact .inr rfl) (pe_callTy (cr_tupK (K := K)) (by rfl) fr.tuple (by decide +kernel) (pa_cons (pe_lc (own := [("value", 12)]) rfl sc_cut_at.nd (pi_range1 (by rfl) fr.range (pa_cons (pv 8) pa_nil)) (blkOk_by (by kernel_rfl)) (fun _ _ _ _ _ => (pg_name (i := 12) sc_cut_at.nd rfl (by first | exact .inl rfl | exact .inr rfl))) (fun _ _ _ _ _ => pts_nil) (fun _ _ _ _ _ => (pe_op op_and (pe_op op_shr (pv 10) (pv 12)) pe_int))) pa_nil)))
 (pss_one (ps_set (i := 4) sc_cut_at.nd rfl (by first | exact .inl rfl | exact .inr rfl) (pe_callD d_put_step (hr.mono (by decide)) (by rfl) (pa_cons (pv 0) (pa_cons (pe_tupF (pa_cons pe_str (pa_cons (pv 4) (pa_cons (pe_tupF (pa_cons (pe_tupF (pa_cons (pv 3) (pa_cons (pv 11) pa_nil))) pa_nil)) pa_nil)))) pa_nil)))))) pss_nil)
 (pss_cons (ps_set (i := 13) sc_cut_at.nd rfl (by first | exact .inl rfl | exact .inr rfl) (pe_callD d_put_step (hr.mono (by decide)) (by rfl) (pa_cons (pv 0) (pa_cons (pe_tupF (pa_cons pe_str (pa_cons (pe_tupF (pa_cons (pe_tupF (pa_cons (pv 4) (pa_cons pe_int pa_nil))) (pa_cons (pe_tupF (pa_cons (pv 6) (pa_cons pe_int pa_nil))) pa_nil))) pa_nil))) pa_nil))))
 (pss_cons (ps_par (i := 14) (j := 15) (by rfl) sc_cut_at.nd rfl rfl (by decide) rfl rfl (pa_cons pe_dnewK (pa_cons pe_bl pa_nil)) (by rfl))
 (pss_cons (ps_for PassesOwn.never rfl (pi_seqK (K := K) (pe_callB (cr_sortedSetW (w := w) rfl) (by rfl) fr.sorted (by decide +kernel) (pa_cons (pe_callTy (cr_setW (K := K) (w := w) rfl) (by rfl) fr.set (by decide +kernel) (pa_cons (pe_op op_cat (pe_callTy (call_listD rfl) (by rfl) fr.list (by decide +kernel) (pa_cons (pv 5) pa_nil)) (pe_callTy (call_listD rfl) (by rfl) fr.list (by decide +kernel) (pa_cons (pv 7) pa_nil))) pa_nil)) pa_nil))) (pg_name (i := 16) sc_cut_at.nd rfl (by first | exact .inl rfl | exact .inr rfl)) (pss_cons (ps_par (i := 17) (j := 18) (by rfl) sc_cut_at.nd rfl rfl (by decide) rfl rfl (pa_cons (pe_dget2 (hu_of hr) (pv 5) (pv 16) pe_int ⟨by rfl, by rfl, by rfl, by rfl⟩) (pa_cons (pe_dget2 (hu_of hr) (pv 7) (pv 16) pe_int ⟨by rfl, by rfl, by rfl, by rfl⟩) pa_nil)) (by rfl))
 (pss_cons (ps_set (i := 19) sc_cut_at.nd rfl (by first | exact .inl rfl | exact .inr rfl) (pe_ifExp (pt_cmpR op_eq (pv 16) (pv 3) (nomark _)) (pe_op op_and (pv 17) (pv 18)) (pe_op op_or (pv 17) (pv 18))))
 (pss_cons (ps_set (i := 15) sc_cut_at.nd rfl (by first | exact .inl rfl | exact .inr rfl) (pe_or (pv 15) (pe_one (pe_and (pe_cmpR op_ne (pv 16) (pv 3) (nomark _)) (pe_one (pe_cmpR op_gt (pe_op op_and (pv 17) (pv 18)) pe_int (nomark _)))))))
 (pss_one (ps_if (pt_cmpR op_gt (pv 19) pe_int (nomark _)) (pss_one (ps_dput (hu_of hr) (pv 14) (pv 16) (pv 19) rfl)) pss_nil))))))
 (pss_one (ps_ret (pe_tupF (pa_cons (pe_ifExp (pt_val (pv 15)) (pe_callD d_put_step (hr.mono (by decide)) (by rfl) (pa_cons (pv 0) (pa_cons (pe_tupF (pa_cons pe_str (pa_cons (pv 13) pa_nil))) pa_nil))) (pv 13)) (pa_cons (pv 14) pa_nil))))))))))))), ?_⟩
    have hc := hck.hc
    have hn4 := hz.le c
    have l1 := lt16 hn4 (hck.lt1 c hc)
    have l2 := lt16 hn4 (hck.lt2 c hc)
    have lw := lt16 hn4 (wide_lt (hck.lt1 c hc) (hck.lt2 c hc))
    refine ⟨_, rfl, _, rfl, by rw [sizeLine_eq]; show 2 ≤ _; omega, fun p0 o0 hp0 ho0 => ?_⟩
    obtain ⟨u1, u2, u3⟩ := frz_new (K := K) (xs := [V.ref nr, V.ref fa]) hp0 ho0
    refine ⟨p0, _, rfl, u2, rfl, _, _, rfl, nr, _, rfl, (skp u1).sqT hnr, rfl, _, _, rfl, _, _, rfl, rfl, _, _, rfl, fa, _, rfl, (skp u1).sqT hfa, rfl, _, _, rfl, _, _, rfl, rfl, rfl, ?_⟩
    have hS1 := hS.same u1
    have e11 := u1 _ _ e1
    have e21 := u1 _ _ e2
    obtain ⟨za, hza, hzq⟩ := pSizes hS1.dat.pz
    have hdz := hS1.dSizes
    rw [hza] at hdz
    refine ⟨_, rfl, _, _, rfl, hdz, _, rfl, za, _, _, _, rfl, rfl, hzq, atI_nat (szV_get (szOf_get hc)), ?_⟩
    refine ⟨_, rfl, _, _, rfl, rfl, ⟨by omega, by omega, by decide⟩, _, _, rfl, rfl, ?_⟩
    have g1 : DGet (upd H p0 (.frz o0 (.tup [V.ref nr, V.ref fa]))) d1 (.int (c : Nat)) (some (.int (k1 c : Nat))) := by
      have := DGet.k (k := .inl ((c : Nat) : Int)) e11
      rw [clK_get hc, if_neg hck.at1] at this
      exact this
    have g2 : DGet (upd H p0 (.frz o0 (.tup [V.ref nr, V.ref fa]))) d2 (.int (c : Nat)) (some (.int (k2 c : Nat))) := by
      have := DGet.k (k := .inl ((c : Nat) : Int)) e21
      rw [clK_get hc, if_neg hk2] at this
      exact this
    refine ⟨_, rfl, _, rfl, d1, _, rfl, g1, _, rfl, _, rfl, _, rfl, d2, _, rfl, g2, _, _, rfl, rfl, _, _, rfl, rfl, ?_⟩
    have hw : Builtin.bitOr ((k1 c : Nat) : Int) (1 * 2 ^ ((szOf X.sz c : Nat) : Int).toNat - 1 - ((k2 c : Nat) : Int)) = ((wideB (szOf X.sz c) (k1 c) (k2 c) : Nat) : Int) := by
      have hlt := hck.lt2 c hc
      rw [full_int, ← Int.ofNat_sub (by omega : k2 c ≤ 2 ^ szOf X.sz c - 1)]
      refine int_oror16 _ l1 _ ?_
      have : (2 : Nat) ^ szOf X.sz c ≤ 2 ^ 4 := Nat.pow_le_pow_right (by decide) hn4
      omega
    dsimp only
    rw [hw]
    have f1 : Fr X H (upd H p0 (.frz o0 (.tup [V.ref nr, V.ref fa]))) := Fr.of u1
    revert hS1 e11 e21 g1 g2 f1
    generalize (upd H p0 (.frz o0 (.tup [V.ref nr, V.ref fa]))) = H1
    intro hS1 e11 e21 g1 g2 f1
    refine ifs_join (fun σ' H7 => ∃ y11 w7, σ' = [some (.ref (X.L 0)), some (.ref nr), some (.ref fa), some (.int (c : Nat)), some (.int ((wideM X.sz st one k1 k2 c).1 : Nat)), some (.ref d1), some (.int (two : Nat)), some (.ref d2), some (.int (szOf X.sz c : Nat)), some (.int (1 * 2 ^ ((szOf X.sz c : Nat) : Int).toNat - 1)), some (.int (wideB (szOf X.sz c) (k1 c) (k2 c) : Nat)), y11, none, none, none, none, none, none, none, none] ∧
      IsS K H7 X dn (wideM X.sz st one k1 k2 c).2 w7 ∧ Fr X H H7) (fun σ' H7 hx => ?_) (fun nx => ?_)
    · obtain ⟨y11, w7, rfl, hS7, f7⟩ := hx
      have hwl : (wideM X.sz st one k1 k2 c).2.steps.length ≤ st.steps.length + 1 := by
        unfold wideM
        by_cases hww : wideB (szOf X.sz c) (k1 c) (k2 c) = k1 c
        · rw [if_pos hww]; exact Nat.le_succ _
        · rw [if_neg hww]
          show (st.steps ++ [_]).length ≤ _
          rw [List.length_append]
          exact Nat.le_refl _
      refine ⟨_, rfl, ?_⟩
      refine ⟨_, rfl, by rw [sizeLine_eq]; show 2 ≤ _; omega, fun p1 ob1 hp1 ho1 => ?_⟩
      obtain ⟨a1, a2, a3⟩ := frz_new (K := K) (xs := [V.int ((wideM X.sz st one k1 k2 c).1 : Nat), .int 1]) hp1 ho1
      refine ⟨_, rfl, by rw [sizeLine_eq]; show 2 ≤ _; omega, fun p2 o2' hp2 ho2 => ?_⟩
      obtain ⟨b1, b2, b3⟩ := frz_new (K := K) (xs := [V.int (two : Nat), .int 1]) hp2 ho2
      refine ⟨by rw [sizeLine_eq]; show 2 ≤ _; omega, fun p3 o3 hp3 ho3 => ?_⟩
      obtain ⟨c1, c2, c3⟩ := frz_new (K := K) (xs := [V.ref p1, .ref p2]) hp3 ho3
      refine ⟨by rw [sizeLine_eq]; show 2 ≤ _; omega, fun p4 o4 hp4 ho4 => ?_⟩
      obtain ⟨x1, x2, x3⟩ := frz_new (K := K) (xs := [V.str "add", .ref p3]) hp4 ho4
      have ss := ((a1.trans b1).trans c1).trans x1
      have hadd : StepV K (upd (upd (upd (upd H7 p1 (.frz ob1 (.tup [V.int ((wideM X.sz st one k1 k2 c).1 : Nat), .int 1]))) p2 (.frz o2' (.tup [V.int (two : Nat), .int 1]))) p3 (.frz o3 (.tup [V.ref p1, .ref p2]))) p4 (.frz o4 (.tup [V.str "add", .ref p3]))) (.ref p4) (.add [((wideM X.sz st one k1 k2 c).1, 1), (two, 1)]) :=
        .tup x2 (.cons (.str _) (.cons (.tup ((skp x1).sqT c2) (.cons (.tup ((skp ((b1.trans c1).trans x1)).sqT a2) (.cons (.int _) (.cons (.int _) .nil))) (.cons (.tup ((skp (c1.trans x1)).sqT b2) (.cons (.int _) (.cons (.int _) .nil))) .nil))) .nil))
      refine ⟨X, dn, _, w7, .ref p4, .add [((wideM X.sz st one k1 k2 c).1, 1), (two, 1)], rfl, hS7.same ss, hadd, by omega, fun H8 w8 hS8 _ f8 => ?_⟩
      have hS8 : IsS K H8 X dn (addM X.sz st one k1 two k2 c).2 w8 := hS8
      have f8' := (f7.trans (Fr.of ss)).trans f8
      intro d hd
      have od := hS8.off hd
      have hd0 : H d = none := by
        cases e : H d with
        | none => rfl
        | some u => have := f8' d u od e; rw [hd] at this; cases this
      have hS9 := hS8.same (same_new (o := .dK []) hd)
      have f9 : Fr X H (upd H8 d (.dK [])) := f8'.trans (Fr.of (same_new (o := .dK []) hd))
      have ed9 : (upd H8 d (.dK [])) d = some (.dK []) := upd_same
      revert hS9 f9 ed9
      generalize (upd H8 d (.dK [])) = H9
      intro hS9 f9 ed9
      refine ⟨_, _, rfl, ?_⟩
      have q1 := f9.at o1 e1
      have q2 := f9.at o2 e2
      refine ⟨_, rfl, d1, _, rfl, .inl q1, fun l1' hl1' => ?_⟩
      rw [clK_keys]
      have m1 := same_new (o := .lst ((((clList X.sz.length k1).map (·.1)).map fun (c : Nat) => (c : Int)).map V.int)) hl1'
      have g1' := upd_same (H := H9) (a := l1') (o := .lst ((((clList X.sz.length k1).map (·.1)).map fun (c : Nat) => (c : Int)).map V.int))
      revert m1 g1'
      generalize (upd H9 l1' (.lst ((((clList X.sz.length k1).map (·.1)).map fun (c : Nat) => (c : Int)).map V.int))) = G1
      intro m1 g1'
      refine ⟨_, rfl, d2, _, rfl, .inl (m1 _ _ q2), fun l2' hl2' => ?_⟩
      rw [clK_keys]
      have m2 := same_new (o := .lst ((((clList X.sz.length k2).map (·.1)).map fun (c : Nat) => (c : Int)).map V.int)) hl2'
      have g2' := upd_same (H := G1) (a := l2') (o := .lst ((((clList X.sz.length k2).map (·.1)).map fun (c : Nat) => (c : Int)).map V.int))
      revert m2 g2'
      generalize (upd G1 l2' (.lst ((((clList X.sz.length k2).map (·.1)).map fun (c : Nat) => (c : Int)).map V.int))) = G2
      intro m2 g2'
      have n1 := clList_len X.sz.length k1
      have n2 := clList_len X.sz.length k2
      have hz1 := hz.1
      refine ⟨l1', l2', _, _, rfl, rfl, m2 _ _ g1', g2', sz_ok (by rw [List.length_map, List.length_map, List.length_map, List.length_map, List.length_map, List.length_map]; omega), fun l3 hl3 => ?_⟩
      rw [← List.map_append, ← List.map_append]
      have m3 := same_new (o := .lst ((((clList X.sz.length k1).map (·.1) ++ (clList X.sz.length k2).map (·.1)).map fun (c : Nat) => (c : Int)).map V.int)) hl3
      have g3' := upd_same (H := G2) (a := l3) (o := .lst ((((clList X.sz.length k1).map (·.1) ++ (clList X.sz.length k2).map (·.1)).map fun (c : Nat) => (c : Int)).map V.int))
      revert m3 g3'
      generalize (upd G2 l3 (.lst ((((clList X.sz.length k1).map (·.1) ++ (clList X.sz.length k2).map (·.1)).map fun (c : Nat) => (c : Int)).map V.int))) = G3
      intro m3 g3'
      refine ⟨l3, _, rfl, lstA g3', by rw [List.length_map, List.length_append, List.length_map, List.length_map]; omega, fun ps cnt hps hcnt => ?_⟩
      have m4 := same_new (o := SetO w ps (fun j => decide (j ∈ (((clList X.sz.length k1).map (·.1) ++ (clList X.sz.length k2).map (·.1)).map fun (c : Nat) => (c : Int)))) cnt) hps
      refine ⟨ps, _, cnt, rfl, upd_same, by rw [List.length_map, List.length_append, List.length_map, List.length_map] at hcnt; omega, fun ns l4 hns hmem hnl hl4 => ?_⟩
      have ens : ns = (spotsB X.sz.length k1 k2).map fun (c : Nat) => (c : Int) := sorted_nats hns fun k => by
        rw [hmem, decide_eq_true_iff, List.mem_map]
        constructor
        · rintro ⟨s, hs, rfl⟩
          rcases List.mem_append.mp hs with hs | hs
          · obtain ⟨p, hp, rfl⟩ := List.mem_map.mp hs
            have := mem_clList.mp hp
            exact ⟨p.1, this.1, decide_eq_true (.inl this.2.1), rfl⟩
          · obtain ⟨p, hp, rfl⟩ := List.mem_map.mp hs
            have := mem_clList.mp hp
            exact ⟨p.1, this.1, decide_eq_true (.inr this.2.1), rfl⟩
        · rintro ⟨s, hs, h2, rfl⟩
          refine ⟨s, List.mem_append.mpr ?_, rfl⟩
          rcases of_decide_eq_true h2 with h | h
          · exact .inl (List.mem_map.mpr ⟨(s, k1 s), mem_clList.mpr ⟨hs, h, rfl⟩, rfl⟩)
          · exact .inr (List.mem_map.mpr ⟨(s, k2 s), mem_clList.mpr ⟨hs, h, rfl⟩, rfl⟩)
      subst ens
      have m5 := same_new (o := .lst (((spotsB X.sz.length k1 k2).map fun (c : Nat) => (c : Int)).map V.int)) hl4
      have e40 := upd_same (H := upd G3 ps (SetO w ps (fun j => decide (j ∈ (((clList X.sz.length k1).map (·.1) ++ (clList X.sz.length k2).map (·.1)).map fun (c : Nat) => (c : Int)))) cnt)) (a := l4) (o := .lst (((spotsB X.sz.length k1 k2).map fun (c : Nat) => (c : Int)).map V.int))
      have m45 := m4.trans m5
      have hd4 : d ≠ l4 := ne_of_none ((((m1.trans m2).trans m3).trans m4) _ _ ed9) hl4
      revert m45 e40
      generalize (upd (upd G3 ps (SetO w ps (fun j => decide (j ∈ (((clList X.sz.length k1).map (·.1) ++ (clList X.sz.length k2).map (·.1)).map fun (c : Nat) => (c : Int)))) cnt)) l4 (.lst (((spotsB X.sz.length k1 k2).map fun (c : Nat) => (c : Int)).map V.int))) = H10
      intro e40 m45
      have mm := ((m1.trans m2).trans m3).trans m45
      refine ⟨l4, true, rfl, ⟨_, lstA e40⟩, ?_⟩
      have hS10 := hS9.same mm
      have f10 := f9.trans (Fr.of mm)
      have ed10 := mm _ _ ed9
      refine for_it (walk_seq (k := true) (xs := ((spotsB X.sz.length k1 k2).map fun (c : Nat) => (c : Int)).map V.int)) (fun j σ H' => ∃ y16 y17 y18 y19, σ = [some (.ref (X.L 0)), some (.ref nr), some (.ref fa), some (.int (c : Nat)), some (.int ((wideM X.sz st one k1 k2 c).1 : Nat)), some (.ref d1), some (.int (two : Nat)), some (.ref d2), some (.int (szOf X.sz c : Nat)), some (.int (1 * 2 ^ ((szOf X.sz c : Nat) : Int).toNat - 1)), some (.int (wideB (szOf X.sz c) (k1 c) (k2 c) : Nat)), y11, none, some (.int ((wideM X.sz st one k1 k2 c).2.steps.length : Nat)), some (.ref d), some (.bl (twiceL c k1 k2 ((spotsB X.sz.length k1 k2).take j))), y16, y17, y18, y19] ∧
          IsS K H' X dn (addM X.sz st one k1 two k2 c).2 w8 ∧ Fr X H H' ∧ H' d = some (.dK (clK (foundL c k1 k2 ((spotsB X.sz.length k1 k2).take j)))) ∧ H' l4 = some (.lst (((spotsB X.sz.length k1 k2).map fun (c : Nat) => (c : Int)).map V.int)))
        ⟨none, none, none, none, rfl, hS10, f10, ed10, e40⟩ (fun j σ H' _ p => ?_) (fun j x σ H' H2' hj p y => ?_) (fun σ H' p => ?_)
      · obtain ⟨_, _, _, _, _, _, _, _, e⟩ := p
        exact lstA e
      · obtain ⟨y16, y17, y18, y19, rfl, hSj, fj, edj, e4j⟩ := p
        obtain ⟨rfl, ex⟩ := y
        rw [List.getElem?_map, List.getElem?_map] at ex
        obtain ⟨z, ez, rfl⟩ := Option.map_eq_some_iff.mp ex
        obtain ⟨s, es, rfl⟩ := Option.map_eq_some_iff.mp ez
        have hs := mem_spots (List.mem_of_getElem? es)
        have qj1 := fj.at o1 e1
        have qj2 := fj.at o2 e2
        have hn4s := hz.le s
        have ls1 := lt16 hn4s (hck.lt1 s hs)
        have ls2 := lt16 hn4s (hck.lt2 s hs)
        have vget : ∀ k : Cl, (valV (clK (clList X.sz.length k)) (.inl ((s : Nat) : Int))).getD (V.int 0) = V.int ((k s : Nat) : Int) := fun k => by
          rw [clK_get hs]
          by_cases h0 : k s = 0
          · rw [if_pos h0, h0]; rfl
          · rw [if_neg h0]; rfl
        refine ⟨_, rfl, d1, rfl, .inl ⟨_, .inl qj1⟩, _, rfl, _, DGet.k (k := .inl ((s : Nat) : Int)) qj1, _, rfl, d2, rfl, .inl ⟨_, .inl qj2⟩, _, rfl, _, DGet.k (k := .inl ((s : Nat) : Int)) qj2, _, _, rfl, ?_⟩
        rw [vget k1, vget k2]
        refine ⟨_, rfl, _, rfl, rfl, _, rfl, ?_⟩
        have hcut : cutC c k1 k2 s = if s = c then k1 s &&& k2 s else k1 s ||| k2 s := rfl
        have htw : twiceL c k1 k2 ((spotsB X.sz.length k1 k2).take (j + 1)) = (twiceL c k1 k2 ((spotsB X.sz.length k1 k2).take j) || (decide (s ≠ c) && decide (k1 s &&& k2 s ≠ 0))) := by
          rw [take_snoc es]
          unfold twiceL
          rw [List.any_append]
          simp
        have hfd : foundL c k1 k2 ((spotsB X.sz.length k1 k2).take (j + 1)) = if cutC c k1 k2 s = 0 then foundL c k1 k2 ((spotsB X.sz.length k1 k2).take j) else foundL c k1 k2 ((spotsB X.sz.length k1 k2).take j) ++ [(s, cutC c k1 k2 s)] := by
          rw [take_snoc es]
          unfold foundL
          rw [List.filterMap_append]
          by_cases h0 : cutC c k1 k2 s = 0
          · rw [if_pos h0]; simp [h0]
          · rw [if_neg h0]; simp [h0]
        have hnew : valV (clK (foundL c k1 k2 ((spotsB X.sz.length k1 k2).take j))) (.inl ((s : Nat) : Int)) = none := clK_none fun p hp => by
          obtain ⟨u, hu, e⟩ := List.mem_filterMap.mp hp
          have hasc : (spotsB X.sz.length k1 k2).Pairwise (· < ·) := List.pairwise_lt_range.filter _
          obtain ⟨m, hm⟩ := List.getElem?_of_mem hu
          have hml := (List.getElem?_eq_some_iff.mp hm).1
          rw [List.length_take] at hml
          rw [List.getElem?_take_of_lt (by omega)] at hm
          rw [List.pairwise_iff_getElem] at hasc
          have v1 := List.getElem?_eq_some_iff.mp hm
          have v2 := List.getElem?_eq_some_iff.mp es
          have := hasc m j v1.1 v2.1 (by omega)
          rw [v1.2, v2.2] at this
          by_cases h0 : cutC c k1 k2 u = 0
          · rw [if_pos h0] at e; cases e
          · rw [if_neg h0] at e; cases e; show u ≠ s; omega
        have hlenf : (clK (foundL c k1 k2 ((spotsB X.sz.length k1 k2).take j))).length ≤ 1000 := by
          unfold clK foundL
          rw [List.length_map]
          have h1 := List.length_filterMap_le (fun s => if cutC c k1 k2 s = 0 then none else some (s, cutC c k1 k2 s)) ((spotsB X.sz.length k1 k2).take j)
          have h2 : ((spotsB X.sz.length k1 k2).take j).length ≤ (spotsB X.sz.length k1 k2).length := by rw [List.length_take]; omega
          have h3 : (spotsB X.sz.length k1 k2).length ≤ X.sz.length := Nat.le_trans (List.length_filter_le _ _) (by rw [List.length_range]; exact Nat.le_refl _)
          have := hz.1
          exact Nat.le_trans h1 (by omega)
        by_cases hsc : s = c
        case' pos =>
          rw [decide_eq_true (show V.int ((s : Nat) : Int) = V.int ((c : Nat) : Int) by rw [hsc])]
          refine iteT ⟨_, rfl, _, rfl, _, _, rfl, rfl, ?_⟩
          dsimp only
          rw [int_and16 _ ls1 _ ls2, show k1 s &&& k2 s = cutC c k1 k2 s by rw [hcut, if_pos hsc]]
        case' neg =>
          rw [decide_eq_false (show ¬ (V.int ((s : Nat) : Int) = V.int ((c : Nat) : Int)) from fun z => hsc (Int.ofNat.inj (V.int.inj z)))]
          refine iteF ⟨_, rfl, _, rfl, _, _, rfl, rfl, ?_⟩
          dsimp only
          rw [int_oror16 _ ls1 _ ls2, show k1 s ||| k2 s = cutC c k1 k2 s by rw [hcut, if_neg hsc]]
        all_goals
          refine ⟨_, rfl, twiceL c k1 k2 ((spotsB X.sz.length k1 k2).take j), rfl, ?_⟩
          by_cases hb : twiceL c k1 k2 ((spotsB X.sz.length k1 k2).take j) = true
          case' pos =>
            rw [hb]
            have ht1 : twiceL c k1 k2 ((spotsB X.sz.length k1 k2).take (j + 1)) = true := by rw [htw, hb]; rfl
            refine iteT ?_
          case' neg =>
            rw [Bool.not_eq_true] at hb
            rw [hb] at htw ⊢
            rw [Bool.false_or] at htw
            refine iteF ⟨_, rfl, _, rfl, rfl, _, rfl, ?_⟩
            by_cases hsc2 : s = c
            case' pos =>
              rw [decide_eq_true (show V.int ((s : Nat) : Int) = V.int ((c : Nat) : Int) by rw [hsc2])]
              have ht1 : twiceL c k1 k2 ((spotsB X.sz.length k1 k2).take (j + 1)) = false := by rw [htw, decide_eq_false (fun z => z hsc2)]; rfl
              refine iteF ?_
            case' neg =>
              rw [decide_eq_false (show ¬ (V.int ((s : Nat) : Int) = V.int ((c : Nat) : Int)) from fun z => hsc2 (Int.ofNat.inj (V.int.inj z)))]
              have ht1 : twiceL c k1 k2 ((spotsB X.sz.length k1 k2).take (j + 1)) = decide ((0 : Int) < Builtin.bitAnd ((k1 s : Nat) : Int) ((k2 s : Nat) : Int)) := by
                rw [htw, decide_eq_true hsc2, Bool.true_and, int_and16 _ ls1 _ ls2]
                by_cases h0 : k1 s &&& k2 s = 0
                · rw [h0]; rfl
                · rw [decide_eq_true h0, decide_eq_true (by omega)]
              refine iteT ⟨_, rfl, _, rfl, _, _, rfl, rfl, _, _, rfl, rfl, ?_⟩
        all_goals
          refine ⟨_, rfl, _, _, rfl, rfl, _, rfl, ?_⟩
          by_cases h0 : cutC c k1 k2 s = 0
          · rw [decide_eq_false (by omega)]
            refine iteF ⟨some (.int (s : Nat)), some (.int (k1 s : Nat)), some (.int (k2 s : Nat)), some (.int (cutC c k1 k2 s : Nat)), ?_, hSj, fj, ?_, e4j⟩
            · rw [ht1]; rfl
            · rw [hfd, if_pos h0]; exact edj
          · rw [decide_eq_true (by omega)]
            have kj := kp_dK (ys := clK (foundL c k1 k2 ((spotsB X.sz.length k1 k2).take (j + 1)))) edj
            have hput : putK (clK (foundL c k1 k2 ((spotsB X.sz.length k1 k2).take j))) (.inl ((s : Nat) : Int)) (.int ((cutC c k1 k2 s : Nat) : Int)) = clK (foundL c k1 k2 ((spotsB X.sz.length k1 k2).take (j + 1))) := by
              rw [putK_new _ hnew, hfd, if_neg h0, clK_snoc]
            refine iteT ⟨_, rfl, _, rfl, _, rfl, d, _, rfl, DPut.k (k := .inl ((s : Nat) : Int)) edj (sz_lt' (by omega)), ?_⟩
            rw [hput]
            refine ⟨some (.int (s : Nat)), some (.int (k1 s : Nat)), some (.int (k2 s : Nat)), some (.int (cutC c k1 k2 s : Nat)), ?_, hSj.other od kj, fj.mut hd0, upd_same, (upd_ne hd4.symm).trans e4j⟩
            rw [ht1]; rfl
      · obtain ⟨y16, y17, y18, y19, rfl, hSj, fj, edj, e4j⟩ := p
        rw [List.length_map, List.length_map, List.take_length] at edj ⊢
        rw [foundL_all] at edj
        rw [twiceL_all]
        have hal : (addM X.sz st one k1 two k2 c).2.steps.length ≤ st.steps.length + 2 := by
          show ((wideM X.sz st one k1 k2 c).2.steps ++ [_]).length ≤ _
          rw [List.length_append]
          show (wideM X.sz st one k1 k2 c).2.steps.length + 1 ≤ _
          omega
        refine ⟨_, rfl, twiceB X.sz.length c k1 k2, rfl, ?_⟩
        by_cases htw : twiceB X.sz.length c k1 k2 = true
        · rw [htw]
          have ec : cutM X.sz st one k1 two k2 c = ((addM X.sz st one k1 two k2 c).2.steps.length, stepM (addM X.sz st one k1 two k2 c).2 (.cap (addM X.sz st one k1 two k2 c).1)) := by unfold cutM; exact if_pos htw
          refine iteT ⟨_, rfl, _, rfl, by rw [sizeLine_eq]; show 2 ≤ _; omega, fun p1 ob1 hp1 ho1 => ?_⟩
          obtain ⟨a1, a2, a3⟩ := frz_new (K := K) (xs := [V.str "cap", V.int ((addM X.sz st one k1 two k2 c).1 : Nat)]) hp1 ho1
          refine ⟨X, dn, _, w8, .ref p1, .cap (addM X.sz st one k1 two k2 c).1, rfl, hSj.same a1, .tup a2 (.cons (.str _) (.cons (.int _) .nil)), by omega, fun HA wA hSA _ fA => ?_⟩
          refine ⟨_, rfl, by rw [sizeLine_eq]; show 2 ≤ _; omega, fun p2 ob2 hp2 ho2 => ?_⟩
          obtain ⟨b1, b2, b3⟩ := frz_new (K := K) (xs := [V.int ((addM X.sz st one k1 two k2 c).2.steps.length : Nat), V.ref d]) hp2 ho2
          refine q p2 d _ wA ?_ (((fj.trans (Fr.of a1)).trans fA).trans (Fr.of b1)) ?_ (b1 _ _ (fA.at od (a1 _ _ edj))) od hd0
          · rw [ec]; exact hSA.same b1
          · rw [ec]; exact b2
        · rw [Bool.not_eq_true] at htw
          rw [htw]
          have ec : cutM X.sz st one k1 two k2 c = addM X.sz st one k1 two k2 c := by unfold cutM; exact if_neg (by rw [htw]; exact Bool.false_ne_true)
          refine iteF ⟨_, rfl, _, rfl, by rw [sizeLine_eq]; show 2 ≤ _; omega, fun p2 ob2 hp2 ho2 => ?_⟩
          obtain ⟨b1, b2, b3⟩ := frz_new (K := K) (xs := [V.int ((wideM X.sz st one k1 k2 c).2.steps.length : Nat), V.ref d]) hp2 ho2
          refine q p2 d _ w8 ?_ (fj.trans (Fr.of b1)) ?_ (b1 _ _ edj) od hd0
          · rw [ec]; exact hSj.same b1
          · rw [ec]; exact b2
    · refine ⟨_, rfl, _, rfl, _, rfl, d1, _, rfl, g1, rfl, _, rfl, ?_⟩
      by_cases hww : wideB (szOf X.sz c) (k1 c) (k2 c) = k1 c
      · have e0 : wideM X.sz st one k1 k2 c = (one, st) := by unfold wideM; exact if_pos hww
        rw [decide_eq_true (by rw [hww])]
        refine iteF (nx _ _ ⟨none, wt, ?_, ?_, f1⟩)
        · rw [e0]; rfl
        · rw [e0]; exact hS1
      · have e0 : wideM X.sz st one k1 k2 c = (st.steps.length, stepM st (.raise one [(c, bitsW (szOf X.sz c) (wideB (szOf X.sz c) (k1 c) (k2 c)))])) := by unfold wideM; exact if_neg hww
        have hne : ¬ (V.int ((wideB (szOf X.sz c) (k1 c) (k2 c) : Nat) : Int) = V.int ((k1 c : Nat) : Int)) := fun z => hww (Int.ofNat.inj (V.int.inj z))
        rw [decide_eq_false hne]
        refine iteT ⟨_, rfl, _, rfl, by omega, by omega, fun D hD => ?_⟩
        refine lc_gen (walk_range (lo := 0)) (by rw [Int.toNat_natCast]; omega) hD (fun _ _ => trivial) (fun m acc _ => acc = ((bitsW (szOf X.sz c) (wideB (szOf X.sz c) (k1 c) (k2 c))).take m).map V.int) (fun _ _ _ _ _ p => p) (fun _ => rfl) (fun m x H5 H6 acc C N hm s5 p y cC cN => ?_) (fun acc H5 s5 e l p => ?_)
        · obtain ⟨rfl, rfl⟩ := y
          rw [Int.toNat_natCast] at hm
          refine ⟨rfl, yesT ⟨_, rfl, _, rfl, _, _, rfl, rfl, (by show (0 : Int) ≤ 0 + (m : Nat); omega), _, _, rfl, rfl, cC _ _ (Same.refl _) ?_⟩⟩
          rw [take_snoc (show (bitsW (szOf X.sz c) (wideB (szOf X.sz c) (k1 c) (k2 c)))[m]? = some (if (wideB (szOf X.sz c) (k1 c) (k2 c)).testBit m = true then 1 else 0) by unfold bitsW; rw [List.getElem?_map, List.getElem?_range hm]; rfl), List.map_append, p]
          show _ ++ [V.int (Builtin.bitAnd (((wideB (szOf X.sz c) (k1 c) (k2 c) : Nat) : Int) / 2 ^ (0 + ((m : Nat) : Int)).toNat) 1)] = _
          rw [Int.zero_add, int_bit16 _ lw m (by omega)]
          rfl
        · rw [Int.toNat_natCast, List.take_of_length_le (by rw [bitsW_len]; exact Nat.le_refl _)] at p
          subst p
          refine ⟨D, true, _, rfl, .inl (.inl e), fun _ l o hl' ho => ?_, fun z => nomatch z⟩
          obtain ⟨a1, a2, a3⟩ := frz_new (K := K) (xs := (bitsW (szOf X.sz c) (wideB (szOf X.sz c) (k1 c) (k2 c))).map V.int) hl' ho
          refine ⟨_, rfl, _, rfl, _, rfl, _, rfl, by rw [sizeLine_eq]; show 2 ≤ _; omega, fun p1 ob1 hp1 ho1 => ?_⟩
          obtain ⟨b1, b2, b3⟩ := frz_new (K := K) (xs := [V.int (c : Nat), V.ref l]) hp1 ho1
          refine ⟨by rw [sizeLine_eq]; show 1 ≤ _; omega, fun p2 ob2 hp2 ho2 => ?_⟩
          obtain ⟨c1, c2, c3⟩ := frz_new (K := K) (xs := [V.ref p1]) hp2 ho2
          refine ⟨by rw [sizeLine_eq]; show 3 ≤ _; omega, fun p3 ob3 hp3 ho3 => ?_⟩
          obtain ⟨x1, x2, x3⟩ := frz_new (K := K) (xs := [V.str "raise", V.int (one : Nat), V.ref p2]) hp3 ho3
          have ss := (((s5.trans a1).trans b1).trans c1).trans x1
          refine ⟨X, dn, st, wt, .ref p3, .raise one [(c, bitsW (szOf X.sz c) (wideB (szOf X.sz c) (k1 c) (k2 c)))], rfl, hS1.same ss, ⟨p3, p2, rfl, x2, c3.kp (skp x1), .tup ((skp x1).sqT c2) (.cons (.tup ((skp (c1.trans x1)).sqT b2) (.cons (.int _) (.cons (.tup ((skp ((b1.trans c1).trans x1)).sqT a2) (pur_ints _)) .nil))) .nil)⟩, by omega, fun H9 w9 hS9 _ f9 => ?_⟩
          refine nx _ _ ⟨some (.ref l), w9, ?_, ?_, (f1.trans (Fr.of ss)).trans f9⟩
          · rw [e0]; rfl
          · rw [e0]; exact hS9
end
end Bh
namespace Bh
open PySem PySem.Spec PyProof.Rows L2
theorem clList_asc (n : Nat) (k : Cl) : ((clList n k).map fun p => p.1).Pairwise (· < ·) := by
  have := clList_fst n k
  rw [show ((clList n k).map fun p => p.1) = _ from this]
  exact List.pairwise_lt_range.filter _
theorem ints_asc {l : List Nat} (h : l.Pairwise (· < ·)) : (l.map fun (c : Nat) => (c : Int)).Pairwise (· ≤ ·) := by
  rw [List.pairwise_map]
  exact h.imp fun h => by omega
section
variable {K : PySem.W.Frag} {H : Hp} {X : Fx} {dn : V} {st : MS} {w : Wit}
theorem IsS.reindex (h : IsS K H X dn st w) {idx : List (List Nat)} (hi : ∀ c, c < X.sz.length → idx.getD c [] = st.index.getD c []) : IsS K H X dn { st with index := idx } w := by
  refine ⟨h.inj, fun i hn => ?_, ⟨h.dat.pz, h.dat.ps, h.dat.pt, h.dat.pp, h.dat.pl, h.dat.pk⟩⟩
  rw [h.cells i hn]
  match i, hn with
  | 0, _ => rfl
  | 1, _ => rfl
  | 2, _ => rfl
  | 3, _ => rfl
  | 4, _ => rfl
  | 5, _ => rfl
  | 6, _ => rfl
  | 7, _ => rfl
  | c + 8, hn =>
    show some (HO.lst (natsV (st.index.getD c []))) = some (HO.lst (natsV (idx.getD c [])))
    rw [hi c (by omega)]
end
theorem getD_range {α : Type} {n c : Nat} {f : Nat → List α} (hc : c < n) : ((List.range n).map f).getD c [] = f c := by
  rw [List.getD_eq_getElem?_getD, List.getElem?_map, List.getElem?_range hc]
  rfl
def idxJ (n : Nat) (st : MS) (l : List (Nat × Nat)) (num : Nat) : List (List Nat) := (List.range n).map fun e => st.index.getD e [] ++ (if e ∈ l.map (·.1) then [num] else [])
section
variable {P : Program} {w : World} {K : PySem.W.Frag} {mg : Str → Option Value} {base : Heap}
def sp_sum_of_clause (K : PySem.W.Frag) : Sp := fun vs H Q _ => ∃ (X : Fx) (dn : V) (st : MS) (wt : Wit) (d : Addr) (k : Cl), vs = [.ref (X.L 0), .ref d] ∧ IsS K H X dn st wt ∧ H d = some (.dK (clK (clList X.sz.length k))) ∧ (∀ c, c < X.sz.length → k c < 2 ^ szOf X.sz c) ∧ Tiny X.sz ∧
  ∀ v H', Same H H' → Pur K H' v (dSum (clSum X.sz k)) → Q v H'
theorem sc_sum_of_clause : FnScope ["state", "clause", "terms", "choice", "value"] ["state", "clause"] (defScope (topS 48)) := ⟨rfl, rfl, rfl, by decide +kernel, rfl, by decide +kernel, by decide +kernel⟩
theorem ok_sum_of_clause (fr : Free mg) (D : DefAt K mg "sum_of_clause" (topS 48)) : OkD P w K mg base 1 "sum_of_clause" ["state", "clause"] (sp_sum_of_clause K) := by
  refine D.ok sc_sum_of_clause (fun _ _ _ _ _ _ us hl => match us, hl with | [_, _], _ => rfl) (fun vs H Q E h => ?_) (fun f cdv A outer s H vs Q E hr h => ?_)
  · obtain ⟨X, dn, st, wt, d, k, rfl, _⟩ := h; rfl
  · obtain ⟨X, dn, st, wt, d, k, rfl, hS, ed, hlt, hz, q⟩ := h
    refine ⟨_, (pss_cons (ps_set (i := 2) sc_sum_of_clause.nd rfl (by first | exact .inl rfl | exact .inr rfl) (pe_lst pa_nil))
 (pss_cons (ps_for PassesOwn.never rfl (pi_seqK (K := K) (pe_callB (call_sortedDI rfl) (by rfl) fr.sorted (by decide +kernel) (pa_cons (pv 1) pa_nil))) (pg_name (i := 3) sc_sum_of_clause.nd rfl (by first | exact .inl rfl | exact .inr rfl)) (pss_one (ps_expr (pe_bm PySem.F.plainAttrs_list PySem.F.slot_list_append PySem.F.type_list_append mt_append (pv 2) (pa_cons (pe_tupF (pa_cons (pv 3) (pa_cons (pe_callTy (cr_tupK (K := K)) (by rfl) fr.tuple (by decide +kernel) (pa_cons (pe_lc (own := [("value", 4)]) rfl sc_sum_of_clause.nd (pi_range1 (by rfl) fr.range (pa_cons (pe_ix (ix_tupK (K := K)) (pe_dget (hu_of hr) (pv 0) pe_str (fun _ _ => rfl)) (pv 3) (fun _ _ => rfl)) pa_nil)) (blkOk_by (by kernel_rfl)) (fun _ _ _ _ _ => (pg_name (i := 4) sc_sum_of_clause.nd rfl (by first | exact .inl rfl | exact .inr rfl))) (fun _ _ _ _ _ => pts_nil) (fun _ _ _ _ _ => (pe_op op_and (pe_op op_shr (pe_dget (hu_of hr) (pv 1) (pv 3) (fun _ _ => rfl)) (pv 4)) pe_int))) pa_nil)) pa_nil))) pa_nil)))))
 (pss_one (ps_ret (pe_tupF (pa_cons (pe_callTy (cr_tupK (K := K)) (by rfl) fr.tuple (by decide +kernel) (pa_cons (pv 2) pa_nil)) (pa_cons pe_int pa_nil))))))), ?_⟩
    refine ⟨Nat.zero_le _, fun F hF => ?_⟩
    have s0 := same_new (o := .lst []) hF
    have hlen := clList_len X.sz.length k
    have hz1 := hz.1
    refine ⟨_, rfl, d, _, ((clList X.sz.length k).map fun p => p.1).map fun (c : Nat) => (c : Int), rfl, .inl (s0 _ _ ed), by unfold clK; rw [List.map_map, List.map_map, List.map_map]; rfl, by rw [List.length_map, List.length_map]; omega, fun ys l4 hp hs hl4 => ?_⟩
    have ey : ys = ((clList X.sz.length k).map fun p => p.1).map fun (c : Nat) => (c : Int) := List.Perm.eq_of_pairwise (fun _ _ _ _ a b => Int.le_antisymm a b) hs (ints_asc (clList_asc _ _)) hp
    subst ey
    have m4 := same_new (o := .lst ((((clList X.sz.length k).map fun p => p.1).map fun (c : Nat) => (c : Int)).map V.int)) hl4
    have e4 := upd_same (H := upd H F (.lst [])) (a := l4) (o := .lst ((((clList X.sz.length k).map fun p => p.1).map fun (c : Nat) => (c : Int)).map V.int))
    have eF := m4 _ _ (upd_same (H := H) (a := F) (o := .lst []))
    have s4 := s0.trans m4
    have hF4 : F ≠ l4 := ne_of_none (upd_same (H := H) (a := F) (o := .lst [])) hl4
    revert e4 eF s4
    generalize (upd (upd H F (.lst [])) l4 (.lst ((((clList X.sz.length k).map fun p => p.1).map fun (c : Nat) => (c : Int)).map V.int))) = H4
    intro e4 eF s4
    refine ⟨l4, true, rfl, ⟨_, lstA e4⟩, ?_⟩
    refine for_it (walk_seq (k := true) (xs := (((clList X.sz.length k).map fun p => p.1).map fun (c : Nat) => (c : Int)).map V.int)) (fun j σ H' => ∃ y3 fs, σ = [some (.ref (X.L 0)), some (.ref d), some (.ref F), y3, none] ∧ Same H H' ∧ H' F = some (.lst fs) ∧ H' l4 = some (.lst ((((clList X.sz.length k).map fun p => p.1).map fun (c : Nat) => (c : Int)).map V.int)) ∧
        PurAll K H' fs ((((clList X.sz.length k).map fun p => (p.1, bitsW (szOf X.sz p.1) p.2)).take j).map dTerm) ∧ fs.length ≤ j)
      ⟨none, [], rfl, s4, eF, e4, .nil, Nat.le_refl _⟩ (fun j σ H' _ p => ?_) (fun j x σ H1 H2 hj p y => ?_) (fun σ H' p => ?_)
    · obtain ⟨_, _, _, _, _, e, _⟩ := p
      exact lstA e
    · obtain ⟨y3, fs, rfl, s1, eF1, e41, hfs, hfl⟩ := p
      obtain ⟨rfl, ex⟩ := y
      rw [List.getElem?_map, List.getElem?_map, List.getElem?_map] at ex
      obtain ⟨z, ez, rfl⟩ := Option.map_eq_some_iff.mp ex
      obtain ⟨c, ec, rfl⟩ := Option.map_eq_some_iff.mp ez
      obtain ⟨pr, ep, rfl⟩ := Option.map_eq_some_iff.mp ec
      obtain ⟨hc, hk0, hk2⟩ := mem_clList.mp (List.mem_of_getElem? ep)
      have hS1 := hS.same s1
      have hn4 := hz.le pr.1
      have hk16 := lt16 hn4 (hlt pr.1 hc)
      obtain ⟨za, hza, hzq⟩ := pSizes hS1.dat.pz
      have hdz := hS1.dSizes
      rw [hza] at hdz
      refine ⟨_, rfl, .inl ⟨rfl, fs, lstA eF1⟩, _, rfl, _, rfl, _, _, rfl, hdz, _, rfl, za, _, _, _, rfl, rfl, hzq, atI_nat (szV_get (szOf_get hc)), _, rfl, by omega, by omega, fun D hD => ?_⟩
      refine lc_gen (walk_range (lo := 0)) (by rw [Int.toNat_natCast]; omega) hD (fun _ _ => trivial) (fun m acc _ => acc = ((bitsW (szOf X.sz pr.1) (k pr.1)).take m).map V.int) (fun _ _ _ _ _ p => p) (fun _ => rfl) (fun m x H5 H6 acc C N hm s5 p y cC cN => ?_) (fun acc H5 s5 e l p => ?_)
      · obtain ⟨rfl, rfl⟩ := y
        rw [Int.toNat_natCast] at hm
        have g : DGet H6 d (.int (pr.1 : Nat)) (some (.int (k pr.1 : Nat))) := by
          have := DGet.k (k := .inl ((pr.1 : Nat) : Int)) ((s1.trans s5) _ _ ed)
          rw [clK_get hc, if_neg hk0] at this
          exact this
        refine ⟨rfl, yesT ⟨_, rfl, _, rfl, d, _, rfl, g, _, rfl, _, _, rfl, rfl, (by show (0 : Int) ≤ 0 + (m : Nat); omega), _, _, rfl, rfl, cC _ _ (Same.refl _) ?_⟩⟩
        rw [take_snoc (show (bitsW (szOf X.sz pr.1) (k pr.1))[m]? = some (if (k pr.1).testBit m = true then 1 else 0) by unfold bitsW; rw [List.getElem?_map, List.getElem?_range hm]; rfl), List.map_append, p]
        show _ ++ [V.int (Builtin.bitAnd (((k pr.1 : Nat) : Int) / 2 ^ (0 + ((m : Nat) : Int)).toNat) 1)] = _
        rw [Int.zero_add, int_bit16 _ hk16 m (by omega)]
        rfl
      · rw [Int.toNat_natCast, List.take_of_length_le (by rw [bitsW_len]; exact Nat.le_refl _)] at p
        subst p
        refine ⟨D, true, _, rfl, .inl (.inl e), fun _ l o hl' ho => ?_, fun z => nomatch z⟩
        obtain ⟨a1, a2, a3⟩ := frz_new (K := K) (xs := (bitsW (szOf X.sz pr.1) (k pr.1)).map V.int) hl' ho
        refine ⟨by rw [sizeLine_eq]; show 2 ≤ _; omega, fun p1 ob1 hp1 ho1 => ?_⟩
        obtain ⟨b1, b2, b3⟩ := frz_new (K := K) (xs := [V.int (pr.1 : Nat), V.ref l]) hp1 ho1
        have ss := (s5.trans a1).trans b1
        have hj2 := (List.getElem?_eq_some_iff.mp ep).1
        refine ⟨F, fs, _, rfl, rfl, ss _ _ eF1, sz_lt' (by omega), ?_⟩
        have k9 := kp_lst (ys := fs ++ [.ref p1]) (ss _ _ eF1)
        refine ⟨_, fs ++ [.ref p1], rfl, smut (s1.trans ss) hF, upd_same, (upd_ne hF4.symm).trans (ss _ _ e41), ?_, by rw [List.length_append]; exact Nat.add_le_add_right hfl 1⟩
        rw [take_snoc (show ((clList X.sz.length k).map fun p => (p.1, bitsW (szOf X.sz p.1) p.2))[j]? = some (pr.1, bitsW (szOf X.sz pr.1) pr.2) by rw [List.getElem?_map, ep]; rfl), List.map_append, hk2]
        exact PurAll.app ((hfs.kp (skp ss)).kp k9) (.cons (Pur.kp k9 (.tup b2 (.cons (.int _) (.cons (.tup ((skp b1).sqT a2) (pur_ints _)) .nil)))) .nil)
    · obtain ⟨y3, fs, rfl, s1, eF1, e41, hfs, hfl⟩ := p
      rw [List.length_map, List.length_map, List.length_map, List.take_of_length_le (by rw [List.length_map]; exact Nat.le_refl _), ← clTab_list] at hfs
      refine ⟨_, rfl, F, true, fs, rfl, lstA eF1, fun _ l o hl' ho => ?_, fun z => nomatch z⟩
      obtain ⟨a1, a2, a3⟩ := frz_new (K := K) (xs := fs) hl' ho
      refine ⟨by rw [sizeLine_eq]; show 2 ≤ _; omega, fun p1 ob1 hp1 ho1 => ?_⟩
      obtain ⟨b1, b2, b3⟩ := frz_new (K := K) (xs := [V.ref l, V.int 1]) hp1 ho1
      exact q _ _ ((s1.trans a1).trans b1) (.tup b2 (.cons (.tup ((skp b1).sqT a2) (hfs.kp (skp (a1.trans b1)))) (.cons (.int _) .nil)))
theorem set_rg {α : Type} {n c : Nat} (f : Nat → α) (y : α) : ((List.range n).map f).set c y = (List.range n).map fun e => if e = c then y else f e := by
  refine List.ext_getElem? fun i => ?_
  rw [List.getElem?_set, List.getElem?_map, List.getElem?_map, List.length_map, List.length_range]
  by_cases h : c = i
  · subst h
    rw [if_pos rfl]
    by_cases hc : c < n
    · rw [if_pos hc, List.getElem?_range hc]; show some y = some (if c = c then y else f c); rw [if_pos rfl]
    · rw [if_neg hc, List.getElem?_eq_none (by rw [List.length_range]; omega)]; rfl
  · rw [if_neg h]
    cases hr : (List.range n)[i]? with
    | none => rfl
    | some v =>
      have hv := List.getElem?_eq_some_iff.mp hr
      have : v = i := by rw [← hv.2, List.getElem_range]
      subst this
      show some (f v) = some (if v = c then y else f v)
      rw [if_neg (fun z => h z.symm)]
def sp_learn (K : PySem.W.Frag) : Sp := fun vs H Q _ => ∃ (X : Fx) (dn : V) (st : MS) (wt : Wit) (place c : Nat) (d : Addr) (k : Cl), vs = [.ref (X.L 0), .int (place : Nat), .ref d, .int (c : Nat)] ∧ IsS K H X dn st wt ∧ OffS X d ∧ H d = some (.dK (clK (clList X.sz.length k))) ∧ (∀ c, c < X.sz.length → k c < 2 ^ szOf X.sz c) ∧ Tiny X.sz ∧
  c < X.sz.length ∧ k c ≠ 0 ∧ sAt st.sets c < 16 ∧ st.sets.length = X.sz.length ∧ X.T.length ≤ st.sums.length ∧ st.sums.length ≤ 900000 ∧ st.steps.length ≤ 900000 ∧ st.trail.length ≤ 1000 ∧ (∀ e, e < X.sz.length → (st.index.getD e []).length ≤ st.sums.length) ∧ st.queue.length + 2 * (st.sums.length + 1) ≤ sizeLine ∧
  After K X dn H (learnM X.sz X.T st place k c) (Q .non)
theorem sc_learn : FnScope ["state", "place", "clause", "choice", "number", "spot", "learnt"] ["state", "place", "clause", "choice"] (defScope (topS 49)) := ⟨rfl, rfl, rfl, by decide +kernel, rfl, by decide +kernel, by decide +kernel⟩
theorem ok_learn (fr : Free mg) (D : DefAt K mg "learn" (topS 49)) (d_sum_of_clause : OkD P w K mg base 1 "sum_of_clause" ["state", "clause"] (sp_sum_of_clause K)) (d_narrow : OkD P w K mg base 1 "narrow" ["state", "choice", "bits", "reason"] (sp_narrow K)) : OkD P w K mg base 2 "learn" ["state", "place", "clause", "choice"] (sp_learn K) := by
  refine D.ok sc_learn (fun _ _ _ _ _ _ us hl => match us, hl with | [_, _, _, _], _ => rfl) (fun vs H Q E h => ?_) (fun f cdv A outer s H vs Q E hr h => ?_)
  · obtain ⟨X, dn, st, wt, place, c, d, k, rfl, _⟩ := h; rfl
  · obtain ⟨X, dn, st, wt, place, c, d, k, rfl, hS, od, ed, hlt, hz, hc, hkc, hs16, hsl, hTl, hl1, hl2, hl3, hil, hql, q⟩ := h
    refine ⟨_, (pss_cons (ps_set (i := 4) sc_learn.nd rfl (by first | exact .inl rfl | exact .inr rfl) (pe_callB (cr_lenK (K := K)) (by rfl) fr.len (by decide +kernel) (pa_cons (pe_dget (hu_of hr) (pv 0) pe_str (fun _ _ => rfl)) pa_nil)))
 (pss_cons (ps_expr (pe_bm PySem.F.plainAttrs_list PySem.F.slot_list_append PySem.F.type_list_append mt_append (pe_dget (hu_of hr) (pv 0) pe_str (fun _ _ => rfl)) (pa_cons (pe_callD d_sum_of_clause (hr.mono (by decide)) (by rfl) (pa_cons (pv 0) (pa_cons (pv 2) pa_nil))) pa_nil)))
 (pss_cons (ps_dput (hu_of hr) (pe_dget (hu_of hr) (pv 0) pe_str (fun _ _ => rfl)) (pv 4) (pv 1) rfl)
 (pss_cons (ps_lock (ps_for PassesOwn.never rfl (pi_keys (pv 2)) (pg_name (i := 5) sc_learn.nd rfl (by first | exact .inl rfl | exact .inr rfl)) (pss_one (ps_expr (pe_bm PySem.F.plainAttrs_list PySem.F.slot_list_append PySem.F.type_list_append mt_append (pe_ix (ix_listK (K := K)) (pe_dget (hu_of hr) (pv 0) pe_str (fun _ _ => rfl)) (pv 5) (fun _ _ => rfl)) (pa_cons (pv 4) pa_nil))))))
 (pss_cons (ps_set (i := 6) sc_learn.nd rfl (by first | exact .inl rfl | exact .inr rfl) (pe_listRg rfl (by rfl) fr.list (prg_2 (by rfl) fr.range (pe_dget (hu_of hr) (pv 0) pe_str (fun _ _ => rfl)) (pe_op op_add (pv 4) pe_int))))
 (pss_cons (ps_expr (pe_bm PySem.F.plainAttrs_list PySem.F.slot_list_extend PySem.F.type_list_extend mt_extend (pe_dget (hu_of hr) (pv 0) pe_str (fun _ _ => rfl)) (pa_cons (pv 6) pa_nil)))
 (pss_one (ps_expr (pe_callD d_narrow (hr.mono (by decide)) (by rfl) (pa_cons (pv 0) (pa_cons (pv 3) (pa_cons (pe_op op_and (pe_ix (ix_listK (K := K)) (pe_dget (hu_of hr) (pv 0) pe_str (fun _ _ => rfl)) (pv 3) (fun _ _ => rfl)) (pe_dget (hu_of hr) (pv 2) (pv 3) (fun _ _ => rfl))) (pa_cons (pv 4) pa_nil))))))))))))), ?_⟩
    have hlen := clList_len X.sz.length k
    have hz1 := hz.1
    have hvs := hS.dat.ps.1
    refine ⟨_, rfl, _, _, rfl, hS.dSums, X.L 1, true, _, rfl, lstA hS.c1, ?_⟩
    rw [hvs]
    refine ⟨_, rfl, _, _, rfl, hS.dSums, .inl ⟨rfl, _, lstA hS.c1⟩, _, rfl, _, rfl, X, dn, st, wt, d, k, rfl, hS, ed, hlt, hz, fun v H1 s1 hv => ?_⟩
    have hS1 := hS.same s1
    refine ⟨X.L 1, wt.vs, v, rfl, rfl, hS1.c1, sz_lt' (by omega), ?_⟩
    have hS2 := hS1.pushSum hv
    have f2 : Fr X H _ := (Fr.of s1).trans (Fr.upd (H := H1) (i := 1) (o := .lst (wt.vs ++ [v])) (by omega))
    have ed2 := f2.at od ed
    revert hS2 f2 ed2
    generalize (upd H1 (X.L 1) (.lst (wt.vs ++ [v]))) = H2
    intro hS2 f2 ed2
    have hk0 := hS.dat.pk
    have hk2 : ({ wt with vs := wt.vs ++ [v] } : Wit).kvs.length < st.steps.length + (st.sums ++ [clSum X.sz k]).length := by
      rw [List.length_append]
      show wt.kvs.length < st.steps.length + (st.sums.length + 1)
      omega
    refine ⟨_, rfl, _, rfl, _, _, rfl, hS2.dPlaces, _, rfl, X.L 6, _, rfl, DPut.k (k := .inl ((st.sums.length : Nat) : Int)) hS2.c6 (sz_lt' (by show wt.kvs.length < _; omega)), ?_⟩
    have hS3 := hS2.setPlace st.sums.length place hk2
    have f3 := f2.trans (Fr.upd (H := H2) (i := 6) (o := .dK (putK wt.kvs (.inl ((st.sums.length : Nat) : Int)) (.int (place : Nat)))) (by omega))
    have ed3 := f3.at od ed
    revert hS3 f3 ed3
    show IsS K (upd H2 (X.L 6) (.dK (putK wt.kvs (.inl ((st.sums.length : Nat) : Int)) (.int (place : Nat))))) X dn _ _ → _ → _ → _
    generalize (upd H2 (X.L 6) (.dK (putK wt.kvs (.inl ((st.sums.length : Nat) : Int)) (.int (place : Nat))))) = H3
    intro hS3 f3 ed3
    refine ⟨d, _, ed3, trivial, fun od2 => ?_⟩
    have kl : Kp H3 (upd H3 d (.frz od2 (.dK (clK (clList X.sz.length k))))) := kp_mut (fun xs e => by rw [ed3] at e; cases e) (fun ob xs e => by rw [ed3] at e; cases e)
    have hS4 := hS3.other (o := .frz od2 (.dK (clK (clList X.sz.length k)))) od kl
    have ed4 : (upd H3 d (.frz od2 (.dK (clK (clList X.sz.length k))))) d = some (.frz od2 (.dK (clK (clList X.sz.length k)))) := upd_same
    have hfrl : ∀ a u, a ≠ d → H3 a = some u → (upd H3 d (.frz od2 (.dK (clK (clList X.sz.length k))))) a = some u := fun a u n e => (upd_ne n).trans e
    refine ⟨_, rfl, d, od2, rfl, .inl ⟨_, ed4, ?_⟩⟩
    have fr4 : ∀ a u, OffS X a → a ≠ d → H a = some u → (upd H3 d (.frz od2 (.dK (clK (clList X.sz.length k))))) a = some u := fun a u n1 n2 e => hfrl a u n2 (f3.at n1 e)
    have hS4' := hS4.reindex (idx := idxJ X.sz.length st [] st.sums.length) fun c hc => by
      unfold idxJ
      rw [getD_range hc]
      show _ ++ (if c ∈ [] then _ else []) = st.index.getD c []
      rw [if_neg (by simp), List.append_nil]
    refine for_it (walk_keys (d := d) (o := od2) (kvs := clK (clList X.sz.length k))) (fun j σ H' => ∃ y5, σ = [some (.ref (X.L 0)), some (.int (place : Nat)), some (.ref d), some (.int (c : Nat)), some (.int (st.sums.length : Nat)), y5, none] ∧
        IsS K H' X dn { st with sums := st.sums ++ [clSum X.sz k], places := putP st.places st.sums.length place, index := idxJ X.sz.length st ((clList X.sz.length k).take j) st.sums.length } { wt with vs := wt.vs ++ [v], kvs := putK wt.kvs (.inl ((st.sums.length : Nat) : Int)) (.int (place : Nat)) } ∧
        H' d = some (.frz od2 (.dK (clK (clList X.sz.length k)))) ∧ ∀ a u, OffS X a → a ≠ d → H a = some u → H' a = some u)
      ⟨none, rfl, hS4', ed4, fr4⟩ (fun j σ H' _ p => ?_) (fun j x σ H' H2' hj p y => ?_) (fun σ H' p => ?_)
    · obtain ⟨_, _, _, e, _⟩ := p
      exact e
    · obtain ⟨y5, rfl, hSj, edj, fj⟩ := p
      obtain ⟨rfl, ky, vy, ey, rfl⟩ := y
      unfold clK at ey
      rw [List.getElem?_map] at ey
      obtain ⟨pr, ep, e⟩ := Option.map_eq_some_iff.mp ey
      cases e
      obtain ⟨hc1, hk1, _⟩ := mem_clList.mp (List.mem_of_getElem? ep)
      have hidx : (idxJ X.sz.length st ((clList X.sz.length k).take j) st.sums.length).getD pr.1 [] = st.index.getD pr.1 [] := by
        unfold idxJ
        rw [getD_range hc1]
        have hni : pr.1 ∉ ((clList X.sz.length k).take j).map (·.1) := fun hm => by
          obtain ⟨p2, hp2, e⟩ := List.mem_map.mp hm
          obtain ⟨m, hm2⟩ := List.getElem?_of_mem hp2
          have hml := (List.getElem?_eq_some_iff.mp hm2).1
          rw [List.length_take] at hml
          rw [List.getElem?_take_of_lt (by omega)] at hm2
          have hasc := clList_asc X.sz.length k
          rw [List.pairwise_map, List.pairwise_iff_getElem] at hasc
          have v1 := List.getElem?_eq_some_iff.mp hm2
          have v2 := List.getElem?_eq_some_iff.mp ep
          have := hasc m j v1.1 v2.1 (by omega)
          rw [v1.2, v2.2] at this
          omega
        rw [if_neg hni, List.append_nil]
      have c8 := hSj.c8 hc1
      have c8 : H2' (X.L (pr.1 + 8)) = some (.lst (natsV ((idxJ X.sz.length st ((clList X.sz.length k).take j) st.sums.length).getD pr.1 []))) := c8
      have hlx := hil pr.1 hc1
      refine ⟨_, rfl, _, _, rfl, hSj.dIndex, _, rfl, X.L 2, _, _, _, rfl, rfl, lstA hSj.c2, atI_nat (range_at hc1), .inl ⟨rfl, _, lstA c8⟩, _, rfl, X.L (pr.1 + 8), _, _, rfl, rfl, c8, sz_lt' (by rw [natsV_len, hidx]; omega), ?_⟩
      rw [show natsV ((idxJ X.sz.length st ((clList X.sz.length k).take j) st.sums.length).getD pr.1 []) ++ [V.int ((st.sums.length : Nat) : Int)] = natsV ((idxJ X.sz.length st ((clList X.sz.length k).take j) st.sums.length).getD pr.1 [] ++ [st.sums.length]) by rw [natsV_app]; rfl]
      have hS5 := hSj.setIndex hc1 ((idxJ X.sz.length st ((clList X.sz.length k).take j) st.sums.length).getD pr.1 [] ++ [st.sums.length]) (by show (idxJ X.sz.length st _ _).length = _; unfold idxJ; rw [List.length_map, List.length_range])
      have hd8 : d ≠ X.L (pr.1 + 8) := od _ (by omega)
      refine ⟨some (.int (pr.1 : Nat)), rfl, ?_, (upd_ne hd8).trans edj, fun a u n1 n2 e => (upd_ne (n1 _ (by omega))).trans (fj a u n1 n2 e)⟩
      rw [hidx] at hS5 ⊢
      refine hS5.reindex fun e he => ?_
      show (idxJ X.sz.length st ((clList X.sz.length k).take (j + 1)) st.sums.length).getD e [] = ((idxJ X.sz.length st ((clList X.sz.length k).take j) st.sums.length).set pr.1 (st.index.getD pr.1 [] ++ [st.sums.length])).getD e []
      unfold idxJ
      rw [set_rg, getD_range he, getD_range he, take_snoc ep, List.map_append]
      by_cases hee : e = pr.1
      · subst hee
        rw [if_pos rfl, if_pos (by simp)]
      · rw [if_neg hee]
        congr 1
        by_cases hm : e ∈ ((clList X.sz.length k).take j).map (·.1)
        · rw [if_pos hm, if_pos (List.mem_append_left _ hm)]
        · rw [if_neg hm, if_neg (by
            intro z
            rcases List.mem_append.mp z with z | z
            · exact hm z
            · rw [List.map_cons, List.map_nil, List.mem_singleton] at z; exact hee z)]
    · obtain ⟨y5, rfl, hSj, edj, fj⟩ := p
      have hlk : (clK (clList X.sz.length k)).length = (clList X.sz.length k).length := by unfold clK; rw [List.length_map]
      rw [hlk, List.take_length] at hSj
      refine ⟨edj, ?_⟩
      have ku : Kp H' (upd H' d (.dK (clK (clList X.sz.length k)))) := kp_mut (fun xs e => by rw [edj] at e; cases e) (fun ob xs e => by rw [edj] at e; cases e)
      have hS6 := hSj.other (o := .dK (clK (clList X.sz.length k))) od ku
      have f6 : Fr X H (upd H' d (.dK (clK (clList X.sz.length k)))) := fun a u n e => by
        by_cases ha : a = d
        · subst ha
          rw [ed] at e
          rw [← e]
          exact upd_same
        · exact (upd_ne ha).trans (fj a u n ha e)
      have ed6 : (upd H' d (.dK (clK (clList X.sz.length k)))) d = some (.dK (clK (clList X.sz.length k))) := upd_same
      revert hS6 f6 ed6
      generalize (upd H' d (.dK (clK (clList X.sz.length k)))) = H6
      intro hS6 f6 ed6
      refine ⟨_, rfl, _, _, rfl, hS6.dTold, _, rfl, _, _, rfl, rfl, _, _, rfl, rfl, RgOk.of_le (by omega) (by omega) (by omega) (by omega), fun lr hlr => ?_⟩
      have erg : rgV ((X.T.length : Nat) : Int) (((st.sums.length : Nat) : Int) + 1) = natsV ((List.range (st.sums.length + 1 - X.T.length)).map (X.T.length + ·)) := by
        unfold rgV natsV
        rw [show ((((st.sums.length : Nat) : Int) + 1) - ((X.T.length : Nat) : Int)).toNat = st.sums.length + 1 - X.T.length by omega, List.map_map]
        refine List.map_congr_left fun i _ => ?_
        show V.int (((X.T.length : Nat) : Int) + (i : Nat)) = V.int ((X.T.length + i : Nat) : Int)
        rw [Int.natCast_add]
      dsimp only
      rw [erg]
      have s7 := same_new (o := .lst (natsV ((List.range (st.sums.length + 1 - X.T.length)).map (X.T.length + ·)))) hlr
      have hS7 := hS6.same s7
      have e7 := upd_same (H := H6) (a := lr) (o := .lst (natsV ((List.range (st.sums.length + 1 - X.T.length)).map (X.T.length + ·))))
      have f7 := f6.trans (Fr.of s7)
      have ed7 := s7 _ _ ed6
      revert hS7 e7 f7 ed7
      generalize (upd H6 lr (.lst (natsV ((List.range (st.sums.length + 1 - X.T.length)).map (X.T.length + ·))))) = H7
      intro hS7 e7 f7 ed7
      have hll : ((List.range (st.sums.length + 1 - X.T.length)).map (X.T.length + ·)).length = st.sums.length + 1 - X.T.length := by rw [List.length_map, List.length_range]
      have c7 : H7 (X.L 7) = some (.lst (natsV st.queue)) := hS7.c7
      refine ⟨_, rfl, _, _, rfl, hS7.dQueue, .inl ⟨rfl, _, lstA c7⟩, _, rfl, X.L 7, lr, natsV st.queue, _, rfl, rfl, c7, e7, by rw [natsV_len, natsV_len, hll]; omega, ?_⟩
      rw [← natsV_app]
      have hS8 := hS7.setQueue (st.queue ++ (List.range (st.sums.length + 1 - X.T.length)).map (X.T.length + ·))
      have f8 := f7.trans (Fr.upd (H := H7) (i := 7) (o := .lst (natsV (st.queue ++ (List.range (st.sums.length + 1 - X.T.length)).map (X.T.length + ·)))) (by omega))
      have ed8 := f8.at od ed
      revert hS8 f8 ed8
      generalize (upd H7 (X.L 7) (.lst (natsV (st.queue ++ (List.range (st.sums.length + 1 - X.T.length)).map (X.T.length + ·))))) = H8
      intro hS8 f8 ed8
      have hS9 : IsS K H8 X dn (tellM X.sz X.T st place k) { wt with vs := wt.vs ++ [v], kvs := putK wt.kvs (.inl ((st.sums.length : Nat) : Int)) (.int (place : Nat)) } := hS8.reindex fun e he => by
        show ((List.range X.sz.length).map fun c => st.index.getD c [] ++ (if k c = 0 then [] else [st.sums.length])).getD e [] = (idxJ X.sz.length st (clList X.sz.length k) st.sums.length).getD e []
        unfold idxJ
        rw [getD_range he, getD_range he]
        congr 1
        by_cases h0 : k e = 0
        · rw [if_pos h0, if_neg (fun z => by
            obtain ⟨p, hp, rfl⟩ := List.mem_map.mp z
            exact (mem_clList.mp hp).2.1 h0)]
        · rw [if_neg h0, if_pos (List.mem_map.mpr ⟨(e, k e), mem_clList.mpr ⟨he, h0, rfl⟩, rfl⟩)]
      have g : DGet H8 d (.int (c : Nat)) (some (.int (k c : Nat))) := by
        have := DGet.k (k := .inl ((c : Nat) : Int)) ed8
        rw [clK_get hc, if_neg hkc] at this
        exact this
      have hk16 := lt16 (hz.le c) (hlt c hc)
      refine ⟨_, rfl, _, rfl, _, rfl, _, _, rfl, hS9.dSets, _, rfl, X.L 3, _, _, _, rfl, rfl, lstA hS9.c3, atI_nat (hS9.setAt (c := c) (by show c < st.sets.length; omega)), _, rfl, _, rfl, d, _, rfl, g, _, _, rfl, rfl, ?_⟩
      have hand : Builtin.bitAnd ((sAt (tellM X.sz X.T st place k).sets c : Nat) : Int) ((k c : Nat) : Int) = ((sAt st.sets c &&& k c : Nat) : Int) := int_and16 _ hs16 _ hk16
      dsimp only
      rw [hand]
      refine ⟨_, rfl, X, dn, _, _, c, sAt st.sets c &&& k c, (st.sums.length : Nat), rfl, hS9, hc, hsl, hl3, ?_, fun H' w' hS' f' => q H' w' hS' (f8.trans f')⟩
      show (st.queue ++ (List.range (st.sums.length + 1 - X.T.length)).map (X.T.length + ·)).length + (((List.range X.sz.length).map fun c => st.index.getD c [] ++ (if k c = 0 then [] else [st.sums.length])).getD c []).length ≤ sizeLine
      rw [getD_range hc, if_neg hkc, List.length_append, List.length_append, hll]
      have := hil c hc
      show st.queue.length + (st.sums.length + 1 - X.T.length) + ((st.index.getD c []).length + 1) ≤ sizeLine
      omega
end
end Bh
namespace Bh
open PySem PySem.Spec PyProof.Rows L2
theorem int_more16 : ∀ b < 16, b ≠ 0 → decide ((0 : Int) < Builtin.bitAnd ((b : Nat) : Int) (((b : Nat) : Int) - 1)) = decide (2 ≤ (vals b).length) := by decide +kernel
theorem int_low16 : ∀ b < 16, b ≠ 0 → Builtin.bitAnd ((b : Nat) : Int) (-((b : Nat) : Int)) = ((2 ^ lowN b : Nat) : Int) := by decide +kernel
theorem vals_head : ∀ b < 16, b ≠ 0 → (vals b)[0]? = some (lowN b) := by decide +kernel
theorem Base.tlen {sz : List Nat} {T : Sums} {st : MS} (hz : Tiny sz) (h : Base sz T st) : st.trail.length ≤ 12 := by
  have h1 := trail_len hz h.trl
  have h2 := exc_full hz
  omega
theorem Base.ilen {sz : List Nat} {T : Sums} {st : MS} (h : Base sz T st) {c : Nat} (hc : c < sz.length) : (st.index.getD c []).length ≤ st.sums.length := (h.idx c _ (index_get h hc)).1
section
variable {P : Program} {w : World} {K : PySem.W.Frag} {mg : Str → Option Value} {base : Heap}
def sp_look (K : PySem.W.Frag) : Sp := fun vs H Q _ => ∃ (X : Fx) (dn : V) (st : MS) (wt : Wit) (i : Nat), vs = [.ref (X.L 0), .int (i : Nat)] ∧ IsS K H X dn st wt ∧ Tiny X.sz ∧ Base X.sz X.T st ∧ i < st.sums.length ∧ (¬ Broken (at0 st.sums i) st.sets → ToldOk X.T st) ∧ st.queue.length + 5 * st.sums.length ≤ sizeLine ∧
  (Broken (at0 st.sums i) st.sets → ∀ H', Same H H' → Q (.bl false) H') ∧ (¬ Broken (at0 st.sums i) st.sets → ∀ st' H' w', LookI X.sz X.T st i (at0 st.sums i).1.length st' → IsS K H' X dn st' w' → Fr X H H' → Q (.bl true) H')
theorem sc_look : FnScope ["state", "number", "terms", "bound", "tops", "spare", "choice", "weights", "top", "kept"] ["state", "number"] (defScope (topS 43)) := ⟨rfl, rfl, rfl, by decide +kernel, rfl, by decide +kernel, by decide +kernel⟩
theorem ok_look (fr : Free mg) (D : DefAt K mg "look" (topS 43)) (d_tops_of : OkD P w K mg base 3 "tops_of" ["state", "number"] (sp_tops_of K)) (d_bits_above : OkD P w K mg base 2 "bits_above" ["weights", "low"] (sp_bits_above K))
    (d_narrow : OkD P w K mg base 1 "narrow" ["state", "choice", "bits", "reason"] (sp_narrow K)) : OkD P w K mg base 4 "look" ["state", "number"] (sp_look K) := by
  refine D.ok sc_look (fun _ _ _ _ _ _ us hl => match us, hl with | [_, _], _ => rfl) (fun vs H Q E h => ?_) (fun f cdv A outer s H vs Q E hr h => ?_)
  · obtain ⟨X, dn, st, wt, i, rfl, _⟩ := h; rfl
  · obtain ⟨X, dn, st, wt, i, rfl, hS, hz, hb, hi, htold, hql, q1, q2⟩ := h
    refine ⟨_, (pss_cons (ps_asg (pe_ix (ix_listK (K := K)) (pe_dget (hu_of hr) (pv 0) pe_str (fun _ _ => rfl)) (pv 1) (fun _ _ => rfl)) (pg_tupK (K := K) (n := 2) (by rfl) (pgs_cons (pg_name (i := 2) sc_look.nd rfl (by first | exact .inl rfl | exact .inr rfl)) (pgs_cons (pg_name (i := 3) sc_look.nd rfl (by first | exact .inl rfl | exact .inr rfl)) pgs_nil))))
 (pss_cons (ps_set (i := 4) sc_look.nd rfl (by first | exact .inl rfl | exact .inr rfl) (pe_callD d_tops_of (hr.mono (by decide)) (by rfl) (pa_cons (pv 0) (pa_cons (pv 1) pa_nil))))
 (pss_cons (ps_set (i := 5) sc_look.nd rfl (by first | exact .inl rfl | exact .inr rfl) (pe_op op_sub (pe_callB (cr_sumK (K := K) rfl) (by rfl) fr.sum (by decide +kernel) (pa_cons (pv 4) pa_nil)) (pv 3)))
 (pss_cons (ps_if (pt_cmpR op_lt (pv 5) pe_int (nomark _)) (pss_one (ps_ret pe_bl)) pss_nil)
 (pss_cons (ps_for PassesOwn.never rfl (pi_zipK (K := K) (by rfl) fr.zip (pa_cons (pv 2) (pa_cons (pv 4) pa_nil))) (pg_tupK (K := K) (n := 2) (by rfl) (pgs_cons (pg_tupK (K := K) (n := 2) (by rfl) (pgs_cons (pg_name (i := 6) sc_look.nd rfl (by first | exact .inl rfl | exact .inr rfl)) (pgs_cons (pg_name (i := 7) sc_look.nd rfl (by first | exact .inl rfl | exact .inr rfl)) pgs_nil))) (pgs_cons (pg_name (i := 8) sc_look.nd rfl (by first | exact .inl rfl | exact .inr rfl)) pgs_nil))) (pss_cons (ps_set (i := 9) sc_look.nd rfl (by first | exact .inl rfl | exact .inr rfl) (pe_op op_and (pe_ix (ix_listK (K := K)) (pe_dget (hu_of hr) (pv 0) pe_str (fun _ _ => rfl)) (pv 6) (fun _ _ => rfl)) (pe_callD d_bits_above (hr.mono (by decide)) (by rfl) (pa_cons (pv 7) (pa_cons (pe_op op_sub (pe_op op_sub (pv 8) (pv 5)) pe_int) pa_nil)))))
 (pss_one (ps_if (pt_cmpR op_ne (pv 9) (pe_ix (ix_listK (K := K)) (pe_dget (hu_of hr) (pv 0) pe_str (fun _ _ => rfl)) (pv 6) (fun _ _ => rfl)) (nomark _)) (pss_one (ps_expr (pe_callD d_narrow (hr.mono (by decide)) (by rfl) (pa_cons (pv 0) (pa_cons (pv 6) (pa_cons (pv 9) (pa_cons (pv 1) pa_nil))))))) pss_nil))))
 (pss_one (ps_ret pe_bl))))))), ?_⟩
    have hs := hb.ok _ (at0_mem hi)
    have hso := hb.setsOk hz
    obtain ⟨v, ev, hv⟩ := hS.sumAt hi
    obtain ⟨b, tt, rfl, hbb, htt⟩ := pSum hv
    obtain ⟨t, us, rfl, ht, hul, hus⟩ := pTerms htt
    refine ⟨_, rfl, _, _, rfl, hS.dSums, _, rfl, X.L 1, _, _, _, rfl, rfl, lstA hS.c1, atI_nat ev, b, _, rfl, hbb, rfl, _, _, rfl, _, _, rfl, rfl, ?_⟩
    refine ⟨_, rfl, _, rfl, X, dn, st, wt, i, rfl, hS, hi, hs, hso, hz, fun ta H1 s1 hta e1 => ?_⟩
    have hS1 := hS.same s1
    have ota := hS.off hta
    refine ⟨_, rfl, ta, topsL (at0 st.sums i) (topF (at0 st.sums i) st.sets), rfl, lstA e1, _, rfl, _, _, rfl, rfl, ?_⟩
    refine ⟨_, rfl, _, _, rfl, rfl, _, rfl, ?_⟩
    have esum : (topsL (at0 st.sums i) (topF (at0 st.sums i) st.sets)).sum = sumTf (at0 st.sums i) (topF (at0 st.sums i) st.sets) := rfl
    dsimp only
    rw [esum]
    by_cases hbr : Broken (at0 st.sums i) st.sets
    · have hbr2 := hbr
      unfold Broken at hbr2
      rw [decide_eq_true (by omega)]
      exact iteT (q1 hbr H1 s1)
    · have hbr2 := hbr
      unfold Broken at hbr2
      rw [decide_eq_false (by omega)]
      refine iteF ?_
      obtain ⟨spare, hsp⟩ : ∃ x, x = sumTf (at0 st.sums i) (topF (at0 st.sums i) st.sets) - (at0 st.sums i).2 := ⟨_, rfl⟩
      rw [← hsp]
      have hnn : 0 ≤ spare := by omega
      have hlen : min us.length ((topsL (at0 st.sums i) (topF (at0 st.sums i) st.sets)).map V.int).length = us.length := by
        unfold topsL
        rw [List.length_map, List.length_map, hul, Nat.min_self]
      have hterm : (at0 st.sums i).1.length ≤ 4 := Nat.le_trans hs.1.len hz.1
      refine ⟨_, rfl, _, rfl, t, ta, false, true, us, _, rfl, (skp s1).sqT ht, lstA e1, ?_⟩
      refine for_it (walk_zipB (k1 := false) (k2 := true) (xs := us) (ys := (topsL (at0 st.sums i) (topF (at0 st.sums i) st.sets)).map V.int) hlen.symm) (fun j σ H' => ∃ y6 y7 y8 y9 st' w', σ = [some (.ref (X.L 0)), some (.int (i : Nat)), some (.ref t), some (.int (at0 st.sums i).2), some (.ref ta), some (.int spare), y6, y7, y8, y9] ∧
          IsS K H' X dn st' w' ∧ Fr X H H' ∧ LookI X.sz X.T st i j st' ∧ H' ta = some (.lst ((topsL (at0 st.sums i) (topF (at0 st.sums i) st.sets)).map V.int)))
        ⟨none, none, none, none, st, wt, rfl, hS1, Fr.of s1, look_first hb (htold hbr), e1⟩ (fun j σ H' _ p => ?_) (fun j x σ H5 H6 hj p y => ?_) (fun σ H' p => ?_)
      · obtain ⟨_, _, _, _, _, _, _, _, ff, _, e⟩ := p
        exact ⟨((hS.kpf ff).sqT ht : SqT K H' t us), lstA e⟩
      · obtain ⟨y6, y7, y8, y9, st', w', rfl, hS5, f5, hL, e5⟩ := p
        obtain ⟨T, x1, x2, rfl, hT, s6, eT, g1, g2⟩ := same_pair y
        obtain ⟨tm, et, hpt⟩ := hus j x1 g1
        obtain ⟨c2, w2, rfl, qc2, qw⟩ := pTerm hpt
        have htm := List.mem_of_getElem? et
        have hl := look_mem hs.1.2 htm
        have hw := (hs.w hl).2
        have g2 : ((topsL (at0 st.sums i) (topF (at0 st.sums i) st.sets)).map V.int)[j]? = some x2 := g2
        unfold topsL at g2
        rw [List.getElem?_map, List.getElem?_map, et] at g2
        injection g2 with g2
        have g2 : V.int (topF (at0 st.sums i) st.sets tm.1) = x2 := g2
        have etop : topF (at0 st.sums i) st.sets tm.1 = topB tm.2 (sAt st.sets tm.1) := by unfold topF; rw [hl]
        rw [etop] at g2
        subst g2
        obtain ⟨hc, hk16, hsame, hmove⟩ := look_step hz hb hi hL et hsp hnn
        have k6 := hS.kpf (f5.trans (Fr.of s6))
        have hS6 := hS5.same s6
        have hso' := hL.base.setsOk hz
        have hc3 : tm.1 < st'.sets.length := hso'.1 ▸ hc
        have h16 := hso'.lt16 hz hc
        have hab : aboveB tm.2 (topB tm.2 (sAt st.sets tm.1) - spare - 1) < 16 := lt16 (hz.le tm.1) (by have := above_lt tm.2 (topB tm.2 (sAt st.sets tm.1) - spare - 1); rw [hw.len] at this; exact this)
        refine ⟨T, _, rfl, .inl (.inl eT), rfl, _, _, rfl, c2, _, rfl, k6.sqT qc2, rfl, _, _, rfl, _, _, rfl, rfl, _, _, rfl, rfl, ?_⟩
        refine ⟨_, rfl, _, _, rfl, hS6.dSets, _, rfl, X.L 3, _, _, _, rfl, rfl, lstA hS6.c3, atI_nat (hS6.setAt hc3), _, rfl, _, rfl, _, rfl, _, _, rfl, rfl, _, _, rfl, rfl, w2, false, tm.2, _, rfl, k6.sqT qw, by rw [hw.len]; exact hz.le tm.1, fun H7 s7 => ⟨_, _, rfl, rfl, ?_⟩⟩
        have hS7 := hS6.same s7
        have ekept : Builtin.bitAnd ((sAt st'.sets tm.1 : Nat) : Int) ((aboveB tm.2 (topB tm.2 (sAt st.sets tm.1) - spare - 1) : Nat) : Int) = ((keptM st' tm (topB tm.2 (sAt st.sets tm.1)) spare : Nat) : Int) := int_and16 _ h16 _ hab
        dsimp only
        rw [ekept]
        have f7 := (f5.trans (Fr.of s6)).trans (Fr.of s7)
        have e7 := s7 _ _ (s6 _ _ e5)
        refine ⟨_, rfl, _, rfl, _, _, rfl, hS7.dSets, _, rfl, X.L 3, _, _, _, rfl, rfl, lstA hS7.c3, atI_nat (hS7.setAt hc3), rfl, _, rfl, ?_⟩
        by_cases hke : keptM st' tm (topB tm.2 (sAt st.sets tm.1)) spare = sAt st'.sets tm.1
        · rw [decide_eq_true (show V.int ((keptM st' tm (topB tm.2 (sAt st.sets tm.1)) spare : Nat) : Int) = V.int ((sAt st'.sets tm.1 : Nat) : Int) by rw [hke])]
          exact iteF ⟨some (.int (tm.1 : Nat)), some (.ref w2), some (.int (topB tm.2 (sAt st.sets tm.1))), some (.int (keptM st' tm (topB tm.2 (sAt st.sets tm.1)) spare : Nat)), st', w', rfl, hS7, f7, hsame hke, e7⟩
        · rw [decide_eq_false (show ¬ (V.int ((keptM st' tm (topB tm.2 (sAt st.sets tm.1)) spare : Nat) : Int) = V.int ((sAt st'.sets tm.1 : Nat) : Int)) from fun z => hke (Int.ofNat.inj (V.int.inj z)))]
          have hjt : j < (at0 st.sums i).1.length := (List.getElem?_eq_some_iff.mp et).1
          have hque := hL.que
          have hil := hL.base.ilen hc
          rw [hL.sums] at hil
          have hjm : j * st.sums.length ≤ 3 * st.sums.length := Nat.mul_le_mul_right _ (by omega)
          refine iteT ⟨_, rfl, _, rfl, _, rfl, _, rfl, X, dn, st', w', tm.1, keptM st' tm (topB tm.2 (sAt st.sets tm.1)) spare, (i : Int), rfl, hS7, hc, hso'.1, by have := hL.base.tlen hz; omega, by omega, fun H8 w8 hS8 f8 => ?_⟩
          exact ⟨some (.int (tm.1 : Nat)), some (.ref w2), some (.int (topB tm.2 (sAt st.sets tm.1))), some (.int (keptM st' tm (topB tm.2 (sAt st.sets tm.1)) spare : Nat)), _, w8, rfl, hS8, f7.trans f8, hmove hke, f8.at ota e7⟩
      · obtain ⟨y6, y7, y8, y9, st', w', rfl, hS5, f5, hL, e5⟩ := p
        rw [hul] at hL
        exact q2 hbr st' H' w' hL hS5 f5
end
end Bh
namespace Bh
open PySem PySem.Spec PyProof.Rows L2
section
variable {P : Program} {w : World} {K : PySem.W.Frag} {mg : Str → Option Value} {base : Heap}
/-- the row that ends the search -/
def RowV (K : PySem.W.Frag) (H : Hp) (v : V) (r : List Nat) : Prop := Pur K H v (.tuple [.str "row", dInts (r.map fun (c : Nat) => (c : Int))])
def LeastRow (sz : List Nat) (T : Sums) (r : List Nat) : Prop := Sol sz T r ∧ ∀ q, Sol sz T q → r = q ∨ LexLt sz.length r q
def sp_decide (K : PySem.W.Frag) : Sp := fun vs H Q _ => ∃ (X : Fx) (dn : V) (st : MS) (wt : Wit), vs = [.ref (X.L 0)] ∧ IsS K H X dn st wt ∧ Tiny X.sz ∧ Base X.sz X.T st ∧ ToldOk X.T st ∧ st.queue = [] ∧ st.sums.length ≤ sizeLine ∧
  (∀ st' H' w', Base X.sz X.T st' → ToldOk X.T st' → mu X.sz.length st'.sets st'.trail < mu X.sz.length st.sets st.trail → st'.sums = st.sums → st'.steps = st.steps → st'.queue.length ≤ st.sums.length → IsS K H' X dn st' w' → Fr X H H' → Q .non H') ∧
  (∀ r p H' w', LeastRow X.sz X.T r → RowV K H' (.ref p) r → IsS K H' X (.ref p) st w' → Fr X H H' → Q .non H')
theorem sc_decide : FnScope ["state", "choice", "bits"] ["state"] (defScope (topS 52)) := ⟨rfl, rfl, rfl, by decide +kernel, rfl, by decide +kernel, by decide +kernel⟩
theorem ok_decide (fr : Free mg) (D : DefAt K mg "decide" (topS 52)) (d_narrow : OkD P w K mg base 1 "narrow" ["state", "choice", "bits", "reason"] (sp_narrow K)) (d_values_of : OkD P w K mg base 1 "values_of" ["bits"] (sp_values_of K)) : OkD P w K mg base 2 "decide" ["state"] (sp_decide K) := by
  refine D.ok sc_decide (fun _ _ _ _ _ _ us hl => match us, hl with | [_], _ => rfl) (fun vs H Q E h => ?_) (fun f cdv A outer s H vs Q E hr h => ?_)
  · obtain ⟨X, dn, st, wt, rfl, _⟩ := h; rfl
  · obtain ⟨X, dn, st, wt, rfl, hS, hz, hb, htold, hq, hsl, q1, q2⟩ := h
    refine ⟨_, (pss_cons (ps_for PassesOwn.never rfl (pi_enumK (K := K) (by rfl) fr.enumerate (pa_cons (pe_dget (hu_of hr) (pv 0) pe_str (fun _ _ => rfl)) pa_nil)) (pg_tupK (K := K) (n := 2) (by rfl) (pgs_cons (pg_name (i := 1) sc_decide.nd rfl (by first | exact .inl rfl | exact .inr rfl)) (pgs_cons (pg_name (i := 2) sc_decide.nd rfl (by first | exact .inl rfl | exact .inr rfl)) pgs_nil))) (pss_one (ps_if (pt_cmpR op_gt (pe_op op_and (pv 2) (pe_op op_sub (pv 2) pe_int)) pe_int (nomark _)) (pss_cons (ps_expr (pe_callD d_narrow (hr.mono (by decide)) (by rfl) (pa_cons (pv 0) (pa_cons (pv 1) (pa_cons (pe_op op_and (pv 2) (pe_un un_neg (pv 2))) (pa_cons (pe_un un_neg pe_int) pa_nil))))))
 (pss_one ps_retN)) pss_nil)))
 (pss_one (ps_dput (hu_of hr) (pv 0) pe_str (pe_tupF (pa_cons pe_str (pa_cons (pe_callTy (cr_tupK (K := K)) (by rfl) fr.tuple (by decide +kernel) (pa_cons (pe_lc (own := [("bits", 2)]) rfl sc_decide.nd (pi_seqK (K := K) (pe_dget (hu_of hr) (pv 0) pe_str (fun _ _ => rfl))) (blkOk_by (by kernel_rfl)) (fun _ _ _ _ _ => (pg_name (i := 2) sc_decide.nd rfl (by first | exact .inl rfl | exact .inr rfl))) (fun _ _ _ _ _ => pts_nil) (fun _ _ _ _ _ => (pe_ix (ix_tupK (K := K)) (pe_callD d_values_of (hr.mono (by decide)) (by rfl) (pa_cons (pv 2) pa_nil)) pe_int (fun _ _ => rfl)))) pa_nil)) pa_nil))) rfl))), ?_⟩
    have hso := hb.setsOk hz
    have hn4 := hz.1
    refine ⟨_, rfl, _, _, rfl, hS.dSets, X.L 3, true, natsV st.sets, rfl, lstA hS.c3, ?_⟩
    refine for_it (walk_enumB (k := true) (xs := natsV st.sets)) (fun j σ H' => ∃ y1 y2, σ = [some (.ref (X.L 0)), y1, y2] ∧ Same H H' ∧ ∀ d, d < j → Single (sAt st.sets d)) ⟨none, none, rfl, Same.refl _, fun d hd => absurd hd (Nat.not_lt_zero _)⟩ (fun j σ H' _ p => ?_) (fun j x σ H1 H2 hj p y => ?_) (fun σ H' p => ?_)
    · obtain ⟨_, _, _, s1, _⟩ := p
      exact lstA (s1 _ _ hS.c3)
    · obtain ⟨y1, y2, rfl, s1, hsing⟩ := p
      obtain ⟨T, x1, x2, rfl, hT, s2, eT, e1, e2⟩ := same_pair y
      cases e1
      rw [natsV_len, hso.1] at hj
      have e2 : (natsV st.sets)[j]? = some x2 := e2
      rw [hS.setAt (c := j) (by rw [hso.1]; exact hj)] at e2
      injection e2 with e2
      subst e2
      have h16 := hso.lt16 hz hj
      have h0 := (hso.2 j hj).1
      have hS2 := hS.same (s1.trans s2)
      refine ⟨T, _, rfl, .inl (.inl eT), rfl, _, _, rfl, _, _, rfl, rfl, ?_⟩
      refine ⟨_, rfl, _, rfl, _, _, rfl, rfl, _, _, rfl, rfl, _, _, rfl, rfl, _, rfl, ?_⟩
      dsimp only
      rw [int_more16 _ h16 h0]
      by_cases h2 : 2 ≤ (vals (sAt st.sets j)).length
      · rw [decide_eq_true h2]
        refine iteT ⟨_, rfl, _, rfl, _, rfl, _, rfl, _, rfl, _, _, rfl, rfl, ?_⟩
        dsimp only
        rw [int_low16 _ h16 h0]
        obtain ⟨d1, d2, d3⟩ := decide_ok hz hb htold hq hj hsing (not_single_len h16 h2)
        have hil := hb.ilen hj
        refine ⟨_, rfl, X, dn, st, wt, j, 2 ^ lowN (sAt st.sets j), (-1 : Int), rfl, hS2, hj, hso.1, by have := hb.tlen hz; omega, by rw [hq, List.length_nil]; omega, fun H3 w3 hS3 f3 => ?_⟩
        refine q1 _ H3 w3 d1 d2 d3 rfl rfl ?_ hS3 ((Fr.of (s1.trans s2)).trans f3)
        show (st.queue ++ st.index.getD j []).length ≤ _
        rw [hq, List.nil_append]
        exact hil
      · rw [decide_eq_false h2]
        refine iteF ⟨_, _, rfl, s1.trans s2, fun d hd => ?_⟩
        by_cases hdj : d = j
        · subst hdj
          exact len_single h16 (by omega)
        · exact hsing d (by omega)
    · obtain ⟨y1, y2, rfl, s1, hsing⟩ := p
      rw [natsV_len, hso.1] at hsing
      have hS1 := hS.same s1
      obtain ⟨r1, r2⟩ := row_ok hz hb htold hq hsing
      have c3 := hS1.c3
      refine ⟨_, rfl, _, _, rfl, hS1.dSets, X.L 3, true, rfl, ⟨_, lstA c3⟩, fun D hD => ?_⟩
      refine lc_gen (walk_seq (k := true) (xs := natsV st.sets)) (by rw [natsV_len, hso.1]; omega) hD (fun H' s => lstA (s _ _ c3)) (fun j acc _ => acc = natsV ((st.sets.map lowN).take j)) (fun _ _ _ _ _ p => p) (fun _ => rfl) (fun j x H5 H6 acc C N hj s5 p y cC cN => ?_) (fun acc H5 s5 e l p => ?_)
      · obtain ⟨rfl, ex⟩ := y
        obtain ⟨b, eb, rfl⟩ := natsV_inv ex
        rw [natsV_len, hso.1] at hj
        have ebb : b = sAt st.sets j := by
          have := sAt_get (sets := st.sets) (c := j) (by rw [hso.1]; exact hj)
          rw [eb] at this
          injection this
        have h16 : b < 16 := by rw [ebb]; exact hso.lt16 hz hj
        have h0 : b ≠ 0 := by rw [ebb]; exact (hso.2 j hj).1
        refine ⟨rfl, yesT ⟨_, rfl, b, rfl, h16, fun pb H7 s7 hp _ => ⟨pb, _, _, .int (lowN b : Nat), rfl, rfl, hp, atI_nat (j := 0) (natsV_get (vals_head b h16 h0)), cC _ _ s7 ?_⟩⟩⟩
        rw [take_snoc (show (st.sets.map lowN)[j]? = some (lowN b) by rw [List.getElem?_map, eb]; rfl), natsV_app, p]
        rfl
      · rw [natsV_len, List.take_of_length_le (by rw [List.length_map]; exact Nat.le_refl _)] at p
        subst p
        refine ⟨D, true, _, rfl, lstA e, fun _ l o hl' ho => ?_, fun z => nomatch z⟩
        obtain ⟨a1, a2, a3⟩ := frz_new (K := K) (xs := natsV (st.sets.map lowN)) hl' ho
        refine ⟨by rw [sizeLine_eq]; show 2 ≤ _; omega, fun p1 ob1 hp1 ho1 => ?_⟩
        obtain ⟨b1, b2, b3⟩ := frz_new (K := K) (xs := [V.str "row", V.ref l]) hp1 ho1
        have ss := ((s1.trans s5).trans a1).trans b1
        have hS9 := hS.same ss
        refine ⟨_, rfl, X.L 0, _, rfl, DPut.k (k := .inr "done") hS9.c0 (by rw [sizeLine_eq]; show 10 < _; omega), ?_⟩
        rw [head_done]
        have hS10 := hS9.done (.ref p1)
        have k10 := hS9.kpm (i := 0) (o := .dK (headC X (.ref p1))) (by omega)
        refine q2 _ p1 _ wt ⟨r1, r2⟩ ?_ hS10 ((Fr.of ss).trans (Fr.upd (by omega)))
        refine Pur.kp k10 (.tup b2 (.cons (.str _) (.cons (.tup (xs := natsV (st.sets.map lowN)) ((skp b1).sqT a2) ?_) .nil)))
        rw [natsV_ints]
        exact pur_ints _
end
end Bh
namespace Bh
open PySem PySem.Spec PyProof.Rows L2
section
variable {P : Program} {w : World} {K : PySem.W.Frag} {mg : Str → Option Value} {base : Heap}
/-- the proof that ends the search -/
def ProofV (K : PySem.W.Frag) (H : Hp) (v : V) (sts : List Step) : Prop := ∃ p tp, v = .ref p ∧ SqT K H p [.str "proof", .ref tp] ∧ StepsV K H tp sts
theorem ProofV.kp {H H' : Hp} {v : V} {sts : List Step} (e : Kp H H') (h : ProofV K H v sts) : ProofV K H' v sts := by
  obtain ⟨p, tp, rfl, h1, h2⟩ := h
  exact ⟨p, tp, rfl, e.sqT h1, h2.kp e⟩
theorem acc_eq {n m : Nat} {a b : MS} (h1 : a.sets = b.sets) (h2 : a.trail = b.trail) (h : acc n b.sets b.trail ≤ m) : acc n a.sets a.trail ≤ m := by
  rw [h1, h2]
  exact h
theorem bnd_eq {m n k : Nat} {a : MS} (h1 : a.steps.length ≤ n) (h2 : a.trail.length = m) (h : n + 6 * m ≤ k) : a.steps.length + 6 * a.trail.length ≤ k := by
  rw [h2]
  omega
def sp_turn_back (K : PySem.W.Frag) : Sp := fun vs H Q _ => ∃ (X : Fx) (dn : V) (st : MS) (wt : Wit) (i : Nat), vs = [.ref (X.L 0), .int (i : Nat)] ∧ IsS K H X dn st wt ∧ Tiny X.sz ∧ Base X.sz X.T st ∧ i < st.sums.length ∧ Broken (at0 st.sums i) st.sets ∧
  st.steps.length ≤ 800000 ∧ st.sums.length ≤ 800000 ∧ X.T.length ≤ st.sums.length ∧ st.queue.length + 2 * (st.sums.length + 1) ≤ sizeLine ∧
  (∀ st' H' w', Base X.sz X.T st' → ToldOk X.T st' → mu X.sz.length st'.sets st'.trail < mu X.sz.length st.sets st.trail → st'.sums.length = st.sums.length + 1 → st'.steps.length ≤ st.steps.length + 80 → st'.queue.length ≤ st.queue.length + 2 * (st.sums.length + 1) → IsS K H' X dn st' w' → Fr X H H' → Q .non H') ∧
  (∀ sts p st' H' w', RefOk X.sz X.T sts → (∀ r, ¬ Sol X.sz X.T r) → sts.length ≤ st.steps.length + 80 → ProofV K H' (.ref p) sts → IsS K H' X (.ref p) st' w' → Fr X H H' → Q .non H')
theorem sc_turn_back : FnScope ["state", "number", "place", "clause", "choice", "ahead", "reason", "gone", "far"] ["state", "number"] (defScope (topS 51)) := ⟨rfl, rfl, rfl, by decide +kernel, rfl, by decide +kernel, by decide +kernel⟩
theorem ok_turn_back (fr : Free mg) (D : DefAt K mg "turn_back" (topS 51)) (d_tops_of : OkD P w K mg base 3 "tops_of" ["state", "number"] (sp_tops_of K)) (d_clause_of_sum : OkD P w K mg base 3 "clause_of_sum" ["state", "number", "tops"] (sp_clause_of_sum K))
    (d_learn : OkD P w K mg base 2 "learn" ["state", "place", "clause", "choice"] (sp_learn K)) (d_reason_clause : OkD P w K mg base 4 "reason_clause" ["state", "number", "choice", "gone"] (sp_reason_clause K)) (d_cut_at : OkD P w K mg base 2 "cut_at" ["state", "near", "far", "choice"] (sp_cut_at K))
    (d_put_step : OkD P w K mg base 1 "put_step" ["state", "step"] (sp_put_step K)) : OkD P w K mg base 5 "turn_back" ["state", "number"] (sp_turn_back K) := by
  refine D.ok sc_turn_back (fun _ _ _ _ _ _ us hl => match us, hl with | [_, _], _ => rfl) (fun vs H Q E h => ?_) (fun f cdv A outer s H vs Q E hr h => ?_)
  · obtain ⟨X, dn, st, wt, i, rfl, _⟩ := h; rfl
  · obtain ⟨X, dn, st, wt, i, rfl, hS, hz, hb, hi, hbr, hl1, hl2, hTl, hql, q1, q2⟩ := h
    refine ⟨_, (pss_cons (ps_asg (pe_callD d_clause_of_sum (hr.mono (by decide)) (by rfl) (pa_cons (pv 0) (pa_cons (pv 1) (pa_cons (pe_callD d_tops_of (hr.mono (by decide)) (by rfl) (pa_cons (pv 0) (pa_cons (pv 1) pa_nil))) pa_nil)))) (pg_tupK (K := K) (n := 2) (by rfl) (pgs_cons (pg_name (i := 2) sc_turn_back.nd rfl (by first | exact .inl rfl | exact .inr rfl)) (pgs_cons (pg_name (i := 3) sc_turn_back.nd rfl (by first | exact .inl rfl | exact .inr rfl)) pgs_nil))))
 (pss_cons (ps_while PassesOwn.never (pt_cmpR (op_neL (hu0 hr)) (pe_dget (hu_of hr) (pv 0) pe_str (fun _ _ => rfl)) (pe_lst pa_nil) (nomark _)) (pss_cons (ps_asg (pe_bm0 PySem.F.plainAttrs_list PySem.F.slot_list_pop PySem.F.type_list_pop mt_pop (pe_dget (hu_of hr) (pv 0) pe_str (fun _ _ => rfl))) (pg_tupK (K := K) (n := 3) (by rfl) (pgs_cons (pg_name (i := 4) sc_turn_back.nd rfl (by first | exact .inl rfl | exact .inr rfl)) (pgs_cons (pg_name (i := 5) sc_turn_back.nd rfl (by first | exact .inl rfl | exact .inr rfl)) (pgs_cons (pg_name (i := 6) sc_turn_back.nd rfl (by first | exact .inl rfl | exact .inr rfl)) pgs_nil)))))
 (pss_cons (ps_set (i := 7) sc_turn_back.nd rfl (by first | exact .inl rfl | exact .inr rfl) (pe_op op_sub (pv 5) (pe_ix (ix_listK (K := K)) (pe_dget (hu_of hr) (pv 0) pe_str (fun _ _ => rfl)) (pv 4) (fun _ _ => rfl))))
 (pss_cons (ps_asg (pv 5) (pg_sub (pe_dget (hu_of hr) (pv 0) pe_str (fun _ _ => rfl)) (pv 4) set_list))
 (pss_one (ps_if (pt_cmpR op_gt (pe_op op_and (pe_dget2 (hu_of hr) (pv 3) (pv 4) pe_int ⟨by rfl, by rfl, by rfl, by rfl⟩) (pv 5)) pe_int (nomark _)) (pss_cons (ps_if (pt_cmpR op_eq (pv 6) (pe_un un_neg pe_int) (nomark _)) (pss_cons (ps_expr (pe_callD d_learn (hr.mono (by decide)) (by rfl) (pa_cons (pv 0) (pa_cons (pv 2) (pa_cons (pv 3) (pa_cons (pv 4) pa_nil))))))
 (pss_one ps_retN)) pss_nil)
 (pss_cons (ps_set (i := 8) sc_turn_back.nd rfl (by first | exact .inl rfl | exact .inr rfl) (pe_callD d_reason_clause (hr.mono (by decide)) (by rfl) (pa_cons (pv 0) (pa_cons (pv 6) (pa_cons (pv 4) (pa_cons (pv 7) pa_nil))))))
 (pss_one (ps_asg (pe_callD d_cut_at (hr.mono (by decide)) (by rfl) (pa_cons (pv 0) (pa_cons (pe_tupF (pa_cons (pv 2) (pa_cons (pv 3) pa_nil))) (pa_cons (pv 8) (pa_cons (pv 4) pa_nil))))) (pg_tupK (K := K) (n := 2) (by rfl) (pgs_cons (pg_name (i := 2) sc_turn_back.nd rfl (by first | exact .inl rfl | exact .inr rfl)) (pgs_cons (pg_name (i := 3) sc_turn_back.nd rfl (by first | exact .inl rfl | exact .inr rfl)) pgs_nil))))))) pss_nil))))))
 (pss_cons (ps_if (pt_cmpR op_ne (pv 2) (pe_op op_sub (pe_callB (cr_lenK (K := K)) (by rfl) fr.len (by decide +kernel) (pa_cons (pe_dget (hu_of hr) (pv 0) pe_str (fun _ _ => rfl)) pa_nil)) pe_int) (nomark _)) (pss_one (ps_expr (pe_callD d_put_step (hr.mono (by decide)) (by rfl) (pa_cons (pv 0) (pa_cons (pe_tupF (pa_cons pe_str (pa_cons (pv 2) pa_nil))) pa_nil))))) pss_nil)
 (pss_one (ps_dput (hu_of hr) (pv 0) pe_str (pe_tupF (pa_cons pe_str (pa_cons (pe_callTy (cr_tupK (K := K)) (by rfl) fr.tuple (by decide +kernel) (pa_cons (pe_dget (hu_of hr) (pv 0) pe_str (fun _ _ => rfl)) pa_nil)) pa_nil))) rfl))))), ?_⟩
    have hs := hb.ok _ (at0_mem hi)
    have hso := hb.setsOk hz
    refine ⟨_, rfl, _, rfl, _, rfl, _, rfl, X, dn, st, wt, i, rfl, hS, hi, hs, hso, hz, fun ta H1 s1 hta e1 => ?_⟩
    refine ⟨X, dn, st, wt, i, topF (at0 st.sums i) st.sets, ta, rfl, hS.same s1, hS.off hta, e1, hi, hs, hz, by omega, by omega, fun p d H2 w2 hS2 f2 hp ed od hd0 => ?_⟩
    obtain ⟨bi, gr⟩ := back_start hz hb hi hbr
    rw [clL_list hs] at ed
    refine ⟨p, _, rfl, hp, rfl, _, _, rfl, _, _, rfl, rfl, ?_⟩
    have f12 := (Fr.of s1).trans f2
    have htl := hb.tlen hz
    refine ⟨fun m σ H' => ∃ st1 w1 place d1 k y4 y5 y6 y7 y8, m = st1.trail.length ∧ σ = [some (.ref (X.L 0)), some (.int (i : Nat)), some (.int (place : Nat)), some (.ref d1), y4, y5, y6, y7, y8] ∧ IsS K H' X dn st1 w1 ∧ Fr X H H' ∧ BackI X.sz X.T st1 place k ∧ OffS X d1 ∧
        H' d1 = some (.dK (clK (clList X.sz.length k))) ∧ acc X.sz.length st1.sets st1.trail ≤ mu X.sz.length st.sets st.trail ∧ st1.sums = st.sums ∧ st1.queue = st.queue ∧ st1.steps.length + 6 * st1.trail.length ≤ st.steps.length + 3 + 72,
      ⟨_, _, w2, _, d, _, none, none, none, none, none, rfl, rfl, hS2, f12, bi, od, ed, by rw [gr.sets, gr.trail]; exact acc_le_mu, gr.sums, gr.queue, by have := gr.len; rw [gr.trail]; omega⟩, fun m σ H' p => ?_⟩
    obtain ⟨st1, w1, place, d1, k, y4, y5, y6, y7, y8, rfl, rfl, hS3, f3, bk, od1, ed1, hacc, esm, eqq, hst⟩ := p
    have hlts : w1.ts.length = st1.trail.length := by rw [hS3.dat.pt.1, List.length_reverse]
    refine ⟨_, rfl, _, _, rfl, hS3.dTrail, Nat.zero_le _, fun E hE => ?_⟩
    have sE := same_new (o := .lst []) hE
    have hS4 := hS3.same sE
    have ed4 := sE _ _ ed1
    have f4 := f3.trans (Fr.of sE)
    refine ⟨X.L 4, E, w1.ts, rfl, rfl, hS4.c4, upd_same, _, rfl, ?_⟩
    revert hS4 ed4 f4
    generalize (upd H' E (.lst [])) = H4
    intro hS4 ed4 f4
    cases htr : st1.trail with
    | nil =>
      have ets : w1.ts = [] := List.eq_nil_of_length_eq_zero (by rw [hlts, htr]; rfl)
      rw [ets]
      refine iteF ?_
      have hen := end_ok bk htr
      obtain ⟨_, _, hns⟩ := back_end bk htr
      have hpl := bk.pl
      have hss := hS4.dat.pp.1
      have hst1 : st1.steps.length ≤ st.steps.length + 75 := by omega
      have hge := hen.2.1.len
      dsimp only
      refine ifs_join (fun σ' H7 => ∃ w7, σ' = [some (.ref (X.L 0)), some (.int (i : Nat)), some (.int (place : Nat)), some (.ref d1), y4, y5, y6, y7, y8] ∧ IsS K H7 X dn (endM st1 place) w7 ∧ Fr X H H7) (fun σ' H7 hx => ?_) (fun nx => ?_)
      · obtain ⟨w7, rfl, hS7, f7⟩ := hx
        refine ⟨_, rfl, _, _, rfl, hS7.dSteps, X.L 5, true, w7.ss, rfl, lstA hS7.c5, fun _ l o hl' ho => ?_, fun z => nomatch z⟩
        obtain ⟨a1, a2, a3⟩ := frz_new (K := K) (xs := w7.ss) hl' ho
        refine ⟨by rw [sizeLine_eq]; show 2 ≤ _; omega, fun p1 ob1 hp1 ho1 => ?_⟩
        obtain ⟨b1, b2, b3⟩ := frz_new (K := K) (xs := [V.str "proof", V.ref l]) hp1 ho1
        have hS9 := hS7.same (a1.trans b1)
        refine ⟨_, rfl, X.L 0, _, rfl, DPut.k (k := .inr "done") hS9.c0 (by rw [sizeLine_eq]; show 10 < _; omega), ?_⟩
        rw [head_done]
        have hS10 := hS9.done (.ref p1)
        have k10 := hS9.kpm (i := 0) (o := .dK (headC X (.ref p1))) (by omega)
        exact q2 _ p1 _ _ w7 hen.1 hns (by omega) ⟨p1, l, rfl, k10.sqT b2, w7.ss, k10.sqT ((skp b1).sqT a2), (hS7.dat.pp.mono fun v s h => h.kp ((skp (a1.trans b1)).trans k10))⟩ hS10 ((f7.trans (Fr.of (a1.trans b1))).trans (Fr.upd (by omega)))
      · refine ⟨_, rfl, _, rfl, _, _, rfl, hS4.dSteps, X.L 5, true, _, rfl, lstA hS4.c5, _, _, rfl, rfl, rfl, _, rfl, ?_⟩
        rw [hss]
        by_cases hpe : place = st1.steps.length - 1
        · have ee : endM st1 place = st1 := by unfold endM; exact if_pos hpe
          rw [decide_eq_true (show V.int ((place : Nat) : Int) = V.int (((st1.steps.length : Nat) : Int) - 1) by congr 1; omega)]
          refine iteF (nx _ _ ⟨w1, rfl, ?_, f4⟩)
          rw [ee]
          exact hS4
        · have ee : endM st1 place = stepM st1 (.cap place) := by unfold endM; exact if_neg hpe
          rw [decide_eq_false (show ¬ (V.int ((place : Nat) : Int) = V.int (((st1.steps.length : Nat) : Int) - 1)) from fun z => hpe (by have := V.int.inj z; omega))]
          refine iteT ⟨_, rfl, _, rfl, by rw [sizeLine_eq]; show 2 ≤ _; omega, fun p1 ob1 hp1 ho1 => ?_⟩
          obtain ⟨b1, b2, b3⟩ := frz_new (K := K) (xs := [V.str "cap", V.int (place : Nat)]) hp1 ho1
          refine ⟨X, dn, st1, w1, .ref p1, .cap place, rfl, hS4.same b1, .tup b2 (.cons (.str _) (.cons (.int _) .nil)), by omega, fun H7 w7 hS7 _ f7 => nx _ _ ⟨w7, rfl, ?_, (f4.trans (Fr.of b1)).trans f7⟩⟩
          rw [ee]
          exact hS7
    | cons en rest =>
      obtain ⟨c, b, r⟩ := en
      have ets : w1.ts.isEmpty = false := by
        cases ht : w1.ts with
        | nil => rw [ht, htr] at hlts; cases hlts
        | cons a b => rfl
      rw [ets]
      obtain ⟨⟨v, ev, hv⟩, hS5⟩ := hS4.popTrail htr
      obtain ⟨a0, xs, rfl, hq0, hl0⟩ := hv.inv
      obtain ⟨x1, x2, x3, rfl, p1, p2, p3⟩ := hl0.three
      cases p1.intI
      cases p2.intI
      cases p3.intI
      have k5 := hS4.kpm (i := 4) (o := .lst w1.ts.dropLast) (by omega)
      have hq5 := k5.sqT hq0
      have f5 := f4.trans (Fr.upd (H := H4) (i := 4) (o := .lst w1.ts.dropLast) (by omega))
      have ed5 := (Fr.upd (H := H4) (i := 4) (o := .lst w1.ts.dropLast) (by omega)).at od1 ed4
      have hpop := bk.base.trl
      rw [htr] at hpop
      obtain ⟨s', es', h1, hc, eb, _, hsub, hne0, hneb, hwhy⟩ := hpop.pop hz
      have hsl1 : st1.sets.length = X.sz.length := (bk.base.setsOk hz).1
      have pb := pop_ok hz bk.base htr
      have hsop := pb.setsOk hz
      have eb2 : sAt (popM st1 c b rest).sets c = b := by
        show sAt (st1.sets.set c b) c = b
        rw [sAt_set (by rw [hsl1]; exact hc), if_pos rfl]
      have hb16 : b < 16 := by rw [← eb2]; exact hsop.lt16 hz hc
      have hle : sAt st1.sets c ≤ b := by
        have := Nat.and_le_left (n := b) (m := sAt st1.sets c)
        rw [sub_and hsub] at this
        exact this
      refine iteT ⟨_, fun _ _ h => h, ?_⟩
      refine ⟨_, rfl, _, _, rfl, hS4.dTrail, .inl ⟨rfl, _, lstA hS4.c4⟩, X.L 4, w1.ts, .ref a0, rfl, rfl, hS4.c4, ev, a0, _, rfl, hq5, rfl, _, _, rfl, _, _, rfl, _, _, rfl, rfl, ?_⟩
      revert hS5 f5 ed5 hq5 k5
      generalize (upd H4 (X.L 4) (.lst w1.ts.dropLast)) = H5
      intro hS5 k5 hq5 f5 ed5
      have c35 : H5 (X.L 3) = some (.lst (natsV st1.sets)) := hS5.c3
      have hc3 : c < st1.sets.length := by rw [hsl1]; exact hc
      refine ⟨_, rfl, _, rfl, _, _, rfl, hS5.dSets, _, rfl, X.L 3, _, _, _, rfl, rfl, lstA c35, atI_nat (natsV_get (sAt_get hc3)), _, _, rfl, rfl, ?_⟩
      have egone : ((b : Nat) : Int) - ((sAt st1.sets c : Nat) : Int) = ((b - sAt st1.sets c : Nat) : Int) := by omega
      dsimp only
      rw [egone]
      refine ⟨_, rfl, _, rfl, _, _, rfl, hS5.dSets, _, rfl, X.L 3, natsV st1.sets, (c : Int), c, rfl, rfl, c35, ixN_at (by rw [natsV_len]; exact hc3), ?_⟩
      have e3 : (natsV st1.sets).set c (.int (b : Nat)) = natsV (st1.sets.set c b) := by
        unfold natsV
        rw [List.map_set]
      rw [e3]
      have hS6 : IsS K (upd H5 (X.L 3) (.lst (natsV (st1.sets.set c b)))) X dn (popM st1 c b rest) { w1 with ts := w1.ts.dropLast } := hS5.setSets (st1.sets.set c b)
      have f6 := f5.trans (Fr.upd (H := H5) (i := 3) (o := .lst (natsV (st1.sets.set c b))) (by omega))
      have ed6 := (Fr.upd (H := H5) (i := 3) (o := .lst (natsV (st1.sets.set c b))) (by omega)).at od1 ed5
      revert hS6 f6 ed6
      generalize (upd H5 (X.L 3) (.lst (natsV (st1.sets.set c b)))) = H6
      intro hS6 f6 ed6
      have vget : (valV (clK (clList X.sz.length k)) (.inl ((c : Nat) : Int))).getD (V.int 0) = V.int ((k c : Nat) : Int) := by
        rw [clK_get hc]
        by_cases h0 : k c = 0
        · rw [if_pos h0, h0]; rfl
        · rw [if_neg h0]; rfl
      have hkc16 := lt16 (hz.le c) (bk.lt c hc)
      refine ⟨_, rfl, d1, rfl, .inl ⟨_, .inl ed6⟩, _, rfl, _, DGet.k (k := .inl ((c : Nat) : Int)) ed6, ?_⟩
      rw [vget]
      refine ⟨_, rfl, _, _, rfl, rfl, _, _, rfl, rfl, _, rfl, ?_⟩
      dsimp only
      rw [int_and16 _ hkc16 _ hb16]
      have hlr : rest.length + 1 = st1.trail.length := by rw [htr]; rfl
      have hacc2 : acc X.sz.length (popM st1 c b rest).sets (popM st1 c b rest).trail ≤ mu X.sz.length st.sets st.trail := by
        rw [htr] at hacc
        exact Nat.le_trans acc_pop hacc
      by_cases h0 : k c &&& b = 0
      · rw [h0, decide_eq_false (by decide)]
        exact iteF ⟨rest.length, Nat.lt_succ_self _, popM st1 c b rest, _, place, d1, k, _, _, _, _, _, rfl, rfl, hS6, f6, back_skip hz bk htr h0, od1, ed6, hacc2, esm, eqq, by show st1.steps.length + 6 * rest.length ≤ _; omega⟩
      · rw [decide_eq_true (by omega)]
        refine iteT ⟨_, rfl, _, rfl, rfl, _, rfl, ?_⟩
        rcases hwhy with ⟨hr1, _⟩ | ⟨i', hr1, hi', u, hlu, _, _⟩
        · subst hr1
          rw [decide_eq_true rfl]
          obtain ⟨lb, lt, _⟩ := learn_ok hz bk htr h0
          have hmu := mu_learn hz bk htr h0
          have hkc : k c ≠ 0 := fun z => h0 (by rw [z]; exact Nat.zero_and _)
          have hpil : ∀ e, e < X.sz.length → ((popM st1 c b rest).index.getD e []).length ≤ (popM st1 c b rest).sums.length := fun e he => pb.ilen he
          have hsums : (popM st1 c b rest).sums = st.sums := esm
          have hqueue : (popM st1 c b rest).queue = st.queue := eqq
          refine iteT ⟨_, rfl, _, rfl, _, rfl, _, rfl, X, dn, popM st1 c b rest, _, place, c, d1, k, rfl, hS6, od1, ed6, bk.lt, hz, hc, hkc, by rw [eb2]; exact hb16, hsop.1, by rw [hsums]; exact hTl, by rw [hsums]; omega, by show st1.steps.length ≤ _; omega, Nat.le_trans (pb.tlen hz) (by decide), hpil, by rw [hsums, hqueue]; exact hql, fun H7 w7 hS7 f7 => ?_⟩
          have hq7 : (learnM X.sz X.T (popM st1 c b rest) place k c).queue.length ≤ st.queue.length + 2 * (st.sums.length + 1) := by
            show ((st1.queue ++ (List.range (st1.sums.length + 1 - X.T.length)).map (X.T.length + ·)) ++ ((List.range X.sz.length).map fun c => st1.index.getD c [] ++ (if k c = 0 then [] else [st1.sums.length])).getD c []).length ≤ _
            rw [getD_range hc, if_neg hkc, List.length_append, List.length_append, List.length_append, List.length_map, List.length_range, eqq, esm]
            have := bk.base.ilen hc
            rw [esm] at this
            show st.queue.length + (st.sums.length + 1 - X.T.length) + ((st1.index.getD c []).length + 1) ≤ _
            omega
          refine q1 _ H7 w7 lb lt (Nat.lt_of_lt_of_le hmu hacc) ?_ ?_ hq7 hS7 (f6.trans f7)
          · show (st1.sums ++ [_]).length = _
            rw [List.length_append, esm]
            rfl
          · show st1.steps.length ≤ _
            omega
        · subst hr1
          rw [decide_eq_false (by intro z; have := V.int.inj z; omega)]
          obtain ⟨b1, b2, b3, b4, b5⟩ := back_cut hz bk htr h0 hlu
          obtain ⟨b5, b6, b7, b8, b9⟩ := b5
          have hsp := pb.ok _ (at0_mem b1)
          have hsums : (popM st1 c b rest).sums = st.sums := esm
          have hrl : rest.length ≤ 12 := pb.tlen hz
          refine iteF ⟨_, rfl, _, rfl, _, rfl, _, rfl, X, dn, popM st1 c b rest, _, i', c, b - sAt st1.sets c, u, rfl, hS6, b1, hsp, hsop, hz, hlu, b2, b3, by show st1.steps.length ≤ _; omega, by rw [hsums]; omega, fun pf df H7 w7 hS7 f7 hpf edf odf hdf0 => ?_⟩
          have edf : H7 df = some (.dK (clK (clL (at0 st1.sums i') (goneTf (at0 st1.sums i') (st1.sets.set c b) c u (b - sAt st1.sets c))))) := edf
          rw [clL_list (show SumOk X.sz (at0 st1.sums i') from hsp)] at edf
          have ed7 := f7.at od1 ed6
          have f67 := f6.trans f7
          have hg7 := b7.len
          have hps : (popM st1 c b rest).steps.length = st1.steps.length := rfl
          refine ⟨_, rfl, _, rfl, _, rfl, by rw [sizeLine_eq]; show 2 ≤ _; omega, fun p1 ob1 hp1 ho1 => ?_⟩
          obtain ⟨v1, v2, v3⟩ := frz_new (K := K) (xs := [V.int (place : Nat), V.ref d1]) hp1 ho1
          have hsum7 : (clauseM (popM st1 c b rest) i' (goneTf (at0 st1.sums i') (st1.sets.set c b) c u (b - sAt st1.sets c))).2.sums = st.sums := b7.sums.trans hsums
          refine ⟨_, rfl, _, rfl, X, dn, _, w7, p1, pf, d1, df, place, _, c, k, _, rfl, hS7.same v1, v2, (skp v1).sqT hpf, od1, odf, v1 _ _ ed7, v1 _ _ edf, b5, b6, hz, ?_, ?_, fun p2 d2 H8 w8 hS8 f8 hp2 ed8 od2 hd2 => ?_⟩
          · show (clauseM (popM st1 c b rest) i' (goneTf (at0 st1.sums i') (st1.sets.set c b) c u (b - sAt st1.sets c))).2.steps.length ≤ _
            omega
          · show (clauseM (popM st1 c b rest) i' (goneTf (at0 st1.sums i') (st1.sets.set c b) c u (b - sAt st1.sets c))).2.sums.length ≤ _
            rw [hsum7]
            omega
          · have hg8 := b8.len
            refine ⟨p2, _, rfl, hp2, rfl, _, _, rfl, _, _, rfl, rfl, ?_⟩
            refine ⟨rest.length, Nat.lt_succ_self _, _, w8, _, d2, _, some (.int (c : Nat)), some (.int (b : Nat)), some (.int (i' : Int)), some (.int (b - sAt st1.sets c : Nat)), some (.ref pf), ?_, rfl, hS8, (f67.trans (Fr.of v1)).trans f8, b9, od2, ed8, ?_, ?_, ?_, ?_⟩
            · exact (congrArg List.length (b8.trail.trans b7.trail)).symm
            · exact acc_eq (b8.sets.trans b7.sets) (b8.trail.trans b7.trail) hacc2
            · exact b8.sums.trans hsum7
            · exact (b8.queue.trans b7.queue).trans eqq
            · exact bnd_eq (Nat.le_trans hg8.2 (Nat.add_le_add_right hg7.2 3)) (congrArg List.length (b8.trail.trans b7.trail)) (by show st1.steps.length + 3 + 3 + 6 * rest.length ≤ _; omega)
end
end Bh
namespace Bh
open PySem PySem.Spec PyProof.Rows L2
def withQ (st : MS) (q : List Nat) : MS := { st with queue := q }
theorem Base.withQ {sz : List Nat} {T : Sums} {st : MS} {q : List Nat} (h : Base sz T st) (hq : ∀ i ∈ q, i < st.sums.length) : Base sz T (withQ st q) := ⟨h.pre, h.ok, h.small, h.imp, h.good, h.plc, h.lrn, h.idl, h.idx, hq, h.trl⟩
section
variable {P : Program} {w : World} {K : PySem.W.Frag} {mg : Str → Option Value} {base : Heap}
def sp_advance (K : PySem.W.Frag) : Sp := fun vs H Q _ => ∃ (X : Fx) (st : MS) (wt : Wit), vs = [.ref (X.L 0)] ∧ IsS K H X .non st wt ∧ Tiny X.sz ∧ Base X.sz X.T st ∧ ToldOk X.T st ∧
  st.steps.length ≤ 800000 ∧ st.sums.length ≤ 800000 ∧ X.T.length ≤ st.sums.length ∧ st.queue.length + 5 * (st.sums.length + 1) ≤ sizeLine ∧
  (∀ st' H' w', Base X.sz X.T st' → ToldOk X.T st' → mu X.sz.length st'.sets st'.trail < mu X.sz.length st.sets st.trail → st'.sums.length ≤ st.sums.length + 1 → st'.steps.length ≤ st.steps.length + 80 → st'.queue.length ≤ st.queue.length + 4 * (st.sums.length + 1) → X.T.length ≤ st'.sums.length → IsS K H' X .non st' w' → Fr X H H' → Q .non H') ∧
  (∀ r p st' H' w', LeastRow X.sz X.T r → RowV K H' (.ref p) r → IsS K H' X (.ref p) st' w' → Fr X H H' → Q .non H') ∧
  (∀ sts p st' H' w', RefOk X.sz X.T sts → (∀ r, ¬ Sol X.sz X.T r) → sts.length ≤ st.steps.length + 80 → ProofV K H' (.ref p) sts → IsS K H' X (.ref p) st' w' → Fr X H H' → Q .non H')
theorem sc_advance : FnScope ["state", "number", "many"] ["state"] (defScope (topS 53)) := ⟨rfl, rfl, rfl, by decide +kernel, rfl, by decide +kernel, by decide +kernel⟩
theorem ok_advance (fr : Free mg) (D : DefAt K mg "advance" (topS 53)) (d_look : OkD P w K mg base 4 "look" ["state", "number"] (sp_look K)) (d_turn_back : OkD P w K mg base 5 "turn_back" ["state", "number"] (sp_turn_back K))
    (d_decide : OkD P w K mg base 2 "decide" ["state"] (sp_decide K)) : OkD P w K mg base 6 "advance" ["state"] (sp_advance K) := by
  refine D.ok sc_advance (fun _ _ _ _ _ _ us hl => match us, hl with | [_], _ => rfl) (fun vs H Q E h => ?_) (fun f cdv A outer s H vs Q E hr h => ?_)
  · obtain ⟨X, st, wt, rfl, _⟩ := h; rfl
  · obtain ⟨X, st, wt, rfl, hS, hz, hb, htold, hl1, hl2, hTl, hql, q1, q2, q3⟩ := h
    refine ⟨_, (pss_cons (ps_while PassesOwn.never (pt_cmpR (op_neL (hu0 hr)) (pe_dget (hu_of hr) (pv 0) pe_str (fun _ _ => rfl)) (pe_lst pa_nil) (nomark _)) (pss_cons (ps_par (i := 1) (j := 2) (by rfl) sc_advance.nd rfl rfl (by decide) rfl rfl (pa_cons (pe_bm0 PySem.F.plainAttrs_list PySem.F.slot_list_pop PySem.F.type_list_pop mt_pop (pe_dget (hu_of hr) (pv 0) pe_str (fun _ _ => rfl))) (pa_cons (pe_callB (cr_lenK (K := K)) (by rfl) fr.len (by decide +kernel) (pa_cons (pe_dget (hu_of hr) (pv 0) pe_str (fun _ _ => rfl)) pa_nil)) pa_nil)) (by rfl))
 (pss_cons (ps_if (pt_not (pt_val (pe_callD d_look (hr.mono (by decide)) (by rfl) (pa_cons (pv 0) (pa_cons (pv 1) pa_nil))))) (pss_cons (ps_expr (pe_callD d_turn_back (hr.mono (by decide)) (by rfl) (pa_cons (pv 0) (pa_cons (pv 1) pa_nil))))
 (pss_one ps_retN)) pss_nil)
 (pss_one (ps_if (pt_cmpR op_gt (pe_callB (cr_lenK (K := K)) (by rfl) fr.len (by decide +kernel) (pa_cons (pe_dget (hu_of hr) (pv 0) pe_str (fun _ _ => rfl)) pa_nil)) (pv 2) (nomark _)) (pss_one ps_retN) pss_nil)))))
 (pss_one (ps_expr (pe_callD d_decide (hr.mono (by decide)) (by rfl) (pa_cons (pv 0) pa_nil))))), ?_⟩
    refine ⟨fun m σ H' => ∃ q w1 y1 y2, m = q.length ∧ σ = [some (.ref (X.L 0)), y1, y2] ∧ IsS K H' X .non (withQ st q) w1 ∧ Fr X H H' ∧ ToldOk X.T (withQ st q) ∧ (∀ i ∈ q, i < st.sums.length) ∧ q.length ≤ st.queue.length, ⟨_, st.queue, wt, none, none, rfl, rfl, hS, Fr.refl H, htold, hb.que, Nat.le_refl _⟩, fun m σ H' p => ?_⟩
    obtain ⟨q, w1, y1, y2, rfl, rfl, hS1, f1, ht1, hq1, hlq⟩ := p
    have c7 : H' (X.L 7) = some (.lst (natsV q)) := hS1.c7
    refine ⟨_, rfl, _, _, rfl, hS1.dQueue, Nat.zero_le _, fun E hE => ?_⟩
    have sE := same_new (o := .lst []) hE
    have hS2 := hS1.same sE
    have c72 := sE _ _ c7
    have f2 := f1.trans (Fr.of sE)
    refine ⟨X.L 7, E, natsV q, rfl, rfl, c72, upd_same, _, rfl, ?_⟩
    revert hS2 c72 f2
    generalize (upd H' E (.lst [])) = H2
    intro hS2 c72 f2
    have hbq := hb.withQ hq1
    by_cases hqe : q = []
    · subst hqe
      refine iteF ⟨_, rfl, X, .non, withQ st [], w1, rfl, hS2, hz, hbq, ht1, rfl, by rw [sizeLine_eq]; show st.sums.length ≤ _; omega, ?_, ?_⟩
      · intro st' H3 w3 b1 b2 b3 b4 b5 b6 b7 b8
        have b4 : st'.sums = st.sums := b4
        have b5 : st'.steps = st.steps := b5
        have b6 : st'.queue.length ≤ st.sums.length := b6
        exact q1 st' H3 w3 b1 b2 b3 (by rw [b4]; omega) (by rw [b5]; omega) (by omega) (by rw [b4]; exact hTl) b7 (f2.trans b8)
      · intro r p H3 w3 b1 b2 b3 b4
        exact q2 r p _ H3 w3 b1 b2 b3 (f2.trans b4)
    · obtain ⟨q', i, rfl⟩ : ∃ q' i, q = q' ++ [i] := ⟨q.dropLast, q.getLast hqe, (List.dropLast_concat_getLast hqe).symm⟩
      have hne : (natsV (q' ++ [i])).isEmpty = false := by
        rw [natsV_app]
        cases natsV q' <;> rfl
      rw [hne]
      have hlen1 : (natsV (q' ++ [i])).length - 1 = q'.length := by rw [natsV_len, List.length_append]; exact Nat.add_sub_cancel q'.length 1
      have hlast : (natsV (q' ++ [i]))[(natsV (q' ++ [i])).length - 1]? = some (.int (i : Nat)) := by
        rw [hlen1]
        refine natsV_get ?_
        rw [List.getElem?_append_right (Nat.le_refl _), Nat.sub_self]
        rfl
      have hdrop : (natsV (q' ++ [i])).dropLast = natsV q' := by
        rw [natsV_app]
        exact List.dropLast_concat
      refine iteT ⟨_, fun _ _ h => h, ?_⟩
      refine ⟨_, rfl, _, _, rfl, hS2.dQueue, .inl ⟨rfl, _, lstA c72⟩, X.L 7, natsV (q' ++ [i]), .int (i : Nat), rfl, rfl, c72, hlast, ?_⟩
      rw [hdrop]
      have hS3 : IsS K (upd H2 (X.L 7) (.lst (natsV q'))) X .non (withQ st q') w1 := hS2.setQueue q'
      have f3 := f2.trans (Fr.upd (H := H2) (i := 7) (o := .lst (natsV q')) (by omega))
      revert hS3 f3
      generalize (upd H2 (X.L 7) (.lst (natsV q'))) = H3
      intro hS3 f3
      have hts : w1.ts.length = st.trail.length := by rw [hS3.dat.pt.1, List.length_reverse]; rfl
      refine ⟨_, rfl, _, _, rfl, hS3.dTrail, X.L 4, true, w1.ts, rfl, lstA hS3.c4, _, _, rfl, ?_⟩
      have hi : i < st.sums.length := hq1 i (List.mem_append_right _ (List.mem_singleton.mpr rfl))
      have hq1' : ∀ i ∈ q', i < st.sums.length := fun x hx => hq1 x (List.mem_append_left _ hx)
      have hb3 := hb.withQ hq1'
      have hlq' : q'.length + 1 ≤ st.queue.length := by rw [List.length_append] at hlq; exact hlq
      have htold3 : ¬ Broken (at0 (withQ st q').sums i) (withQ st q').sets → ToldOk X.T (withQ st q') := fun hnb x hx => by
        rcases ht1 x hx with h1 | h1
        · have h1 : x ∈ q' ++ [i] := h1
          rcases List.mem_append.mp h1 with h1 | h1
          · exact .inl h1
          · rw [List.mem_singleton] at h1
            subst h1
            refine .inr ?_
            rw [← (hb.told hx).1]
            exact hnb
        · exact .inr h1
      refine ⟨_, rfl, _, rfl, X, .non, withQ st q', w1, i, rfl, hS3, hz, hb3, hi, htold3, by show q'.length + 5 * st.sums.length ≤ _; omega, fun hbr H4 s4 => ?_, fun hnb st' H4 w4 hL hS4 f4 => ?_⟩
      · refine ⟨false, rfl, iteT ?_⟩
        refine ⟨_, rfl, _, rfl, X, .non, withQ st q', w1, i, rfl, hS3.same s4, hz, hb3, hi, hbr, hl1, hl2, hTl, by show q'.length + 2 * (st.sums.length + 1) ≤ _; omega, ?_, ?_⟩
        · intro st' H5 w5 b1 b2 b3 b4 b5 b6 b7 b8
          have b4 : st'.sums.length = st.sums.length + 1 := b4
          have b6 : st'.queue.length ≤ q'.length + 2 * (st.sums.length + 1) := b6
          exact q1 st' H5 w5 b1 b2 b3 (by omega) b5 (by omega) (by omega) b7 ((f3.trans (Fr.of s4)).trans b8)
        · intro sts p st' H5 w5 b1 b2 b3 b4 b5 b6
          exact q3 sts p st' H5 w5 b1 b2 b3 b4 b5 ((f3.trans (Fr.of s4)).trans b6)
      · refine ⟨true, rfl, iteF ?_⟩
        have hts4 : w4.ts.length = st'.trail.length := by rw [hS4.dat.pt.1, List.length_reverse]
        refine ⟨_, rfl, _, _, rfl, hS4.dTrail, X.L 4, true, w4.ts, rfl, lstA hS4.c4, _, rfl, _, _, rfl, rfl, _, rfl, ?_⟩
        rw [hts, hts4]
        rcases hL.go with hst | ⟨hmu, htr⟩
        · subst hst
          rw [decide_eq_false (by show ¬ ((st.trail.length : Nat) : Int) < ((st.trail.length : Nat) : Int); omega)]
          exact iteF ⟨q'.length, by rw [List.length_append]; exact Nat.lt_succ_self _, q', w4, _, _, rfl, rfl, hS4, f3.trans f4, htold3 hnb, hq1', by omega⟩
        · have htr : st.trail.length < st'.trail.length := htr
          rw [decide_eq_true (by omega)]
          have hsu : st'.sums = st.sums := hL.sums
          have hste : st'.steps = st.steps := hL.steps
          have hque : st'.queue.length ≤ q'.length + (at0 st.sums i).1.length * st.sums.length := hL.que
          have h4 : (at0 st.sums i).1.length * st.sums.length ≤ 4 * st.sums.length := Nat.mul_le_mul_right _ (Nat.le_trans (hb.ok _ (at0_mem hi)).1.len hz.1)
          exact iteT (q1 st' H4 w4 hL.base hL.told hmu (by rw [hsu]; omega) (by rw [hste]; omega) (by omega) (by rw [hsu]; exact hTl) hS4 (f3.trans f4))
end
end Bh
namespace Bh
/-! ### the state at the beginning -/
def firstIdx (T : Sums) (j : Nat) (c : Nat) : List Nat := (List.range j).filter fun i => (look (at0 T i).1 c).isSome
def begunM (sz : List Nat) (T : Sums) : MS :=
  { sums := T, index := (List.range sz.length).map fun c => firstIdx T T.length c, sets := sz.map fun n => 2 ^ n - 1, trail := [], steps := [], places := fun _ => none, queue := List.range T.length }
def Small (T : Sums) : Prop := ∀ s ∈ T, s.2 ≤ 1000 ∧ ∀ t ∈ s.1, lmax t.2 ≤ 1000
theorem begun_base {sz : List Nat} {T : Sums} (h : ∀ s ∈ T, SumOk sz s) (hs : Small T) : Base sz T (begunM sz T) := by
  refine ⟨⟨[], (List.append_nil T).symm⟩, h, hs, fun s hm r hr => hr.2 s hm, .nil, (fun i j e => by cases e), fun i h1 h2 => absurd h2 (Nat.not_lt.mpr h1), ?_, fun c l e => ?_, fun i hi => List.mem_range.mp hi, .nil⟩
  · show ((List.range sz.length).map _).length = _
    rw [List.length_map, List.length_range]
  · have e : ((List.range sz.length).map fun c => firstIdx T T.length c)[c]? = some l := e
    rw [List.getElem?_map] at e
    obtain ⟨c', ec, el⟩ := Option.map_eq_some_iff.mp e
    have hc := (List.getElem?_eq_some_iff.mp ec).1
    rw [List.length_range] at hc
    rw [List.getElem?_range hc] at ec
    injection ec with ec
    subst ec el
    refine ⟨Nat.le_trans (List.length_filter_le _ _) (by rw [List.length_range]; exact Nat.le_refl _), fun i => ?_⟩
    unfold firstIdx
    rw [List.mem_filter, List.mem_range]
    refine and_congr_right fun _ => ?_
    rw [Option.isSome_iff_ne_none]
    exact Iff.rfl
theorem begun_told (sz : List Nat) (T : Sums) : ToldOk T (begunM sz T) := fun i hi => .inl (List.mem_range.mpr hi)
theorem firstIdx_succ {T : Sums} {j c : Nat} : firstIdx T (j + 1) c = firstIdx T j c ++ (if (look (at0 T j).1 c).isSome = true then [j] else []) := by
  unfold firstIdx
  rw [List.range_succ, List.filter_append]
  congr 1
  by_cases h : (look (at0 T j).1 c).isSome = true
  · rw [if_pos h, List.filter_cons, if_pos h]; rfl
  · rw [if_neg h, List.filter_cons, if_neg h]; rfl
theorem mem_fst {ts : Terms} {c : Nat} : c ∈ ts.map (·.1) ↔ (look ts c).isSome = true := by
  rw [Option.isSome_iff_ne_none]
  constructor
  · intro h z
    obtain ⟨t, ht, e⟩ := List.mem_map.mp h
    exact look_none z ht e
  · intro h
    cases hl : look ts c with
    | none => exact absurd hl h
    | some w => exact List.mem_map.mpr ⟨(c, w), look_some hl, rfl⟩
theorem firstIdx_len (T : Sums) (j c : Nat) : (firstIdx T j c).length ≤ j := Nat.le_trans (List.length_filter_le _ _) (by rw [List.length_range]; exact Nat.le_refl _)
end Bh
namespace Bh
open PySem PySem.Spec PyProof.Rows L2
def posL : Nat → Nat
  | 0 => 6
  | 1 => 5
  | 2 => 7
  | 3 => 4
  | 4 => 3
  | 5 => 2
  | 6 => 1
  | 7 => 0
  | c + 8 => c + 8
theorem posL_inj (i j : Nat) (h : posL i = posL j) : i = j := by
  unfold posL at h
  split at h <;> split at h <;> omega
theorem posL_lt {n i : Nat} (h : i < n + 8) : posL i < n + 8 := by
  unfold posL
  split <;> omega
theorem getD_inj {l : List Addr} (h : l.Nodup) {i j : Nat} (hi : i < l.length) (hj : j < l.length) (e : l.getD i 0 = l.getD j 0) : i = j := by
  rw [List.getD_eq_getElem?_getD, List.getD_eq_getElem?_getD, List.getElem?_eq_getElem hi, List.getElem?_eq_getElem hj] at e
  exact (List.getElem_inj h).mp e
/-- all of the places are bound -/
def Bd (H : Hp) (l : List Addr) : Prop := ∀ a ∈ l, H a ≠ none
theorem Bd.same {H H' : Hp} {l : List Addr} (s : Same H H') (h : Bd H l) : Bd H' l := fun a ha z => by
  cases e : H a with
  | none => exact h a ha e
  | some u => have := s _ _ e; rw [z] at this; cases this
theorem Bd.new {H : Hp} {l : List Addr} {p : Addr} {o : HO} (h : Bd H l) (nd : l.Nodup) (hp : H p = none) : Bd (upd H p o) (p :: l) ∧ (p :: l).Nodup := by
  refine ⟨fun a ha => ?_, List.nodup_cons.mpr ⟨fun z => h p z hp, nd⟩⟩
  rcases List.mem_cons.mp ha with rfl | ha
  · rw [upd_same]; exact Option.some_ne_none _
  · exact (h.same (same_new hp)) a ha
section
variable {P : Program} {w : World} {K : PySem.W.Frag} {mg : Str → Option Value} {base : Heap}
def sp_begun (K : PySem.W.Frag) : Sp := fun vs H Q _ => ∃ (zv : V) (sz : List Nat) (sa fa : Addr) (xs : List V) (T : Sums), vs = [zv, .ref sa, .ref fa] ∧ Pur K H zv (dSizes sz) ∧ Tiny sz ∧ SqT K H sa xs ∧ A2 (fun v s => Pur K H v (dSum s)) xs T ∧ (∀ s ∈ T, SumOk sz s) ∧ T.length ≤ 1000 ∧ SqT K H fa [] ∧
  ∀ (X : Fx) (H' : Hp) (w' : Wit), X.sz = sz → X.T = T → IsS K H' X .non (begunM sz T) w' → Same H H' → (∀ i, i < sz.length + 8 → H (X.L i) = none) → Q (.ref (X.L 0)) H'
theorem sc_begun : FnScope ["sizes", "sums", "fixed", "index", "size", "number", "line", "choice", "weights"] ["sizes", "sums", "fixed"] (defScope (topS 40)) := ⟨rfl, rfl, rfl, by decide +kernel, rfl, by decide +kernel, by decide +kernel⟩
theorem ok_begun (fr : Free mg) (D : DefAt K mg "begun" (topS 40)) (d_first_sets : OkD P w K mg base 2 "first_sets" ["sizes", "fixed"] (sp_first_sets K)) : OkD P w K mg base 3 "begun" ["sizes", "sums", "fixed"] (sp_begun K) := by
  refine D.ok sc_begun (fun _ _ _ _ _ _ us hl => match us, hl with | [_, _, _], _ => rfl) (fun vs H Q E h => ?_) (fun f cdv A outer s H vs Q E hr h => ?_)
  · obtain ⟨zv, sz, sa, fa, xs, T, rfl, _⟩ := h; rfl
  · obtain ⟨zv, sz, sa, fa, xs, T, rfl, hzv, hz, hsa, hxs, hok, hTl, hfa, q⟩ := h
    refine ⟨_, (pss_cons (ps_setLc (i := 3) (own := [("size", 4)]) rfl sc_begun.nd rfl rfl (sw_true rfl rfl rfl (by decide +kernel)) (pi_seqK (K := K) (pv 0)) (blkOk_by (by kernel_rfl)) (fun _ _ _ _ _ => (pg_name (i := 4) sc_begun.nd rfl (by first | exact .inl rfl | exact .inr rfl))) (fun _ _ _ _ _ => pts_nil) (fun _ _ _ _ _ => (pe_lst pa_nil)))
 (pss_cons (ps_for PassesOwn.never rfl (pi_enumK (K := K) (by rfl) fr.enumerate (pa_cons (pv 1) pa_nil)) (pg_tupK (K := K) (n := 2) (by rfl) (pgs_cons (pg_name (i := 5) sc_begun.nd rfl (by first | exact .inl rfl | exact .inr rfl)) (pgs_cons (pg_name (i := 6) sc_begun.nd rfl (by first | exact .inl rfl | exact .inr rfl)) pgs_nil))) (pss_one (ps_for PassesOwn.never rfl (pi_seqK (K := K) (pe_ix (ix_tupK (K := K)) (pv 6) pe_int (fun _ _ => rfl))) (pg_tupK (K := K) (n := 2) (by rfl) (pgs_cons (pg_name (i := 7) sc_begun.nd rfl (by first | exact .inl rfl | exact .inr rfl)) (pgs_cons (pg_name (i := 8) sc_begun.nd rfl (by first | exact .inl rfl | exact .inr rfl)) pgs_nil))) (pss_one (ps_expr (pe_bm PySem.F.plainAttrs_list PySem.F.slot_list_append PySem.F.type_list_append mt_append (pe_ix (ix_listK (K := K)) (pv 3) (pv 7) (fun _ _ => rfl)) (pa_cons (pv 5) pa_nil)))))))
 (pss_one (ps_ret (pe_disp (pps_cons pe_str (pv 0) (pps_cons pe_str (pe_callTy call_list_of (by rfl) fr.list (by decide +kernel) (pa_cons (pv 1) pa_nil)) (pps_cons pe_str (pe_callB (cr_lenK (K := K)) (by rfl) fr.len (by decide +kernel) (pa_cons (pv 1) pa_nil)) (pps_cons pe_str (pv 3) (pps_cons pe_str (pe_callD d_first_sets (hr.mono (by decide)) (by rfl) (pa_cons (pv 0) (pa_cons (pv 2) pa_nil))) (pps_cons pe_str (pe_lst pa_nil) (pps_cons pe_str (pe_lst pa_nil) (pps_cons pe_str pe_dnewK (pps_cons pe_str (pe_listRg rfl (by rfl) fr.list (prg_1 (by rfl) fr.range (pe_callB (cr_lenK (K := K)) (by rfl) fr.len (by decide +kernel) (pa_cons (pv 1) pa_nil)))) (pps_cons pe_str pe_non pps_nil)))))))))) (by rfl) (by rfl) (fun z => by cases z) (by decide)))))), ?_⟩
    obtain ⟨za, rfl, hza⟩ := pSizes hzv
    have hn4 := hz.1
    refine ⟨_, rfl, za, false, rfl, ⟨_, hza⟩, fun D hD => ?_⟩
    refine lc_gen2 (walk_seq (k := false) (xs := szV sz)) (by rw [szV_len]; omega) hD (fun H' s => sq_same (k := false) s hza) (fun i acc H' => ∃ fs : List Addr, acc = fs.map V.ref ∧ fs.length = i ∧ fs.Nodup ∧ ∀ a ∈ fs, H' a = some (.lst []) ∧ a ≠ D ∧ H a = none) (fun i acc H' ys zs e p => ?_) (fun _ => ⟨[], rfl, rfl, .nil, fun a h => nomatch h⟩) (fun i x H1 H2 acc C N hi s1 eD p y cC cN => ?_) (fun acc H1 s1 e l p => ?_)
    · obtain ⟨fs, h1, h2, h3, h4⟩ := p
      exact ⟨fs, h1, h2, h3, fun a ha => ⟨(upd_ne (h4 a ha).2.1).trans (h4 a ha).1, (h4 a ha).2.1, (h4 a ha).2.2⟩⟩
    · obtain ⟨fs, h1, h2, h3, h4⟩ := p
      obtain ⟨rfl, ex⟩ := y
      refine ⟨rfl, yesT ⟨Nat.zero_le _, fun pn hpn => cC _ _ (same_new hpn) ⟨fs ++ [pn], ?_, ?_, ?_, fun a ha => ?_⟩⟩⟩
      · rw [h1, List.map_append]; rfl
      · rw [List.length_append, h2]; rfl
      · rw [List.nodup_append]
        refine ⟨h3, by simp, fun a ha b hb z => ?_⟩
        rw [List.mem_singleton] at hb
        subst hb
        subst z
        rw [(h4 a ha).1] at hpn
        cases hpn
      · rcases List.mem_append.mp ha with ha | ha
        · exact ⟨(same_new hpn) _ _ (h4 a ha).1, (h4 a ha).2⟩
        · rw [List.mem_singleton] at ha
          subst ha
          refine ⟨upd_same, ?_, ?_⟩
          · intro z
            subst z
            rw [eD] at hpn
            cases hpn
          · cases e : H a with
            | none => rfl
            | some u => have := s1 _ _ e; rw [hpn] at this; cases this
    · rw [szV_len] at p
      obtain ⟨fs, rfl, hfl, hnd, hfs⟩ := p
      have fget : ∀ c, c < sz.length → fs[c]? = some (fs.getD c 0) ∧ fs.getD c 0 ∈ fs := fun c hc => by
        have h1 : c < fs.length := by omega
        have : fs[c]? = some (fs.getD c 0) := by rw [List.getD_eq_getElem?_getD, List.getElem?_eq_getElem h1]; rfl
        exact ⟨this, List.mem_of_getElem? this⟩
      refine ⟨_, rfl, sa, false, xs, rfl, (skp s1).sqT hsa, ?_⟩
      refine for_it (walk_enumB (k := false) (xs := xs)) (fun j σ H' => ∃ y4 y5 y6 y7 y8, σ = [some (.ref za), some (.ref sa), some (.ref fa), some (.ref D), y4, y5, y6, y7, y8] ∧ Same H H' ∧ H' D = some (.lst (fs.map V.ref)) ∧ ∀ c, c < sz.length → H' (fs.getD c 0) = some (.lst (natsV (firstIdx T j c))))
        ⟨none, none, none, none, none, rfl, s1, e, fun c hc => (hfs _ (fget c hc).2).1⟩ (fun j σ H' _ p => ?_) (fun j x σ H3 H4 hj p y => ?_) (fun σ H' p => ?_)
      · obtain ⟨_, _, _, _, _, _, s2, _⟩ := p
        exact (skp s2).sqT hsa
      · obtain ⟨y4, y5, y6, y7, y8, rfl, s3, e3, hidx⟩ := p
        obtain ⟨T1, x1, x2, rfl, hT1, s4, eT1, g1, g2⟩ := same_pair y
        cases g1
        obtain ⟨ps, eps, hps⟩ := hxs.getL g2
        have hjl : j < T.length := hxs.1 ▸ hj
        have eat : at0 T j = ps := by
          have := at0_get hjl
          rw [eps] at this
          injection this with this
          exact this.symm
        have hsok := hok ps (List.mem_of_getElem? eps)
        obtain ⟨b, tt, rfl, hb, htt⟩ := pSum hps
        obtain ⟨t, us, rfl, ht, hul, hus⟩ := pTerms htt
        have s34 := s3.trans s4
        refine ⟨T1, _, rfl, .inl (.inl eT1), rfl, _, _, rfl, _, _, rfl, rfl, ?_⟩
        refine ⟨_, rfl, b, _, _, _, rfl, rfl, (skp s34).sqT hb, atI_nat (j := 0) rfl, t, false, rfl, ⟨us, (skp s34).sqT ht⟩, ?_⟩
        refine for_it (walk_seq (k := false) (xs := us)) (fun m σ H' => ∃ y7 y8, σ = [some (.ref za), some (.ref sa), some (.ref fa), some (.ref D), y4, some (.int (j : Nat)), some (.ref b), y7, y8] ∧ Same H H' ∧ H' D = some (.lst (fs.map V.ref)) ∧ ∀ c, c < sz.length → H' (fs.getD c 0) = some (.lst (natsV (firstIdx T j c ++ (if c ∈ (ps.1.take m).map (·.1) then [j] else [])))))
          ⟨y7, y8, rfl, s34, s4 _ _ e3, fun c hc => by rw [List.take_zero, List.map_nil, if_neg (by simp), List.append_nil]; exact s4 _ _ (hidx c hc)⟩ (fun m σ H' _ p => ?_) (fun m x σ H5 H6 hm p y => ?_) (fun σ H' p => ?_)
        · obtain ⟨_, _, _, s2, _⟩ := p
          exact (skp s2).sqT ht
        · obtain ⟨y7, y8, rfl, s5, e5, hidx5⟩ := p
          obtain ⟨rfl, ex⟩ := y
          obtain ⟨tm, et, hpt⟩ := hus m x ex
          obtain ⟨c2, w2, rfl, qc2, qw⟩ := pTerm hpt
          have hl := look_mem hsok.1.2 (List.mem_of_getElem? et)
          obtain ⟨hc, _⟩ := hsok.w hl
          obtain ⟨fg, fm⟩ := fget tm.1 hc
          have hni : tm.1 ∉ (ps.1.take m).map (·.1) := fun hm2 => by
            obtain ⟨u, hu, e⟩ := List.mem_map.mp hm2
            have := take_lt hsok.1.2 et hu
            omega
          have c8 := hidx5 tm.1 hc
          rw [if_neg hni, List.append_nil] at c8
          have hfix := firstIdx_len T j tm.1
          refine ⟨c2, _, rfl, (skp s5).sqT qc2, rfl, _, _, rfl, _, _, rfl, rfl, ?_⟩
          refine ⟨_, rfl, _, rfl, D, _, _, .ref (fs.getD tm.1 0), rfl, rfl, lstA e5, atI_nat (by rw [List.getElem?_map, fg]; rfl), .inl ⟨rfl, _, lstA c8⟩, _, rfl, fs.getD tm.1 0, _, _, rfl, rfl, c8, sz_lt' (by rw [natsV_len]; omega), ?_⟩
          refine ⟨_, _, rfl, smut s5 (hfs _ fm).2.2, (upd_ne (hfs _ fm).2.1.symm).trans e5, fun c hc2 => ?_⟩
          rw [take_snoc et, List.map_append]
          by_cases hcc : c = tm.1
          · subst hcc
            rw [upd_same, if_pos (by simp), natsV_app]
            rfl
          · have hne : fs.getD c 0 ≠ fs.getD tm.1 0 := fun z => hcc (getD_inj hnd (by omega) (by omega) z)
            rw [upd_ne hne, hidx5 c hc2]
            by_cases hm2 : c ∈ (ps.1.take m).map (·.1)
            · rw [if_pos hm2, if_pos (List.mem_append_left _ hm2)]
            · rw [if_neg hm2, if_neg (by
                intro z
                rcases List.mem_append.mp z with z | z
                · exact hm2 z
                · rw [List.map_cons, List.map_nil, List.mem_singleton] at z; exact hcc z)]
        · obtain ⟨y7, y8, rfl, s5, e5, hidx5⟩ := p
          rw [hul, List.take_length] at hidx5
          refine ⟨_, _, _, _, _, rfl, s5, e5, fun c hc => ?_⟩
          rw [firstIdx_succ, eat, hidx5 c hc]
          by_cases hm2 : c ∈ ps.1.map (·.1)
          · rw [if_pos hm2, if_pos (mem_fst.mp hm2)]
          · rw [if_neg hm2, if_neg fun z => hm2 (mem_fst.mpr z)]
      · obtain ⟨y4, y5, y6, y7, y8, rfl, s3, e3, hidx⟩ := p
        rw [hxs.1] at hidx
        have bd0 : Bd H' (D :: fs) := fun a ha => by
          rcases List.mem_cons.mp ha with rfl | ha
          · rw [e3]; exact Option.some_ne_none _
          · obtain ⟨c, hc⟩ := List.getElem?_of_mem ha
            have hcl := (List.getElem?_eq_some_iff.mp hc).1
            have := hidx c (by omega)
            rw [List.getD_eq_getElem?_getD, hc] at this
            rw [show (some a).getD 0 = a from rfl] at this
            rw [this]
            exact Option.some_ne_none _
        have nd0 : (D :: fs).Nodup := List.nodup_cons.mpr ⟨fun z => (hfs D z).2.1 rfl, hnd⟩
        have fr0 : ∀ a ∈ D :: fs, H a = none := fun a ha => by
          rcases List.mem_cons.mp ha with rfl | ha
          · exact hD
          · exact (hfs a ha).2.2
        have old : ∀ {H1 : Hp} {a : Addr}, Same H H1 → H1 a = none → H a = none := fun {H1 a} s e => by
          cases e2 : H a with
          | none => rfl
          | some u => have := s _ _ e2; rw [e] at this; cases this
        intro p hp
        obtain ⟨bd1, nd1⟩ := bd0.new (o := .dK []) nd0 hp
        have m1 := same_new (o := .dK []) hp
        have ep := upd_same (H := H') (a := p) (o := .dK [])
        have frp := old s3 hp
        have t1 := s3.trans m1
        revert bd1 m1 ep t1
        generalize (upd H' p (.dK [])) = G1
        intro bd1 m1 ep t1
        refine ⟨_, rfl, _, rfl, sa, xs, rfl, .inr ((skp t1).sqT hsa), fun a1 h1 => ?_⟩
        obtain ⟨bd2, nd2⟩ := bd1.new (o := .lst xs) nd1 h1
        have m2 := same_new (o := .lst xs) h1
        have e1 := upd_same (H := G1) (a := a1) (o := .lst xs)
        have fr1 := old t1 h1
        have t2 := t1.trans m2
        revert bd2 m2 e1 t2
        generalize (upd G1 a1 (.lst xs)) = G2
        intro bd2 m2 e1 t2
        refine ⟨_, rfl, sa, false, xs, rfl, (skp t2).sqT hsa, _, rfl, _, rfl, _, rfl, .ref za, sz, fa, rfl, hzv.kp (skp t2), (skp t2).sqT hfa, by omega, fun n hn => by have := (hz.2 n hn).2; omega, fun a3 G3 m3 h3 e3s => ?_⟩
        have bd3 : Bd G3 (a3 :: a1 :: p :: D :: fs) := fun a ha => by
          rcases List.mem_cons.mp ha with rfl | ha
          · rw [e3s]; exact Option.some_ne_none _
          · exact (bd2.same m3) a ha
        have nd3 : (a3 :: a1 :: p :: D :: fs).Nodup := List.nodup_cons.mpr ⟨fun z => bd2 a3 z h3, nd2⟩
        have fr3 := old t2 h3
        have t3 := t2.trans m3
        refine ⟨Nat.zero_le _, fun a4 h4 => ?_⟩
        obtain ⟨bd4, nd4⟩ := bd3.new (o := .lst []) nd3 h4
        have m4 := same_new (o := .lst []) h4
        have e4 := upd_same (H := G3) (a := a4) (o := .lst [])
        have fr4 := old t3 h4
        have t4 := t3.trans m4
        revert bd4 m4 e4 t4
        generalize (upd G3 a4 (.lst [])) = G4
        intro bd4 m4 e4 t4
        refine ⟨Nat.zero_le _, fun a5 h5 => ?_⟩
        obtain ⟨bd5, nd5⟩ := bd4.new (o := .lst []) nd4 h5
        have m5 := same_new (o := .lst []) h5
        have e5 := upd_same (H := G4) (a := a5) (o := .lst [])
        have fr5 := old t4 h5
        have t5 := t4.trans m5
        revert bd5 m5 e5 t5
        generalize (upd G4 a5 (.lst [])) = G5
        intro bd5 m5 e5 t5
        intro a6 h6
        obtain ⟨bd6, nd6⟩ := bd5.new (o := .dK []) nd5 h6
        have m6 := same_new (o := .dK []) h6
        have e6 := upd_same (H := G5) (a := a6) (o := .dK [])
        have fr6 := old t5 h6
        have t6 := t5.trans m6
        revert bd6 m6 e6 t6
        generalize (upd G5 a6 (.dK [])) = G6
        intro bd6 m6 e6 t6
        refine ⟨_, rfl, sa, false, xs, rfl, (skp t6).sqT hsa, _, rfl, RgOk.of_le (by omega) (by rw [hxs.1]; omega) (by omega) (by omega), fun a7 h7 => ?_⟩
        have erg : rgV 0 ((xs.length : Nat) : Int) = natsV (List.range T.length) := by
          unfold rgV natsV
          rw [hxs.1, show ((((T.length : Nat) : Int)) - 0).toNat = T.length by omega]
          refine List.map_congr_left fun i _ => ?_
          show V.int (0 + ((i : Nat) : Int)) = _
          rw [Int.zero_add]
        rw [erg]
        obtain ⟨bd7, nd7⟩ := bd6.new (o := .lst (natsV (List.range T.length))) nd6 h7
        have m7 := same_new (o := .lst (natsV (List.range T.length))) h7
        have e7 := upd_same (H := G6) (a := a7) (o := .lst (natsV (List.range T.length)))
        have fr7 := old t6 h7
        have t7 := t6.trans m7
        revert bd7 m7 e7 t7
        generalize (upd G6 a7 (.lst (natsV (List.range T.length)))) = G7
        intro bd7 m7 e7 t7
        have mp : Same G1 G7 := ((((m2.trans m3).trans m4).trans m5).trans m6).trans m7
        obtain ⟨X, hX⟩ : ∃ X : Fx, X = ⟨.ref za, sz, T, fun i => (a7 :: a6 :: a5 :: a4 :: a3 :: a1 :: p :: D :: fs).getD (posL i) 0⟩ := ⟨_, rfl⟩
        have hXs : X.sz = sz := by rw [hX]
        have hXT : X.T = T := by rw [hX]
        have hXz : X.zv = .ref za := by rw [hX]
        have L0 : X.L 0 = p := by rw [hX]; rfl
        have L1 : X.L 1 = a1 := by rw [hX]; rfl
        have L2' : X.L 2 = D := by rw [hX]; rfl
        have L3 : X.L 3 = a3 := by rw [hX]; rfl
        have L4 : X.L 4 = a4 := by rw [hX]; rfl
        have L5 : X.L 5 = a5 := by rw [hX]; rfl
        have L6 : X.L 6 = a6 := by rw [hX]; rfl
        have L7 : X.L 7 = a7 := by rw [hX]; rfl
        have L8 : ∀ c, X.L (c + 8) = fs.getD c 0 := fun c => by rw [hX]; rfl
        have hll : (a7 :: a6 :: a5 :: a4 :: a3 :: a1 :: p :: D :: fs).length = sz.length + 8 := by
          show fs.length + 8 = _
          omega
        have inj : ∀ i j, i < X.sz.length + 8 → j < X.sz.length + 8 → X.L i = X.L j → i = j := fun i j hi hj e => by
          rw [hXs] at hi hj
          rw [hX] at e
          exact posL_inj i j (getD_inj nd7 (by rw [hll]; exact posL_lt hi) (by rw [hll]; exact posL_lt hj) e)
        have em : mergeK [] (headC X .non) = headC X .non := rfl
        refine ⟨mp _ _ ep, headC X .non, ?_, by show 10 ≤ 15; decide, ?_⟩
        · show _ = [(V.str "sizes", X.zv), (V.str "sums", .ref (X.L 1)), (V.str "told", .int (X.T.length : Nat)), (V.str "index", .ref (X.L 2)), (V.str "sets", .ref (X.L 3)), (V.str "trail", .ref (X.L 4)), (V.str "steps", .ref (X.L 5)), (V.str "places", .ref (X.L 6)), (V.str "queue", .ref (X.L 7)), (V.str "done", .non)]
          rw [hXz, L1, hXT, L2', L3, L4, L5, L6, L7, ← hxs.1]
        rw [em, ← L0]
        have kfin : Kp G7 (upd G7 p (.dK (headC X .non))) := kp_dK (mp _ _ ep)
        refine q X _ ⟨xs, [], [], []⟩ hXs hXT ?_ ?_ ?_
        · rw [L0]
          refine ⟨inj, fun i hi => ?_, ?_⟩
          · by_cases hi0 : i = 0
            · subst hi0
              rw [L0]
              exact upd_same
            · have hne : X.L i ≠ p := fun z => hi0 (inj i 0 hi (by omega) (z.trans L0.symm))
              rw [upd_ne hne]
              match i, hi0 with
              | 0, h => exact absurd rfl h
              | 1, _ => rw [L1]; exact (((((m3.trans m4).trans m5).trans m6).trans m7)) _ _ e1
              | 2, _ =>
                rw [L2']
                have := (m1.trans mp) _ _ e3
                rw [this]
                show some (HO.lst (fs.map V.ref)) = some (HO.lst ((List.range X.sz.length).map fun c => .ref (X.L (c + 8))))
                congr 2
                refine List.ext_getElem? fun c => ?_
                rw [List.getElem?_map, List.getElem?_map, hXs]
                by_cases hc : c < sz.length
                · rw [(fget c hc).1, List.getElem?_range hc]
                  show some (V.ref (fs.getD c 0)) = some (V.ref (X.L (c + 8)))
                  rw [L8]
                · rw [List.getElem?_eq_none (by omega), List.getElem?_eq_none (by rw [List.length_range]; omega)]
                  rfl
              | 3, _ => rw [L3]; exact (((m4.trans m5).trans m6).trans m7) _ _ e3s
              | 4, _ => rw [L4]; exact ((m5.trans m6).trans m7) _ _ e4
              | 5, _ => rw [L5]; exact (m6.trans m7) _ _ e5
              | 6, _ => rw [L6]; exact m7 _ _ e6
              | 7, _ => rw [L7]; exact e7
              | c + 8, _ =>
                rw [L8]
                have hc : c < sz.length := by rw [hXs] at hi; omega
                rw [(m1.trans mp) _ _ (hidx c hc)]
                show some (HO.lst (natsV (firstIdx T T.length c))) = some (HO.lst (natsV (((List.range sz.length).map fun c => firstIdx T T.length c).getD c [])))
                rw [getD_range hc]
          · refine ⟨?_, hxs.mono fun v s h => (h.kp (skp t7)).kp kfin, A2.nil, A2.nil, fun _ => rfl, Nat.zero_le _⟩
            rw [hXz, hXs]
            exact (hzv.kp (skp t7)).kp kfin
        · rw [L0]
          exact smut t7 frp
        · intro i hi
          have hm : X.L i ∈ (a7 :: a6 :: a5 :: a4 :: a3 :: a1 :: p :: D :: fs) := by
            rw [hX]
            have hlt : posL i < (a7 :: a6 :: a5 :: a4 :: a3 :: a1 :: p :: D :: fs).length := by rw [hll]; exact posL_lt hi
            show (a7 :: a6 :: a5 :: a4 :: a3 :: a1 :: p :: D :: fs).getD (posL i) 0 ∈ _
            rw [List.getD_eq_getElem?_getD, List.getElem?_eq_getElem hlt]
            exact List.getElem_mem hlt
          simp only [List.mem_cons] at hm
          rcases hm with h | h | h | h | h | h | h | h | h
          · rw [h]; exact fr7
          · rw [h]; exact fr6
          · rw [h]; exact fr5
          · rw [h]; exact fr4
          · rw [h]; exact fr3
          · rw [h]; exact fr1
          · rw [h]; exact frp
          · rw [h]; exact hD
          · exact (hfs _ h).2.2
end
end Bh
namespace Bh
open PySem PySem.Spec PyProof.Rows L2
structure Good (sz : List Nat) (T : Sums) (t : Nat) (st : MS) : Prop where
  base : Base sz T st
  told : ToldOk T st
  sums : st.sums.length ≤ 7 + t
  que : st.queue.length ≤ 7 + 32 * t + 2 * (t * t)
  steps : st.steps.length ≤ 80 * t
  tlen : T.length ≤ st.sums.length
  run : t + mu sz.length st.sets st.trail ≤ 2378
theorem Good.room {sz : List Nat} {T : Sums} {t : Nat} {st : MS} (h : Good sz T t st) : st.steps.length ≤ 800000 ∧ st.sums.length ≤ 800000 ∧ st.queue.length + 5 * (st.sums.length + 1) ≤ sizeLine := by
  have h1 := h.run
  have ht : t ≤ 2378 := by omega
  have htt : t * t ≤ 2378 * 2378 := Nat.mul_le_mul ht ht
  have h2 := h.sums
  have h3 := h.que
  have h4 := h.steps
  rw [sizeLine_eq]
  refine ⟨by omega, by omega, by omega⟩
theorem Good.next {sz : List Nat} {T : Sums} {t : Nat} {st st' : MS} (h : Good sz T t st) (hb : Base sz T st') (ht : ToldOk T st') (hm : mu sz.length st'.sets st'.trail < mu sz.length st.sets st.trail) (h1 : st'.sums.length ≤ st.sums.length + 1) (h2 : st'.steps.length ≤ st.steps.length + 80) (h3 : st'.queue.length ≤ st.queue.length + 4 * (st.sums.length + 1)) (h4 : T.length ≤ st'.sums.length) : Good sz T (t + 1) st' := by
  have g1 := h.sums
  have g2 := h.que
  have g3 := h.steps
  have g4 := h.run
  have e : (t + 1) * (t + 1) = t * t + 2 * t + 1 := by rw [Nat.add_mul, Nat.mul_add]; omega
  refine ⟨hb, ht, by omega, ?_, by omega, h4, by omega⟩
  rw [e]
  omega
section
variable {P : Program} {w : World} {K : PySem.W.Frag} {mg : Str → Option Value} {base : Heap}
def Outcome (K : PySem.W.Frag) (H : Hp) (v : V) (sz : List Nat) (T : Sums) : Prop := (∃ r, LeastRow sz T r ∧ RowV K H v r) ∨ ∃ sts, RefOk sz T sts ∧ (∀ r, ¬ Sol sz T r) ∧ sts.length ≤ 200000 ∧ ProofV K H v sts
theorem Same.of_fr {X : Fx} {H H1 H2 : Hp} (s : Same H H1) (hf : ∀ i, i < X.sz.length + 8 → H (X.L i) = none) (f : Fr X H1 H2) : Same H H2 := fun a u e => f a u (fun i hi z => by rw [z, hf i hi] at e; cases e) (s a u e)
def sp_search_under (K : PySem.W.Frag) : Sp := fun vs H Q _ => ∃ (zv : V) (sz : List Nat) (sa fa : Addr) (xs : List V) (T : Sums), vs = [zv, .ref sa, .ref fa] ∧ Pur K H zv (dSizes sz) ∧ Tiny sz ∧ SqT K H sa xs ∧ A2 (fun v s => Pur K H v (dSum s)) xs T ∧ (∀ s ∈ T, SumOk sz s) ∧ Small T ∧ T.length ≤ 7 ∧ SqT K H fa [] ∧
  ∀ v H', Same H H' → Outcome K H' v sz T → Q v H'
theorem sc_search_under : FnScope ["sizes", "sums", "fixed", "state"] ["sizes", "sums", "fixed"] (defScope (topS 54)) := ⟨rfl, rfl, rfl, by decide +kernel, rfl, by decide +kernel, by decide +kernel⟩
theorem Tiny.sizesOk {sz : List Nat} (h : Tiny sz) : SizesOk sz := ⟨by have := h.1; omega, fun n hn => by have := h.2 n hn; omega⟩
theorem ok_search_under (fr : Free mg) (D : DefAt K mg "search_under" (topS 54)) (d_check_problem : OkD P w K mg base 6 "check_problem" ["sizes", "sums", "fixed"] (sp_check_problem K)) (d_begun : OkD P w K mg base 3 "begun" ["sizes", "sums", "fixed"] (sp_begun K))
    (d_advance : OkD P w K mg base 6 "advance" ["state"] (sp_advance K)) : OkD P w K mg base 7 "search_under" ["sizes", "sums", "fixed"] (sp_search_under K) := by
  refine D.ok sc_search_under (fun _ _ _ _ _ _ us hl => match us, hl with | [_, _, _], _ => rfl) (fun vs H Q E h => ?_) (fun f cdv A outer s H vs Q E hr h => ?_)
  · obtain ⟨zv, sz, sa, fa, xs, T, rfl, _⟩ := h; rfl
  · obtain ⟨zv, sz, sa, fa, xs, T, rfl, hzv, hz, hsa, hxs, hok, hsm, hTl, hfa, q⟩ := h
    refine ⟨_, (pss_cons (ps_expr (pe_callD d_check_problem (hr.mono (by decide)) (by rfl) (pa_cons (pv 0) (pa_cons (pv 1) (pa_cons (pv 2) pa_nil)))))
 (pss_cons (ps_set (i := 3) sc_search_under.nd rfl (by first | exact .inl rfl | exact .inr rfl) (pe_callD d_begun (hr.mono (by decide)) (by rfl) (pa_cons (pv 0) (pa_cons (pv 1) (pa_cons (pv 2) pa_nil)))))
 (pss_cons (ps_while PassesOwn.never (pt_cmp (pc_isN (pe_dget (hu_of hr) (pv 3) pe_str (fun _ _ => rfl)))) (pss_one (ps_expr (pe_callD d_advance (hr.mono (by decide)) (by rfl) (pa_cons (pv 3) pa_nil)))))
 (pss_one (ps_ret (pe_dget (hu_of hr) (pv 3) pe_str (fun _ _ => rfl))))))), ?_⟩
    have hn4 := hz.1
    refine ⟨_, rfl, _, rfl, _, rfl, zv, sz, sa, fa, xs, T, rfl, hzv, hz.sizesOk, hsa, hxs, hok, by omega, by omega, hfa, fun H1 s1 => ?_⟩
    have k1 := skp s1
    refine ⟨_, rfl, _, rfl, _, rfl, zv, sz, sa, fa, xs, T, rfl, hzv.kp k1, hz, k1.sqT hsa, hxs.mono fun v s h => h.kp k1, hok, by omega, k1.sqT hfa, fun X H2 w2 hXs hXT hS2 s2 hfr => ?_⟩
    subst hXs hXT
    have gd0 : Good X.sz X.T 0 (begunM X.sz X.T) := by
      refine ⟨begun_base hok hsm, begun_told _ _, by show X.T.length ≤ _; omega, ?_, Nat.le_refl _, Nat.le_refl _, ?_⟩
      · show (List.range X.T.length).length ≤ _
        rw [List.length_range]
        omega
      · rw [Nat.zero_add]
        exact mu_first hz
    have s12 := s1.trans s2
    have hfr0 : ∀ i, i < X.sz.length + 8 → H (X.L i) = none := fun i hi => by
      cases e : H (X.L i) with
      | none => rfl
      | some u => have := s1 _ _ e; rw [hfr i hi] at this; cases this
    refine ⟨fun m σ H' => σ = [some zv, some (.ref sa), some (.ref fa), some (.ref (X.L 0))] ∧ Fr X H2 H' ∧ ((∃ t st w, m = mu X.sz.length st.sets st.trail + 1 ∧ IsS K H' X .non st w ∧ Good X.sz X.T t st) ∨ ∃ v st w, m = 0 ∧ v ≠ V.non ∧ IsS K H' X v st w ∧ Outcome K H' v X.sz X.T),
      ⟨_, rfl, Fr.refl H2, .inl ⟨0, _, w2, rfl, hS2, gd0⟩⟩, fun m σ H' p => ?_⟩
    obtain ⟨rfl, f2, p⟩ := p
    rcases p with ⟨t, st, w3, rfl, hS3, gd⟩ | ⟨v, st, w3, rfl, hvn, hS3, ho⟩
    · refine ⟨_, rfl, _, _, rfl, hS3.dDone, _, rfl, ?_⟩
      refine iteT ⟨_, fun _ _ h => h, ?_⟩
      obtain ⟨r1, r2, r3⟩ := gd.room
      refine ⟨_, rfl, X, st, w3, rfl, hS3, hz, gd.base, gd.told, r1, r2, gd.tlen, r3, ?_, ?_, ?_⟩
      · intro st' H4 w4 b1 b2 b3 b4 b5 b6 b7 b8 b9
        exact ⟨_, Nat.succ_lt_succ b3, rfl, f2.trans b9, .inl ⟨t + 1, st', w4, rfl, b8, gd.next b1 b2 b3 b4 b5 b6 b7⟩⟩
      · intro r p st' H4 w4 b1 b2 b3 b4
        exact ⟨0, Nat.succ_pos _, rfl, f2.trans b4, .inr ⟨_, st', w4, rfl, (fun z => by cases z), b3, .inl ⟨r, b1, b2⟩⟩⟩
      · intro sts p st' H4 w4 b1 b2 b3 b4 b5 b6
        refine ⟨0, Nat.succ_pos _, rfl, f2.trans b6, .inr ⟨_, st', w4, rfl, (fun z => by cases z), b5, .inr ⟨sts, b1, b2, ?_, b4⟩⟩⟩
        have := gd.steps
        have := gd.run
        omega
    · refine ⟨_, rfl, _, _, rfl, hS3.dDone, _, rfl, ?_⟩
      rw [decide_eq_false hvn]
      exact iteF ⟨_, rfl, _, _, rfl, hS3.dDone, q v H' (Same.of_fr s12 hfr0 f2) ho⟩
def sp_search (K : PySem.W.Frag) : Sp := fun vs H Q _ => ∃ (zv : V) (sz : List Nat) (sa : Addr) (xs : List V) (T : Sums), vs = [zv, .ref sa] ∧ Pur K H zv (dSizes sz) ∧ Tiny sz ∧ SqT K H sa xs ∧ A2 (fun v s => Pur K H v (dSum s)) xs T ∧ (∀ s ∈ T, SumOk sz s) ∧ Small T ∧ T.length ≤ 7 ∧
  ∀ v H', Same H H' → Outcome K H' v sz T → Q v H'
theorem sc_search : FnScope ["sizes", "sums"] ["sizes", "sums"] (defScope (topS 55)) := ⟨rfl, rfl, rfl, by decide +kernel, rfl, by decide +kernel, by decide +kernel⟩
theorem ok_search (fr : Free mg) (D : DefAt K mg "search" (topS 55)) (d_search_under : OkD P w K mg base 7 "search_under" ["sizes", "sums", "fixed"] (sp_search_under K)) : OkD P w K mg base 8 "search" ["sizes", "sums"] (sp_search K) := by
  refine D.ok sc_search (fun _ _ _ _ _ _ us hl => match us, hl with | [_, _], _ => rfl) (fun vs H Q E h => ?_) (fun f cdv A outer s H vs Q E hr h => ?_)
  · obtain ⟨zv, sz, sa, xs, T, rfl, _⟩ := h; rfl
  · obtain ⟨zv, sz, sa, xs, T, rfl, hzv, hz, hsa, hxs, hok, hsm, hTl, q⟩ := h
    refine ⟨_, (pss_one (ps_ret (pe_callD d_search_under (hr.mono (by decide)) (by rfl) (pa_cons (pv 0) (pa_cons (pv 1) (pa_cons (pe_tupF pa_nil) pa_nil)))))), ?_⟩
    refine ⟨_, rfl, _, rfl, Nat.zero_le _, fun p o hp ho => ?_⟩
    obtain ⟨u1, u2, u3⟩ := frz_new (K := K) (xs := []) hp ho
    have k1 := skp u1
    exact ⟨zv, sz, sa, p, xs, T, rfl, hzv.kp k1, hz, k1.sqT hsa, hxs.mono fun v s h => h.kp k1, hok, hsm, hTl, u2, fun v H' s' ho => q v H' (u1.trans s') ho⟩
end
end Bh
namespace Bh
open PySem PySem.Spec PyProof.Rows L2
/-- what is_refuted tells of the values of the steps -/
def lastLow (sz : List Nat) (vals : Sums) : Bool := match vals.getLast? with
  | none => false
  | some s => decide (sumTf s (topF s (sz.map fun n => 2 ^ n - 1)) < s.2)
theorem atI_last {α : Type} {xs : List α} {x : α} (h : xs[xs.length - 1]? = some x) : atI xs (-1) = some x := by
  have hl := (List.getElem?_eq_some_iff.mp h).1
  unfold atI ixN
  rw [if_neg (by omega), if_pos (by omega)]
  show xs[(-1 + ((xs.length : Nat) : Int)).toNat]? = some x
  rw [show (-1 + ((xs.length : Nat) : Int)).toNat = xs.length - 1 by omega]
  exact h
section
variable {P : Program} {w : World} {K : PySem.W.Frag} {mg : Str → Option Value} {base : Heap}
def sp_is_refuted (K : PySem.W.Frag) : Sp := fun vs H Q _ => ∃ (zv : V) (sz : List Nat) (sa fa va : Addr) (T : Sums) (sts : List Step), vs = [zv, .ref sa, .ref fa, .ref va] ∧ Pur K H zv (dSizes sz) ∧ Tiny sz ∧ ToldV K H sa T ∧ (∀ s ∈ T, SumOk sz s) ∧ T.length ≤ 1000 ∧ SqT K H fa [] ∧ StepsV K H va sts ∧ StepsGood sz T sts ∧ sts.length ≤ 1000000 ∧
  ∀ H', Same H H' → Q (.bl (lastLow sz (stepVals sz.length T sts))) H'
theorem sc_is_refuted : FnScope ["sizes", "sums", "fixed", "value", "found", "terms", "bound", "sets", "choice", "weights"] ["sizes", "sums", "fixed", "value"] (defScope (topS 56)) := ⟨rfl, rfl, rfl, by decide +kernel, rfl, by decide +kernel, by decide +kernel⟩
theorem ok_is_refuted (fr : Free mg) (D : DefAt K mg "is_refuted" (topS 56)) (d_check_problem : OkD P w K mg base 6 "check_problem" ["sizes", "sums", "fixed"] (sp_check_problem K)) (d_steps_sums : OkD P w K mg base 7 "steps_sums" ["sizes", "sums", "given", "value"] (sp_steps_sums K))
    (d_first_sets : OkD P w K mg base 2 "first_sets" ["sizes", "fixed"] (sp_first_sets K)) (d_top_of : OkD P w K mg base 2 "top_of" ["weights", "bits"] (sp_top_of K)) : OkD P w K mg base 8 "is_refuted" ["sizes", "sums", "fixed", "value"] (sp_is_refuted K) := by
  refine D.ok sc_is_refuted (fun _ _ _ _ _ _ us hl => match us, hl with | [_, _, _, _], _ => rfl) (fun vs H Q E h => ?_) (fun f cdv A outer s H vs Q E hr h => ?_)
  · obtain ⟨zv, sz, sa, fa, va, T, sts, rfl, _⟩ := h; rfl
  · obtain ⟨zv, sz, sa, fa, va, T, sts, rfl, hzv, hz, hT, hok, hTl, hfa, hst, hgood, hsl, q⟩ := h
    refine ⟨_, (pss_cons (ps_expr (pe_callD d_check_problem (hr.mono (by decide)) (by rfl) (pa_cons (pv 0) (pa_cons (pv 1) (pa_cons (pv 2) pa_nil)))))
 (pss_cons (ps_set (i := 4) sc_is_refuted.nd rfl (by first | exact .inl rfl | exact .inr rfl) (pe_callD d_steps_sums (hr.mono (by decide)) (by rfl) (pa_cons (pv 0) (pa_cons (pv 1) (pa_cons (pe_tupF pa_nil) (pa_cons (pv 3) pa_nil))))))
 (pss_cons (ps_if (PW.pt (pw_or (pt_cmp (pc_isN (pv 4))) (pw_or1 (pt_cmpR op_eq (pe_callB (cr_lenK (K := K)) (by rfl) fr.len (by decide +kernel) (pa_cons (pv 4) pa_nil)) pe_int (nomark _))))) (pss_one (ps_ret pe_bl)) pss_nil)
 (pss_cons (ps_asg (pe_ix (ix_listK (K := K)) (pv 4) (pe_un un_neg pe_int) (fun _ _ => rfl)) (pg_tupK (K := K) (n := 2) (by rfl) (pgs_cons (pg_name (i := 5) sc_is_refuted.nd rfl (by first | exact .inl rfl | exact .inr rfl)) (pgs_cons (pg_name (i := 6) sc_is_refuted.nd rfl (by first | exact .inl rfl | exact .inr rfl)) pgs_nil))))
 (pss_cons (ps_set (i := 7) sc_is_refuted.nd rfl (by first | exact .inl rfl | exact .inr rfl) (pe_callD d_first_sets (hr.mono (by decide)) (by rfl) (pa_cons (pv 0) (pa_cons (pv 2) pa_nil))))
 (pss_one (ps_ret (pe_cmpR op_lt (pe_callB (cr_sumK (K := K) rfl) (by rfl) fr.sum (by decide +kernel) (pa_cons (pe_lc (own := [("choice", 8), ("weights", 9)]) rfl sc_is_refuted.nd (pi_seqK (K := K) (pv 5)) (blkOk_by (by kernel_rfl)) (fun _ _ _ _ _ => (pg_tupK (K := K) (n := 2) (by rfl) (pgs_cons (pg_name (i := 8) sc_is_refuted.nd rfl (by first | exact .inl rfl | exact .inr rfl)) (pgs_cons (pg_name (i := 9) sc_is_refuted.nd rfl (by first | exact .inl rfl | exact .inr rfl)) pgs_nil)))) (fun _ _ _ _ _ => pts_nil) (fun _ _ _ _ _ => (pe_callD d_top_of (hr.mono (by decide)) (by rfl) (pa_cons (pv 9) (pa_cons (pe_ix (ix_listK (K := K)) (pv 7) (pv 8) (fun _ _ => rfl)) pa_nil))))) pa_nil)) (pv 6) (nomark _))))))))), ?_⟩
    have hn4 := hz.1
    have hz1 : ∀ n ∈ sz, n ≤ 1000 := fun n hn => by have := (hz.2 n hn).2; omega
    obtain ⟨xs, hxs, hxT⟩ := id hT
    refine ⟨_, rfl, _, rfl, _, rfl, zv, sz, sa, fa, xs, T, rfl, hzv, hz.sizesOk, hxs, hxT.mono fun v s h => h.pur, hok, hTl, by omega, hfa, fun H1 s1 => ?_⟩
    have k1 := skp s1
    refine ⟨_, rfl, _, rfl, Nat.zero_le _, fun p o hp ho => ?_⟩
    obtain ⟨u1, u2, u3⟩ := frz_new (K := K) (xs := []) hp ho
    have k2 := k1.trans (skp u1)
    refine ⟨_, rfl, zv, sz, sa, p, va, T, sts, rfl, ⟨hzv.kp k2, hT.kp k2, u2, hst.kp k2, hgood, by omega, hz1, hok, hsl⟩, fun l H3 s3 hl => ?_⟩
    have s13 := (s1.trans u1).trans s3
    obtain ⟨vs, hvs, hva⟩ := hl
    refine ⟨_, rfl, _, rfl, ?_⟩
    rw [decide_eq_false (fun z => by cases z)]
    refine iteF ⟨_, rfl, l, true, vs, rfl, hvs, rfl, _, rfl, ?_⟩
    have hlen := hva.1
    by_cases h0 : stepVals sz.length T sts = []
    · have hv0 : vs.length = 0 := by rw [hlen, h0]; rfl
      rw [decide_eq_true (show V.int ((vs.length : Nat) : Int) = V.int 0 by rw [hv0]; rfl)]
      refine iteT ?_
      have := q H3 s13
      unfold lastLow at this
      rw [h0] at this
      exact this
    · have hv0 : vs.length ≠ 0 := fun z => h0 (List.eq_nil_of_length_eq_zero (hlen ▸ z))
      rw [decide_eq_false (show ¬ (V.int ((vs.length : Nat) : Int) = V.int 0) from fun z => hv0 (by have := V.int.inj z; omega))]
      refine iteF ?_
      have hlast : (stepVals sz.length T sts)[vs.length - 1]? = some ((stepVals sz.length T sts).getLast h0) := by
        rw [hlen, List.getLast_eq_getElem]
        exact List.getElem?_eq_getElem _
      obtain ⟨x, ex, hx⟩ := hva.getR hlast
      have hsok := stepVals_ok hz1 hok hgood _ (List.mem_of_getElem? hlast)
      have hres : lastLow sz (stepVals sz.length T sts) = decide (sumTf ((stepVals sz.length T sts).getLast h0) (topF ((stepVals sz.length T sts).getLast h0) (sz.map fun n => 2 ^ n - 1)) < ((stepVals sz.length T sts).getLast h0).2) := by
        unfold lastLow
        rw [List.getLast?_eq_some_getLast h0]
      rw [hres] at q
      revert hx hsok q hlast hres
      generalize (stepVals sz.length T sts).getLast h0 = ls
      intro q hlast hx hsok hres
      obtain ⟨b, t, rfl, hb, hpt, htt⟩ := hx
      obtain ⟨_, us, e, ht, hul, hus⟩ := pTerms htt
      cases e
      refine ⟨_, rfl, _, rfl, l, _, _, .ref b, rfl, rfl, hvs, atI_last ex, b, _, rfl, hb, rfl, _, _, rfl, _, _, rfl, rfl, ?_⟩
      refine ⟨_, rfl, _, rfl, zv, sz, fa, rfl, hzv.kp (skp s13), (skp s13).sqT hfa, by omega, hz1, fun F H4 s4 hF eF => ?_⟩
      have htl : ls.1.length ≤ 4 := Nat.le_trans hsok.1.len hn4
      refine ⟨_, rfl, t, false, rfl, ⟨us, (skp s4).sqT ht⟩, fun D hD => ?_⟩
      refine lc_gen (walk_seq (k := false) (xs := us)) (by omega) hD (fun H' s => sq_same (k := false) s ((skp s4).sqT ht)) (fun j acc _ => acc = ((topsL ls (topF ls (sz.map fun n => 2 ^ n - 1))).take j).map V.int) (fun _ _ _ _ _ p => p) (fun _ => rfl) (fun j x H5 H6 acc C N hj s5 p y cC cN => ?_) (fun acc H5 s5 e l p => ?_)
      · obtain ⟨rfl, ex2⟩ := y
        obtain ⟨tm, et, hpt2⟩ := hus j x ex2
        obtain ⟨c2, w2, rfl, qc2, qw⟩ := pTerm hpt2
        have hl := look_mem hsok.1.2 (List.mem_of_getElem? et)
        obtain ⟨hc, hw⟩ := hsok.w hl
        have k5 := skp (s4.trans s5)
        have hfull := (fulls_ok hz).2 tm.1 hc
        have hfl : (fulls sz)[tm.1]? = some (sAt (sz.map fun n => 2 ^ n - 1) tm.1) := sAt_get (sets := sz.map fun n => 2 ^ n - 1) (by rw [List.length_map]; exact hc)
        refine ⟨c2, _, rfl, k5.sqT qc2, rfl, _, _, rfl, _, _, rfl, rfl, rfl, yesT ?_⟩
        refine ⟨_, rfl, _, rfl, _, rfl, F, _, _, _, rfl, rfl, lstA (s5 _ _ eF), atI_nat (natsV_get hfl), w2, tm.2, _, rfl, k5.sqT qw, by rw [hw.len]; exact hz.le tm.1, by rw [hw.len]; exact hfull.2, hfull.1, fun H7 s7 => cC _ _ s7 ?_⟩
        have et2 : (topsL ls (topF ls (sz.map fun n => 2 ^ n - 1)))[j]? = some (topB tm.2 (sAt (sz.map fun n => 2 ^ n - 1) tm.1)) := by
          unfold topsL
          rw [List.getElem?_map, et]
          show some (topF _ _ tm.1) = _
          unfold topF
          rw [hl]
        rw [take_snoc et2, List.map_append, p]
        rfl
      · rw [hul, List.take_of_length_le (by unfold topsL; rw [List.length_map]; exact Nat.le_refl _)] at p
        subst p
        exact ⟨D, topsL ls (topF ls (sz.map fun n => 2 ^ n - 1)), rfl, lstA e, _, rfl, _, _, rfl, rfl, q H5 ((s13.trans s4).trans s5)⟩
end
end Bh
namespace Bh
open PySem PySem.Spec PyProof.Rows L2
section
variable {P : Program} {w : World} {K : PySem.W.Frag} {mg : Str → Option Value} {base : Heap}
theorem fmod_rg (a : Int) {m : Int} (h : 0 < m) : 0 ≤ a.fmod m ∧ a.fmod m < m := by
  rw [Int.fmod_eq_emod_of_nonneg _ (by omega)]
  exact ⟨Int.emod_nonneg _ (by omega), Int.emod_lt_of_pos _ h⟩
def sp_mixed : Sp := fun vs H Q _ => ∃ c k : Int, vs = [.int c, .int k] ∧ -(2 ^ 40) < k ∧ k < 2 ^ 40 ∧ ∀ r : Int, 0 ≤ r → r < 2147483648 → Q (.int r) H
theorem sc_law_mixed : FnScope ["_law_cell", "_law_k"] ["_law_cell", "_law_k"] (defScope (topS 58)) := ⟨rfl, rfl, rfl, by decide +kernel, rfl, by decide +kernel, by decide +kernel⟩
theorem ok_mixed (fr : Free mg) (D : DefAt K mg "_law_mixed" (topS 58)) : OkD P w K mg base 1 "_law_mixed" ["_law_cell", "_law_k"] sp_mixed := by
  refine D.ok sc_law_mixed (fun _ _ _ _ _ _ us hl => match us, hl with | [_, _], _ => rfl) (fun vs H Q E h => ?_) (fun f cdv A outer s H vs Q E hr h => ?_)
  · obtain ⟨c, k, rfl, _⟩ := h; rfl
  · obtain ⟨c, k, rfl, k1, k2, q⟩ := h
    refine ⟨_, (pss_cons (ps_set (i := 0) sc_law_mixed.nd rfl (by first | exact .inl rfl | exact .inr rfl) (pe_op op_modN (pe_callTy call_int1 (by rfl) fr.int (by decide +kernel) (pa_cons (pv 0) pa_nil)) pe_int))
 (pss_one (ps_ret (pe_op op_modN (pe_op op_mul (pe_op op_modN (pe_op op_add (pe_op op_add (pe_op op_mul (pv 0) (pe_op op_add pe_int (pe_op op_mul (pe_op op_mul pe_int (pv 1)) (pv 1)))) (pe_op op_mul pe_int (pv 1))) pe_int) pe_int) pe_int) pe_int)))), ?_⟩
    obtain ⟨m1, m2⟩ := fmod_rg c (m := 2147483647) (by decide)
    refine ⟨_, rfl, .inl ⟨_, rfl, _, _, rfl, rfl, (by show (2147483647 : Int) ≠ 0; decide), ?_⟩⟩
    refine ⟨_, rfl, _, rfl, _, _, rfl, rfl, .inr ⟨by omega, by omega⟩, _, rfl, _, _, rfl, rfl, .inr ⟨by omega, by omega⟩, _, _, rfl, rfl, _, _, rfl, rfl, .inl ⟨by omega, by omega⟩, ?_⟩
    refine ⟨_, rfl, _, _, rfl, rfl, .inr ⟨by omega, by omega⟩, _, _, rfl, rfl, _, _, rfl, rfl, _, _, rfl, rfl, (by show (2147483647 : Int) ≠ 0; decide), _, _, rfl, rfl, .inr ⟨by decide, by decide⟩, _, _, rfl, rfl, (by show (2147483629 : Int) ≠ 0; decide), ?_⟩
    obtain ⟨n1, n2⟩ := fmod_rg ((((c.fmod 2147483647) * (48271 + 2 * k * k) + 69621 * k + 11).fmod 2147483647) * 69621) (m := 2147483629) (by decide)
    exact q _ n1 (by omega)
/-! the state of the draws -/
structure DS (H : Hp) (d a b : Addr) (n : Nat) : Prop where
  ne : a ≠ b
  hd : H d = some (.dK [(.inr "cells", .ref a), (.inr "lefts", .ref b), (.inr "at", .int (n : Nat))])
  hl : ∃ cs ls : List Int, H a = some (.lst (cs.map V.int)) ∧ H b = some (.lst (ls.map V.int)) ∧ cs.length = ls.length ∧ cs ≠ [] ∧ cs.length ≤ 1000
/-- all but the draws' state stays -/
def DFr (d b : Addr) (H H' : Hp) : Prop := ∀ x u, x ≠ d → x ≠ b → H x = some u → H' x = some u
theorem DFr.refl (d b : Addr) (H : Hp) : DFr d b H H := fun _ _ _ _ e => e
theorem DFr.trans {d b : Addr} {H H1 H2 : Hp} (f : DFr d b H H1) (g : DFr d b H1 H2) : DFr d b H H2 := fun x u n1 n2 e => g x u n1 n2 (f x u n1 n2 e)
theorem DFr.of {d b : Addr} {H H' : Hp} (s : Same H H') : DFr d b H H' := fun x u _ _ e => s x u e
theorem DS.same {H H' : Hp} {d a b : Addr} {n : Nat} (h : DS H d a b n) (s : Same H H') : DS H' d a b n := by
  obtain ⟨cs, ls, e1, e2, e3⟩ := h.hl
  exact ⟨h.ne, s _ _ h.hd, cs, ls, s _ _ e1, s _ _ e2, e3⟩
theorem DS.kpf {H H' : Hp} {d a b : Addr} {n : Nat} (h : DS H d a b n) (f : DFr d b H H') : Kp H H' := by
  obtain ⟨cs, ls, e1, e2, e3⟩ := h.hl
  exact ⟨fun x xs e => f x _ (by rintro rfl; rw [h.hd] at e; cases e) (by rintro rfl; rw [e2] at e; cases e) e, fun x o xs e => f x _ (by rintro rfl; rw [h.hd] at e; cases e) (by rintro rfl; rw [e2] at e; cases e) e⟩
theorem DS.off {H : Hp} {d a b : Addr} {n : Nat} (h : DS H d a b n) {p : Addr} (hp : H p = none) : p ≠ d ∧ p ≠ b := by
  obtain ⟨cs, ls, e1, e2, e3⟩ := h.hl
  exact ⟨(fun z => by subst z; rw [h.hd] at hp; cases hp), (fun z => by subst z; rw [e2] at hp; cases hp)⟩
def sp_draw : Sp := fun vs H Q _ => ∃ (d a b : Addr) (n lim : Nat), vs = [.ref d, .int (lim : Nat)] ∧ DS H d a b n ∧ n ≤ 100000 ∧ 1 ≤ lim ∧ lim < 1073741824 ∧ ∀ (r : Nat) (H' : Hp), r < lim → DS H' d a b (n + 1) → DFr d b H H' → Q (.int (r : Nat)) H'
theorem sc_law_draw : FnScope ["_law_state", "_law_limit", "_law_at", "_law_place", "_law_left", "_law_number"] ["_law_state", "_law_limit"] (defScope (topS 60)) := ⟨rfl, rfl, rfl, by decide +kernel, rfl, by decide +kernel, by decide +kernel⟩
theorem ok_draw (fr : Free mg) (D : DefAt K mg "_law_draw" (topS 60)) (d__law_mixed : OkD P w K mg base 1 "_law_mixed" ["_law_cell", "_law_k"] sp_mixed) : OkD P w K mg base 2 "_law_draw" ["_law_state", "_law_limit"] sp_draw := by
  refine D.ok sc_law_draw (fun _ _ _ _ _ _ us hl => match us, hl with | [_, _], _ => rfl) (fun vs H Q E h => ?_) (fun f cdv A outer s H vs Q E hr h => ?_)
  · obtain ⟨d, a, b, n, lim, rfl, _⟩ := h; rfl
  · obtain ⟨d, a, b, n, lim, rfl, hD, hn, l1, l2, q⟩ := h
    refine ⟨_, (pss_cons (ps_set (i := 2) sc_law_draw.nd rfl (by first | exact .inl rfl | exact .inr rfl) (pe_dget (hu_of hr) (pv 0) pe_str (fun _ _ => rfl)))
 (pss_cons (ps_dput (hu_of hr) (pv 0) pe_str (pe_op op_add (pv 2) pe_int) rfl)
 (pss_cons (ps_set (i := 3) sc_law_draw.nd rfl (by first | exact .inl rfl | exact .inr rfl) (pe_op op_modN (pe_callTy call_int1 (by rfl) fr.int (by decide +kernel) (pa_cons (pv 2) pa_nil)) (pe_callB (cr_lenK (K := K)) (by rfl) fr.len (by decide +kernel) (pa_cons (pe_dget (hu_of hr) (pv 0) pe_str (fun _ _ => rfl)) pa_nil))))
 (pss_cons (ps_set (i := 4) sc_law_draw.nd rfl (by first | exact .inl rfl | exact .inr rfl) (pe_ix (ix_listK (K := K)) (pe_dget (hu_of hr) (pv 0) pe_str (fun _ _ => rfl)) (pv 3) (fun _ _ => rfl)))
 (pss_cons (ps_if (pt_cmpR op_gt (pv 4) pe_int (nomark _)) (pss_cons (ps_asg (pe_op op_fdivN (pv 4) (pv 1)) (pg_sub (pe_dget (hu_of hr) (pv 0) pe_str (fun _ _ => rfl)) (pv 3) set_list))
 (pss_one (ps_ret (pe_op op_modN (pe_callTy call_int1 (by rfl) fr.int (by decide +kernel) (pa_cons (pv 4) pa_nil)) (pv 1))))) pss_nil)
 (pss_cons (ps_set (i := 5) sc_law_draw.nd rfl (by first | exact .inl rfl | exact .inr rfl) (pe_callD d__law_mixed (hr.mono (by decide)) (by rfl) (pa_cons (pe_callD d__law_mixed (hr.mono (by decide)) (by rfl) (pa_cons (pe_ix (ix_listK (K := K)) (pe_dget (hu_of hr) (pv 0) pe_str (fun _ _ => rfl)) (pv 3) (fun _ _ => rfl)) (pa_cons (pv 2) pa_nil))) (pa_cons (pe_op op_add pe_int (pv 2)) pa_nil))))
 (pss_one (ps_ret (pe_op op_modN (pe_op op_fdivN (pe_callTy call_int1 (by rfl) fr.int (by decide +kernel) (pa_cons (pe_op op_add (pe_op op_mul (pv 5) pe_int) (pe_callD d__law_mixed (hr.mono (by decide)) (by rfl) (pa_cons (pv 5) (pa_cons (pe_op op_add pe_int (pv 2)) pa_nil)))) pa_nil)) pe_int) (pv 1)))))))))), ?_⟩
    obtain ⟨cs, ls, ea, eb, hcl, hc0, hcm⟩ := hD.hl
    have gat : DGet H d (.str "at") (some (.int (n : Nat))) := .inl ⟨_, .inr "at", .inl hD.hd, rfl, rfl⟩
    refine ⟨_, rfl, d, _, rfl, gat, ?_⟩
    refine ⟨_, rfl, _, _, rfl, rfl, _, rfl, d, _, rfl, DPut.k (k := .inr "at") hD.hd (by rw [sizeLine_eq]; show 3 < _; omega), ?_⟩
    have hda : a ≠ d := by rintro rfl; rw [hD.hd] at ea; cases ea
    have hdb : b ≠ d := by rintro rfl; rw [hD.hd] at eb; cases eb
    have hput : putK [((.inr "cells" : Key), V.ref a), (.inr "lefts", .ref b), (.inr "at", .int (n : Nat))] (.inr "at") (.int ((n : Nat) + 1)) = [(.inr "cells", .ref a), (.inr "lefts", .ref b), (.inr "at", .int ((n + 1 : Nat) : Int))] := rfl
    rw [hput]
    have h1d : (upd H d (.dK [(.inr "cells", .ref a), (.inr "lefts", .ref b), (.inr "at", .int ((n + 1 : Nat) : Int))])) d = some (.dK [(.inr "cells", .ref a), (.inr "lefts", .ref b), (.inr "at", .int ((n + 1 : Nat) : Int))]) := upd_same
    have h1a : (upd H d (.dK [(.inr "cells", .ref a), (.inr "lefts", .ref b), (.inr "at", .int ((n + 1 : Nat) : Int))])) a = some (.lst (cs.map V.int)) := (upd_ne hda).trans ea
    have h1b : (upd H d (.dK [(.inr "cells", .ref a), (.inr "lefts", .ref b), (.inr "at", .int ((n + 1 : Nat) : Int))])) b = some (.lst (ls.map V.int)) := (upd_ne hdb).trans eb
    have f1 : DFr d b H (upd H d (.dK [(.inr "cells", .ref a), (.inr "lefts", .ref b), (.inr "at", .int ((n + 1 : Nat) : Int))])) := fun x u n1 _ e => (upd_ne n1).trans e
    revert h1d h1a h1b f1
    generalize (upd H d (.dK [(.inr "cells", .ref a), (.inr "lefts", .ref b), (.inr "at", .int ((n + 1 : Nat) : Int))])) = H1
    intro h1d h1a h1b f1
    have gc : DGet H1 d (.str "cells") (some (.ref a)) := .inl ⟨_, .inr "cells", .inl h1d, rfl, rfl⟩
    have gl : DGet H1 d (.str "lefts") (some (.ref b)) := .inl ⟨_, .inr "lefts", .inl h1d, rfl, rfl⟩
    have hpos : 0 < cs.length := List.length_pos_iff.mpr hc0
    have hmod : ((n : Nat) : Int).fmod ((cs.length : Nat) : Int) = ((n % cs.length : Nat) : Int) := by
      rw [Int.fmod_eq_emod_of_nonneg _ (by omega)]
      rfl
    have hlt : n % cs.length < cs.length := Nat.mod_lt _ hpos
    refine ⟨_, rfl, .inl ⟨_, rfl, _, rfl, d, _, rfl, gc, a, true, _, rfl, lstA h1a, _, _, rfl, rfl, ?_, ?_⟩⟩
    · rw [List.length_map]; show ((cs.length : Nat) : Int) ≠ 0; omega
    rw [List.length_map]
    dsimp only
    rw [hmod]
    have hltl : n % cs.length < ls.length := hcl ▸ hlt
    have eLl : (ls.map V.int)[n % cs.length]? = some (.int (ls[n % cs.length])) := by rw [List.getElem?_map, List.getElem?_eq_getElem hltl]; rfl
    have eCc : (cs.map V.int)[n % cs.length]? = some (.int (cs[n % cs.length])) := by rw [List.getElem?_map, List.getElem?_eq_getElem hlt]; rfl
    refine ⟨_, rfl, d, _, rfl, gl, _, rfl, b, _, _, _, rfl, rfl, lstA h1b, atI_nat eLl, ?_⟩
    generalize ls[n % cs.length] = left at eLl
    refine ⟨_, rfl, _, _, rfl, rfl, _, rfl, ?_⟩
    have hlim0 : (0 : Int) < ((lim : Nat) : Int) := by omega
    by_cases hl0 : 0 < left
    · rw [decide_eq_true hl0]
      refine iteT ⟨_, rfl, _, rfl, _, _, rfl, rfl, ⟨by omega, by omega⟩, _, rfl, d, _, rfl, gl, _, rfl, b, _, _, n % cs.length, rfl, rfl, h1b, ixN_at (by rw [List.length_map]; exact hltl), ?_⟩
      obtain ⟨m1, m2⟩ := fmod_rg left hlim0
      refine ⟨_, rfl, .inl ⟨_, rfl, _, rfl, _, _, rfl, rfl, by omega, ?_⟩⟩
      obtain ⟨r, hr⟩ : ∃ r : Nat, left.fmod ((lim : Nat) : Int) = (r : Nat) := ⟨(left.fmod ((lim : Nat) : Int)).toNat, (Int.toNat_of_nonneg m1).symm⟩
      dsimp only
      rw [hr] at m2 ⊢
      have hset : (ls.map V.int).set (n % cs.length) (.int (left.fdiv ((lim : Nat) : Int))) = (ls.set (n % cs.length) (left.fdiv ((lim : Nat) : Int))).map V.int := by rw [List.map_set]
      refine q r _ (by omega) ⟨hD.ne, (upd_ne hdb.symm).trans h1d, cs, ls.set (n % cs.length) (left.fdiv ((lim : Nat) : Int)), (upd_ne hD.ne).trans h1a, by rw [← hset]; exact upd_same, by rw [List.length_set]; exact hcl, hc0, hcm⟩ (fun x u n1 n2 e => (upd_ne n2).trans (f1 x u n1 n2 e))
    · rw [decide_eq_false hl0]
      refine iteF ⟨_, rfl, d, _, rfl, gc, _, rfl, a, _, _, _, rfl, rfl, lstA h1a, atI_nat eCc, _, rfl, _, _, rfl, by omega, by omega, fun r1 a1 a2 => ?_⟩
      refine ⟨_, rfl, _, _, rfl, rfl, _, _, rfl, by omega, by omega, fun r2 b1 b2 => ?_⟩
      refine ⟨_, rfl, _, _, rfl, rfl, .inl ⟨by omega, by omega⟩, _, rfl, _, rfl, _, _, rfl, rfl, _, _, rfl, by omega, by omega, fun r3 c1 c2 => ?_⟩
      refine ⟨_, _, rfl, rfl, .inl ⟨_, rfl, _, _, rfl, rfl, ⟨by decide, by decide⟩, _, rfl, _, _, rfl, rfl, by omega, ?_⟩⟩
      obtain ⟨m1, m2⟩ := fmod_rg (Int.fdiv (r2 * 2147483647 + r3) 64) hlim0
      obtain ⟨r, hr⟩ : ∃ r : Nat, (Int.fdiv (r2 * 2147483647 + r3) 64).fmod ((lim : Nat) : Int) = (r : Nat) := ⟨((Int.fdiv (r2 * 2147483647 + r3) 64).fmod ((lim : Nat) : Int)).toNat, (Int.toNat_of_nonneg m1).symm⟩
      dsimp only
      rw [hr] at m2 ⊢
      exact q r H1 (by omega) ⟨hD.ne, h1d, cs, ls, h1a, h1b, hcl, hc0, hcm⟩ f1
end
end Bh
namespace Bh
open PySem PySem.Spec PyProof.Rows L2
/-- a list, however it stands, against [] -/
theorem op_neLS {X : Cx} (hu : X.A.units < cLine) : OpR X (compareOp .NotEq) (fun x y H Q => ∃ a b xs, x = .ref a ∧ y = .ref b ∧ SqL X.K H a xs ∧ H b = some (.lst []) ∧ Q (.bl (!xs.isEmpty)) H) := by
  intro pn s0 sg Hh x y v u Qq Iv rx ry hw
  obtain ⟨a, b, xs, rfl, rfl, ea, eb, q⟩ := hw
  cases rx
  cases ry
  obtain ⟨ia, ra, la, _⟩ := Iv.list ea
  obtain ⟨_, ib, _, rb, _, lb⟩ := Iv.lstM eb
  have zb : ib.toArray.size = 0 := by rw [List.size_toArray]; exact rb.length.symm
  have za : ia.toArray.size = xs.length := by rw [List.size_toArray]; exact ra.length.symm
  cases xs with
  | nil =>
    have z : ia.toArray.size = ib.toArray.size := by rw [za, zb]; rfl
    have := SeqAt.RcNeAt.lists (e := fun _ => true) la.isList ⟨_, lb, rfl, _, rfl⟩ z hu (fun j h1 h2 => by omega)
    rw [za] at this
    exact this X.prog X.w X.xe _ ⟨.bl false, Hh, Iv, rfl, q⟩
  | cons x r =>
    exact SeqAt.RcNeAt.lists_lengths la.isList ⟨_, lb, rfl, _, rfl⟩ (by rw [za, zb]; rfl) hu X.prog X.w X.xe _ ⟨.bl true, Hh, Iv, rfl, q⟩
/-! comprehensions that draw -/
def LcD (d b : Addr) (H1 : Hp) (D : Addr) (P : Nat → List V → Hp → Prop) (i : Nat) (H : Hp) : Prop := ∃ acc, DFr d b H1 H ∧ H D = some (.lst acc) ∧ acc.length ≤ i ∧ P i acc H
theorem lc_draw {J : It} {n : Nat} {G : Hp → Prop} {Y : Nat → Hp → V → Hp → Prop} (w : Walk J n G Y) {g : TG} {tt : TT} {te : TE} {vs : List Nat} {σ : L2.St} {H1 : Hp} {D d b : Addr} {Qd : Hp → Prop} (hn : n ≤ 1000000) (hD : H1 D = none) (hDd : D ≠ d ∧ D ≠ b)
    (hG : ∀ H, DFr d b H1 H → G H) (P : Nat → List V → Hp → Prop) (mono : ∀ i acc H ys zs, H D = some (.lst zs) → P i acc H → P i acc (upd H D (.lst ys))) (h0 : P 0 [] (upd H1 D (.lst [])))
    (hs : ∀ i x H H' acc (C : V → Hp → Prop) (N : Hp → Prop), i < n → DFr d b H1 H → H D = some (.lst acc) → P i acc H → Y i H x H' → (∀ y H4, DFr d b H H4 → P (i + 1) (acc ++ [y]) H4 → C y H4) → (∀ H4, DFr d b H H4 → P (i + 1) acc H4 → N H4) →
      g x (wipe σ vs) H' fun σ2 H2 => wipe σ2 vs = wipe σ vs ∧ tt σ2 H2 fun b H3 => if b = true then te σ2 H3 C else N H3)
    (hd : ∀ acc H, DFr d b H1 H → H D = some (.lst acc) → acc.length ≤ n → P n acc H → Qd H) :
    ∃ W : Nat → Nat → Hp → Prop, (∃ m, W 0 m (upd H1 D (.lst []))) ∧ ∀ i m H, W i m H →
      (J.stop i H ∧ Qd H) ∨ (J.go i H ∧ ∃ Nx : Hp → Prop, (∀ H', Nx H' → ∃ m', m' < m ∧ W (i + 1) m' H') ∧ ∀ x H', J.yld i H x H' → g x (wipe σ vs) H' fun σ2 H2 => wipe σ2 vs = wipe σ vs ∧ tt σ2 H2 fun b H3 =>
        if b = true then te σ2 H3 fun y H4 => ∃ acc, H4 D = some (.lst acc) ∧ acc.length < sizeLine ∧ Nx (upd H4 D (.lst (acc ++ [y]))) else Nx H3) := by
  refine lc_it w (LcD d b H1 D P) ⟨[], DFr.of (same_new hD), upd_same, Nat.le_refl _, h0⟩ (fun i H _ p => hG H p.choose_spec.1) (fun i x H H' hi p y => ?_) (fun H p => ?_)
  · obtain ⟨acc, s, e, l, p⟩ := p
    refine hs i x H H' acc _ _ hi s e p y (fun y H4 s4 p4 => ?_) fun H4 s4 p4 => ⟨acc, s.trans s4, s4 _ _ hDd.1 hDd.2 e, Nat.le_succ_of_le l, p4⟩
    have e4 := s4 _ _ hDd.1 hDd.2 e
    refine ⟨acc, e4, sz_lt' (by omega), acc ++ [y], fun x u n1 n2 ex => ?_, upd_same, by rw [List.length_append]; exact Nat.add_le_add_right l 1, mono _ _ _ _ _ e4 p4⟩
    have hx : x ≠ D := fun z => by rw [z, hD] at ex; cases ex
    exact (upd_ne hx).trans ((s.trans s4) x u n1 n2 ex)
  · obtain ⟨acc, s, e, l, p⟩ := p
    exact hd acc H s e l p
theorem DS.upd {H : Hp} {d a b D : Addr} {n : Nat} {ys zs : List V} (h : DS H d a b n) (e : H D = some (.lst zs)) (hD : D ≠ b ∧ D ≠ a) : DS (L2.upd H D (.lst ys)) d a b n := by
  obtain ⟨cs, ls, e1, e2, e3⟩ := h.hl
  have hd : d ≠ D := by rintro rfl; rw [h.hd] at e; cases e
  exact ⟨h.ne, (upd_ne hd).trans h.hd, cs, ls, (upd_ne hD.2.symm).trans e1, (upd_ne hD.1.symm).trans e2, e3⟩
theorem DS.offa {H : Hp} {d a b : Addr} {n : Nat} (h : DS H d a b n) {p : Addr} (hp : H p = none) : p ≠ a := by
  obtain ⟨cs, ls, e1, e2, e3⟩ := h.hl
  exact fun z => by subst z; rw [e1] at hp; cases hp
section
variable {P : Program} {w : World} {K : PySem.W.Frag} {mg : Str → Option Value} {base : Heap}
def sp_lots (K : PySem.W.Frag) : Sp := fun vs H Q _ => ∃ (d a b : Addr) (n : Nat), vs = [.ref d] ∧ DS H d a b n ∧ n ≤ 90000 ∧ ∀ (sz : List Nat) (p : Addr) (m : Nat) (H' : Hp), Tiny sz → 1 ≤ sz.length → m ≤ n + 5 → DS H' d a b m → DFr d b H H' → Pur K H' (.ref p) (dSizes sz) → Q (.ref p) H'
theorem sc_law_lots : FnScope ["_law_state", "_law_step_here"] ["_law_state"] (defScope (topS 66)) := ⟨rfl, rfl, rfl, by decide +kernel, rfl, by decide +kernel, by decide +kernel⟩
theorem ok_lots (fr : Free mg) (D : DefAt K mg "_law_lots" (topS 66)) (d__law_draw : OkD P w K mg base 2 "_law_draw" ["_law_state", "_law_limit"] sp_draw) : OkD P w K mg base 3 "_law_lots" ["_law_state"] (sp_lots K) := by
  refine D.ok sc_law_lots (fun _ _ _ _ _ _ us hl => match us, hl with | [_], _ => rfl) (fun vs H Q E h => ?_) (fun f cdv A outer s H vs Q E hr h => ?_)
  · obtain ⟨d, a, b, n, rfl, _⟩ := h; rfl
  · obtain ⟨d, a, b, n, rfl, hD, hn, q⟩ := h
    refine ⟨_, (pss_one (ps_ret (pe_callTy (cr_tupK (K := K)) (by rfl) fr.tuple (by decide +kernel) (pa_cons (pe_lc (own := [("_law_step_here", 1)]) rfl sc_law_lots.nd (pi_range1 (by rfl) fr.range (pa_cons (pe_op op_add pe_int (pe_callD d__law_draw (hr.mono (by decide)) (by rfl) (pa_cons (pv 0) (pa_cons pe_int pa_nil)))) pa_nil)) (blkOk_by (by kernel_rfl)) (fun _ _ _ _ _ => (pg_name (i := 1) sc_law_lots.nd rfl (by first | exact .inl rfl | exact .inr rfl))) (fun _ _ _ _ _ => pts_nil) (fun _ _ _ _ _ => (pe_op op_add pe_int (pe_callD d__law_draw (hr.mono (by decide)) (by rfl) (pa_cons (pv 0) (pa_cons pe_int pa_nil)))))) pa_nil)))), ?_⟩
    refine ⟨_, rfl, d, a, b, n, 4, rfl, hD, by omega, by decide, by decide, fun r1 H1 hr1 hD1 f1 => ?_⟩
    refine ⟨_, _, rfl, rfl, _, rfl, by omega, by omega, fun D hDn => ?_⟩
    have hoff := hD1.off hDn
    have hoa := hD1.offa hDn
    refine lc_draw (walk_range (lo := 0)) (by omega) hDn hoff (fun _ _ => trivial) (fun i acc H' => ∃ sz : List Nat, acc = natsV sz ∧ sz.length = i ∧ (∀ x ∈ sz, 1 ≤ x ∧ x ≤ 4) ∧ DS H' d a b (n + 1 + i)) (fun i acc H' ys zs e p => ?_) ⟨[], rfl, rfl, (fun x h => nomatch h), (hD1.same (same_new hDn))⟩ (fun i x H2 H3 acc C N hi f2 eD p y cC cN => ?_) (fun acc H2 f2 e l p => ?_)
    · obtain ⟨sz, h1, h2, h3, h4⟩ := p
      exact ⟨sz, h1, h2, h3, h4.upd e ⟨hoff.2, hoa⟩⟩
    · obtain ⟨sz, h1, h2, h3, h4⟩ := p
      obtain ⟨rfl, rfl⟩ := y
      refine ⟨rfl, yesT ⟨_, rfl, d, a, b, n + 1 + i, 4, rfl, h4, by omega, by decide, by decide, fun r H4 hr hD4 f4 => ⟨_, _, rfl, rfl, cC _ _ f4 ⟨sz ++ [1 + r], ?_, ?_, fun x hx => ?_, hD4⟩⟩⟩⟩
      · rw [h1, natsV_app]
        show _ ++ [V.int (1 + ((r : Nat) : Int))] = _ ++ [V.int ((1 + r : Nat) : Int)]
        rw [Int.natCast_add]
        rfl
      · rw [List.length_append, h2]; rfl
      · rcases List.mem_append.mp hx with hx | hx
        · exact h3 x hx
        · rw [List.mem_singleton] at hx; omega
    · obtain ⟨sz, h1, h2, h3, h4⟩ := p
      subst h1
      refine ⟨D, true, _, rfl, lstA e, fun _ l o hl' ho => ?_, fun z => nomatch z⟩
      obtain ⟨u1, u2, u3⟩ := frz_new (K := K) (xs := natsV sz) hl' ho
      have hln : sz.length = r1 + 1 := by omega
      refine q sz l _ _ ⟨by omega, h3⟩ (by omega) ?_ (h4.same u1) ((f1.trans f2).trans (DFr.of u1)) (.tup u2 ?_)
      · omega
      · rw [nats_eq, natsV_ints]
        exact pur_ints _
end
end Bh
namespace Bh
open PySem PySem.Spec PyProof.Rows L2
section
variable {P : Program} {w : World} {K : PySem.W.Frag} {mg : Str → Option Value} {base : Heap}
theorem sc_law_form : FnScope ["_law_terms_so", "_law_bound_so", "_law_found", "_law_left", "_law_choice_so", "_law_weights_so", "_law_least", "_law_worth"] ["_law_terms_so", "_law_bound_so"] (defScope (topS 61)) := ⟨rfl, rfl, rfl, by decide +kernel, rfl, by decide +kernel, by decide +kernel⟩
theorem ok_law_form (fr : Free mg) (D : DefAt K mg "_law_form" (topS 61)) : OkD P w K mg base 1 "_law_form" ["_law_terms_so", "_law_bound_so"] (sp_form_so K) := by
  refine D.ok sc_law_form (fun _ _ _ _ _ _ us hl => match us, hl with | [_, _], _ => rfl) (fun vs H Q E h => ?_) (fun f cdv A outer s H vs Q E hr h => ?_)
  · obtain ⟨v, k, xs, ts, b, rfl, _⟩ := h; rfl
  · obtain ⟨v, k, xs, ts, b, rfl, hv, ha, hne, hl, q⟩ := h
    refine ⟨_, (pss_cons (ps_par (i := 2) (j := 3) (by rfl) sc_law_form.nd rfl rfl (by decide) rfl rfl (pa_cons (pe_lst pa_nil) (pa_cons (pv 1) pa_nil)) (by rfl))
 (pss_cons (ps_for PassesOwn.never rfl (pi_seqK (K := K) (pv 0)) (pg_tupK (K := K) (n := 2) (by rfl) (pgs_cons (pg_name (i := 4) sc_law_form.nd rfl (by first | exact .inl rfl | exact .inr rfl)) (pgs_cons (pg_name (i := 5) sc_law_form.nd rfl (by first | exact .inl rfl | exact .inr rfl)) pgs_nil))) (pss_cons (ps_set (i := 6) sc_law_form.nd rfl (by first | exact .inl rfl | exact .inr rfl) (pe_callB (cr_minK (K := K) rfl (hu_of hr)) (by rfl) fr.min (by decide +kernel) (pa_cons (pv 5) pa_nil)))
 (pss_cons (ps_set (i := 3) sc_law_form.nd rfl (by first | exact .inl rfl | exact .inr rfl) (pe_op op_sub (pv 3) (pv 6)))
 (pss_one (ps_if (pt_cmpR op_gt (pe_callB (cr_maxK (K := K) rfl (hu_of hr)) (by rfl) fr.max (by decide +kernel) (pa_cons (pv 5) pa_nil)) (pv 6) (nomark _)) (pss_one (ps_expr (pe_bm PySem.F.plainAttrs_list PySem.F.slot_list_append PySem.F.type_list_append mt_append (pv 2) (pa_cons (pe_tupF (pa_cons (pv 4) (pa_cons (pe_callTy (cr_tupK (K := K)) (by rfl) fr.tuple (by decide +kernel) (pa_cons (pe_lc (own := [("_law_worth", 7)]) rfl sc_law_form.nd (pi_seqK (K := K) (pv 5)) (blkOk_by (by kernel_rfl)) (fun _ _ _ _ _ => (pg_name (i := 7) sc_law_form.nd rfl (by first | exact .inl rfl | exact .inr rfl))) (fun _ _ _ _ _ => pts_nil) (fun _ _ _ _ _ => (pe_op op_sub (pv 7) (pv 6)))) pa_nil)) pa_nil))) pa_nil)))) pss_nil)))))
 (pss_one (ps_ret (pe_ifExp (pt_cmpR op_le (pv 3) pe_int (nomark _)) (pe_tupF (pa_cons (pe_tupF pa_nil) (pa_cons pe_int pa_nil))) (pe_tupF (pa_cons (pe_callTy (cr_tupK (K := K)) (by rfl) fr.tuple (by decide +kernel) (pa_cons (pv 2) pa_nil)) (pa_cons (pv 3) pa_nil)))))))), ?_⟩
    refine ⟨Nat.zero_le _, fun F hF => ?_⟩
    refine ⟨_, rfl, _, _, rfl, ?_⟩
    refine ⟨_, rfl, v, k, rfl, ⟨xs, sq_same (same_new hF) hv⟩, ?_⟩
    refine for_it (walk_seq (xs := xs)) (fun i σ H' => ∃ y1 y2 y3 fs, σ = [some (.ref v), some (.int b), some (.ref F), some (.int (formB (ts.take i) b)), y1, y2, y3, none] ∧ Same H H' ∧ H' F = some (.lst fs) ∧ PurAll K H' fs ((formT (ts.take i)).map dTerm) ∧ fs.length ≤ i)
      ⟨none, none, none, [], by unfold formB; rw [List.take_zero, List.map_nil, List.sum_nil, Int.sub_zero]; rfl, same_new hF, upd_same, by rw [List.take_zero]; exact .nil, Nat.le_refl _⟩ (fun i σ H' _ p => ?_) (fun i x σ H1 H2 hi p y => ?_) (fun σ H' p => ?_)
    · obtain ⟨_, _, _, _, _, s1, _⟩ := p
      exact sq_same s1 hv
    · obtain ⟨y1, y2, y3, fs, rfl, s1, eF, hfs, hfl⟩ := p
      obtain ⟨rfl, ex⟩ := y
      obtain ⟨t, et, hpt⟩ := ha.getL ex
      obtain ⟨c, wt, kw, rfl, qc, qw⟩ := hpt.same s1
      have hm := hne t (List.mem_of_getElem? et)
      have hi' : i < ts.length := ha.1 ▸ hi
      refine ⟨c, _, rfl, qc, rfl, _, _, rfl, _, _, rfl, rfl, ?_⟩
      refine ⟨_, rfl, wt, kw, t.2, rfl, qw, hm.1, ?_⟩
      refine ⟨_, rfl, _, rfl, _, _, rfl, rfl, ?_⟩
      refine ⟨_, rfl, wt, kw, t.2, rfl, qw, hm.1, _, rfl, _, _, rfl, rfl, _, rfl, ?_⟩
      by_cases h1 : lmin t.2 < lmax t.2
      · rw [decide_eq_true h1]
        refine iteT ?_
        refine ⟨_, rfl, ?_, _, rfl, _, rfl, wt, kw, rfl, ⟨_, qw⟩, fun D hD => ?_⟩
        · exact .inl ⟨rfl, fs, .inl (.inl eF)⟩
        refine lc_gen walk_seq (by rw [List.length_map]; omega) hD (fun H' s => sq_same s qw) (fun j acc _ => acc = ((t.2.take j).map (· - lmin t.2)).map V.int) (fun _ _ _ _ _ p => p) (fun _ => by rw [List.take_zero]; rfl) (fun j x H2 H3 acc C N hj s p y cC cN => ?_) (fun acc H' s e l p => ?_)
        · obtain ⟨rfl, ex2⟩ := y
          rw [List.getElem?_map] at ex2
          obtain ⟨z, ez, rfl⟩ := Option.map_eq_some_iff.mp ex2
          refine ⟨rfl, yesT ⟨_, rfl, _, rfl, _, _, rfl, rfl, cC _ _ (Same.refl _) ?_⟩⟩
          rw [take_snoc ez, List.map_append, List.map_append, p]
          rfl
        · rw [List.length_map, List.take_length] at p
          subst p
          refine ⟨D, true, _, rfl, .inl (.inl e), fun _ l o hl' ho => ?_, fun z => nomatch z⟩
          refine ⟨by rw [sizeLine_eq]; show 2 ≤ _; omega, fun p o2 hp ho2 => ?_⟩
          obtain ⟨u1, u2, u3⟩ := frz_new (K := K) (xs := ((t.2.map (· - lmin t.2)).map V.int)) hl' ho
          obtain ⟨v1, v2, v3⟩ := frz_new (K := K) (xs := [V.int (t.1 : Nat), V.ref l]) hp ho2
          have ss := (s.trans u1).trans v1
          refine ⟨F, fs, _, rfl, rfl, ss _ _ eF, sz_lt' (by omega), ?_⟩
          refine ⟨some (.int (t.1 : Nat)), some (.ref wt), some (.int (lmin t.2)), fs ++ [.ref p], ?_, smut (s1.trans ss) hF, upd_same, ?_, ?_⟩
          · rw [take_snoc et, formB_snoc]
            rfl
          · rw [take_snoc et, formT_snoc, if_pos h1, List.map_append]
            have k3 := kp_lst (ys := fs ++ [.ref p]) (ss _ _ eF)
            refine PurAll.app ((hfs.kp (skp ss)).kp k3) (.cons (Pur.kp k3 (.tup v2 (.cons (.int _) (.cons ?_ .nil)))) .nil)
            exact .tup ((skp v1).sqT u2) (pur_ints _)
          · rw [List.length_append]
            exact Nat.add_le_add_right hfl 1
      · rw [decide_eq_false h1]
        refine iteF ⟨some (.int (t.1 : Nat)), some (.ref wt), some (.int (lmin t.2)), fs, ?_, s1, eF, ?_, by omega⟩
        · rw [take_snoc et, formB_snoc]
          rfl
        · rw [take_snoc et, formT_snoc, if_neg h1]
          exact hfs
    · obtain ⟨y1, y2, y3, fs, rfl, s1, eF, hfs, hfl⟩ := p
      rw [ha.1, List.take_length] at hfs
      rw [ha.1, List.take_length]
      refine ⟨_, rfl, _, _, rfl, rfl, _, rfl, ?_⟩
      by_cases h1 : 0 < formB ts b
      · rw [decide_eq_false (by omega)]
        refine iteF ⟨_, rfl, F, true, fs, rfl, .inl (.inl eF), fun _ l o hl' ho => ?_, fun z => nomatch z⟩
        refine ⟨_, rfl, by rw [sizeLine_eq]; show 2 ≤ _; omega, fun p o2 hp ho2 => ?_⟩
        obtain ⟨u1, u2, u3⟩ := frz_new (K := K) (xs := fs) hl' ho
        obtain ⟨v1, v2, v3⟩ := frz_new (K := K) (xs := [V.ref l, V.int (formB ts b)]) hp ho2
        refine q _ _ ((s1.trans u1).trans v1) ?_
        unfold form
        rw [if_pos h1]
        exact ⟨p, l, rfl, v2, u3.kp (skp v1), .tup ((skp v1).sqT u2) ((hfs.kp (skp u1)).kp (skp v1))⟩
      · rw [decide_eq_true (by omega)]
        refine iteT ⟨Nat.zero_le _, fun l o hl' ho => ?_⟩
        refine ⟨by rw [sizeLine_eq]; show 2 ≤ _; omega, fun p o2 hp ho2 => ?_⟩
        obtain ⟨u1, u2, u3⟩ := frz_new (K := K) (xs := []) hl' ho
        obtain ⟨v1, v2, v3⟩ := frz_new (K := K) (xs := [V.ref l, V.int 0]) hp ho2
        refine q _ _ ((s1.trans u1).trans v1) ?_
        unfold form
        rw [if_neg h1]
        exact ⟨p, l, rfl, v2, u3.kp (skp v1), .tup ((skp v1).sqT u2) .nil⟩
end
end Bh
namespace Bh
open PySem PySem.Spec PyProof.Rows L2
def SmallS (s : PSum) : Prop := s.2 ≤ 1000 ∧ ∀ t ∈ s.1, lmax t.2 ≤ 1000
/-- drawn weights: from 0 to 3 -/
def Drawn (ts : Terms) : Prop := ∀ t ∈ ts, t.2 ≠ [] ∧ ∀ x ∈ t.2, 0 ≤ x ∧ x ≤ 3
theorem Drawn.lmin {ts : Terms} (h : Drawn ts) {t : Nat × List Int} (ht : t ∈ ts) : 0 ≤ lmin t.2 ∧ lmin t.2 ≤ 3 := (h t ht).2 _ (lmin_mem (h t ht).1)
theorem Drawn.lmax {ts : Terms} (h : Drawn ts) {t : Nat × List Int} (ht : t ∈ ts) : 0 ≤ lmax t.2 ∧ lmax t.2 ≤ 3 := (h t ht).2 _ (lmax_mem (h t ht).1)
theorem small_form {ts : Terms} {b : Int} (h : Drawn ts) (hb : formB ts b ≤ 1000) : SmallS (form ts b) := by
  unfold form
  by_cases h0 : 0 < formB ts b
  · rw [if_pos h0]
    refine ⟨hb, fun u hu => ?_⟩
    obtain ⟨t, ht, _, rfl⟩ := mem_formT.mp hu
    have h1 := h.lmin ht
    have h2 := h.lmax ht
    show Bh.lmax (t.2.map (· - Bh.lmin t.2)) ≤ 1000
    rw [lmax_sub (h t ht).1]
    omega
  · rw [if_neg h0]
    exact ⟨(by decide : (0 : Int) ≤ 1000), fun u hu => (nomatch hu)⟩
theorem isum_le : ∀ {l : List Int} {m : Int}, (∀ x ∈ l, x ≤ m) → l.sum ≤ l.length * m
  | [], m, _ => by simp
  | x :: r, m, h => by
    have h1 := h x (List.mem_cons_self ..)
    have h2 := isum_le (l := r) (m := m) fun y hy => h y (List.mem_cons_of_mem _ hy)
    rw [List.sum_cons, List.length_cons, Int.natCast_add, Int.add_mul]
    omega
theorem isum_nn : ∀ {l : List Int}, (∀ x ∈ l, 0 ≤ x) → 0 ≤ l.sum
  | [], _ => Int.le_refl _
  | x :: r, h => by
    have h1 := h x (List.mem_cons_self ..)
    have h2 := isum_nn (l := r) fun y hy => h y (List.mem_cons_of_mem _ hy)
    rw [List.sum_cons]
    omega
section
variable {P : Program} {w : World} {K : PySem.W.Frag} {mg : Str → Option Value} {base : Heap}
def sp_lsum (K : PySem.W.Frag) : Sp := fun vs H Q _ => ∃ (d a b lz : Addr) (n : Nat) (sz : List Nat), vs = [.ref d, .ref lz] ∧ DS H d a b n ∧ n ≤ 90000 ∧ Pur K H (.ref lz) (dSizes sz) ∧ Tiny sz ∧
  ∀ (s : PSum) (x : V) (m : Nat) (H' : Hp), SumOk sz s → SmallS s → m ≤ n + 30 → DS H' d a b m → DFr d b H H' → SumV K H' x s → Q x H'
theorem sc_law_sum : FnScope ["_law_state", "_law_lots_here", "_law_terms_so", "_law_choice_so", "_law_size", "_law_step_here", "_law_least", "_law_weights_so", "_law_wide"] ["_law_state", "_law_lots_here"] (defScope (topS 67)) := ⟨rfl, rfl, rfl, by decide +kernel, rfl, by decide +kernel, by decide +kernel⟩
theorem ok_lsum (fr : Free mg) (D : DefAt K mg "_law_sum" (topS 67)) (d__law_draw : OkD P w K mg base 2 "_law_draw" ["_law_state", "_law_limit"] sp_draw) (d__law_form : OkD P w K mg base 1 "_law_form" ["_law_terms_so", "_law_bound_so"] (sp_form_so K)) : OkD P w K mg base 3 "_law_sum" ["_law_state", "_law_lots_here"] (sp_lsum K) := by
  refine D.ok sc_law_sum (fun _ _ _ _ _ _ us hl => match us, hl with | [_, _], _ => rfl) (fun vs H Q E h => ?_) (fun f cdv A outer s H vs Q E hr h => ?_)
  · obtain ⟨d, a, b, lz, n, sz, rfl, _⟩ := h; rfl
  · obtain ⟨d, a, b, lz, n, sz, rfl, hD, hn, hp, hz, q⟩ := h
    refine ⟨_, (pss_cons (ps_set (i := 2) sc_law_sum.nd rfl (by first | exact .inl rfl | exact .inr rfl) (pe_lst pa_nil))
 (pss_cons (ps_for PassesOwn.never rfl (pi_enumK (K := K) (by rfl) fr.enumerate (pa_cons (pv 1) pa_nil)) (pg_tupK (K := K) (n := 2) (by rfl) (pgs_cons (pg_name (i := 3) sc_law_sum.nd rfl (by first | exact .inl rfl | exact .inr rfl)) (pgs_cons (pg_name (i := 4) sc_law_sum.nd rfl (by first | exact .inl rfl | exact .inr rfl)) pgs_nil))) (pss_one (ps_if (pt_cmpR op_gt (pe_callD d__law_draw (hr.mono (by decide)) (by rfl) (pa_cons (pv 0) (pa_cons pe_int pa_nil))) pe_int (nomark _)) (pss_one (ps_expr (pe_bm PySem.F.plainAttrs_list PySem.F.slot_list_append PySem.F.type_list_append mt_append (pv 2) (pa_cons (pe_tupF (pa_cons (pv 3) (pa_cons (pe_callTy (cr_tupK (K := K)) (by rfl) fr.tuple (by decide +kernel) (pa_cons (pe_lc (own := [("_law_step_here", 5)]) rfl sc_law_sum.nd (pi_range1 (by rfl) fr.range (pa_cons (pv 4) pa_nil)) (blkOk_by (by kernel_rfl)) (fun _ _ _ _ _ => (pg_name (i := 5) sc_law_sum.nd rfl (by first | exact .inl rfl | exact .inr rfl))) (fun _ _ _ _ _ => pts_nil) (fun _ _ _ _ _ => (pe_callD d__law_draw (hr.mono (by decide)) (by rfl) (pa_cons (pv 0) (pa_cons pe_int pa_nil))))) pa_nil)) pa_nil))) pa_nil)))) pss_nil)))
 (pss_cons (ps_set (i := 6) sc_law_sum.nd rfl (by first | exact .inl rfl | exact .inr rfl) (pe_callB (cr_sumK (K := K) rfl) (by rfl) fr.sum (by decide +kernel) (pa_cons (pe_lc (own := [("_law_choice_so", 3), ("_law_weights_so", 7)]) rfl sc_law_sum.nd (pi_seqK (K := K) (pv 2)) (blkOk_by (by kernel_rfl)) (fun _ _ _ _ _ => (pg_tupK (K := K) (n := 2) (by rfl) (pgs_cons (pg_name (i := 3) sc_law_sum.nd rfl (by first | exact .inl rfl | exact .inr rfl)) (pgs_cons (pg_name (i := 7) sc_law_sum.nd rfl (by first | exact .inl rfl | exact .inr rfl)) pgs_nil)))) (fun _ _ _ _ _ => pts_nil) (fun _ _ _ _ _ => (pe_callB (cr_minK (K := K) rfl (hu_of hr)) (by rfl) fr.min (by decide +kernel) (pa_cons (pv 7) pa_nil)))) pa_nil)))
 (pss_cons (ps_set (i := 8) sc_law_sum.nd rfl (by first | exact .inl rfl | exact .inr rfl) (pe_op op_sub (pe_callB (cr_sumK (K := K) rfl) (by rfl) fr.sum (by decide +kernel) (pa_cons (pe_lc (own := [("_law_choice_so", 3), ("_law_weights_so", 7)]) rfl sc_law_sum.nd (pi_seqK (K := K) (pv 2)) (blkOk_by (by kernel_rfl)) (fun _ _ _ _ _ => (pg_tupK (K := K) (n := 2) (by rfl) (pgs_cons (pg_name (i := 3) sc_law_sum.nd rfl (by first | exact .inl rfl | exact .inr rfl)) (pgs_cons (pg_name (i := 7) sc_law_sum.nd rfl (by first | exact .inl rfl | exact .inr rfl)) pgs_nil)))) (fun _ _ _ _ _ => pts_nil) (fun _ _ _ _ _ => (pe_callB (cr_maxK (K := K) rfl (hu_of hr)) (by rfl) fr.max (by decide +kernel) (pa_cons (pv 7) pa_nil)))) pa_nil)) (pv 6)))
 (pss_cons (ps_if (pt_cmpR op_eq (pe_callD d__law_draw (hr.mono (by decide)) (by rfl) (pa_cons (pv 0) (pa_cons pe_int pa_nil))) pe_int (nomark _)) (pss_one (ps_ret (pe_callD d__law_form (hr.mono (by decide)) (by rfl) (pa_cons (pv 2) (pa_cons (pe_op op_add (pe_op op_add (pv 6) (pv 8)) pe_int) pa_nil))))) pss_nil)
 (pss_one (ps_ret (pe_callD d__law_form (hr.mono (by decide)) (by rfl) (pa_cons (pv 2) (pa_cons (pe_op op_add (pv 6) (pe_ifExp (pt_cmpR op_gt (pv 8) pe_int (nomark _)) (pe_op op_add pe_int (pe_callD d__law_draw (hr.mono (by decide)) (by rfl) (pa_cons (pv 0) (pa_cons (pv 8) pa_nil)))) pe_int)) pa_nil)))))))))), ?_⟩
    obtain ⟨_, ez, hlz⟩ := pSizes hp
    cases ez
    have hn4 := hz.1
    refine ⟨Nat.zero_le _, fun F hF => ?_⟩
    have hFd := hD.off hF
    have hFa := hD.offa hF
    have s0 := same_new (o := .lst []) hF
    refine ⟨_, rfl, lz, false, _, rfl, (skp s0).sqT hlz, ?_⟩
    refine for_it (walk_enumB (k := false) (xs := szV sz)) (fun j σ H' => ∃ y3 y4 ts fs m, σ = [some (.ref d), some (.ref lz), some (.ref F), y3, y4, none, none, none, none] ∧ DS H' d a b m ∧ m ≤ n + 5 * j ∧ DFr d b H H' ∧ H' F = some (.lst fs) ∧ PurAll K H' fs (ts.map dTerm) ∧ Drawn ts ∧ (∀ t ∈ ts, t.1 < j ∧ sz[t.1]? = some t.2.length) ∧ (ts.map (·.1)).Pairwise (· < ·) ∧ ts.length ≤ j)
      ⟨none, none, [], [], n, rfl, hD.same s0, by omega, DFr.of s0, upd_same, .nil, (fun t h => nomatch h), (fun t h => nomatch h), .nil, Nat.le_refl _⟩ (fun j σ H' _ p => ?_) (fun j x σ H1 H2 hj p y => ?_) (fun σ H' p => ?_)
    · obtain ⟨_, _, _, _, _, _, _, _, f1, _⟩ := p
      exact (hD.kpf f1).sqT hlz
    · obtain ⟨y3, y4, ts, fs, m, rfl, hD1, hm, f1, eF, hfs, hdr, hts, hpw, htl⟩ := p
      obtain ⟨T1, x1, x2, rfl, hT1, s2, eT1, e1, e2⟩ := same_pair y
      cases e1
      rw [szV_len] at hj
      have e2 : (szV sz)[j]? = some x2 := e2
      rw [szV_get (szOf_get hj)] at e2
      injection e2 with e2
      subst e2
      have hz4 := hz.le j
      have hz1 := hz.pos hj
      have hD2 := hD1.same s2
      have eF2 := s2 _ _ eF
      have hfs2 := hfs.kp (skp s2)
      have f2 := f1.trans (DFr.of s2)
      have eT2 := eT1
      refine ⟨T1, _, rfl, .inl (.inl eT1), rfl, _, _, rfl, _, _, rfl, rfl, ?_⟩
      refine ⟨_, rfl, d, a, b, m, 4, rfl, hD2, by omega, by decide, by decide, fun r H3 hr hD3 f3 => ?_⟩
      have k3 := hD2.kpf f3
      have eF3 := f3 _ _ hFd.1 hFd.2 eF2
      refine ⟨_, _, rfl, rfl, _, rfl, ?_⟩
      by_cases hr0 : (0 : Int) < ((r : Nat) : Int)
      · rw [decide_eq_true hr0]
        refine iteT ⟨_, rfl, .inl ⟨rfl, fs, lstA eF3⟩, _, rfl, _, rfl, _, rfl, by omega, by omega, fun D2 hD2n => ?_⟩
        have hoff := hD3.off hD2n
        have hoa := hD3.offa hD2n
        refine lc_draw (walk_range (lo := 0)) (by omega) hD2n hoff (fun _ _ => trivial) (fun i acc H' => ∃ ws : List Int, acc = ws.map V.int ∧ ws.length = i ∧ (∀ x ∈ ws, 0 ≤ x ∧ x ≤ 3) ∧ DS H' d a b (m + 1 + i)) (fun i acc H' ys zs e p => ?_) ⟨[], rfl, rfl, (fun x h => nomatch h), (hD3.same (same_new hD2n))⟩ (fun i x H4 H5 acc C N hi f4 eD p y cC cN => ?_) (fun acc H4 f4 e l p => ?_)
        · obtain ⟨ws, h1, h2, h3, h4⟩ := p
          exact ⟨ws, h1, h2, h3, h4.upd e ⟨hoff.2, hoa⟩⟩
        · obtain ⟨ws, h1, h2, h3, h4⟩ := p
          obtain ⟨rfl, rfl⟩ := y
          refine ⟨rfl, yesT ⟨_, rfl, d, a, b, m + 1 + i, 4, rfl, h4, by omega, by decide, by decide, fun r2 H6 hr2 hD6 f6 => cC _ _ f6 ⟨ws ++ [(r2 : Int)], ?_, ?_, fun x hx => ?_, hD6⟩⟩⟩
          · rw [h1, List.map_append]; rfl
          · rw [List.length_append, h2]; rfl
          · rcases List.mem_append.mp hx with hx | hx
            · exact h3 x hx
            · rw [List.mem_singleton] at hx; omega
        · obtain ⟨ws, h1, h2, h3, h4⟩ := p
          subst h1
          rw [Int.toNat_natCast] at h2 h4
          refine ⟨D2, true, _, rfl, lstA e, fun _ l o hl' ho => ?_, fun z => nomatch z⟩
          refine ⟨by rw [sizeLine_eq]; show 2 ≤ _; omega, fun p o2 hp2 ho2 => ?_⟩
          obtain ⟨u1, u2, u3⟩ := frz_new (K := K) (xs := ws.map V.int) hl' ho
          obtain ⟨v1, v2, v3⟩ := frz_new (K := K) (xs := [V.int (j : Nat), V.ref l]) hp2 ho2
          have ss := u1.trans v1
          have eF4 := ss _ _ (f4 _ _ hFd.1 hFd.2 eF3)
          have hlen : fs.length = ts.length := by rw [hfs.len, List.length_map]
          refine ⟨F, fs, _, rfl, rfl, eF4, sz_lt' (by omega), ?_⟩
          have k9 := kp_lst (ys := fs ++ [.ref p]) eF4
          have kk := ((k3.trans (hD3.kpf f4)).trans (skp ss)).trans k9
          refine ⟨_, _, ts ++ [(j, ws)], fs ++ [.ref p], m + 1 + szOf sz j, rfl, (h4.same ss).upd eF4 ⟨hFd.2, hFa⟩, by omega, ?_, upd_same, ?_, ?_, ?_, ?_, ?_⟩
          · intro x u n1 n2 ex
            have hx : x ≠ F := fun z => by rw [z, hF] at ex; cases ex
            exact (upd_ne hx).trans (((f2.trans f3).trans (f4.trans (DFr.of ss))) x u n1 n2 ex)
          · rw [List.map_append]
            exact (hfs2.kp kk).app (.cons (Pur.kp k9 (.tup v2 (.cons (.int _) (.cons (.tup ((skp v1).sqT u2) (pur_ints _)) .nil)))) .nil)
          · intro t ht
            rcases List.mem_append.mp ht with ht | ht
            · exact hdr t ht
            · rw [List.mem_singleton] at ht
              subst ht
              exact ⟨fun z => by have z : ws = [] := z; rw [z] at h2; simp at h2; omega, h3⟩
          · intro t ht
            rcases List.mem_append.mp ht with ht | ht
            · have := hts t ht
              exact ⟨by omega, this.2⟩
            · rw [List.mem_singleton] at ht
              subst ht
              exact ⟨Nat.lt_succ_self _, by show sz[j]? = some ws.length; rw [h2]; exact szOf_get hj⟩
          · rw [List.map_append, List.pairwise_append]
            refine ⟨hpw, by simp, fun x hx y hy => ?_⟩
            obtain ⟨t, ht, rfl⟩ := List.mem_map.mp hx
            rw [List.map_cons, List.map_nil, List.mem_singleton] at hy
            subst hy
            exact (hts t ht).1
          · rw [List.length_append]
            exact Nat.add_le_add_right htl 1
      · rw [decide_eq_false hr0]
        refine iteF ⟨_, _, ts, fs, m + 1, rfl, hD3, by omega, f2.trans f3, eF3, hfs2.kp k3, hdr, fun t ht => ?_, hpw, by omega⟩
        have := hts t ht
        exact ⟨by omega, this.2⟩
    · obtain ⟨y3, y4, ts, fs, m, rfl, hD1, hm, f1, eF, hfs, hdr, hts, hpw, htl⟩ := p
      rw [szV_len] at hm htl
      have hz1 : ∀ n ∈ sz, n ≤ 4 := fun n hn => (hz.2 n hn).2
      have hA2 := pur_A2 hfs
      have hlen : fs.length = ts.length := by rw [hfs.len, List.length_map]
      have htok : TermsOk sz ts := ⟨fun t ht => ⟨t.2.length, (hts t ht).2, rfl⟩, hpw⟩
      have hne : ∀ t ∈ ts, t.2 ≠ [] ∧ t.2.length ≤ 1000 := fun t ht => ⟨(hdr t ht).1, by have := hz1 _ (List.mem_of_getElem? (hts t ht).2); omega⟩
      have hmn : ∀ x ∈ ts.map fun t => lmin t.2, 0 ≤ x ∧ x ≤ 3 := fun x hx => by
        obtain ⟨t, ht, rfl⟩ := List.mem_map.mp hx
        exact hdr.lmin ht
      have hmx : ∀ x ∈ ts.map fun t => lmax t.2, 0 ≤ x ∧ x ≤ 3 := fun x hx => by
        obtain ⟨t, ht, rfl⟩ := List.mem_map.mp hx
        exact hdr.lmax ht
      have hS0 := isum_nn fun x hx => (hmn x hx).1
      have hS1 := isum_le fun x hx => (hmx x hx).2
      rw [List.length_map] at hS1
      have htl4 : ts.length ≤ 4 := by omega
      refine ⟨_, rfl, F, true, rfl, ⟨fs, lstA eF⟩, fun D1 hD1n => ?_⟩
      refine lc_gen (walk_seq (k := true) (xs := fs)) (by omega) hD1n (fun H' s => lstA (s _ _ eF)) (fun i acc _ => acc = ((ts.map fun t => lmin t.2).take i).map V.int) (fun _ _ _ _ _ p => p) (fun _ => rfl) (fun i x H2 H3 acc C N hi s2 p y cC cN => ?_) (fun acc H2 s2 e l p => ?_)
      · obtain ⟨rfl, ex⟩ := y
        obtain ⟨t, et, hpt⟩ := hA2.getL ex
        obtain ⟨c, wt, rfl, qc, qw⟩ := pTerm (hpt.kp (skp s2))
        refine ⟨c, _, rfl, qc, rfl, _, _, rfl, _, _, rfl, rfl, rfl, yesT ⟨_, rfl, wt, false, t.2, rfl, qw, (hdr t (List.mem_of_getElem? et)).1, cC _ _ (Same.refl _) ?_⟩⟩
        rw [take_snoc (show (ts.map fun t => lmin t.2)[i]? = some (lmin t.2) by rw [List.getElem?_map, et]; rfl), List.map_append, p]
        rfl
      rw [hlen, List.take_of_length_le (by rw [List.length_map]; exact Nat.le_refl _)] at p
      subst p
      refine ⟨D1, _, rfl, lstA e, ?_⟩
      have eF2 := s2 _ _ eF
      have hA22 := hA2.mono fun v t h => h.kp (skp s2)
      refine ⟨_, rfl, F, true, rfl, ⟨fs, lstA eF2⟩, fun D2 hD2n => ?_⟩
      refine lc_gen (walk_seq (k := true) (xs := fs)) (by omega) hD2n (fun H' s => lstA (s _ _ eF2)) (fun i acc _ => acc = ((ts.map fun t => lmax t.2).take i).map V.int) (fun _ _ _ _ _ p => p) (fun _ => rfl) (fun i x H3 H4 acc C N hi s3 p y cC cN => ?_) (fun acc H3 s3 e3 l3 p => ?_)
      · obtain ⟨rfl, ex⟩ := y
        obtain ⟨t, et, hpt⟩ := hA22.getL ex
        obtain ⟨c, wt, rfl, qc, qw⟩ := pTerm (hpt.kp (skp s3))
        refine ⟨c, _, rfl, qc, rfl, _, _, rfl, _, _, rfl, rfl, rfl, yesT ⟨_, rfl, wt, false, t.2, rfl, qw, (hdr t (List.mem_of_getElem? et)).1, cC _ _ (Same.refl _) ?_⟩⟩
        rw [take_snoc (show (ts.map fun t => lmax t.2)[i]? = some (lmax t.2) by rw [List.getElem?_map, et]; rfl), List.map_append, p]
        rfl
      rw [hlen, List.take_of_length_le (by rw [List.length_map]; exact Nat.le_refl _)] at p
      subst p
      refine ⟨D2, _, rfl, lstA e3, _, rfl, _, _, rfl, rfl, ?_⟩
      have hD3 := (hD1.same s2).same s3
      have f13 := (f1.trans (DFr.of s2)).trans (DFr.of s3)
      have eF3 := s3 _ _ eF2
      have hA23 := hA22.mono fun v t h => h.kp (skp s3)
      obtain ⟨S0, eS0⟩ : ∃ x, x = (ts.map fun t => lmin t.2).sum := ⟨_, rfl⟩
      obtain ⟨S1, eS1⟩ : ∃ x, x = (ts.map fun t => lmax t.2).sum := ⟨_, rfl⟩
      rw [← eS0, ← eS1]
      rw [← eS0] at hS0
      rw [← eS1] at hS1
      have hfb : ∀ x, formB ts x = x - S0 := fun x => by unfold formB; rw [← eS0]
      have fin : ∀ (x : Int) (H4 : Hp), DFr d b H3 H4 → formB ts x ≤ 1000 → A2 (FTerm K H4) fs ts ∧ SumOk sz (form ts x) ∧ SmallS (form ts x) ∧ H4 F = some (.lst fs) := fun x H4 f4 hb => ⟨hA23.mono fun v t h => FTerm.of (h.kp (hD3.kpf f4)), form_ok htok fun t ht => (hne t ht).1, small_form hdr hb, f4 _ _ hFd.1 hFd.2 eF3⟩
      refine ⟨_, rfl, d, a, b, m, 14, rfl, hD3, by omega, by decide, by decide, fun r H4 hr hD4 f4 => ⟨rfl, _, rfl, ?_⟩⟩
      by_cases hr0 : r = 0
      · subst hr0
        rw [decide_eq_true (show V.int ((0 : Nat) : Int) = V.int 0 from rfl)]
        have hb : formB ts (S0 + (S1 - S0) + 1) ≤ 1000 := by rw [hfb]; omega
        obtain ⟨g1, g2, g3, g4⟩ := fin _ H4 f4 hb
        refine iteT ⟨_, rfl, _, rfl, _, rfl, _, _, rfl, rfl, _, _, rfl, rfl, F, true, fs, ts, _, rfl, lstA g4, g1, hne, by omega, fun x H5 s5 hx => ?_⟩
        exact q _ x (m + 1) H5 g2 g3 (by omega) (hD4.same s5) ((f13.trans f4).trans (DFr.of s5)) hx
      · rw [decide_eq_false (show ¬ (V.int ((r : Nat) : Int) = V.int 0) from fun z => hr0 (by have := V.int.inj z; omega))]
        refine iteF ⟨_, rfl, _, rfl, _, rfl, _, _, rfl, rfl, _, rfl, ?_⟩
        by_cases hw : 0 < S1 - S0
        · rw [decide_eq_true hw]
          obtain ⟨lim, hlim⟩ : ∃ k : Nat, S1 - S0 = (k : Int) := ⟨(S1 - S0).toNat, (Int.toNat_of_nonneg (by omega)).symm⟩
          refine iteT ⟨_, rfl, _, rfl, d, a, b, m + 1, lim, (show [V.ref d, V.int (S1 - S0)] = _ by rw [hlim]), hD4, by omega, by omega, by omega, fun r2 H5 hr2 hD5 f5 => ⟨_, _, rfl, rfl, _, _, rfl, rfl, ?_⟩⟩
          have hb : formB ts (S0 + (1 + (r2 : Int))) ≤ 1000 := by rw [hfb]; omega
          obtain ⟨g1, g2, g3, g4⟩ := fin _ H5 (f4.trans f5) hb
          exact ⟨F, true, fs, ts, _, rfl, lstA g4, g1, hne, by omega, fun x H6 s6 hx => q _ x (m + 2) H6 g2 g3 (by omega) (hD5.same s6) (((f13.trans f4).trans f5).trans (DFr.of s6)) hx⟩
        · rw [decide_eq_false hw]
          have hb : formB ts (S0 + 0) ≤ 1000 := by rw [hfb]; omega
          obtain ⟨g1, g2, g3, g4⟩ := fin _ H4 f4 hb
          exact iteF ⟨_, _, rfl, rfl, F, true, fs, ts, _, rfl, lstA g4, g1, hne, by omega, fun x H6 s6 hx => q _ x (m + 1) H6 g2 g3 (by omega) (hD4.same s6) ((f13.trans f4).trans (DFr.of s6)) hx⟩
end
end Bh
namespace Bh
open PySem PySem.Spec PyProof.Rows L2
def dRow (r : List Nat) : PyData := dInts (r.map fun (c : Nat) => (c : Int))
def dLets (sz : List Nat) : PyData := .tuple (sz.map fun n => dRow (List.range n))
/-- both ways of a choice of values meet again -/
theorem tIf_join {t : TT} {ta tb : TE} {σ : L2.St} {H : Hp} {Q : VK} (R : V → Hp → Prop) (hR : ∀ x H', R x H' → Q x H') (h : (∀ x H', R x H' → Q x H') → tIf t ta tb σ H Q) : tIf t ta tb σ H Q := h hR
section
variable {P : Program} {w : World} {K : PySem.W.Frag} {mg : Str → Option Value} {base : Heap}
theorem pRow {H : Hp} {v : V} {r : List Nat} (p : Pur K H v (dRow r)) : ∃ a, v = .ref a ∧ SqT K H a (natsV r) := by
  obtain ⟨a, rfl, q⟩ := pInts p
  exact ⟨a, rfl, by rw [natsV_ints]; exact q⟩
theorem row_pur {H : Hp} {a : Addr} {r : List Nat} (q : SqT K H a (natsV r)) : Pur K H (.ref a) (dRow r) := by
  refine .tup q ?_
  rw [natsV_ints]
  exact pur_ints _
def sp_begin (K : PySem.W.Frag) : Sp := fun vs H Q _ => ∃ (s : Addr) (ns : List Int), vs = [.ref s] ∧ SqL K H s (ns.map V.int) ∧ ns.length ≤ 1000 ∧ ∀ (d a b : Addr) (H' : Hp), Same H H' → DS H' d a b 0 → H d = none → H b = none → Q (.ref d) H'
theorem sc_law_begin : FnScope ["_law_script", "_law_cells_so", "_law_cell"] ["_law_script"] (defScope (topS 59)) := ⟨rfl, rfl, rfl, by decide +kernel, rfl, by decide +kernel, by decide +kernel⟩
theorem ok_begin (fr : Free mg) (D : DefAt K mg "_law_begin" (topS 59)) : OkD P w K mg base 1 "_law_begin" ["_law_script"] (sp_begin K) := by
  refine D.ok sc_law_begin (fun _ _ _ _ _ _ us hl => match us, hl with | [_], _ => rfl) (fun vs H Q E h => ?_) (fun f cdv A outer s H vs Q E hr h => ?_)
  · obtain ⟨s, ns, rfl, _⟩ := h; rfl
  · obtain ⟨sa, ns, rfl, hs, hl, q⟩ := h
    refine ⟨_, (pss_cons (ps_set (i := 1) sc_law_begin.nd rfl (by first | exact .inl rfl | exact .inr rfl) (pe_ifExp (pt_cmpR (op_neLS (hu0 hr)) (pv 0) (pe_lst pa_nil) (nomark _)) (pe_callTy call_list_of (by rfl) fr.list (by decide +kernel) (pa_cons (pv 0) pa_nil)) (pe_lst (pa_cons pe_int pa_nil))))
 (pss_one (ps_ret (pe_disp (pps_cons pe_str (pv 1) (pps_cons pe_str (pe_lc (own := [("_law_cell", 2)]) rfl sc_law_begin.nd (pi_seqK (K := K) (pv 1)) (blkOk_by (by kernel_rfl)) (fun _ _ _ _ _ => (pg_name (i := 2) sc_law_begin.nd rfl (by first | exact .inl rfl | exact .inr rfl))) (fun _ _ _ _ _ => pts_nil) (fun _ _ _ _ _ => (pe_ifExp (pt_cmpR op_ge (pv 2) (pe_op op_pow pe_int pe_int) (nomark _)) (pv 2) pe_int))) (pps_cons pe_str pe_int pps_nil))) (by rfl) (by rfl) (fun z => by cases z) (by decide))))), ?_⟩
    refine tIf_join (fun x H' => ∃ (ca : Addr) (cs : List Int), x = .ref ca ∧ cs ≠ [] ∧ cs.length ≤ 1000 ∧ Same H H' ∧ H ca = none ∧ H' ca = some (.lst (cs.map V.int))) (fun x H1 hx => ?_) (fun nx => ?_)
    · obtain ⟨ca, cs, rfl, hc0, hcl, s1, hca, eca⟩ := hx
      intro d hd
      have hd0 : H d = none := by
        cases e : H d with
        | none => rfl
        | some u => have := s1 _ _ e; rw [hd] at this; cases this
      have m1 := same_new (o := .dK []) hd
      have ed := upd_same (H := H1) (a := d) (o := .dK [])
      have eca1 := m1 _ _ eca
      refine ⟨_, rfl, ?_⟩
      refine ⟨_, rfl, ca, true, rfl, ⟨_, lstA eca1⟩, fun D hD => ?_⟩
      have hD0 : H D = none := by
        cases e : H D with
        | none => rfl
        | some u => have := (s1.trans m1) _ _ e; rw [hD] at this; cases this
      refine lc_gen (walk_seq (k := true) (xs := cs.map V.int)) (by rw [List.length_map]; omega) hD (fun H' s => lstA (s _ _ eca1)) (fun i acc _ => ∃ ls : List Int, acc = ls.map V.int ∧ ls.length = i) (fun _ _ _ _ _ p => p) (fun _ => ⟨[], rfl, rfl⟩) (fun i x H2 H3 acc C N hi s2 p y cC cN => ?_) (fun acc H2 s2 e l p => ?_)
      · obtain ⟨ls, rfl, hll⟩ := p
        obtain ⟨rfl, ex⟩ := y
        rw [List.getElem?_map] at ex
        obtain ⟨z, ez, rfl⟩ := Option.map_eq_some_iff.mp ex
        refine ⟨rfl, yesT ?_⟩
        refine ⟨_, rfl, _, _, rfl, rfl, ⟨by decide, by decide, by decide⟩, _, _, rfl, rfl, _, rfl, ?_⟩
        have key : ∀ q : Int, C (.int q) H3 := fun q => cC _ _ (Same.refl _) ⟨ls ++ [q], by rw [List.map_append]; rfl, by rw [List.length_append, hll]; rfl⟩
        cases decide ((10 : Int) ^ Int.toNat 18 ≤ z) with
        | true => exact iteT ⟨_, rfl, key _⟩
        | false => exact iteF (key 0)
      · obtain ⟨ls, rfl, hll⟩ := p
        rw [List.length_map] at hll
        refine ⟨s2 _ _ ed, [(.inr "cells", .ref ca), (.inr "lefts", .ref D), (.inr "at", .int 0)], rfl, (by show 3 ≤ 15; decide), ?_⟩
        have em : mergeK [] [((.inr "cells" : Key), V.ref ca), (.inr "lefts", .ref D), (.inr "at", .int 0)] = [(.inr "cells", .ref ca), (.inr "lefts", .ref D), (.inr "at", .int 0)] := rfl
        rw [em]
        have hcd : ca ≠ d := ne_of_none eca hd
        have hDd : D ≠ d := fun z => by rw [z, ed] at hD; cases hD
        have hcD : ca ≠ D := ne_of_none eca1 hD
        refine q d ca D _ (smut ((s1.trans m1).trans s2) hd0) ⟨hcD, upd_same, cs, ls, (upd_ne hcd).trans (s2 _ _ eca1), (upd_ne hDd).trans e, hll.symm, hc0, hcl⟩ hd0 hD0
    · refine ⟨_, rfl, Nat.zero_le _, fun E hE => ?_⟩
      have sE := same_new (o := .lst []) hE
      refine ⟨sa, E, _, rfl, rfl, sE.seq hs, upd_same, _, rfl, ?_⟩
      have fresh : ∀ {p : Addr}, (upd H E (.lst [])) p = none → H p = none := fun {p} hp => by
        cases e : H p with
        | none => rfl
        | some u => have := sE _ _ e; rw [hp] at this; cases this
      cases ns with
      | nil =>
        refine iteF ⟨by rw [sizeLine_eq]; show 1 ≤ _; omega, fun p hp => nx _ _ ⟨p, [0], rfl, by simp, by decide, sE.trans (same_new hp), fresh hp, upd_same⟩⟩
      | cons n0 nr =>
        exact iteT ⟨_, rfl, sa, _, rfl, .inl (sE.seq hs), fun l hl' => nx _ _ ⟨l, n0 :: nr, rfl, by simp, hl, sE.trans (same_new hl'), fresh hl', upd_same⟩⟩
def sp_weight (K : PySem.W.Frag) : Sp := fun vs H Q _ => ∃ (v u : V) (sz : List Nat) (s : PSum) (r : List Nat), vs = [v, u] ∧ Pur K H v (dSum s) ∧ SumOk sz s ∧ s.1.length ≤ 1000 ∧ Pur K H u (dRow r) ∧ Valid sz r ∧ ∀ H', Same H H' → Q (.int (sumTf s (rowF s r))) H'
theorem sc_law_weight : FnScope ["_law_told", "_law_row_so", "_law_choice_so", "_law_weights_so"] ["_law_told", "_law_row_so"] (defScope (topS 63)) := ⟨rfl, rfl, rfl, by decide +kernel, rfl, by decide +kernel, by decide +kernel⟩
theorem ok_weight (fr : Free mg) (D : DefAt K mg "_law_weight" (topS 63)) : OkD P w K mg base 1 "_law_weight" ["_law_told", "_law_row_so"] (sp_weight K) := by
  refine D.ok sc_law_weight (fun _ _ _ _ _ _ us hl => match us, hl with | [_, _], _ => rfl) (fun vs H Q E h => ?_) (fun f cdv A outer s H vs Q E hr h => ?_)
  · obtain ⟨v, u, sz, s, r, rfl, _⟩ := h; rfl
  · obtain ⟨v, u, sz, ps, r, rfl, hv, hok, hl, hu, hval, q⟩ := h
    refine ⟨_, (pss_one (ps_ret (pe_callB (cr_sumK (K := K) rfl) (by rfl) fr.sum (by decide +kernel) (pa_cons (pe_lc (own := [("_law_choice_so", 2), ("_law_weights_so", 3)]) rfl sc_law_weight.nd (pi_seqK (K := K) (pe_ix (ix_tupK (K := K)) (pv 0) pe_int (fun _ _ => rfl))) (blkOk_by (by kernel_rfl)) (fun _ _ _ _ _ => (pg_tupK (K := K) (n := 2) (by rfl) (pgs_cons (pg_name (i := 2) sc_law_weight.nd rfl (by first | exact .inl rfl | exact .inr rfl)) (pgs_cons (pg_name (i := 3) sc_law_weight.nd rfl (by first | exact .inl rfl | exact .inr rfl)) pgs_nil)))) (fun _ _ _ _ _ => pts_nil) (fun _ _ _ _ _ => (pe_ix (ix_tupK (K := K)) (pv 3) (pe_ix (ix_tupK (K := K)) (pv 1) (pv 2) (fun _ _ => rfl)) (fun _ _ => rfl)))) pa_nil)))), ?_⟩
    obtain ⟨b, tt, rfl, hb, htt⟩ := pSum hv
    obtain ⟨t, us, rfl, ht, hul, hus⟩ := pTerms htt
    obtain ⟨ra, rfl, hra⟩ := pRow hu
    refine ⟨_, rfl, b, _, _, _, rfl, rfl, hb, atI_nat (j := 0) rfl, t, false, rfl, ⟨us, ht⟩, fun D hD => ?_⟩
    refine lc_gen (walk_seq (k := false) (xs := us)) (by omega) hD (fun H' s => sq_same (k := false) s ht) (fun j acc _ => acc = ((topsL ps (rowF ps r)).take j).map V.int) (fun _ _ _ _ _ p => p) (fun _ => rfl) (fun j x H5 H6 acc C N hj s5 p y cC cN => ?_) (fun acc H5 s5 e l p => ?_)
    · obtain ⟨rfl, ex⟩ := y
      obtain ⟨tm, et, hpt⟩ := hus j x ex
      obtain ⟨c2, w2, rfl, qc2, qw⟩ := pTerm (hpt.kp (skp s5))
      have hlk := look_mem hok.1.2 (List.mem_of_getElem? et)
      obtain ⟨hc, hw⟩ := hok.w hlk
      have hrl : tm.1 < r.length := by rw [hval.1]; exact hc
      have hrv := hval.2 tm.1 hc
      have er : r[tm.1]? = some (rv r tm.1) := by unfold rv; rw [List.getD_eq_getElem?_getD, List.getElem?_eq_getElem hrl]; rfl
      have hwl : rv r tm.1 < tm.2.length := by rw [hw.len]; exact hrv
      have ew : (tm.2.map V.int)[rv r tm.1]? = some (.int (tm.2.getD (rv r tm.1) 0)) := by rw [List.getElem?_map, List.getD_eq_getElem?_getD, List.getElem?_eq_getElem hwl]; rfl
      refine ⟨c2, _, rfl, qc2, rfl, _, _, rfl, _, _, rfl, rfl, rfl, yesT ?_⟩
      refine ⟨_, rfl, _, rfl, _, rfl, ra, _, _, _, rfl, rfl, (skp s5).sqT hra, atI_nat (natsV_get er), w2, _, _, _, rfl, rfl, qw, atI_nat ew, cC _ _ (Same.refl _) ?_⟩
      have et2 : (topsL ps (rowF ps r))[j]? = some (tm.2.getD (rv r tm.1) 0) := by
        unfold topsL
        rw [List.getElem?_map, et]
        show some (rowF _ _ tm.1) = _
        unfold rowF
        rw [hlk]
      rw [take_snoc et2, List.map_append, p]
      rfl
    · rw [hul, List.take_of_length_le (by unfold topsL; rw [List.length_map]; exact Nat.le_refl _)] at p
      subst p
      exact ⟨D, topsL ps (rowF ps r), rfl, lstA e, q H5 s5⟩
def sp_lets (K : PySem.W.Frag) : Sp := fun vs H Q _ => ∃ (zv : V) (fa : Addr) (sz : List Nat), vs = [zv, .ref fa] ∧ Pur K H zv (dSizes sz) ∧ Tiny sz ∧ SqT K H fa [] ∧ ∀ v H', Same H H' → Pur K H' v (dLets sz) → Q v H'
theorem sc_law_lets : FnScope ["_law_lots_here", "_law_fixed_so", "_law_found", "_law_size", "_law_choice_so", "_law_values_so"] ["_law_lots_here", "_law_fixed_so"] (defScope (topS 68)) := ⟨rfl, rfl, rfl, by decide +kernel, rfl, by decide +kernel, by decide +kernel⟩
theorem ok_lets (fr : Free mg) (D : DefAt K mg "_law_lets" (topS 68)) : OkD P w K mg base 1 "_law_lets" ["_law_lots_here", "_law_fixed_so"] (sp_lets K) := by
  refine D.ok sc_law_lets (fun _ _ _ _ _ _ us hl => match us, hl with | [_, _], _ => rfl) (fun vs H Q E h => ?_) (fun f cdv A outer s H vs Q E hr h => ?_)
  · obtain ⟨zv, fa, sz, rfl, _⟩ := h; rfl
  · obtain ⟨zv, fa, sz, rfl, hzv, hz, hfa, q⟩ := h
    refine ⟨_, (pss_cons (ps_setLc (i := 2) (own := [("_law_size", 3)]) rfl sc_law_lets.nd rfl rfl (sw_true rfl rfl rfl (by decide +kernel)) (pi_seqK (K := K) (pv 0)) (blkOk_by (by kernel_rfl)) (fun _ _ _ _ _ => (pg_name (i := 3) sc_law_lets.nd rfl (by first | exact .inl rfl | exact .inr rfl))) (fun _ _ _ _ _ => pts_nil) (fun _ _ _ _ _ => (pe_tupRg rfl (by rfl) fr.tuple (prg_1 (by rfl) fr.range (pv 3)))))
 (pss_cons (ps_for PassesOwn.never rfl (pi_seqK (K := K) (pv 1)) (pg_tupK (K := K) (n := 2) (by rfl) (pgs_cons (pg_name (i := 4) sc_law_lets.nd rfl (by first | exact .inl rfl | exact .inr rfl)) (pgs_cons (pg_name (i := 5) sc_law_lets.nd rfl (by first | exact .inl rfl | exact .inr rfl)) pgs_nil))) (pss_one (ps_asg (pv 5) (pg_sub (pv 2) (pv 4) set_list))))
 (pss_one (ps_ret (pe_callTy (cr_tupK (K := K)) (by rfl) fr.tuple (by decide +kernel) (pa_cons (pv 2) pa_nil)))))), ?_⟩
    obtain ⟨za, rfl, hza⟩ := pSizes hzv
    have hn4 := hz.1
    refine ⟨_, rfl, za, false, rfl, ⟨_, hza⟩, fun D hD => ?_⟩
    refine lc_gen (walk_seq (k := false) (xs := szV sz)) (by rw [szV_len]; omega) hD (fun H' s => sq_same (k := false) s hza) (fun i acc H' => PurAll K H' acc ((sz.take i).map fun n => dRow (List.range n))) (fun _ _ _ _ e p => p.kp e) (fun _ => .nil) (fun i x H1 H2 acc C N hi s1 p y cC cN => ?_) (fun acc H1 s1 e l p => ?_)
    · obtain ⟨rfl, hx⟩ := y
      obtain ⟨n, hn2, rfl⟩ : ∃ n, sz[i]? = some n ∧ x = .int (n : Nat) := by
        unfold szV at hx
        rw [List.map_map, List.getElem?_map] at hx
        obtain ⟨n, e, rfl⟩ := Option.map_eq_some_iff.mp hx
        exact ⟨n, e, rfl⟩
      have hn := hz.2 n (List.mem_of_getElem? hn2)
      refine ⟨rfl, yesT ⟨_, rfl, _, rfl, RgOk.of_le (by omega) (by omega) (by omega) (by omega), fun pq hpq => ?_⟩⟩
      have erg : rgV 0 ((n : Nat) : Int) = natsV (List.range n) := by
        unfold rgV natsV
        rw [show (((n : Nat) : Int) - 0).toNat = n by omega]
        refine List.map_congr_left fun i _ => ?_
        show V.int (0 + ((i : Nat) : Int)) = _
        rw [Int.zero_add]
      rw [erg]
      have sq := same_new (o := .tup (natsV (List.range n))) hpq
      refine cC _ _ sq ?_
      rw [take_snoc hn2, List.map_append]
      exact (p.kp (skp sq)).app (.cons (row_pur (.inl (.inl upd_same))) .nil)
    · rw [szV_len, List.take_length] at p
      refine ⟨_, rfl, fa, false, rfl, ⟨_, (skp s1).sqT hfa⟩, ?_⟩
      refine for_it (walk_seq (k := false) (xs := [])) (fun i σ H' => H' = H1 ∧ ∃ y3 y4 y5, σ = [some (.ref za), some (.ref fa), some (.ref D), y3, y4, y5]) ⟨rfl, _, _, _, rfl⟩ (fun i σ H' _ p => p.1 ▸ (skp s1).sqT hfa) (fun i x σ H1 H2 hi p y => absurd hi (Nat.not_lt_zero _)) (fun σ H' p2 => ?_)
      obtain ⟨rfl, y3, y4, y5, rfl⟩ := p2
      refine ⟨_, rfl, D, true, acc, rfl, lstA e, fun _ l o hl' ho => ?_, fun z => nomatch z⟩
      obtain ⟨u1, u2, u3⟩ := frz_new (K := K) (xs := acc) hl' ho
      exact q _ _ (s1.trans u1) (.tup u2 (p.kp (skp u1)))
end
end Bh
namespace Bh
open PySem PySem.Spec PyProof.Rows L2
section
variable {P : Program} {w : World} {K : PySem.W.Frag} {mg : Str → Option Value} {base : Heap}
def sp_int : Sp := fun vs H Q _ => ∃ v l : Int, vs = [.int v, .int l] ∧ Q (.bl (decide (l ≤ v))) H
theorem sc_law_int : FnScope ["_law_worth", "_law_low"] ["_law_worth", "_law_low"] (defScope (topS 72)) := ⟨rfl, rfl, rfl, by decide +kernel, rfl, by decide +kernel, by decide +kernel⟩
theorem ok_int (fr : Free mg) (D : DefAt K mg "_law_int" (topS 72)) : OkD P w K mg base 1 "_law_int" ["_law_worth", "_law_low"] sp_int := by
  refine D.ok sc_law_int (fun _ _ _ _ _ _ us hl => match us, hl with | [_, _], _ => rfl) (fun vs H Q E h => ?_) (fun f cdv A outer s H vs Q E hr h => ?_)
  · obtain ⟨v, l, rfl, _⟩ := h; rfl
  · obtain ⟨v, l, rfl, q⟩ := h
    refine ⟨_, (pss_one (ps_ret (pe_and (pe_callB cr_isInt (by rfl) fr.isinstance (by decide +kernel) (pa_cons (pv 0) (pa_cons (pe_bltn (v := .ty "int") (by rfl) fr.int (by decide +kernel) rfl) pa_nil))) (pe_and (pe_not (pe_callB cr_isBool (by rfl) fr.isinstance (by decide +kernel) (pa_cons (pv 0) (pa_cons (pe_bltn (v := .ty "bool") (by rfl) fr.bool (by decide +kernel) rfl) pa_nil)))) (pe_one (pe_cmpR op_ge (pv 0) (pv 1) (nomark _))))))), ?_⟩
    exact ⟨_, rfl, v, rfl, true, rfl, iteT ⟨_, rfl, v, rfl, false, rfl, true, rfl, iteT ⟨_, rfl, _, rfl, v, l, rfl, rfl, q⟩⟩⟩
def sp_lahead : Sp := fun vs H Q _ => ∃ v n : Int, vs = [.int v, .int n] ∧ Q (.bl (decide (0 ≤ v ∧ v < n))) H
theorem sc_law_ahead : FnScope ["_law_worth", "_law_many_so"] ["_law_worth", "_law_many_so"] (defScope (topS 73)) := ⟨rfl, rfl, rfl, by decide +kernel, rfl, by decide +kernel, by decide +kernel⟩
theorem ok_lahead (fr : Free mg) (D : DefAt K mg "_law_ahead" (topS 73)) (d__law_int : OkD P w K mg base 1 "_law_int" ["_law_worth", "_law_low"] sp_int) : OkD P w K mg base 2 "_law_ahead" ["_law_worth", "_law_many_so"] sp_lahead := by
  refine D.ok sc_law_ahead (fun _ _ _ _ _ _ us hl => match us, hl with | [_, _], _ => rfl) (fun vs H Q E h => ?_) (fun f cdv A outer s H vs Q E hr h => ?_)
  · obtain ⟨v, n, rfl, _⟩ := h; rfl
  · obtain ⟨v, n, rfl, q⟩ := h
    refine ⟨_, (pss_one (ps_ret (pe_and (pe_callD d__law_int (hr.mono (by decide)) (by rfl) (pa_cons (pv 0) (pa_cons pe_int pa_nil))) (pe_one (pe_cmpR op_lt (pv 0) (pv 1) (nomark _)))))), ?_⟩
    refine ⟨_, rfl, v, 0, rfl, decide (0 ≤ v), rfl, ?_⟩
    by_cases h1 : 0 ≤ v
    · rw [decide_eq_true h1]
      refine iteT ⟨_, rfl, _, rfl, v, n, rfl, rfl, ?_⟩
      show Q (.bl (decide (v < n))) H
      rw [show decide (v < n) = decide (0 ≤ v ∧ v < n) by simp [h1]]
      exact q
    · rw [decide_eq_false h1]
      refine iteF ?_
      rw [show decide (0 ≤ v ∧ v < n) = false by simp [h1]] at q
      exact q
theorem vals_full : ∀ n < 5, vals (2 ^ n - 1) = List.range n := by decide +kernel
def sp_tops (K : PySem.W.Frag) : Sp := fun vs H Q _ => ∃ (v u : V) (sz : List Nat) (s : PSum), vs = [v, u] ∧ Pur K H v (dSum s) ∧ SumOk sz s ∧ Tiny sz ∧ Pur K H u (dLets sz) ∧ ∀ H', Same H H' → Q (.int (sumTf s (topF s (sz.map fun n => 2 ^ n - 1)))) H'
theorem sc_law_tops : FnScope ["_law_told", "_law_lets_so", "_law_worth", "_law_choice_so", "_law_weights_so"] ["_law_told", "_law_lets_so"] (defScope (topS 71)) := ⟨rfl, rfl, rfl, by decide +kernel, rfl, by decide +kernel, by decide +kernel⟩
theorem ok_tops (fr : Free mg) (D : DefAt K mg "_law_tops" (topS 71)) : OkD P w K mg base 1 "_law_tops" ["_law_told", "_law_lets_so"] (sp_tops K) := by
  refine D.ok sc_law_tops (fun _ _ _ _ _ _ us hl => match us, hl with | [_, _], _ => rfl) (fun vs H Q E h => ?_) (fun f cdv A outer s H vs Q E hr h => ?_)
  · obtain ⟨v, u, sz, s, rfl, _⟩ := h; rfl
  · obtain ⟨v, u, sz, ps, rfl, hv, hok, hz, hu, q⟩ := h
    refine ⟨_, (pss_one (ps_ret (pe_callB (cr_sumK (K := K) rfl) (by rfl) fr.sum (by decide +kernel) (pa_cons (pe_lc (own := [("_law_choice_so", 3), ("_law_weights_so", 4)]) rfl sc_law_tops.nd (pi_seqK (K := K) (pe_ix (ix_tupK (K := K)) (pv 0) pe_int (fun _ _ => rfl))) (blkOk_by (by kernel_rfl)) (fun _ _ _ _ _ => (pg_tupK (K := K) (n := 2) (by rfl) (pgs_cons (pg_name (i := 3) sc_law_tops.nd rfl (by first | exact .inl rfl | exact .inr rfl)) (pgs_cons (pg_name (i := 4) sc_law_tops.nd rfl (by first | exact .inl rfl | exact .inr rfl)) pgs_nil)))) (fun _ _ _ _ _ => pts_nil) (fun _ _ _ _ _ => (pe_callB (cr_maxK (K := K) rfl (hu_of hr)) (by rfl) fr.max (by decide +kernel) (pa_cons (pe_lc (own := [("_law_worth", 2)]) rfl sc_law_tops.nd (pi_seqK (K := K) (pe_ix (ix_tupK (K := K)) (pv 1) (pv 3) (fun _ _ => rfl))) (blkOk_by (by kernel_rfl)) (fun _ _ _ _ _ => (pg_name (i := 2) sc_law_tops.nd rfl (by first | exact .inl rfl | exact .inr rfl))) (fun _ _ _ _ _ => pts_nil) (fun _ _ _ _ _ => (pe_ix (ix_tupK (K := K)) (pv 4) (pv 2) (fun _ _ => rfl)))) pa_nil)))) pa_nil)))), ?_⟩
    obtain ⟨b, tt, rfl, hb, htt⟩ := pSum hv
    obtain ⟨t, us, rfl, ht, hul, hus⟩ := pTerms htt
    obtain ⟨la, ls, rfl, hla, hls⟩ := hu.inv
    have hlA := pur_A2 (d := fun n => dRow (List.range n)) hls
    have hn4 := hz.1
    have hl4 : ps.1.length ≤ 4 := Nat.le_trans hok.1.len hn4
    refine ⟨_, rfl, b, _, _, _, rfl, rfl, hb, atI_nat (j := 0) rfl, t, false, rfl, ⟨us, ht⟩, fun D hD => ?_⟩
    refine lc_gen (walk_seq (k := false) (xs := us)) (by omega) hD (fun H' s => sq_same (k := false) s ht) (fun j acc _ => acc = ((topsL ps (topF ps (sz.map fun n => 2 ^ n - 1))).take j).map V.int) (fun _ _ _ _ _ p => p) (fun _ => rfl) (fun j x H5 H6 acc C N hj s5 p y cC cN => ?_) (fun acc H5 s5 e l p => ?_)
    · obtain ⟨rfl, ex⟩ := y
      obtain ⟨tm, et, hpt⟩ := hus j x ex
      obtain ⟨c2, w2, rfl, qc2, qw⟩ := pTerm (hpt.kp (skp s5))
      have hlk := look_mem hok.1.2 (List.mem_of_getElem? et)
      obtain ⟨hc, hw⟩ := hok.w hlk
      have hz4 := hz.le tm.1
      have hz1 := hz.pos hc
      obtain ⟨lv, elv, hlv⟩ := hlA.getR (szOf_get hc)
      obtain ⟨lr, rfl, hlr⟩ := pRow (hlv.kp (skp s5))
      refine ⟨c2, _, rfl, qc2, rfl, _, _, rfl, _, _, rfl, rfl, rfl, yesT ?_⟩
      refine ⟨_, rfl, _, rfl, la, _, _, _, rfl, rfl, (skp s5).sqT hla, atI_nat elv, lr, false, rfl, ⟨_, hlr⟩, fun D2 hD2 => ?_⟩
      refine lc_gen (walk_seq (k := false) (xs := natsV (List.range (szOf sz tm.1)))) (by rw [natsV_len, List.length_range]; omega) hD2 (fun H' s => sq_same (k := false) s hlr) (fun i acc _ => acc = (((List.range (szOf sz tm.1)).map fun v => tm.2.getD v 0).take i).map V.int) (fun _ _ _ _ _ p => p) (fun _ => rfl) (fun i x H7 H8 acc2 C2 N2 hi s7 p7 y cC2 cN2 => ?_) (fun acc2 H7 s7 e7 l7 p7 => ?_)
      · obtain ⟨rfl, ex2⟩ := y
        obtain ⟨v, ev, rfl⟩ := natsV_inv ex2
        have hv1 := List.mem_range.mp (List.mem_of_getElem? ev)
        have hwl : v < tm.2.length := by rw [hw.len]; exact hv1
        have ew : (tm.2.map V.int)[v]? = some (.int (tm.2.getD v 0)) := by rw [List.getElem?_map, List.getD_eq_getElem?_getD, List.getElem?_eq_getElem hwl]; rfl
        refine ⟨rfl, yesT ⟨_, rfl, _, rfl, w2, _, _, _, rfl, rfl, (skp s7).sqT qw, atI_nat ew, cC2 _ _ (Same.refl _) ?_⟩⟩
        rw [take_snoc (show ((List.range (szOf sz tm.1)).map fun v => tm.2.getD v 0)[i]? = some (tm.2.getD v 0) by rw [List.getElem?_map, ev]; rfl), List.map_append, p7]
        rfl
      · rw [natsV_len, List.take_of_length_le (by rw [List.length_map]; exact Nat.le_refl _)] at p7
        subst p7
        refine ⟨D2, true, _, rfl, lstA e7, (fun z => by have := congrArg List.length z; rw [List.length_map, List.length_range] at this; simp at this; omega), cC _ _ s7 ?_⟩
        have et2 : (topsL ps (topF ps (sz.map fun n => 2 ^ n - 1)))[j]? = some (lmax ((List.range (szOf sz tm.1)).map fun v => tm.2.getD v 0)) := by
          unfold topsL
          rw [List.getElem?_map, et]
          show some (topF _ _ tm.1) = _
          unfold topF
          rw [hlk]
          show some (topB tm.2 _) = _
          unfold topB
          rw [fulls_at hc, vals_full _ (by omega)]
        rw [take_snoc et2, List.map_append, p]
        rfl
    · rw [hul, List.take_of_length_le (by unfold topsL; rw [List.length_map]; exact Nat.le_refl _)] at p
      subst p
      exact ⟨D, topsL ps (topF ps (sz.map fun n => 2 ^ n - 1)), rfl, lstA e, q H5 s5⟩
def sp_within (K : PySem.W.Frag) : Sp := fun vs H Q _ => ∃ (v u : V) (sz r : List Nat), vs = [v, u] ∧ Tiny sz ∧ Pur K H v (dLets sz) ∧ Pur K H u (dRow r) ∧ Valid sz r ∧ ∀ H', Same H H' → Q (.bl true) H'
theorem sc_law_within : FnScope ["_law_lets_so", "_law_row_so", "_law_values_so", "_law_worth"] ["_law_lets_so", "_law_row_so"] (defScope (topS 69)) := ⟨rfl, rfl, rfl, by decide +kernel, rfl, by decide +kernel, by decide +kernel⟩
theorem ok_within (fr : Free mg) (D : DefAt K mg "_law_within" (topS 69)) : OkD P w K mg base 1 "_law_within" ["_law_lets_so", "_law_row_so"] (sp_within K) := by
  refine D.ok sc_law_within (fun _ _ _ _ _ _ us hl => match us, hl with | [_, _], _ => rfl) (fun vs H Q E h => ?_) (fun f cdv A outer s H vs Q E hr h => ?_)
  · obtain ⟨v, u, sz, r, rfl, _⟩ := h; rfl
  · obtain ⟨v, u, sz, r, rfl, hz, hv, hu, hval, q⟩ := h
    refine ⟨_, (pss_one (ps_ret (pe_cmpR (op_eqL (hu0 hr)) (pe_lc (own := [("_law_values_so", 2), ("_law_worth", 3)]) rfl sc_law_within.nd (pi_zipK (K := K) (by rfl) fr.zip (pa_cons (pv 0) (pa_cons (pv 1) pa_nil))) (blkOk_by (by kernel_rfl)) (fun _ _ _ _ _ => (pg_tupK (K := K) (n := 2) (by rfl) (pgs_cons (pg_name (i := 2) sc_law_within.nd rfl (by first | exact .inl rfl | exact .inr rfl)) (pgs_cons (pg_name (i := 3) sc_law_within.nd rfl (by first | exact .inl rfl | exact .inr rfl)) pgs_nil)))) (fun _ _ _ _ _ => (pts_one (pt_cmpR (op_notInK (K := K)) (pv 3) (pv 2) (by rfl)))) (fun _ _ _ _ _ => pe_int)) (pe_lst pa_nil) (nomark _)))), ?_⟩
    obtain ⟨la, ls, rfl, hla, hls⟩ := hv.inv
    have hlA := pur_A2 (d := fun n => dRow (List.range n)) hls
    obtain ⟨ra, rfl, hra⟩ := pRow hu
    have hn4 := hz.1
    refine ⟨_, rfl, _, rfl, la, ra, false, false, ls, _, rfl, hla, hra, fun D hD => ?_⟩
    refine lc_gen (walk_zipB rfl) (by have := hlA.1; omega) hD (fun H' s => ⟨sq_same (k := false) s hla, sq_same (k := false) s hra⟩) (fun _ acc _ => acc = []) (fun _ _ _ _ _ p => p) (fun _ => rfl) (fun i x H1 H2 acc C N hi s1 p y cC cN => ?_) (fun acc H1 s1 e l p => ?_)
    · obtain ⟨T, x1, x2, rfl, hT, s2, eT, e1, e2⟩ := same_pair y
      obtain ⟨c, ec, rfl⟩ := natsV_inv e2
      obtain ⟨n, en, hn⟩ := hlA.getL e1
      have hil : i < sz.length := (List.getElem?_eq_some_iff.mp en).1
      obtain ⟨lr, rfl, hlr⟩ := pRow (hn.kp (skp (s1.trans s2)))
      have hcn : c < n := by
        have h1 := hval.2 i hil
        unfold rv szOf at h1
        rw [List.getD_eq_getElem?_getD, List.getD_eq_getElem?_getD, ec, en] at h1
        exact h1
      refine ⟨T, _, rfl, .inl (.inl eT), rfl, _, _, rfl, _, _, rfl, rfl, rfl, ?_⟩
      have hin : inV (V.int (c : Nat)) (natsV (List.range n)) = true := by
        unfold inV natsV
        rw [List.any_map, List.any_eq_true]
        exact ⟨c, List.mem_range.mpr hcn, by show eqV (V.int (c : Nat)) (V.int (c : Nat)) = true; simp [eqV]⟩
      have hfl : (natsV (List.range n)).all flatV = true := by
        unfold natsV
        rw [List.all_map, List.all_eq_true]
        intro x _
        rfl
      refine ⟨_, rfl, _, rfl, lr, _, rfl, .inr hlr, rfl, hfl, _, rfl, ?_⟩
      rw [hin]
      exact iteF (cN _ s2 p)
    · subst p
      refine ⟨Nat.zero_le _, fun E hE => ?_⟩
      have sE := same_new (o := .lst []) hE
      exact ⟨D, E, [], rfl, rfl, sE _ _ e, upd_same, q _ (s1.trans sE)⟩
end
end Bh
namespace Bh
open PySem PySem.Spec PyProof.Rows L2
def nextR (n : Nat) (r : List Nat) : List (List Nat) := (List.range n).map fun v => r ++ [v]
theorem nextR_len (n : Nat) (r : List Nat) : (nextR n r).length = n := by unfold nextR; rw [List.length_map, List.length_range]
theorem flat_len {n : Nat} (hn : n ≤ 4) : ∀ (l : List (List Nat)), (l.flatMap (nextR n)).length ≤ 4 * l.length
  | [] => Nat.zero_le _
  | r :: l => by
    rw [List.flatMap_cons, List.length_append, nextR_len, List.length_cons]
    have := flat_len hn l
    omega
theorem rows_le {sz : List Nat} (h : ∀ n ∈ sz, n ≤ 4) : (rowsOf sz).length ≤ 4 ^ sz.length := by
  induction sz using snoc_ind with
  | nil => exact Nat.le_refl _
  | snoc l n ih =>
    rw [rowsOf_snoc, List.length_append]
    have h1 := ih fun x hx => h x (List.mem_append_left _ hx)
    have h2 := flat_len (h n (List.mem_append_right _ (List.mem_singleton.mpr rfl))) (rowsOf l)
    show (List.flatMap (nextR n) (rowsOf l)).length ≤ 4 ^ (l.length + 1)
    rw [Nat.pow_succ]
    omega
theorem oldN {H H1 : Hp} {a : Addr} (s : Same H H1) (e : H1 a = none) : H a = none := by
  cases e2 : H a with
  | none => rfl
  | some u => have := s _ _ e2; rw [e] at this; cases this
theorem A2.app {α β : Type} {R : α → β → Prop} {xs ys : List α} {ts us : List β} (h : A2 R xs ts) (g : A2 R ys us) : A2 R (xs ++ ys) (ts ++ us) := by
  refine ⟨by rw [List.length_append, List.length_append, h.1, g.1], fun i x t a b => ?_⟩
  by_cases hi : i < xs.length
  · rw [List.getElem?_append_left hi] at a
    rw [List.getElem?_append_left (h.1 ▸ hi)] at b
    exact h.2 i x t a b
  · rw [List.getElem?_append_right (by omega)] at a
    rw [List.getElem?_append_right (by rw [← h.1]; omega), ← h.1] at b
    exact g.2 _ x t a b
section
variable {P : Program} {w : World} {K : PySem.W.Frag} {mg : Str → Option Value} {base : Heap}
def sp_rows (K : PySem.W.Frag) : Sp := fun vs H Q _ => ∃ (zv : V) (sz : List Nat), vs = [zv] ∧ Pur K H zv (dSizes sz) ∧ Tiny sz ∧ ∀ (p : Addr) (xs : List V) (H' : Hp), Same H H' → H p = none → H' p = some (.lst xs) → A2 (fun v r => Pur K H' v (dRow r)) xs (rowsOf sz) → Q (.ref p) H'
theorem sc_law_rows : FnScope ["_law_sizes_so", "_law_found", "_law_size", "_law_more", "_law_row_so", "_law_worth"] ["_law_sizes_so"] (defScope (topS 64)) := ⟨rfl, rfl, rfl, by decide +kernel, rfl, by decide +kernel, by decide +kernel⟩
theorem ok_rows (fr : Free mg) (D : DefAt K mg "_law_rows" (topS 64)) : OkD P w K mg base 1 "_law_rows" ["_law_sizes_so"] (sp_rows K) := by
  refine D.ok sc_law_rows (fun _ _ _ _ _ _ us hl => match us, hl with | [_], _ => rfl) (fun vs H Q E h => ?_) (fun f cdv A outer s H vs Q E hr h => ?_)
  · obtain ⟨zv, sz, rfl, _⟩ := h; rfl
  · obtain ⟨zv, sz, rfl, hzv, hz, q⟩ := h
    refine ⟨_, (pss_cons (ps_set (i := 1) sc_law_rows.nd rfl (by first | exact .inl rfl | exact .inr rfl) (pe_lst (pa_cons (pe_tupF pa_nil) pa_nil)))
 (pss_cons (ps_for PassesOwn.never rfl (pi_seqK (K := K) (pv 0)) (pg_name (i := 2) sc_law_rows.nd rfl (by first | exact .inl rfl | exact .inr rfl)) (pss_cons (ps_set (i := 3) sc_law_rows.nd rfl (by first | exact .inl rfl | exact .inr rfl) (pe_lst pa_nil))
 (pss_cons (ps_for PassesOwn.never rfl (pi_seqK (K := K) (pv 1)) (pg_name (i := 4) sc_law_rows.nd rfl (by first | exact .inl rfl | exact .inr rfl)) (pss_one (ps_set (i := 3) sc_law_rows.nd rfl (by first | exact .inl rfl | exact .inr rfl) (pe_op op_cat (pv 3) (pe_lc (own := [("_law_worth", 5)]) rfl sc_law_rows.nd (pi_range1 (by rfl) fr.range (pa_cons (pv 2) pa_nil)) (blkOk_by (by kernel_rfl)) (fun _ _ _ _ _ => (pg_name (i := 5) sc_law_rows.nd rfl (by first | exact .inl rfl | exact .inr rfl))) (fun _ _ _ _ _ => pts_nil) (fun _ _ _ _ _ => (pe_op (op_catG (K := K)) (pv 4) (pe_tupF (pa_cons (pv 5) pa_nil)))))))))
 (pss_one (ps_set (i := 1) sc_law_rows.nd rfl (by first | exact .inl rfl | exact .inr rfl) (pe_callTy call_list_of (by rfl) fr.list (by decide +kernel) (pa_cons (pv 3) pa_nil)))))))
 (pss_one (ps_ret (pv 1))))), ?_⟩
    obtain ⟨za, rfl, hza⟩ := pSizes hzv
    have hn4 := hz.1
    have hsz4 : ∀ n ∈ sz, n ≤ 4 := fun n hn => (hz.2 n hn).2
    have hlen : ∀ j, (rowsOf (sz.take j)).length ≤ 256 := fun j => by
      have h1 := rows_le (sz := sz.take j) fun n hn => hsz4 n (List.mem_of_mem_take hn)
      have h2 : (sz.take j).length ≤ 4 := by rw [List.length_take]; omega
      have h3 : 4 ^ (sz.take j).length ≤ 4 ^ 4 := Nat.pow_le_pow_right (by decide) h2
      omega
    refine ⟨Nat.zero_le _, fun p0 o0 hp0 ho0 => ?_⟩
    obtain ⟨u1, u2, u3⟩ := frz_new (K := K) (xs := []) hp0 ho0
    refine ⟨by rw [sizeLine_eq]; show 1 ≤ _; omega, fun F hF => ?_⟩
    have m1 := same_new (o := .lst [V.ref p0]) hF
    refine ⟨_, rfl, za, false, rfl, ⟨_, (skp (u1.trans m1)).sqT hza⟩, ?_⟩
    refine for_it (walk_seq (k := false) (xs := szV sz)) (fun j σ H' => ∃ y2 y3 y4 F xs, σ = [some (.ref za), some (.ref F), y2, y3, y4, none] ∧ Same H H' ∧ H F = none ∧ H' F = some (.lst xs) ∧ A2 (fun v r => Pur K H' v (dRow r)) xs (rowsOf (sz.take j)))
      ⟨none, none, none, F, [.ref p0], rfl, u1.trans m1, oldN u1 hF, upd_same, ⟨rfl, fun i x t a b => ?_⟩⟩ (fun j σ H' _ p => ?_) (fun j x σ H1 H2 hj p y => ?_) (fun σ H' p => ?_)
    · match i, a, b with
      | 0, a, b => cases a; cases b; exact .tup ((skp m1).sqT u2) .nil
    · obtain ⟨_, _, _, _, _, _, s1, _⟩ := p
      exact (skp s1).sqT hza
    · obtain ⟨y2, y3, y4, F, xs, rfl, s1, hF0, eF, hA⟩ := p
      obtain ⟨rfl, ex⟩ := y
      rw [szV_len] at hj
      rw [szV_get (szOf_get hj)] at ex
      injection ex with ex
      subst ex
      have hz4 := hz.le j
      have hj256 := hlen j
      have hnext : rowsOf (sz.take (j + 1)) = (rowsOf (sz.take j)).flatMap (nextR (szOf sz j)) := by
        rw [take_snoc (szOf_get hj), rowsOf_snoc]
        rfl
      refine ⟨Nat.zero_le _, fun M hM => ?_⟩
      have mM := same_new (o := .lst []) hM
      have hFM : F ≠ M := ne_of_none eF hM
      refine ⟨_, rfl, F, true, rfl, ⟨xs, lstA (mM _ _ eF)⟩, ?_⟩
      refine for_it (walk_seq (k := true) (xs := xs)) (fun m σ H' => ∃ y4 M ys, σ = [some (.ref za), some (.ref F), some (.int (szOf sz j : Nat)), some (.ref M), y4, none] ∧ Same H2 H' ∧ H' M = some (.lst ys) ∧ A2 (fun v r => Pur K H' v (dRow r)) ys (((rowsOf (sz.take j)).take m).flatMap (nextR (szOf sz j))))
        ⟨y4, M, [], rfl, mM, upd_same, A2.nil⟩ (fun m σ H' _ p => ?_) (fun m x σ H3 H4 hm p y => ?_) (fun σ H' p => ?_)
      · obtain ⟨_, _, _, _, s2, _⟩ := p
        exact lstA (s2 _ _ eF)
      · obtain ⟨y4, M, ys, rfl, s2, eM, hB⟩ := p
        obtain ⟨rfl, ex⟩ := y
        obtain ⟨r, er, hr0⟩ := hA.getL ex
        obtain ⟨ra, rfl, hra⟩ := pRow (hr0.kp (skp s2))
        refine ⟨_, rfl, _, rfl, _, rfl, by omega, by omega, fun D hD => ?_⟩
        have hrl : r.length ≤ 4 := by
          have := rows_len _ _ (List.mem_of_getElem? er)
          rw [this, List.length_take]
          omega
        refine lc_gen (walk_range (lo := 0)) (by rw [Int.toNat_natCast]; omega) hD (fun _ _ => trivial) (fun i acc H' => A2 (fun v r => Pur K H' v (dRow r)) acc ((nextR (szOf sz j) r).take i)) (fun _ _ _ _ e p => p.mono fun v r h => h.kp e) (fun _ => A2.nil) (fun i x H5 H6 acc C N hi s5 p y cC cN => ?_) (fun acc H5 s5 e l p => ?_)
        · obtain ⟨rfl, rfl⟩ := y
          rw [Int.toNat_natCast] at hi
          refine ⟨rfl, yesT ⟨_, rfl, _, rfl, by rw [sizeLine_eq]; show 1 ≤ _; omega, fun p1 o1 hp1 ho1 => ?_⟩⟩
          obtain ⟨v1, v2, v3⟩ := frz_new (K := K) (xs := [V.int (0 + ((i : Nat) : Int))]) hp1 ho1
          refine ⟨ra, p1, _, _, rfl, rfl, (skp (s5.trans v1)).sqT hra, v2, by rw [natsV_len]; show r.length + 1 ≤ _; omega, fun p2 H7 s7 hp2 => cC _ _ (v1.trans s7) ?_⟩
          rw [take_snoc (show (nextR (szOf sz j) r)[i]? = some (r ++ [i]) by unfold nextR; rw [List.getElem?_map, List.getElem?_range hi]; rfl)]
          refine (p.mono fun v r h => h.kp (skp (v1.trans s7))).snoc (row_pur ?_)
          rw [natsV_app]
          have e0 : [V.int (0 + ((i : Nat) : Int))] = natsV [i] := by rw [Int.zero_add]; rfl
          rw [← e0]
          exact hp2
        · rw [Int.toNat_natCast, List.take_of_length_le (by rw [nextR_len]; exact Nat.le_refl _)] at p
          have eM5 := s5 _ _ eM
          have hl1 := hB.1
          have hl2 := p.1
          rw [nextR_len] at hl2
          have hfl := flat_len (n := szOf sz j) hz4 ((rowsOf (sz.take j)).take m)
          have htl : ((rowsOf (sz.take j)).take m).length ≤ 256 := by rw [List.length_take]; omega
          refine ⟨M, D, ys, acc, rfl, rfl, eM5, e, sz_ok (by omega), fun M2 hM2 => ?_⟩
          have m2 := same_new (o := .lst (ys ++ acc)) hM2
          refine ⟨_, M2, ys ++ acc, rfl, (s2.trans s5).trans m2, upd_same, ?_⟩
          rw [take_snoc er, List.flatMap_append]
          have e1 : [r].flatMap (nextR (szOf sz j)) = nextR (szOf sz j) r := by rw [List.flatMap_cons]; exact List.append_nil _
          rw [e1]
          exact (hB.mono fun v r h => h.kp (skp (s5.trans m2))).app (p.mono fun v r h => h.kp (skp m2))
      · obtain ⟨y4, M, ys, rfl, s2, eM, hB⟩ := p
        rw [hA.1, List.take_length, ← hnext] at hB
        refine ⟨_, rfl, M, ys, rfl, .inl (lstA eM), fun F2 hF2 => ?_⟩
        have m2 := same_new (o := .lst ys) hF2
        exact ⟨_, _, _, F2, ys, rfl, (s1.trans s2).trans m2, oldN (s1.trans s2) hF2, upd_same, hB.mono fun v r h => h.kp (skp m2)⟩
    · obtain ⟨y2, y3, y4, F, xs, rfl, s1, hF0, eF, hA⟩ := p
      rw [szV_len, List.take_length] at hA
      exact ⟨_, rfl, q F xs _ s1 hF0 eF hA⟩
end
end Bh
namespace Bh
open PySem PySem.Spec PyProof.Rows L2
def keepB (T : Sums) (r : List Nat) : Bool := T.all fun u => decide (u.2 ≤ sumTf u (rowF u r))
section
variable {P : Program} {w : World} {K : PySem.W.Frag} {mg : Str → Option Value} {base : Heap}
def sp_keeping (K : PySem.W.Frag) : Sp := fun vs H Q _ => ∃ (zv lv : V) (sa : Addr) (sz : List Nat) (xs : List V) (T : Sums), vs = [zv, .ref sa, lv] ∧ Pur K H zv (dSizes sz) ∧ Tiny sz ∧ SqT K H sa xs ∧ A2 (fun v s => Pur K H v (dSum s)) xs T ∧ (∀ s ∈ T, SumOk sz s) ∧ T.length ≤ 1000 ∧ Pur K H lv (dLets sz) ∧
  ∀ (p : Addr) (ys : List V) (H' : Hp), Same H H' → H' p = some (.lst ys) → A2 (fun v r => Pur K H' v (dRow r)) ys ((rowsOf sz).filter (keepB T)) → Q (.ref p) H'
theorem sc_law_keeping : FnScope ["_law_lots_here", "_law_sums_so", "_law_lets_so", "_law_found", "_law_row_so", "_law_told"] ["_law_lots_here", "_law_sums_so", "_law_lets_so"] (defScope (topS 70)) := ⟨rfl, rfl, rfl, by decide +kernel, rfl, by decide +kernel, by decide +kernel⟩
theorem ok_keeping (fr : Free mg) (D : DefAt K mg "_law_keeping" (topS 70)) (d__law_rows : OkD P w K mg base 1 "_law_rows" ["_law_sizes_so"] (sp_rows K)) (d__law_within : OkD P w K mg base 1 "_law_within" ["_law_lets_so", "_law_row_so"] (sp_within K))
    (d__law_weight : OkD P w K mg base 1 "_law_weight" ["_law_told", "_law_row_so"] (sp_weight K)) : OkD P w K mg base 2 "_law_keeping" ["_law_lots_here", "_law_sums_so", "_law_lets_so"] (sp_keeping K) := by
  refine D.ok sc_law_keeping (fun _ _ _ _ _ _ us hl => match us, hl with | [_, _, _], _ => rfl) (fun vs H Q E h => ?_) (fun f cdv A outer s H vs Q E hr h => ?_)
  · obtain ⟨zv, lv, sa, sz, xs, T, rfl, _⟩ := h; rfl
  · obtain ⟨zv, lv, sa, sz, xs, T, rfl, hzv, hz, hsa, hxs, hok, hTl, hlv, q⟩ := h
    refine ⟨_, (pss_cons (ps_set (i := 3) sc_law_keeping.nd rfl (by first | exact .inl rfl | exact .inr rfl) (pe_lst pa_nil))
 (pss_cons (ps_for PassesOwn.never rfl (pi_seqK (K := K) (pe_callD d__law_rows (hr.mono (by decide)) (by rfl) (pa_cons (pv 0) pa_nil))) (pg_name (i := 4) sc_law_keeping.nd rfl (by first | exact .inl rfl | exact .inr rfl)) (pss_one (ps_if (PW.pt (pw_and (pt_val (pe_callD d__law_within (hr.mono (by decide)) (by rfl) (pa_cons (pv 2) (pa_cons (pv 4) pa_nil)))) (pw_and1 (pt_cmpR (op_eqL (hu0 hr)) (pe_lc (own := [("_law_told", 5)]) rfl sc_law_keeping.nd (pi_seqK (K := K) (pv 1)) (blkOk_by (by kernel_rfl)) (fun _ _ _ _ _ => (pg_name (i := 5) sc_law_keeping.nd rfl (by first | exact .inl rfl | exact .inr rfl))) (fun _ _ _ _ _ => (pts_one (pt_cmpR op_lt (pe_callD d__law_weight (hr.mono (by decide)) (by rfl) (pa_cons (pv 5) (pa_cons (pv 4) pa_nil))) (pe_ix (ix_tupK (K := K)) (pv 5) pe_int (fun _ _ => rfl)) (nomark _)))) (fun _ _ _ _ _ => pe_int)) (pe_lst pa_nil) (nomark _))))) (pss_one (ps_expr (pe_bm PySem.F.plainAttrs_list PySem.F.slot_list_append PySem.F.type_list_append mt_append (pv 3) (pa_cons (pv 4) pa_nil)))) pss_nil)))
 (pss_one (ps_ret (pv 3))))), ?_⟩
    have hn4 := hz.1
    refine ⟨Nat.zero_le _, fun F hF => ?_⟩
    have m0 := same_new (o := .lst []) hF
    refine ⟨_, rfl, zv, sz, rfl, hzv.kp (skp m0), hz, fun R rs H1 s1 hRn eR hR => ?_⟩
    have s01 := m0.trans s1
    have hrl : (rowsOf sz).length ≤ 256 := by
      have h1 := rows_le (sz := sz) fun n hn => (hz.2 n hn).2
      have h3 : 4 ^ sz.length ≤ 4 ^ 4 := Nat.pow_le_pow_right (by decide) hn4
      omega
    have eF1 := s1 _ _ (upd_same (H := H) (a := F) (o := .lst []))
    refine ⟨R, true, rfl, ⟨rs, lstA eR⟩, ?_⟩
    have hFR : H F = none := hF
    refine for_it (walk_seq (k := true) (xs := rs)) (fun m σ H' => ∃ y4 ys, σ = [some zv, some (.ref sa), some lv, some (.ref F), y4, none] ∧ Same H H' ∧ H' F = some (.lst ys) ∧ H' R = some (.lst rs) ∧ A2 (fun v r => Pur K H' v (dRow r)) rs (rowsOf sz) ∧ A2 (fun v r => Pur K H' v (dRow r)) ys (((rowsOf sz).take m).filter (keepB T)))
      ⟨none, [], rfl, s01, eF1, eR, hR, A2.nil⟩ (fun m σ H' _ p => ?_) (fun m x σ H2 H2' hm p y => ?_) (fun σ H' p => ?_)
    · obtain ⟨_, _, _, _, _, e, _⟩ := p
      exact lstA e
    · obtain ⟨y4, ys, rfl, s2, eF2, eR2, hR2, hY⟩ := p
      obtain ⟨rfl, ex⟩ := y
      obtain ⟨r, er, hr0⟩ := hR2.getL ex
      have hval := (mem_rows sz r).mp (List.mem_of_getElem? er)
      refine ⟨_, rfl, _, rfl, lv, x, sz, r, rfl, hz, hlv.kp (skp s2), hr0, hval, fun H3 s3 => ⟨true, rfl, iteT ?_⟩⟩
      have s23 := s2.trans s3
      have hr3 := hr0.kp (skp s3)
      refine ⟨_, rfl, sa, false, rfl, ⟨xs, (skp s23).sqT hsa⟩, fun D hD => ?_⟩
      refine lc_gen (walk_seq (k := false) (xs := xs)) (by have := hxs.1; omega) hD (fun H' s => sq_same (k := false) s ((skp s23).sqT hsa)) (fun i acc _ => acc.isEmpty = keepB (T.take i) r) (fun _ _ _ _ _ p => p) (fun _ => rfl) (fun i x H4 H5 acc C N hi s4 p y cC cN => ?_) (fun acc H4 s4 e l p => ?_)
      · obtain ⟨rfl, ex2⟩ := y
        obtain ⟨ps, eps, hps⟩ := hxs.getL ex2
        have hsok := hok ps (List.mem_of_getElem? eps)
        have k4 := skp (s23.trans s4)
        have hps4 := hps.kp k4
        obtain ⟨b, tt, rfl, hb, htt⟩ := pSum hps4
        have hstep : keepB (T.take (i + 1)) r = (keepB (T.take i) r && decide (ps.2 ≤ sumTf ps (rowF ps r))) := by
          rw [take_snoc eps]
          unfold keepB
          rw [List.all_append]
          simp
        refine ⟨rfl, ⟨_, rfl, _, rfl, .ref b, _, sz, ps, r, rfl, hps4, hsok, Nat.le_trans hsok.1.len (by omega), hr3.kp (skp s4), hval, fun H6 s6 => ?_⟩⟩
        refine ⟨_, rfl, b, _, _, _, rfl, rfl, (skp s6).sqT hb, atI_nat (j := 1) rfl, _, _, rfl, rfl, _, rfl, ?_⟩
        by_cases hk : sumTf ps (rowF ps r) < ps.2
        · rw [decide_eq_true hk]
          refine iteT (cC _ _ s6 ?_)
          rw [hstep, decide_eq_false (by omega), Bool.and_false]
          cases acc <;> rfl
        · rw [decide_eq_false hk]
          refine iteF (cN _ s6 ?_)
          rw [hstep, decide_eq_true (by omega), Bool.and_true]
          exact p
      · rw [hxs.1, List.take_length] at p
        refine ⟨Nat.zero_le _, fun E hE => ?_⟩
        have sE := same_new (o := .lst []) hE
        refine ⟨D, E, acc, rfl, rfl, sE _ _ e, upd_same, _, rfl, ?_⟩
        rw [p]
        have sAll := ((s3.trans s4).trans sE)
        have eF5 := sAll _ _ eF2
        have hfl : ((rowsOf sz).take (m + 1)).filter (keepB T) = if keepB T r = true then ((rowsOf sz).take m).filter (keepB T) ++ [r] else ((rowsOf sz).take m).filter (keepB T) := by
          rw [take_snoc er, List.filter_append]
          by_cases hk : keepB T r = true
          · rw [if_pos hk, List.filter_cons, if_pos hk]; rfl
          · rw [if_neg hk, List.filter_cons, if_neg hk]; exact List.append_nil _
        by_cases hk : keepB T r = true
        · rw [hk]
          have k9 := kp_lst (ys := ys ++ [x]) eF5
          have hyl : ys.length ≤ 1000 := by
            rw [hY.1]
            exact Nat.le_trans (List.length_filter_le _ _) (by rw [List.length_take]; omega)
          refine iteT ⟨_, rfl, .inl ⟨rfl, ys, lstA eF5⟩, _, rfl, F, ys, _, rfl, rfl, eF5, sz_lt' (by omega), ?_⟩
          have hRF : R ≠ F := by
            rintro rfl
            rw [upd_same] at hRn
            cases hRn
          refine ⟨_, ys ++ [x], rfl, smut (s2.trans sAll) hF, upd_same, (upd_ne hRF).trans (sAll _ _ eR2), hR2.mono fun v r h => (h.kp (skp sAll)).kp k9, ?_⟩
          rw [hfl, if_pos hk]
          exact (hY.mono fun v r h => (h.kp (skp sAll)).kp k9).snoc ((hr0.kp (skp sAll)).kp k9)
        · rw [Bool.not_eq_true] at hk
          rw [hk]
          refine iteF ⟨_, ys, rfl, s2.trans sAll, eF5, sAll _ _ eR2, hR2.mono fun v r h => h.kp (skp sAll), ?_⟩
          rw [hfl, if_neg (by rw [hk]; exact Bool.false_ne_true)]
          exact hY.mono fun v r h => h.kp (skp sAll)
    · obtain ⟨y4, ys, rfl, s2, eF2, eR2, hR2, hY⟩ := p
      rw [hR.1, List.take_length] at hY
      exact ⟨_, rfl, q F ys _ s2 eF2 hY⟩
end
end Bh
namespace Bh
open PySem PySem.Spec PyProof.Rows L2
section
variable {P : Program} {w : World} {K : PySem.W.Frag} {mg : Str → Option Value} {base : Heap}
theorem sc_law_added : FnScope ["_law_pairs_so", "_law_table", "_law_left", "_law_told", "_law_often", "_law_choice_so", "_law_weights_so", "_law_here", "_law_near", "_law_far"] ["_law_pairs_so"] (defScope (topS 62)) := ⟨rfl, rfl, rfl, by decide +kernel, rfl, by decide +kernel, by decide +kernel⟩
theorem ok_law_added (fr : Free mg) (D : DefAt K mg "_law_added" (topS 62)) (d__law_form : OkD P w K mg base 1 "_law_form" ["_law_terms_so", "_law_bound_so"] (sp_form_so K)) : OkD P w K mg base 2 "_law_added" ["_law_pairs_so"] (sp_added_so K) := by
  refine D.ok sc_law_added (fun _ _ _ _ _ _ us hl => match us, hl with | [_], _ => rfl) (fun vs H Q E h => ?_) (fun f cdv A outer s H vs Q E hr h => ?_)
  · obtain ⟨v, k, xs, ps, sz, rfl, _⟩ := h; rfl
  · obtain ⟨v, k, xs, ps, sz, rfl, hv, ha, hin, htm, hn, q⟩ := h
    refine ⟨_, (pss_cons (ps_asg (pe_tupF (pa_cons pe_dnewK (pa_cons pe_int pa_nil))) (pg_tupK (K := K) (n := 2) (by rfl) (pgs_cons (pg_name (i := 1) sc_law_added.nd rfl (by first | exact .inl rfl | exact .inr rfl)) (pgs_cons (pg_name (i := 2) sc_law_added.nd rfl (by first | exact .inl rfl | exact .inr rfl)) pgs_nil))))
 (pss_cons (ps_for PassesOwn.never rfl (pi_seqK (K := K) (pv 0)) (pg_tupK (K := K) (n := 2) (by rfl) (pgs_cons (pg_name (i := 3) sc_law_added.nd rfl (by first | exact .inl rfl | exact .inr rfl)) (pgs_cons (pg_name (i := 4) sc_law_added.nd rfl (by first | exact .inl rfl | exact .inr rfl)) pgs_nil))) (pss_cons (ps_set (i := 2) sc_law_added.nd rfl (by first | exact .inl rfl | exact .inr rfl) (pe_op op_add (pv 2) (pe_op op_mul (pv 4) (pe_ix (ix_tupK (K := K)) (pv 3) pe_int (fun _ _ => rfl)))))
 (pss_one (ps_for PassesOwn.never rfl (pi_seqK (K := K) (pe_ix (ix_tupK (K := K)) (pv 3) pe_int (fun _ _ => rfl))) (pg_tupK (K := K) (n := 2) (by rfl) (pgs_cons (pg_name (i := 5) sc_law_added.nd rfl (by first | exact .inl rfl | exact .inr rfl)) (pgs_cons (pg_name (i := 6) sc_law_added.nd rfl (by first | exact .inl rfl | exact .inr rfl)) pgs_nil))) (pss_cons (ps_set (i := 7) sc_law_added.nd rfl (by first | exact .inl rfl | exact .inr rfl) (pe_dget2 (hu_of hr) (pv 1) (pv 5) (pe_op (op_mulG (K := K)) (pe_tupF (pa_cons pe_int pa_nil)) (pe_callB (cr_lenK (K := K)) (by rfl) fr.len (by decide +kernel) (pa_cons (pv 6) pa_nil))) ⟨by rfl, by rfl, by rfl, by rfl⟩))
 (pss_one (ps_dput (hu_of hr) (pv 1) (pv 5) (pe_callTy (cr_tupK (K := K)) (by rfl) fr.tuple (by decide +kernel) (pa_cons (pe_lc (own := [("_law_near", 8), ("_law_far", 9)]) rfl sc_law_added.nd (pi_zipK (K := K) (by rfl) fr.zip (pa_cons (pv 7) (pa_cons (pv 6) pa_nil))) (blkOk_by (by kernel_rfl)) (fun _ _ _ _ _ => (pg_tupK (K := K) (n := 2) (by rfl) (pgs_cons (pg_name (i := 8) sc_law_added.nd rfl (by first | exact .inl rfl | exact .inr rfl)) (pgs_cons (pg_name (i := 9) sc_law_added.nd rfl (by first | exact .inl rfl | exact .inr rfl)) pgs_nil)))) (fun _ _ _ _ _ => pts_nil) (fun _ _ _ _ _ => (pe_op op_add (pv 8) (pe_op op_mul (pv 4) (pv 9))))) pa_nil)) rfl)))))))
 (pss_one (ps_ret (pe_callD d__law_form (hr.mono (by decide)) (by rfl) (pa_cons (pe_lc (own := [("_law_choice_so", 5)]) rfl sc_law_added.nd (pi_seqK (K := K) (pe_callB cr_sorted (by rfl) fr.sorted (by decide +kernel) (pa_cons (pe_callTy (call_listD rfl) (by rfl) fr.list (by decide +kernel) (pa_cons (pv 1) pa_nil)) pa_nil))) (blkOk_by (by kernel_rfl)) (fun _ _ _ _ _ => (pg_name (i := 5) sc_law_added.nd rfl (by first | exact .inl rfl | exact .inr rfl))) (fun _ _ _ _ _ => pts_nil) (fun _ _ _ _ _ => (pe_tupF (pa_cons (pv 5) (pa_cons (pe_dget (hu_of hr) (pv 1) (pv 5) (fun _ _ => rfl)) pa_nil))))) (pa_cons (pv 2) pa_nil))))))), ?_⟩
    intro F hF
    refine ⟨by rw [sizeLine_eq]; show 2 ≤ _; omega, fun p0 o0 hp0 ho0 => ?_⟩
    obtain ⟨w1, w2, w3⟩ := frz_new (K := K) (xs := [V.ref F, V.int 0]) hp0 ho0
    have s0 := (same_new (o := .dK []) hF).trans w1
    have eF0 := w1 _ _ (upd_same (H := H) (a := F) (o := .dK []))
    refine ⟨p0, _, rfl, w2, rfl, _, _, rfl, _, _, rfl, rfl, ?_⟩
    refine ⟨_, rfl, v, k, rfl, ⟨xs, sq_same s0 hv⟩, ?_⟩
    refine for_it (walk_seq (xs := xs)) (fun i σ H' => ∃ y3 y4 y5 y6 y7 kvs, σ = [some (.ref v), some (.ref F), some (.int (addB (ps.take i))), y3, y4, y5, y6, y7, none, none] ∧ Same H H' ∧ H' F = some (.dK kvs) ∧ DF K H' kvs (addAll (ps.take i)) sz.length)
      ⟨none, none, none, none, none, [], by rw [List.take_zero]; rfl, s0, eF0, DF.nil⟩ (fun i σ H' _ p => ?_) (fun i x σ H1 H2 hi p y => ?_) (fun σ H' p => ?_)
    · obtain ⟨_, _, _, _, _, _, _, s1, _⟩ := p
      exact sq_same s1 hv
    · obtain ⟨y3, y4, y5, y6, y7, kvs, rfl, s1, eF, df⟩ := p
      obtain ⟨rfl, ex⟩ := y
      obtain ⟨pr, ep, hpr⟩ := ha.getL ex
      obtain ⟨c, x1, rfl, qc, hx1⟩ := hpr.kp (skp s1)
      obtain ⟨b, tt, rfl, hb, htt⟩ := pSum hx1
      obtain ⟨t, us, rfl, ht, hul, hus⟩ := pTerms htt
      have hm := List.mem_of_getElem? ep
      have ht2 := hin pr hm
      have hti := TabIn.foldAll (TabIn.none (sz := sz)) (fun p hp => hin p (List.mem_of_mem_take hp)) (ps := ps.take i)
      refine ⟨c, _, rfl, qc, rfl, _, _, rfl, _, _, rfl, rfl, ?_⟩
      refine ⟨_, rfl, _, rfl, _, rfl, b, _, _, _, rfl, rfl, hb, atI_nat (j := 1) rfl, _, _, rfl, rfl, .inl ⟨by have := htm pr hm; omega, by have := htm pr hm; omega⟩, _, _, rfl, rfl, ?_⟩
      refine ⟨_, rfl, b, _, _, _, rfl, rfl, hb, atI_nat (j := 0) rfl, t, false, rfl, ⟨us, ht⟩, ?_⟩
      refine for_it (walk_seq (xs := us)) (fun j σ H' => ∃ y5 y6 y7 kvs, σ = [some (.ref v), some (.ref F), some (.int (addB (ps.take i) + pr.2 * pr.1.2)), some (.ref b), some (.int pr.2), y5, y6, y7, none, none] ∧ Same H H' ∧ H' F = some (.dK kvs) ∧ DF K H' kvs ((pr.1.1.take j).foldl (addOne pr.2) (addAll (ps.take i))) sz.length ∧ Kp H2 H')
        ⟨y5, y6, y7, kvs, rfl, s1, eF, df, Kp.refl _⟩ (fun j σ H' _ p => ?_) (fun j x σ H3 H4 hj p y => ?_) (fun σ H' p => ?_)
      · obtain ⟨_, _, _, _, _, _, _, _, kk⟩ := p
        exact kk.sqT ht
      · obtain ⟨y5, y6, y7, kvs, rfl, s3, eF, df, kk⟩ := p
        obtain ⟨rfl, ex⟩ := y
        obtain ⟨tm, et, hpt⟩ := hus j x ex
        obtain ⟨c2, wt, rfl, qc2, qw⟩ := pTerm hpt
        have hin2 := ht2 tm (List.mem_of_getElem? et)
        have hti2 : TabIn sz ((pr.1.1.take j).foldl (addOne pr.2) (addAll (ps.take i))) := TabIn.foldOne hti fun u hu => ht2 u (List.mem_of_mem_take hu)
        refine ⟨c2, _, rfl, kk.sqT qc2, rfl, _, _, rfl, _, _, rfl, rfl, ?_⟩
        refine ⟨_, rfl, F, rfl, .inl ⟨kvs, .inl eF⟩, _, rfl, ?_⟩
        refine ⟨by rw [sizeLine_eq]; show 1 ≤ _; omega, fun p1 o1 hp1 ho1 => ?_⟩
        obtain ⟨u1, u2, u3⟩ := frz_new (K := K) (xs := [V.int 0]) hp1 ho1
        refine ⟨_, rfl, wt, false, _, rfl, ((kk.trans (skp u1)).sqT qw : SqT K _ wt _), p1, .int 0, _, rfl, rfl, u2, by rw [List.length_map]; omega, by rw [List.length_map]; omega, fun p2 H5 s5 hq5 => ?_⟩
        refine ⟨_, DGet.k (k := .inl ((tm.1 : Nat) : Int)) ((u1.trans s5) _ _ eF), ?_⟩
        have s15 := u1.trans s5
        have hhas : ∃ a k, (valV kvs (.inl ((tm.1 : Nat) : Int))).getD (V.ref p2) = .ref a ∧ Sq K k H5 a (((((pr.1.1.take j).foldl (addOne pr.2) (addAll (ps.take i))) tm.1).getD (zeros tm.2.length)).map V.int) := by
          rcases df.get tm.1 with ⟨g1, g2⟩ | ⟨b2, j2, u, g1, g2, g3⟩
          · refine ⟨p2, false, by rw [g1]; rfl, ?_⟩
            rw [g2]
            show SqT K H5 p2 ((zeros tm.2.length).map V.int)
            unfold zeros
            rw [List.map_replicate]
            rw [List.length_map] at hq5
            exact hq5
          · refine ⟨b2, j2, by rw [g1]; rfl, ?_⟩
            rw [g2]
            exact sq_same s15 g3
        obtain ⟨ah, kh, eh, qh⟩ := hhas
        rw [eh]
        have qw5 := ((kk.trans (skp s15)).sqT qw : SqT K H5 wt _)
        have hlen := getD_len hti2 hin2.1
        refine ⟨_, rfl, _, rfl, ah, wt, kh, false, _, _, rfl, qh, qw5, fun D hD => ?_⟩
        refine lc_gen (walk_zipB rfl) (by rw [List.length_map, List.length_map]; omega) hD (fun H' s => ⟨sq_same s qh, sq_same (k := false) s qw5⟩) (fun i' acc _ => acc = ((addW pr.2 ((((pr.1.1.take j).foldl (addOne pr.2) (addAll (ps.take i))) tm.1).getD (zeros tm.2.length)) tm.2).take i').map V.int) (fun _ _ _ _ _ p => p) (fun _ => rfl) (fun m x H6 H7 acc C N hm6 s6 p y cC cN => ?_) (fun acc H6 s6 e l p => ?_)
        · obtain ⟨T, x1, x2, rfl, hT, s7, eT, e1, e2⟩ := same_pair y
          rw [List.getElem?_map] at e1 e2
          obtain ⟨z1, f1, rfl⟩ := Option.map_eq_some_iff.mp e1
          obtain ⟨z2, f2, rfl⟩ := Option.map_eq_some_iff.mp e2
          refine ⟨T, _, rfl, .inl (.inl eT), rfl, _, _, rfl, _, _, rfl, rfl, rfl, yesT ?_⟩
          refine ⟨_, rfl, _, rfl, _, rfl, _, _, rfl, rfl, .inl ⟨by have := htm pr hm; omega, by have := htm pr hm; omega⟩, _, _, rfl, rfl, cC _ _ s7 ?_⟩
          have : (addW pr.2 ((((pr.1.1.take j).foldl (addOne pr.2) (addAll (ps.take i))) tm.1).getD (zeros tm.2.length)) tm.2)[m]? = some (z1 + pr.2 * z2) := by
            unfold addW
            rw [List.getElem?_zipWith, f1, f2]
          rw [take_snoc this, List.map_append, p]
          rfl
        · have e2 : min (((((pr.1.1.take j).foldl (addOne pr.2) (addAll (ps.take i))) tm.1).getD (zeros tm.2.length)).map V.int).length (tm.2.map V.int).length = (addW pr.2 ((((pr.1.1.take j).foldl (addOne pr.2) (addAll (ps.take i))) tm.1).getD (zeros tm.2.length)) tm.2).length := by
            rw [addW_len _ _ _ hlen, List.length_map, List.length_map, hlen, Nat.min_self]
          rw [e2, List.take_length] at p
          subst p
          refine ⟨D, true, _, rfl, .inl (.inl e), fun _ pt ot hpt2 hot => ?_, fun z => nomatch z⟩
          obtain ⟨t1, t2, t3⟩ := frz_new (K := K) (xs := (addW pr.2 ((((pr.1.1.take j).foldl (addOne pr.2) (addAll (ps.take i))) tm.1).getD (zeros tm.2.length)) tm.2).map V.int) hpt2 hot
          have s8 := (s15.trans s6).trans t1
          have eF6 := s8 _ _ eF
          refine ⟨_, rfl, _, rfl, F, _, rfl, DPut.k (k := .inl ((tm.1 : Nat) : Int)) eF6 (by have := df.small; rw [sizeLine_eq]; omega), ?_⟩
          refine ⟨some (.int (tm.1 : Nat)), some (.ref wt), some (.ref ah), _, rfl, smut (s3.trans s8) hF, upd_same, ?_, (kk.trans (skp s8)).trans (kp_dK eF6)⟩
          rw [take_snoc et, foldl_snoc]
          exact (df.mono fun b j ys hs => sq_same s8 hs).put (k := false) (TermsIn.lt ht2 (List.mem_of_getElem? et)) ((kp_dK eF6).sqT t2) fun b j ys hs => sq_dK eF6 b j ys hs
      · obtain ⟨y5, y6, y7, kvs, rfl, s3, eF, df, kk⟩ := p
        refine ⟨some (.ref b), some (.int pr.2), y5, y6, y7, kvs, ?_, s3, eF, ?_⟩
        · rw [take_snoc ep, addB_snoc]
        · rw [take_snoc ep, addAll_snoc]
          rw [hul, List.take_length] at df
          exact df
    · obtain ⟨y3, y4, y5, y6, y7, kvs, rfl, s1, eF, df⟩ := p
      rw [ha.1, List.take_length] at df ⊢
      have hti := TabIn.foldAll (TabIn.none (sz := sz)) hin
      obtain ⟨ks, hks, hkl, hys⟩ := df.sorted
      refine ⟨_, rfl, F, kvs, rfl, .inl eF, fun lk hlk => ?_⟩
      have slk := same_new (o := .lst (kvs.map fun kv => kV kv.1)) hlk
      have elk := upd_same (H := H') (a := lk) (o := .lst (kvs.map fun kv => kV kv.1))
      have eF0' := eF
      have eF := slk _ _ eF
      have df := df.mono fun b j ys hs => sq_same slk hs
      have s1 := s1.trans slk
      have ekv : (kvs.map fun kv => kV kv.1) = ks.map V.int := by
        have := congrArg (List.map kV) hks
        rw [List.map_map, List.map_map] at this
        exact this
      revert slk elk eF df s1
      generalize (upd H' lk (.lst (kvs.map fun kv => kV kv.1))) = H'
      intro slk elk eF df s1
      rw [ekv] at elk
      refine ⟨lk, ks, rfl, lstA elk, by omega, fun ys p2 hp2 hs2 hn2 => ?_⟩
      have ey := hys ys hp2 hs2
      subst ey
      have s2 := same_new (o := .lst (((keysT sz.length (addAll ps)).map fun (c : Nat) => (c : Int)).map V.int)) hn2
      have eL : SqL K (upd H' p2 (.lst (((keysT sz.length (addAll ps)).map fun (c : Nat) => (c : Int)).map V.int))) p2 _ := .inl (.inl upd_same)
      have hkl2 : (keysT sz.length (addAll ps)).length ≤ 60 := Nat.le_trans (Nat.le_trans (List.length_filter_le _ _) (by rw [List.length_range]; exact Nat.le_refl _)) hn
      refine ⟨p2, true, rfl, ⟨_, eL⟩, fun D hD => ?_⟩
      refine lc_gen2 (walk_seq (k := true)) (by rw [List.length_map, List.length_map]; omega) hD (fun H3 s => sq_same (k := true) s eL) (fun i acc H3 => A2 (FTermD D K H3) acc ((tabT sz.length (addAll ps)).take i)) (fun _ acc H3 ys zs e p => p.mono fun x t h => h.upd e) (fun _ => A2.nil) (fun i x H3 H4 acc C N hi s3 eD p y cC cN => ?_) (fun acc H3 s3 e l p => ?_)
      · obtain ⟨rfl, ex⟩ := y
        rw [List.getElem?_map, List.getElem?_map] at ex
        obtain ⟨z, ez, rfl⟩ := Option.map_eq_some_iff.mp ex
        obtain ⟨c, ec, rfl⟩ := Option.map_eq_some_iff.mp ez
        obtain ⟨hc, wl, hw⟩ := keysT_get ec
        rcases df.get c with ⟨g1, g2⟩ | ⟨b2, j2, u, g1, g2, g3⟩
        · rw [hw] at g2; cases g2
        rw [hw] at g2
        cases g2
        refine ⟨rfl, yesT ⟨_, rfl, _, rfl, _, rfl, F, .ref b2, rfl, ?_, by rw [sizeLine_eq]; show 2 ≤ _; omega, fun p5 o5 hp5 ho5 => ?_⟩⟩
        · exact g1 ▸ DGet.k (k := .inl ((c : Nat) : Int)) ((s2.trans s3) _ _ eF)
        obtain ⟨u1, u2, u3⟩ := frz_new (K := K) (xs := [V.int (c : Nat), V.ref b2]) hp5 ho5
        refine cC _ _ u1 ?_
        have : (tabT sz.length (addAll ps))[i]? = some (c, wl) := by rw [tabT_eq, List.getElem?_map, ec]; simp [hw]
        rw [take_snoc this]
        refine (p.mono fun x t h => h.same u1).snoc ⟨p5, b2, j2, rfl, u2, sq_same ((s2.trans s3).trans u1) g3, Off.of hD (sq_same s2 g3)⟩
      · have ek : (((keysT sz.length (addAll ps)).map fun (c : Nat) => (c : Int)).map V.int).length = (tabT sz.length (addAll ps)).length := by rw [tabT_eq, List.length_map, List.length_map, List.length_map]
        rw [ek, List.take_length] at p
        refine ⟨_, rfl, D, true, acc, _, _, rfl, .inl (.inl e), p.mono fun x t h => h.f, hti.terms, Nat.le_trans (tabT_len _ _) (by omega), fun x H5 s5 hx => q x H5 (((s1.trans s2).trans s3).trans s5) hx⟩
end
end Bh
namespace Bh
open PySem PySem.Spec PyProof.Rows L2
section
variable {P : Program} {w : World} {K : PySem.W.Frag} {mg : Str → Option Value} {base : Heap}
def sp_lraised (K : PySem.W.Frag) : Sp := fun vs H Q _ => ∃ (lz : V) (tv : V) (sz : List Nat) (s : PSum) (tl : Addr) (ts : Terms), vs = [lz, tv, .ref tl] ∧ Pur K H lz (dSizes sz) ∧ Pur K H tv (dSum s) ∧ Pur K H (.ref tl) (dTerms ts) ∧ TermsOk sz s.1 ∧ TermsIn sz s.1 ∧ TermsOk sz ts ∧ TermsIn sz ts ∧ Raises s ts ∧ sz.length ≤ 60 ∧
  ∀ x H', Same H H' → SumV K H' x (raised sz.length s ts) → Q x H'
theorem sc_law_raised : FnScope ["_law_lots_here", "_law_told", "_law_terms_so", "_law_table", "_law_last", "_law_choice_so", "_law_weights_so", "_law_term_so", "_law_here", "_law_near", "_law_far"] ["_law_lots_here", "_law_told", "_law_terms_so"] (defScope (topS 74)) := ⟨rfl, rfl, rfl, by decide +kernel, rfl, by decide +kernel, by decide +kernel⟩
theorem ok_lraised (fr : Free mg) (D : DefAt K mg "_law_raised" (topS 74)) (d__law_int : OkD P w K mg base 1 "_law_int" ["_law_worth", "_law_low"] sp_int) (d__law_form : OkD P w K mg base 1 "_law_form" ["_law_terms_so", "_law_bound_so"] (sp_form_so K)) :
    OkD P w K mg base 2 "_law_raised" ["_law_lots_here", "_law_told", "_law_terms_so"] (sp_lraised K) := by
  refine D.ok sc_law_raised (fun _ _ _ _ _ _ us hl => match us, hl with | [_, _, _], _ => rfl) (fun vs H Q E h => ?_) (fun f cdv A outer s H vs Q E hr h => ?_)
  · obtain ⟨lz, tv, sz, s, tl, ts, rfl, _⟩ := h; rfl
  · obtain ⟨lz, tv, sz, ps, tl, ts, rfl, hlz, htv, htl, ok1, in1, ok2, in2, hra, hn, q⟩ := h
    refine ⟨_, (pss_cons (ps_if (pt_not (pt_val (pe_callB (cr_isTupK (K := K)) (by rfl) fr.isinstance (by decide +kernel) (pa_cons (pv 2) (pa_cons (pe_bltn (v := .ty "tuple") (by rfl) fr.tuple (by decide +kernel) rfl) pa_nil))))) (pss_one (ps_ret pe_non)) pss_nil)
 (pss_cons (ps_asg (pe_tupF (pa_cons pe_dnewK (pa_cons (pe_un un_neg pe_int) pa_nil))) (pg_tupK (K := K) (n := 2) (by rfl) (pgs_cons (pg_name (i := 3) sc_law_raised.nd rfl (by first | exact .inl rfl | exact .inr rfl)) (pgs_cons (pg_name (i := 4) sc_law_raised.nd rfl (by first | exact .inl rfl | exact .inr rfl)) pgs_nil))))
 (pss_cons (ps_for PassesOwn.never rfl (pi_seqK (K := K) (pe_ix (ix_tupK (K := K)) (pv 1) pe_int (fun _ _ => rfl))) (pg_tupK (K := K) (n := 2) (by rfl) (pgs_cons (pg_name (i := 5) sc_law_raised.nd rfl (by first | exact .inl rfl | exact .inr rfl)) (pgs_cons (pg_name (i := 6) sc_law_raised.nd rfl (by first | exact .inl rfl | exact .inr rfl)) pgs_nil))) (pss_one (ps_dput (hu_of hr) (pv 3) (pv 5) (pv 6) rfl)))
 (pss_cons (ps_for PassesOwn.never rfl (pi_seqK (K := K) (pv 2)) (pg_name (i := 7) sc_law_raised.nd rfl (by first | exact .inl rfl | exact .inr rfl)) (pss_cons (ps_if (PW.pt (pw_or (pt_not (pt_val (pe_callB (cr_isTupK (K := K)) (by rfl) fr.isinstance (by decide +kernel) (pa_cons (pv 7) (pa_cons (pe_bltn (v := .ty "tuple") (by rfl) fr.tuple (by decide +kernel) rfl) pa_nil))))) (pw_or (pt_cmpR op_ne (pe_callB (cr_lenK (K := K)) (by rfl) fr.len (by decide +kernel) (pa_cons (pv 7) pa_nil)) pe_int (nomark _)) (pw_or1 (pt_not (pt_val (pe_callB (cr_isTupK (K := K)) (by rfl) fr.isinstance (by decide +kernel) (pa_cons (pe_ix (ix_tupK (K := K)) (pv 7) pe_int (fun _ _ => rfl)) (pa_cons (pe_bltn (v := .ty "tuple") (by rfl) fr.tuple (by decide +kernel) rfl) pa_nil))))))))) (pss_one (ps_ret pe_non)) pss_nil)
 (pss_cons (ps_asg (pv 7) (pg_tupK (K := K) (n := 2) (by rfl) (pgs_cons (pg_name (i := 5) sc_law_raised.nd rfl (by first | exact .inl rfl | exact .inr rfl)) (pgs_cons (pg_name (i := 6) sc_law_raised.nd rfl (by first | exact .inl rfl | exact .inr rfl)) pgs_nil))))
 (pss_cons (ps_if (PW.pt (pw_or (pt_not (pt_val (pe_callD d__law_int (hr.mono (by decide)) (by rfl) (pa_cons (pv 5) (pa_cons (pe_op op_add (pv 4) pe_int) pa_nil))))) (pw_or (pt_cmpR op_ge (pv 5) (pe_callB (cr_lenK (K := K)) (by rfl) fr.len (by decide +kernel) (pa_cons (pv 0) pa_nil)) (nomark _)) (pw_or1 (pt_cmpR op_ne (pe_callB (cr_lenK (K := K)) (by rfl) fr.len (by decide +kernel) (pa_cons (pv 6) pa_nil)) (pe_ix (ix_tupK (K := K)) (pv 0) (pv 5) (fun _ _ => rfl)) (nomark _)))))) (pss_one (ps_ret pe_non)) pss_nil)
 (pss_cons (ps_set (i := 8) sc_law_raised.nd rfl (by first | exact .inl rfl | exact .inr rfl) (pe_dget2 (hu_of hr) (pv 3) (pv 5) (pe_op (op_mulG (K := K)) (pe_tupF (pa_cons pe_int pa_nil)) (pe_ix (ix_tupK (K := K)) (pv 0) (pv 5) (fun _ _ => rfl))) ⟨by rfl, by rfl, by rfl, by rfl⟩))
 (pss_cons (ps_if (pt_cmpR (op_neL (hu0 hr)) (pe_lc (own := [("_law_near", 9), ("_law_far", 10)]) rfl sc_law_raised.nd (pi_zipK (K := K) (by rfl) fr.zip (pa_cons (pv 8) (pa_cons (pv 6) pa_nil))) (blkOk_by (by kernel_rfl)) (fun _ _ _ _ _ => (pg_tupK (K := K) (n := 2) (by rfl) (pgs_cons (pg_name (i := 9) sc_law_raised.nd rfl (by first | exact .inl rfl | exact .inr rfl)) (pgs_cons (pg_name (i := 10) sc_law_raised.nd rfl (by first | exact .inl rfl | exact .inr rfl)) pgs_nil)))) (fun _ _ _ _ _ => (pts_one (pt_not (pt_val (pe_callD d__law_int (hr.mono (by decide)) (by rfl) (pa_cons (pv 10) (pa_cons (pv 9) pa_nil))))))) (fun _ _ _ _ _ => pe_int)) (pe_lst pa_nil) (nomark _)) (pss_one (ps_ret pe_non)) pss_nil)
 (pss_one (ps_asg (pe_tupF (pa_cons (pv 6) (pa_cons (pv 5) pa_nil))) (pg_tupK (K := K) (n := 2) (by rfl) (pgs_cons (pg_sub (pv 3) (pv 5) (set_dict (hu_of hr))) (pgs_cons (pg_name (i := 4) sc_law_raised.nd rfl (by first | exact .inl rfl | exact .inr rfl)) pgs_nil)))))))))))
 (pss_one (ps_ret (pe_callD d__law_form (hr.mono (by decide)) (by rfl) (pa_cons (pe_lc (own := [("_law_choice_so", 5)]) rfl sc_law_raised.nd (pi_seqK (K := K) (pe_callB cr_sorted (by rfl) fr.sorted (by decide +kernel) (pa_cons (pe_callTy (call_listD rfl) (by rfl) fr.list (by decide +kernel) (pa_cons (pv 3) pa_nil)) pa_nil))) (blkOk_by (by kernel_rfl)) (fun _ _ _ _ _ => (pg_name (i := 5) sc_law_raised.nd rfl (by first | exact .inl rfl | exact .inr rfl))) (fun _ _ _ _ _ => pts_nil) (fun _ _ _ _ _ => (pe_tupF (pa_cons (pv 5) (pa_cons (pe_dget (hu_of hr) (pv 3) (pv 5) (fun _ _ => rfl)) pa_nil))))) (pa_cons (pe_ix (ix_tupK (K := K)) (pv 1) pe_int (fun _ _ => rfl)) pa_nil))))))))), ?_⟩
    obtain ⟨za, rfl, hza⟩ := pSizes hlz
    obtain ⟨b, tt, rfl, hb, htt⟩ := pSum htv
    obtain ⟨t, us, rfl, ht, hul, hus⟩ := pTerms htt
    obtain ⟨_, xs, e, hxt, hxl, hxs⟩ := pTerms htl
    cases e
    refine ⟨_, rfl, tl, _, rfl, hxt, true, rfl, iteF ?_⟩
    intro F hF
    refine ⟨_, rfl, by rw [sizeLine_eq]; show 2 ≤ _; omega, fun p0 o0 hp0 ho0 => ?_⟩
    obtain ⟨w1, w2, w3⟩ := frz_new (K := K) (xs := [V.ref F, V.int (-1)]) hp0 ho0
    have s0 := (same_new (o := .dK []) hF).trans w1
    have eF0 := w1 _ _ (upd_same (H := H) (a := F) (o := .dK []))
    refine ⟨p0, _, rfl, w2, rfl, _, _, rfl, _, _, rfl, rfl, ?_⟩
    refine ⟨_, rfl, b, _, _, _, rfl, rfl, (skp s0).sqT hb, atI_nat (j := 0) rfl, t, false, rfl, ⟨us, (skp s0).sqT ht⟩, ?_⟩
    refine for_it (walk_seq (k := false) (xs := us)) (fun j σ H' => ∃ y5 y6 kvs, σ = [some (.ref za), some (.ref b), some (.ref tl), some (.ref F), some (.int (-1)), y5, y6, none, none, none, none] ∧ Same H H' ∧ H' F = some (.dK kvs) ∧ DF K H' kvs ((ps.1.take j).foldl (fun f t => f.put t.1 t.2) fun _ => none) sz.length)
      ⟨none, none, [], rfl, s0, eF0, DF.nil⟩ (fun j σ H' _ p => ?_) (fun j x σ H1 H2 hj p y => ?_) (fun σ H' p => ?_)
    · obtain ⟨_, _, _, _, s1, _⟩ := p
      exact (skp s1).sqT ht
    · obtain ⟨y5, y6, kvs, rfl, s1, eF, df⟩ := p
      obtain ⟨rfl, ex⟩ := y
      obtain ⟨tm, et, hpt⟩ := hus j x ex
      obtain ⟨c2, w2', rfl, qc2, qw⟩ := pTerm (hpt.kp (skp s1))
      have hc := in1.lt (List.mem_of_getElem? et)
      have hsm := df.small
      refine ⟨c2, _, rfl, qc2, rfl, _, _, rfl, _, _, rfl, rfl, ?_⟩
      refine ⟨_, rfl, _, rfl, _, rfl, F, _, rfl, DPut.k (k := .inl ((tm.1 : Nat) : Int)) eF (sz_lt' (by omega)), ?_⟩
      refine ⟨_, _, _, rfl, smut s1 hF, upd_same, ?_⟩
      rw [take_snoc et, foldl_snoc]
      exact df.put (k := false) hc ((kp_dK eF).sqT qw) fun b j ys hs => sq_dK eF b j ys hs
    · obtain ⟨y5, y6, kvs, rfl, s1, eF, df⟩ := p
      rw [hul, List.take_length] at df
      refine ⟨_, rfl, tl, false, rfl, ⟨xs, (skp s1).sqT hxt⟩, ?_⟩
      refine for_it (walk_seq (k := false) (xs := xs)) (fun j σ H' => ∃ y5 y6 y7 y8 kvs, ∃ last : Int, σ = [some (.ref za), some (.ref b), some (.ref tl), some (.ref F), some (.int last), y5, y6, y7, y8, none, none] ∧ Same H H' ∧ H' F = some (.dK kvs) ∧ DF K H' kvs ((ts.take j).foldl (fun f t => f.put t.1 t.2) (ps.1.foldl (fun f t => f.put t.1 t.2) fun _ => none)) sz.length ∧ ∀ m t, j ≤ m → ts[m]? = some t → last < (t.1 : Int))
        ⟨y5, y6, none, none, kvs, -1, rfl, s1, eF, df, fun m t _ _ => by omega⟩ (fun j σ H' _ p => ?_) (fun j x σ H1 H2 hj p y => ?_) (fun σ H' p => ?_)
      · obtain ⟨_, _, _, _, _, _, _, s2, _⟩ := p
        exact (skp s2).sqT hxt
      · obtain ⟨y5, y6, y7, y8, kvs, last, rfl, s2, eF2, df2, hlast⟩ := p
        obtain ⟨rfl, ex⟩ := y
        obtain ⟨tm, et, hpt⟩ := hxs j x ex
        obtain ⟨c2, w2', rfl, qc2, qw⟩ := pTerm (hpt.kp (skp s2))
        have htm := List.mem_of_getElem? et
        have hin := in2 tm htm
        have hc := in2.lt htm
        have hla := hlast j tm (Nat.le_refl _) et
        have hsm := df2.small
        have hza2 := (skp s2).sqT hza
        refine ⟨_, rfl, c2, _, rfl, qc2, true, rfl, iteF ?_⟩
        refine ⟨_, rfl, c2, false, _, rfl, qc2, rfl, _, rfl, ?_⟩
        rw [show ([V.int (tm.1 : Nat), V.ref w2'].length : Int) = 2 from rfl, decide_eq_true rfl]
        refine iteF ⟨_, rfl, c2, _, _, _, rfl, rfl, qc2, atI_nat (j := 1) rfl, w2', _, rfl, qw, true, rfl, iteF ?_⟩
        refine ⟨_, rfl, c2, _, rfl, qc2, rfl, _, _, rfl, _, _, rfl, rfl, ?_⟩
        refine ⟨_, rfl, _, rfl, _, _, rfl, rfl, _, _, rfl, true, ?_, iteF ?_⟩
        · rw [decide_eq_true (by omega)]
        refine ⟨_, rfl, _, rfl, za, false, _, rfl, hza2, _, _, rfl, rfl, _, rfl, ?_⟩
        rw [decide_eq_false (by rw [szV_len]; omega)]
        refine iteF ⟨_, rfl, w2', false, _, rfl, qw, _, rfl, _, rfl, za, _, _, _, rfl, rfl, hza2, atI_nat (szV_get hin.1), rfl, _, rfl, ?_⟩
        rw [List.length_map, decide_eq_true rfl]
        refine iteF ?_
        refine ⟨_, rfl, F, rfl, .inl ⟨_, .inl eF2⟩, _, rfl, ?_⟩
        refine ⟨by rw [sizeLine_eq]; show 1 ≤ _; omega, fun p1 o1 hp1 ho1 => ?_⟩
        obtain ⟨u1, u2, u3⟩ := frz_new (K := K) (xs := [V.int 0]) hp1 ho1
        refine ⟨_, rfl, _, rfl, za, _, _, _, rfl, rfl, (skp u1).sqT hza2, atI_nat (szV_get hin.1), p1, .int 0, _, rfl, rfl, u2, by omega, by omega, fun p2 H5 s5 hq5 => ?_⟩
        refine ⟨_, DGet.k (k := .inl ((tm.1 : Nat) : Int)) ((u1.trans s5) _ _ eF2), ?_⟩
        have s15 := u1.trans s5
        have hlook : ((ts.take j).foldl (fun (f : Tab) t => f.put t.1 t.2) (ps.1.foldl (fun (f : Tab) t => f.put t.1 t.2) fun _ => none)) tm.1 = look ps.1 tm.1 := by
          have hpw : ((ts.take j).map (·.1)).Pairwise (· < ·) := by
            rw [List.map_take]
            exact ok2.2.sublist (List.take_sublist _ _)
          rw [put_look _ _ _ hpw, put_look _ _ _ ok1.2, Option.or_none]
          have hno : look (ts.take j) tm.1 = none := by
            cases hl : look (ts.take j) tm.1 with
            | none => rfl
            | some u => have := take_lt ok2.2 et (look_some hl); exact absurd this (Nat.lt_irrefl _)
          rw [hno, Option.none_or]
        have hhas : ∃ a k, (valV kvs (.inl ((tm.1 : Nat) : Int))).getD (V.ref p2) = .ref a ∧ Sq K k H5 a (((look ps.1 tm.1).getD (zeros tm.2.length)).map V.int) := by
          rcases df2.get tm.1 with ⟨g1, g2⟩ | ⟨b2, j2, u, g1, g2, g3⟩
          · refine ⟨p2, false, by rw [g1]; rfl, ?_⟩
            rw [← hlook, g2]
            show SqT K H5 p2 ((zeros tm.2.length).map V.int)
            unfold zeros
            rw [List.map_replicate]
            exact hq5
          · refine ⟨b2, j2, by rw [g1]; rfl, ?_⟩
            rw [← hlook, g2]
            exact sq_same s15 g3
        obtain ⟨ah, kh, eh, qh⟩ := hhas
        rw [eh]
        have qw5 := ((skp s15).sqT qw : SqT K H5 w2' _)
        refine ⟨_, rfl, _, rfl, ah, w2', kh, false, _, _, rfl, qh, qw5, fun D hD => ?_⟩
        refine lc_gen (walk_zipB rfl) (by rw [List.length_map, List.length_map]; omega) hD (fun H' s => ⟨sq_same s qh, sq_same (k := false) s qw5⟩) (fun _ acc _ => acc = []) (fun _ _ _ _ _ p => p) (fun _ => rfl) (fun m x H6 H7 acc C N hm6 s6 p y cC cN => ?_) (fun acc H6 s6 e l p => ?_)
        · obtain ⟨T, x1, x2, rfl, hT, s7, eT, e1, e2⟩ := same_pair y
          rw [List.getElem?_map] at e1 e2
          obtain ⟨z1, f1, rfl⟩ := Option.map_eq_some_iff.mp e1
          obtain ⟨z2, f2, rfl⟩ := Option.map_eq_some_iff.mp e2
          have hle := hra tm htm m z1 z2 f1 f2
          refine ⟨T, _, rfl, .inl (.inl eT), rfl, _, _, rfl, _, _, rfl, rfl, rfl, ?_⟩
          refine ⟨_, rfl, _, rfl, _, _, rfl, true, ?_, iteF (cN _ s7 p)⟩
          rw [decide_eq_true (by omega)]
        · subst p
          refine ⟨Nat.zero_le _, fun E hE => ?_⟩
          have sE := same_new (o := .lst []) hE
          refine ⟨D, E, [], rfl, rfl, sE _ _ e, upd_same, _, rfl, iteF ?_⟩
          refine ⟨_, rfl, _, rfl, by rw [sizeLine_eq]; show 2 ≤ _; omega, fun p3 o3 hp3 ho3 => ?_⟩
          obtain ⟨v1, v2, v3⟩ := frz_new (K := K) (xs := [V.ref w2', V.int (tm.1 : Nat)]) hp3 ho3
          have ss := ((s15.trans s6).trans sE).trans v1
          have eF9 := ss _ _ eF2
          refine ⟨p3, _, rfl, v2, rfl, _, _, rfl, _, rfl, _, rfl, F, _, rfl, DPut.k (k := .inl ((tm.1 : Nat) : Int)) eF9 (sz_lt' (by omega)), _, _, rfl, rfl, ?_⟩
          refine ⟨_, _, _, _, _, (tm.1 : Nat), rfl, smut (s2.trans ss) hF, upd_same, ?_, fun m t hm et2 => ?_⟩
          · rw [take_snoc et, foldl_snoc]
            exact (df2.mono fun b j ys hs => sq_same ss hs).put (k := false) hc ((kp_dK eF9).sqT ((skp ss).sqT qw)) fun b j ys hs => sq_dK eF9 b j ys hs
          · have hasc := pw_fst.mp ok2.2
            rw [List.pairwise_iff_getElem] at hasc
            have g1 := List.getElem?_eq_some_iff.mp et
            have g2 := List.getElem?_eq_some_iff.mp et2
            have := hasc j m g1.1 g2.1 (by omega)
            rw [g1.2, g2.2] at this
            omega
      · obtain ⟨y5, y6, y7, y8, kvs, last, rfl, s2, eF2, df2, _⟩ := p
        rw [hxl, List.take_length] at df2
        have hti : TabIn sz (raisedF ps.1 ts) := TabIn.foldPut (TabIn.foldPut TabIn.none in1) in2
        have df2 : DF K H' kvs (raisedF ps.1 ts) sz.length := df2
        obtain ⟨ks, hks, hkl, hys⟩ := df2.sorted
        refine ⟨_, rfl, F, kvs, rfl, .inl eF2, fun lk hlk => ?_⟩
        have slk := same_new (o := .lst (kvs.map fun kv => kV kv.1)) hlk
        have elk := upd_same (H := H') (a := lk) (o := .lst (kvs.map fun kv => kV kv.1))
        have eF := slk _ _ eF2
        have df := df2.mono fun b j ys hs => sq_same slk hs
        have s1 := s2.trans slk
        have ekv : (kvs.map fun kv => kV kv.1) = ks.map V.int := by
          have := congrArg (List.map kV) hks
          rw [List.map_map, List.map_map] at this
          exact this
        revert slk elk eF df s1
        generalize (upd H' lk (.lst (kvs.map fun kv => kV kv.1))) = H3
        intro slk elk eF df s1
        rw [ekv] at elk
        refine ⟨lk, ks, rfl, lstA elk, by omega, fun ys p2 hp2 hs2 hn2 => ?_⟩
        have ey := hys ys hp2 hs2
        subst ey
        have s2 := same_new (o := .lst (((keysT sz.length (raisedF ps.1 ts)).map fun (c : Nat) => (c : Int)).map V.int)) hn2
        have eL : SqL K (upd H3 p2 (.lst (((keysT sz.length (raisedF ps.1 ts)).map fun (c : Nat) => (c : Int)).map V.int))) p2 _ := .inl (.inl upd_same)
        have hkl2 : (keysT sz.length (raisedF ps.1 ts)).length ≤ 60 := Nat.le_trans (Nat.le_trans (List.length_filter_le _ _) (by rw [List.length_range]; exact Nat.le_refl _)) hn
        refine ⟨p2, true, rfl, ⟨_, eL⟩, fun D hD => ?_⟩
        refine lc_gen2 (walk_seq (k := true)) (by rw [List.length_map, List.length_map]; omega) hD (fun H3 s => sq_same (k := true) s eL) (fun i acc H3 => A2 (FTermD D K H3) acc ((tabT sz.length (raisedF ps.1 ts)).take i)) (fun _ acc H3 ys zs e p => p.mono fun x t h => h.upd e) (fun _ => A2.nil) (fun i x H4 H5 acc C N hi s3 eD p y cC cN => ?_) (fun acc H4 s3 e l p => ?_)
        · obtain ⟨rfl, ex⟩ := y
          rw [List.getElem?_map, List.getElem?_map] at ex
          obtain ⟨z, ez, rfl⟩ := Option.map_eq_some_iff.mp ex
          obtain ⟨c, ec, rfl⟩ := Option.map_eq_some_iff.mp ez
          obtain ⟨hc, wl, hw⟩ := keysT_get ec
          rcases df.get c with ⟨g1, g2⟩ | ⟨b2, j2, u, g1, g2, g3⟩
          · rw [hw] at g2; cases g2
          rw [hw] at g2
          cases g2
          refine ⟨rfl, yesT ⟨_, rfl, _, rfl, _, rfl, F, .ref b2, rfl, ?_, by rw [sizeLine_eq]; show 2 ≤ _; omega, fun p5 o5 hp5 ho5 => ?_⟩⟩
          · exact g1 ▸ DGet.k (k := .inl ((c : Nat) : Int)) ((s2.trans s3) _ _ eF)
          obtain ⟨u1, u2, u3⟩ := frz_new (K := K) (xs := [V.int (c : Nat), V.ref b2]) hp5 ho5
          refine cC _ _ u1 ?_
          have : (tabT sz.length (raisedF ps.1 ts))[i]? = some (c, wl) := by rw [tabT_eq, List.getElem?_map, ec]; simp [hw]
          rw [take_snoc this]
          exact (p.mono fun x t h => h.same u1).snoc ⟨p5, b2, j2, rfl, u2, sq_same ((s2.trans s3).trans u1) g3, Off.of hD (sq_same s2 g3)⟩
        · have ek : (((keysT sz.length (raisedF ps.1 ts)).map fun (c : Nat) => (c : Int)).map V.int).length = (tabT sz.length (raisedF ps.1 ts)).length := by rw [tabT_eq, List.length_map, List.length_map, List.length_map]
          rw [ek, List.take_length] at p
          refine ⟨_, rfl, b, _, _, _, rfl, rfl, (skp ((s1.trans s2).trans s3)).sqT hb, atI_nat (j := 1) rfl, ?_⟩
          exact ⟨D, true, acc, _, _, rfl, .inl (.inl e), p.mono fun x t h => h.f, hti.terms, Nat.le_trans (tabT_len _ _) (by omega), fun x H5 s5 hx => q x H5 (((s1.trans s2).trans s3).trans s5) hx⟩
end
end Bh
namespace Bh
open PySem PySem.Spec PyProof.Rows L2
section
variable {P : Program} {w : World} {K : PySem.W.Frag} {mg : Str → Option Value} {base : Heap}
def sp_lstep (K : PySem.W.Frag) : Sp := fun vs H Q _ => ∃ (zv : V) (sz : List Nat) (sa al : Addr) (told vals : Sums) (v : V) (st : Step), vs = [zv, .ref sa, .ref al, v] ∧ Pur K H zv (dSizes sz) ∧ ToldV K H sa told ∧ AheadV K H al vals ∧ StepV K H v st ∧ StepGood sz told vals st ∧
  sz.length ≤ 60 ∧ (∀ n ∈ sz, n ≤ 1000) ∧ (∀ s ∈ vals, SumOk sz s) ∧ ∀ x H', Same H H' → SumV K H' x (stepVal sz.length told vals st) → Q x H'
theorem sc_law_step : FnScope ["_law_lots_here", "_law_sums_so", "_law_ahead_here", "_law_step_so", "_law_word", "_law_many_so", "_law_pairs_so", "_law_pair_so", "_law_told", "_law_by", "_law_terms_so", "_law_worth", "_law_spot", "_law_weights_so"] ["_law_lots_here", "_law_sums_so", "_law_ahead_here", "_law_step_so"] (defScope (topS 75)) := ⟨rfl, rfl, rfl, by decide +kernel, rfl, by decide +kernel, by decide +kernel⟩
theorem ok_lstep (fr : Free mg) (D : DefAt K mg "_law_step" (topS 75)) (d__law_int : OkD P w K mg base 1 "_law_int" ["_law_worth", "_law_low"] sp_int) (d__law_ahead : OkD P w K mg base 2 "_law_ahead" ["_law_worth", "_law_many_so"] sp_lahead)
    (d__law_added : OkD P w K mg base 2 "_law_added" ["_law_pairs_so"] (sp_added_so K)) (d__law_form : OkD P w K mg base 1 "_law_form" ["_law_terms_so", "_law_bound_so"] (sp_form_so K)) (d__law_raised : OkD P w K mg base 2 "_law_raised" ["_law_lots_here", "_law_told", "_law_terms_so"] (sp_lraised K)) :
    OkD P w K mg base 3 "_law_step" ["_law_lots_here", "_law_sums_so", "_law_ahead_here", "_law_step_so"] (sp_lstep K) := by
  refine D.ok sc_law_step (fun _ _ _ _ _ _ us hl => match us, hl with | [_, _, _, _], _ => rfl) (fun vs H Q E h => ?_) (fun f cdv A outer s H vs Q E hr h => ?_)
  · obtain ⟨zv, sz, sa, al, told, vals, v, st, rfl, _⟩ := h; rfl
  · obtain ⟨zv, sz, sa, al, told, vals, v, st, rfl, hsz, hsa, hal, hst, hg, hn, hz, hok, q⟩ := h
    refine ⟨_, (pss_cons (ps_if (PW.pt (pw_or (pt_not (pt_val (pe_callB (cr_isTupK (K := K)) (by rfl) fr.isinstance (by decide +kernel) (pa_cons (pv 3) (pa_cons (pe_bltn (v := .ty "tuple") (by rfl) fr.tuple (by decide +kernel) rfl) pa_nil))))) (pw_or1 (pt_cmpR op_lt (pe_callB (cr_lenK (K := K)) (by rfl) fr.len (by decide +kernel) (pa_cons (pv 3) pa_nil)) pe_int (nomark _))))) (pss_one (ps_ret pe_non)) pss_nil)
 (pss_cons (ps_par (i := 4) (j := 5) (by rfl) sc_law_step.nd rfl rfl (by decide) rfl rfl (pa_cons (pe_ix (ix_tupK (K := K)) (pv 3) pe_int (fun _ _ => rfl)) (pa_cons (pe_callB (cr_lenK (K := K)) (by rfl) fr.len (by decide +kernel) (pa_cons (pv 2) pa_nil)) pa_nil)) (by rfl))
 (pss_cons (ps_if (PW.pt (pw_and (pt_cmpR op_eq (pv 4) pe_str (nomark _)) (pw_and1 (pt_cmpR op_eq (pe_callB (cr_lenK (K := K)) (by rfl) fr.len (by decide +kernel) (pa_cons (pv 3) pa_nil)) pe_int (nomark _))))) (pss_one (ps_ret (pe_ifExp (pt_val (pe_callD d__law_ahead (hr.mono (by decide)) (by rfl) (pa_cons (pe_ix (ix_tupK (K := K)) (pv 3) pe_int (fun _ _ => rfl)) (pa_cons (pe_callB (cr_lenK (K := K)) (by rfl) fr.len (by decide +kernel) (pa_cons (pv 1) pa_nil)) pa_nil)))) (pe_ix (ix_tupK (K := K)) (pv 1) (pe_ix (ix_tupK (K := K)) (pv 3) pe_int (fun _ _ => rfl)) (fun _ _ => rfl)) pe_non))) pss_nil)
 (pss_cons (ps_if (PW.pt (pw_and (pt_cmpR op_eq (pv 4) pe_str (nomark _)) (pw_and (pt_cmpR op_eq (pe_callB (cr_lenK (K := K)) (by rfl) fr.len (by decide +kernel) (pa_cons (pv 3) pa_nil)) pe_int (nomark _)) (pw_and1 (pt_val (pe_callB (cr_isTupK (K := K)) (by rfl) fr.isinstance (by decide +kernel) (pa_cons (pe_ix (ix_tupK (K := K)) (pv 3) pe_int (fun _ _ => rfl)) (pa_cons (pe_bltn (v := .ty "tuple") (by rfl) fr.tuple (by decide +kernel) rfl) pa_nil)))))))) (pss_cons (ps_set (i := 6) sc_law_step.nd rfl (by first | exact .inl rfl | exact .inr rfl) (pe_lst pa_nil))
 (pss_cons (ps_for PassesOwn.never rfl (pi_seqK (K := K) (pe_ix (ix_tupK (K := K)) (pv 3) pe_int (fun _ _ => rfl))) (pg_name (i := 7) sc_law_step.nd rfl (by first | exact .inl rfl | exact .inr rfl)) (pss_cons (ps_if (PW.pt (pw_or (pt_not (pt_val (pe_callB (cr_isTupK (K := K)) (by rfl) fr.isinstance (by decide +kernel) (pa_cons (pv 7) (pa_cons (pe_bltn (v := .ty "tuple") (by rfl) fr.tuple (by decide +kernel) rfl) pa_nil))))) (pw_or1 (pt_cmpR op_ne (pe_callB (cr_lenK (K := K)) (by rfl) fr.len (by decide +kernel) (pa_cons (pv 7) pa_nil)) pe_int (nomark _))))) (pss_one (ps_ret pe_non)) pss_nil)
 (pss_cons (ps_if (PW.pt (pw_or (pt_not (pt_val (pe_callD d__law_ahead (hr.mono (by decide)) (by rfl) (pa_cons (pe_ix (ix_tupK (K := K)) (pv 7) pe_int (fun _ _ => rfl)) (pa_cons (pv 5) pa_nil))))) (pw_or1 (pt_not (pt_val (pe_callD d__law_int (hr.mono (by decide)) (by rfl) (pa_cons (pe_ix (ix_tupK (K := K)) (pv 7) pe_int (fun _ _ => rfl)) (pa_cons pe_int pa_nil)))))))) (pss_one (ps_ret pe_non)) pss_nil)
 (pss_one (ps_expr (pe_bm PySem.F.plainAttrs_list PySem.F.slot_list_append PySem.F.type_list_append mt_append (pv 6) (pa_cons (pe_tupF (pa_cons (pe_ix (ix_listK (K := K)) (pv 2) (pe_ix (ix_tupK (K := K)) (pv 7) pe_int (fun _ _ => rfl)) (fun _ _ => rfl)) (pa_cons (pe_ix (ix_tupK (K := K)) (pv 7) pe_int (fun _ _ => rfl)) pa_nil))) pa_nil)))))))
 (pss_one (ps_ret (pe_callD d__law_added (hr.mono (by decide)) (by rfl) (pa_cons (pv 6) pa_nil)))))) pss_nil)
 (pss_cons (ps_if (pt_not (pt_val (pe_callD d__law_ahead (hr.mono (by decide)) (by rfl) (pa_cons (pe_ix (ix_tupK (K := K)) (pv 3) pe_int (fun _ _ => rfl)) (pa_cons (pv 5) pa_nil))))) (pss_one (ps_ret pe_non)) pss_nil)
 (pss_cons (ps_set (i := 8) sc_law_step.nd rfl (by first | exact .inl rfl | exact .inr rfl) (pe_ix (ix_listK (K := K)) (pv 2) (pe_ix (ix_tupK (K := K)) (pv 3) pe_int (fun _ _ => rfl)) (fun _ _ => rfl)))
 (pss_cons (ps_if (PW.pt (pw_and (pt_cmpR op_eq (pv 4) pe_str (nomark _)) (pw_and (pt_cmpR op_eq (pe_callB (cr_lenK (K := K)) (by rfl) fr.len (by decide +kernel) (pa_cons (pv 3) pa_nil)) pe_int (nomark _)) (pw_and1 (pt_val (pe_callD d__law_int (hr.mono (by decide)) (by rfl) (pa_cons (pe_ix (ix_tupK (K := K)) (pv 3) pe_int (fun _ _ => rfl)) (pa_cons pe_int pa_nil)))))))) (pss_cons (ps_set (i := 9) sc_law_step.nd rfl (by first | exact .inl rfl | exact .inr rfl) (pe_ix (ix_tupK (K := K)) (pv 3) pe_int (fun _ _ => rfl)))
 (pss_cons (ps_setLc (i := 10) (own := [("_law_spot", 12), ("_law_weights_so", 13)]) rfl sc_law_step.nd rfl rfl (sw_true rfl rfl rfl (by decide +kernel)) (pi_seqK (K := K) (pe_ix (ix_tupK (K := K)) (pv 8) pe_int (fun _ _ => rfl))) (blkOk_by (by kernel_rfl)) (fun _ _ _ _ _ => (pg_tupK (K := K) (n := 2) (by rfl) (pgs_cons (pg_name (i := 12) sc_law_step.nd rfl (by first | exact .inl rfl | exact .inr rfl)) (pgs_cons (pg_name (i := 13) sc_law_step.nd rfl (by first | exact .inl rfl | exact .inr rfl)) pgs_nil)))) (fun _ _ _ _ _ => pts_nil) (fun _ _ _ _ _ => (pe_tupF (pa_cons (pv 12) (pa_cons (pe_callTy (cr_tupK (K := K)) (by rfl) fr.tuple (by decide +kernel) (pa_cons (pe_lc (own := [("_law_worth", 11)]) rfl sc_law_step.nd (pi_seqK (K := K) (pv 13)) (blkOk_by (by kernel_rfl)) (fun _ _ _ _ _ => (pg_name (i := 11) sc_law_step.nd rfl (by first | exact .inl rfl | exact .inr rfl))) (fun _ _ _ _ _ => pts_nil) (fun _ _ _ _ _ => (pe_un un_neg (pe_op op_fdivN (pe_un un_neg (pv 11)) (pv 9))))) pa_nil)) pa_nil)))))
 (pss_one (ps_ret (pe_callD d__law_form (hr.mono (by decide)) (by rfl) (pa_cons (pv 10) (pa_cons (pe_un un_neg (pe_op op_fdivN (pe_un un_neg (pe_ix (ix_tupK (K := K)) (pv 8) pe_int (fun _ _ => rfl))) (pv 9))) pa_nil))))))) pss_nil)
 (pss_cons (ps_if (PW.pt (pw_and (pt_cmpR op_eq (pv 4) pe_str (nomark _)) (pw_and (pt_cmpR op_eq (pe_callB (cr_lenK (K := K)) (by rfl) fr.len (by decide +kernel) (pa_cons (pv 3) pa_nil)) pe_int (nomark _)) (pw_and1 (pt_cmpR op_gt (pe_ix (ix_tupK (K := K)) (pv 8) pe_int (fun _ _ => rfl)) pe_int (nomark _)))))) (pss_cons (ps_setLc (i := 10) (own := [("_law_spot", 12), ("_law_weights_so", 13)]) rfl sc_law_step.nd rfl rfl (sw_true rfl rfl rfl (by decide +kernel)) (pi_seqK (K := K) (pe_ix (ix_tupK (K := K)) (pv 8) pe_int (fun _ _ => rfl))) (blkOk_by (by kernel_rfl)) (fun _ _ _ _ _ => (pg_tupK (K := K) (n := 2) (by rfl) (pgs_cons (pg_name (i := 12) sc_law_step.nd rfl (by first | exact .inl rfl | exact .inr rfl)) (pgs_cons (pg_name (i := 13) sc_law_step.nd rfl (by first | exact .inl rfl | exact .inr rfl)) pgs_nil)))) (fun _ _ _ _ _ => pts_nil) (fun _ _ _ _ _ => (pe_tupF (pa_cons (pv 12) (pa_cons (pe_callTy (cr_tupK (K := K)) (by rfl) fr.tuple (by decide +kernel) (pa_cons (pe_lc (own := [("_law_worth", 11)]) rfl sc_law_step.nd (pi_seqK (K := K) (pv 13)) (blkOk_by (by kernel_rfl)) (fun _ _ _ _ _ => (pg_name (i := 11) sc_law_step.nd rfl (by first | exact .inl rfl | exact .inr rfl))) (fun _ _ _ _ _ => pts_nil) (fun _ _ _ _ _ => (pe_callB (call_min2 rfl) (by rfl) fr.min (by decide +kernel) (pa_cons (pv 11) (pa_cons (pe_ix (ix_tupK (K := K)) (pv 8) pe_int (fun _ _ => rfl)) pa_nil))))) pa_nil)) pa_nil)))))
 (pss_one (ps_ret (pe_callD d__law_form (hr.mono (by decide)) (by rfl) (pa_cons (pv 10) (pa_cons (pe_ix (ix_tupK (K := K)) (pv 8) pe_int (fun _ _ => rfl)) pa_nil)))))) pss_nil)
 (pss_one (ps_ret (pe_ifExp (PW.pt (pw_and (pt_cmpR op_eq (pv 4) pe_str (nomark _)) (pw_and1 (pt_cmpR op_eq (pe_callB (cr_lenK (K := K)) (by rfl) fr.len (by decide +kernel) (pa_cons (pv 3) pa_nil)) pe_int (nomark _))))) (pe_callD d__law_raised (hr.mono (by decide)) (by rfl) (pa_cons (pv 0) (pa_cons (pv 8) (pa_cons (pe_ix (ix_tupK (K := K)) (pv 3) pe_int (fun _ _ => rfl)) pa_nil)))) pe_non))))))))))), ?_⟩
    obtain ⟨vs, hl, hvs⟩ := id hal
    have hlen := hvs.1
    cases st with
    | demand i =>
      obtain ⟨a, xs, rfl, ha, hxs⟩ := hst.pur.inv
      obtain ⟨u1, u2, rfl, v1, v2⟩ := hxs.two
      cases v1.strI
      cases v2.intI
      obtain ⟨ts, hts, hta⟩ := hsa
      have htl := hta.1
      have hg : i < told.length := hg
      obtain ⟨z, ez, hzv⟩ := hta.getR (at0_get hg)
      refine ⟨_, rfl, a, _, rfl, ha, true, rfl, iteF ⟨_, rfl, a, false, _, rfl, ha, _, _, rfl, rfl, _, rfl, ?_⟩⟩
      rw [show ([V.str "demand", V.int (i : Nat)].length : Int) = 2 from rfl, decide_eq_false (by omega)]
      refine iteF ⟨_, rfl, a, _, _, _, rfl, rfl, ha, atI_nat (j := 0) rfl, _, rfl, al, true, vs, rfl, hl, _, _, rfl, ?_⟩
      refine ⟨_, rfl, rfl, _, rfl, ?_⟩
      rw [decide_eq_true rfl]
      refine iteT ⟨_, rfl, a, false, _, rfl, ha, rfl, _, rfl, ?_⟩
      rw [show ([V.str "demand", V.int (i : Nat)].length : Int) = 2 from rfl, decide_eq_true rfl]
      refine iteT ⟨_, rfl, a, _, _, _, rfl, rfl, ha, atI_nat (j := 1) rfl, _, rfl, sa, false, ts, rfl, hts, _, _, rfl, true, ?_, iteT ?_⟩
      · rw [decide_eq_true (by omega)]
      exact ⟨_, rfl, _, rfl, a, _, _, _, rfl, rfl, ha, atI_nat (j := 1) rfl, sa, _, _, z, rfl, rfl, hts, atI_nat ez, q z _ (Same.refl _) hzv⟩
    | add ps =>
      obtain ⟨a, xs, rfl, ha, hxs⟩ := hst.pur.inv
      obtain ⟨u1, u2, rfl, v1, v2⟩ := hxs.two
      cases v1.strI
      obtain ⟨b, us, rfl, hb, hus⟩ := v2.inv
      have hx2 := pur_A2 hus
      obtain ⟨hg1, hg2⟩ := hg
      refine ⟨_, rfl, a, _, rfl, ha, true, rfl, iteF ⟨_, rfl, a, false, _, rfl, ha, _, _, rfl, rfl, _, rfl, ?_⟩⟩
      rw [show ([V.str "add", V.ref b].length : Int) = 2 from rfl, decide_eq_false (by omega)]
      refine iteF ⟨_, rfl, a, _, _, _, rfl, rfl, ha, atI_nat (j := 0) rfl, _, rfl, al, true, vs, rfl, hl, _, _, rfl, ?_⟩
      refine ⟨_, rfl, rfl, _, rfl, ?_⟩
      rw [str_ne (by decide +kernel)]
      refine iteF ⟨_, rfl, rfl, _, rfl, ?_⟩
      rw [decide_eq_true rfl]
      refine iteT ⟨_, rfl, a, false, _, rfl, ha, rfl, _, rfl, ?_⟩
      rw [show ([V.str "add", V.ref b].length : Int) = 2 from rfl, decide_eq_true rfl]
      refine iteT ⟨_, rfl, a, _, _, _, rfl, rfl, ha, atI_nat (j := 1) rfl, b, us, rfl, hb, true, rfl, iteT ?_⟩
      refine ⟨Nat.zero_le _, fun F hF => ?_⟩
      have s0 := same_new (o := .lst []) hF
      refine ⟨_, rfl, a, _, _, _, rfl, rfl, (skp s0).sqT ha, atI_nat (j := 1) rfl, b, false, rfl, ⟨us, (skp s0).sqT hb⟩, ?_⟩
      refine for_it (walk_seq (k := false) (xs := us)) (fun i σ H' => ∃ y7 fs, σ = [some zv, some (.ref sa), some (.ref al), some (.ref a), some (.str "add"), some (.int (vs.length : Nat)), some (.ref F), y7, none, none, none, none, none, none] ∧ Same H H' ∧ H' F = some (.lst fs) ∧ A2 (PairV K H') fs ((ps.map fun p => (at0 vals p.1, p.2)).take i))
        ⟨none, [], rfl, s0, upd_same, A2.nil⟩ (fun i σ H' _ p => ?_) (fun i x σ H1 H2 hi p y => ?_) (fun σ H' p => ?_)
      · obtain ⟨_, _, _, s1, _⟩ := p
        exact (skp s1).sqT hb
      · obtain ⟨y7, fs, rfl, s1, eF, hfs⟩ := p
        obtain ⟨rfl, ex⟩ := y
        obtain ⟨pr, ep, hpr⟩ := hx2.getL ex
        obtain ⟨c, ys, rfl, hc, hys⟩ := hpr.inv
        obtain ⟨u3, u4, rfl, v3, v4⟩ := hys.two
        cases v3.intI
        cases v4.intI
        have hc := (skp s1).sqT hc
        obtain ⟨g1, g2, g3⟩ := hg2 pr (List.mem_of_getElem? ep)
        obtain ⟨vs', ha', hvs'⟩ := hal.same s1
        have hlen' := hvs'.1
        obtain ⟨z, ez, hz2⟩ := hvs'.getR (at0_get g1)
        refine ⟨_, rfl, c, _, rfl, hc, true, rfl, iteF ?_⟩
        refine ⟨_, rfl, c, false, _, rfl, hc, rfl, _, rfl, ?_⟩
        rw [show ([V.int (pr.1 : Nat), V.int pr.2].length : Int) = 2 from rfl, decide_eq_true rfl]
        refine iteF ⟨_, rfl, c, _, _, _, rfl, rfl, hc, atI_nat (j := 0) rfl, _, rfl, _, _, rfl, true, ?_, iteF ?_⟩
        · rw [decide_eq_true (by omega)]
        refine ⟨_, rfl, c, _, _, _, rfl, rfl, hc, atI_nat (j := 1) rfl, _, _, rfl, true, ?_, iteF ?_⟩
        · rw [decide_eq_true (by omega)]
        refine ⟨_, rfl, .inl ⟨rfl, fs, .inl (.inl eF)⟩, _, rfl, _, rfl, c, _, _, _, rfl, rfl, hc, atI_nat (j := 0) rfl, al, _, _, z, rfl, rfl, ha', atI_nat ez, _, rfl, c, _, _, _, rfl, rfl, hc, atI_nat (j := 1) rfl, ?_⟩
        refine ⟨by rw [sizeLine_eq]; show 2 ≤ _; omega, fun p o hp ho => ?_⟩
        obtain ⟨w1, w2, w3⟩ := frz_new (K := K) (xs := [z, V.int pr.2]) hp ho
        have hfl : fs.length ≤ 1000 := by rw [hfs.1, List.length_take, List.length_map]; omega
        refine ⟨F, fs, _, rfl, rfl, w1 _ _ eF, sz_lt' (by omega), some (.ref c), _, rfl, smut (s1.trans w1) hF, upd_same, ?_⟩
        have e5 : (ps.map fun p => (at0 vals p.1, p.2))[i]? = some (at0 vals pr.1, pr.2) := by rw [List.getElem?_map, ep]; rfl
        rw [take_snoc e5]
        have kk := (skp w1).trans (kp_lst (ys := fs ++ [.ref p]) (w1 _ _ eF))
        refine (hfs.mono fun x t h => h.kp kk).snoc ⟨p, z, rfl, (kp_lst (w1 _ _ eF)).sqT w2, (hz2.pur.kp kk)⟩
      · obtain ⟨y7, fs, rfl, s1, eF, hfs⟩ := p
        rw [hx2.1, List.take_of_length_le (by rw [List.length_map]; exact Nat.le_refl _)] at hfs
        refine ⟨_, rfl, F, true, fs, _, sz, rfl, .inl (.inl eF), hfs, fun p hp => ?_, fun p hp => ?_, hn, fun x H2 s2 hx => q x H2 (s1.trans s2) hx⟩
        · obtain ⟨r, hr, rfl⟩ := List.mem_map.mp hp
          exact (at0_ok hok r.1).inn hz
        · obtain ⟨r, hr, rfl⟩ := List.mem_map.mp hp
          exact ⟨(hg2 r hr).2.1, (hg2 r hr).2.2⟩
    | divide j d =>
      obtain ⟨a, xs, rfl, ha, hxs⟩ := hst.pur.inv
      obtain ⟨u1, u2, u3, rfl, v1, v2, v3⟩ := hxs.three
      cases v1.strI
      cases v2.intI
      cases v3.intI
      obtain ⟨g1, g2, g3⟩ := hg
      obtain ⟨z, ez, hzv⟩ := hvs.getR (at0_get g1)
      refine ⟨_, rfl, a, _, rfl, ha, true, rfl, iteF ⟨_, rfl, a, false, _, rfl, ha, _, _, rfl, rfl, _, rfl, ?_⟩⟩
      rw [show ([V.str "divide", V.int (j : Nat), V.int d].length : Int) = 3 from rfl, decide_eq_false (by omega)]
      refine iteF ⟨_, rfl, a, _, _, _, rfl, rfl, ha, atI_nat (j := 0) rfl, _, rfl, al, true, vs, rfl, hl, _, _, rfl, ?_⟩
      refine ⟨_, rfl, rfl, _, rfl, ?_⟩
      rw [str_ne (by decide +kernel)]
      refine iteF ⟨_, rfl, rfl, _, rfl, ?_⟩
      rw [str_ne (by decide +kernel)]
      refine iteF ⟨_, rfl, a, _, _, _, rfl, rfl, ha, atI_nat (j := 1) rfl, _, rfl, _, _, rfl, true, ?_, iteF ?_⟩
      · rw [decide_eq_true (by omega)]
      refine ⟨_, rfl, _, rfl, a, _, _, _, rfl, rfl, ha, atI_nat (j := 1) rfl, al, _, _, z, rfl, rfl, hl, atI_nat ez, ?_⟩
      refine ⟨_, rfl, rfl, _, rfl, ?_⟩
      rw [decide_eq_true rfl]
      refine iteT ⟨_, rfl, a, false, _, rfl, ha, rfl, _, rfl, ?_⟩
      rw [show ([V.str "divide", V.int (j : Nat), V.int d].length : Int) = 3 from rfl, decide_eq_true rfl]
      refine iteT ⟨_, rfl, a, _, _, _, rfl, rfl, ha, atI_nat (j := 2) rfl, _, _, rfl, true, ?_, iteT ?_⟩
      · rw [decide_eq_true (by omega)]
      obtain ⟨b, tt, rfl, hb, htt⟩ := pSum hzv.pur
      obtain ⟨t, us, rfl, ht, hul, hus⟩ := pTerms htt
      have okj := at0_ok hok j
      have hne := okj.nes hz
      have hl4 : (at0 vals j).1.length ≤ 1000 := Nat.le_trans okj.1.len (by omega)
      have q : ∀ x H', Same H H' → SumV K H' x (divided (at0 vals j) d) → Q x H' := q
      obtain ⟨ps, eps⟩ : ∃ ps, ps = at0 vals j := ⟨_, rfl⟩
      rw [← eps] at hne hl4 hb htt hul hus q
      refine ⟨_, rfl, a, _, _, _, rfl, rfl, ha, atI_nat (j := 2) rfl, ?_⟩
      refine ⟨_, rfl, b, _, _, _, rfl, rfl, hb, atI_nat (j := 0) rfl, t, false, rfl, ⟨_, ht⟩, fun D hD => ?_⟩
      have key : ∀ (i : Nat) (tm : Nat × List Int), ps.1[i]? = some tm → (ps.1.map fun t => (t.1, t.2.map fun w => upI w d))[i]? = some (tm.1, tm.2.map fun w => upI w d) := fun i tm e => by rw [List.getElem?_map, e]; rfl
      refine lc_gen2 (walk_seq (k := false) (xs := us)) (by omega) hD (fun H3 s => sq_same (k := false) s ht) (fun i acc H3 => A2 (FTermD D K H3) acc ((ps.1.map fun t => (t.1, t.2.map fun w => upI w d)).take i)) (fun _ acc H3 ys zs e p => p.mono fun x t h => h.upd e) (fun _ => A2.nil) (fun i x H3 H4 acc C N hi s3 eD p y cC cN => ?_) (fun acc H3 s3 e l p => ?_)
      · obtain ⟨rfl, ex⟩ := y
        obtain ⟨tm, et, hpt⟩ := hus i x ex
        obtain ⟨c2, wt, rfl, qc2, qw⟩ := pTerm hpt
        have qw3 := (skp s3).sqT qw
        refine ⟨c2, _, rfl, (skp s3).sqT qc2, rfl, _, _, rfl, _, _, rfl, rfl, rfl, yesT ?_⟩
        refine ⟨_, rfl, _, rfl, wt, false, rfl, ⟨_, qw3⟩, fun D2 hD2 => ?_⟩
        refine lc_gen (walk_seq (k := false)) (by rw [List.length_map]; exact Nat.le_trans (hne tm (List.mem_of_getElem? et)).2 (by decide)) hD2 (fun H' s => sq_same (k := false) s qw3) (fun j acc _ => acc = ((tm.2.map fun w => upI w d).take j).map V.int) (fun _ _ _ _ _ p => p) (fun _ => rfl) (fun j x H5 H6 acc2 C2 N2 hj s5 p5 y cC2 cN2 => ?_) (fun acc2 H5 s5 e5 l5 p5 => ?_)
        · obtain ⟨rfl, ex2⟩ := y
          rw [List.getElem?_map] at ex2
          obtain ⟨z, ez, rfl⟩ := Option.map_eq_some_iff.mp ex2
          refine ⟨rfl, yesT ⟨_, rfl, _, rfl, _, rfl, _, _, rfl, rfl, ⟨by omega, by omega⟩, _, rfl, cC2 _ _ (Same.refl _) ?_⟩⟩
          rw [take_snoc (show (tm.2.map fun w => upI w d)[j]? = some (upI z d) by rw [List.getElem?_map, ez]; rfl), List.map_append, p5]
          rfl
        · rw [show (tm.2.map V.int).length = (tm.2.map fun w => upI w d).length by rw [List.length_map, List.length_map], List.take_length] at p5
          subst p5
          refine ⟨D2, true, _, rfl, .inl (.inl e5), fun _ pt ot hpt2 hot => ?_, fun z => nomatch z⟩
          obtain ⟨t1, t2, t3⟩ := frz_new (K := K) (xs := (tm.2.map fun w => upI w d).map V.int) hpt2 hot
          refine ⟨by rw [sizeLine_eq]; show 2 ≤ _; omega, fun p6 o6 hp6 ho6 => ?_⟩
          obtain ⟨u1, u2, u3⟩ := frz_new (K := K) (xs := [V.int (tm.1 : Nat), V.ref pt]) hp6 ho6
          refine cC _ _ ((s5.trans t1).trans u1) ?_
          rw [take_snoc (key i tm et)]
          exact (p.mono fun x t h => h.same ((s5.trans t1).trans u1)).snoc ⟨p6, pt, false, rfl, u2, (skp u1).sqT t2, fun z => nomatch z⟩
      · have ek : us.length = (ps.1.map fun t => (t.1, t.2.map fun w => upI w d)).length := by rw [List.length_map, hul]
        rw [ek, List.take_length] at p
        have hb3 := (skp s3).sqT hb
        refine ⟨_, rfl, _, rfl, b, _, _, _, rfl, rfl, hb3, atI_nat (j := 1) rfl, _, rfl, _, rfl, _, _, rfl, rfl, ⟨by omega, by omega⟩, _, rfl, ?_⟩
        refine ⟨D, true, acc, _, _, rfl, .inl (.inl e), p.mono fun x t h => h.f, fun t ht => ?_, by rw [List.length_map]; omega, fun x H5 s5 hx => q x H5 (s3.trans s5) hx⟩
        obtain ⟨t0, h0, rfl⟩ := List.mem_map.mp ht
        exact ⟨fun z => (hne t0 h0).1 (List.map_eq_nil_iff.mp z), by rw [List.length_map]; exact (hne t0 h0).2⟩
    | cap j =>
      obtain ⟨a, xs, rfl, ha, hxs⟩ := hst.pur.inv
      obtain ⟨u1, u2, rfl, v1, v2⟩ := hxs.two
      cases v1.strI
      cases v2.intI
      obtain ⟨g1, g2⟩ := hg
      obtain ⟨z, ez, hzv⟩ := hvs.getR (at0_get g1)
      refine ⟨_, rfl, a, _, rfl, ha, true, rfl, iteF ⟨_, rfl, a, false, _, rfl, ha, _, _, rfl, rfl, _, rfl, ?_⟩⟩
      rw [show ([V.str "cap", V.int (j : Nat)].length : Int) = 2 from rfl, decide_eq_false (by omega)]
      refine iteF ⟨_, rfl, a, _, _, _, rfl, rfl, ha, atI_nat (j := 0) rfl, _, rfl, al, true, vs, rfl, hl, _, _, rfl, ?_⟩
      refine ⟨_, rfl, rfl, _, rfl, ?_⟩
      rw [str_ne (by decide +kernel)]
      refine iteF ⟨_, rfl, rfl, _, rfl, ?_⟩
      rw [str_ne (by decide +kernel)]
      refine iteF ⟨_, rfl, a, _, _, _, rfl, rfl, ha, atI_nat (j := 1) rfl, _, rfl, _, _, rfl, true, ?_, iteF ?_⟩
      · rw [decide_eq_true (by omega)]
      refine ⟨_, rfl, _, rfl, a, _, _, _, rfl, rfl, ha, atI_nat (j := 1) rfl, al, _, _, z, rfl, rfl, hl, atI_nat ez, ?_⟩
      refine ⟨_, rfl, rfl, _, rfl, ?_⟩
      rw [str_ne (by decide +kernel)]
      refine iteF ⟨_, rfl, rfl, _, rfl, ?_⟩
      rw [decide_eq_true rfl]
      refine iteT ⟨_, rfl, a, false, _, rfl, ha, rfl, _, rfl, ?_⟩
      rw [show ([V.str "cap", V.int (j : Nat)].length : Int) = 2 from rfl, decide_eq_true rfl]
      obtain ⟨b, tt, rfl, hb, htt⟩ := pSum hzv.pur
      obtain ⟨t, us, rfl, ht, hul, hus⟩ := pTerms htt
      refine iteT ⟨_, rfl, b, _, _, _, rfl, rfl, hb, atI_nat (j := 1) rfl, _, _, rfl, rfl, _, rfl, ?_⟩
      rw [decide_eq_true g2]
      have okj := at0_ok hok j
      have hne := okj.nes hz
      have hl4 : (at0 vals j).1.length ≤ 1000 := Nat.le_trans okj.1.len (by omega)
      have q : ∀ x H', Same H H' → SumV K H' x (capped (at0 vals j)) → Q x H' := q
      obtain ⟨ps, eps⟩ : ∃ ps, ps = at0 vals j := ⟨_, rfl⟩
      rw [← eps] at hne hl4 hb htt hul hus q
      refine iteT ⟨_, rfl, b, _, _, _, rfl, rfl, hb, atI_nat (j := 0) rfl, t, false, rfl, ⟨_, ht⟩, fun D hD => ?_⟩
      have key : ∀ (i : Nat) (tm : Nat × List Int), ps.1[i]? = some tm → (ps.1.map fun t => (t.1, t.2.map fun w => if ps.2 < w then ps.2 else w))[i]? = some (tm.1, tm.2.map fun w => if ps.2 < w then ps.2 else w) := fun i tm e => by rw [List.getElem?_map, e]; rfl
      refine lc_gen2 (walk_seq (k := false) (xs := us)) (by omega) hD (fun H3 s => sq_same (k := false) s ht) (fun i acc H3 => A2 (FTermD D K H3) acc ((ps.1.map fun t => (t.1, t.2.map fun w => if ps.2 < w then ps.2 else w)).take i)) (fun _ acc H3 ys zs e p => p.mono fun x t h => h.upd e) (fun _ => A2.nil) (fun i x H3 H4 acc C N hi s3 eD p y cC cN => ?_) (fun acc H3 s3 e l p => ?_)
      · obtain ⟨rfl, ex⟩ := y
        obtain ⟨tm, et, hpt⟩ := hus i x ex
        obtain ⟨c2, wt, rfl, qc2, qw⟩ := pTerm hpt
        have qw3 := (skp s3).sqT qw
        refine ⟨c2, _, rfl, (skp s3).sqT qc2, rfl, _, _, rfl, _, _, rfl, rfl, rfl, yesT ?_⟩
        refine ⟨_, rfl, _, rfl, wt, false, rfl, ⟨_, qw3⟩, fun D2 hD2 => ?_⟩
        refine lc_gen (walk_seq (k := false)) (by rw [List.length_map]; exact Nat.le_trans (hne tm (List.mem_of_getElem? et)).2 (by decide)) hD2 (fun H' s => sq_same (k := false) s qw3) (fun j acc _ => acc = ((tm.2.map fun w => if ps.2 < w then ps.2 else w).take j).map V.int) (fun _ _ _ _ _ p => p) (fun _ => rfl) (fun j x H5 H6 acc2 C2 N2 hj s5 p5 y cC2 cN2 => ?_) (fun acc2 H5 s5 e5 l5 p5 => ?_)
        · obtain ⟨rfl, ex2⟩ := y
          rw [List.getElem?_map] at ex2
          obtain ⟨z, ez, rfl⟩ := Option.map_eq_some_iff.mp ex2
          refine ⟨rfl, yesT ⟨_, rfl, _, rfl, b, _, _, _, rfl, rfl, (skp (s3.trans s5)).sqT hb, atI_nat (j := 1) rfl, _, _, rfl, cC2 _ _ (Same.refl _) ?_⟩⟩
          rw [take_snoc (show (tm.2.map fun w => if ps.2 < w then ps.2 else w)[j]? = some (if ps.2 < z then ps.2 else z) by rw [List.getElem?_map, ez]; rfl), List.map_append, p5]
          rfl
        · rw [show (tm.2.map V.int).length = (tm.2.map fun w => if ps.2 < w then ps.2 else w).length by rw [List.length_map, List.length_map], List.take_length] at p5
          subst p5
          refine ⟨D2, true, _, rfl, .inl (.inl e5), fun _ pt ot hpt2 hot => ?_, fun z => nomatch z⟩
          obtain ⟨t1, t2, t3⟩ := frz_new (K := K) (xs := (tm.2.map fun w => if ps.2 < w then ps.2 else w).map V.int) hpt2 hot
          refine ⟨by rw [sizeLine_eq]; show 2 ≤ _; omega, fun p6 o6 hp6 ho6 => ?_⟩
          obtain ⟨u1, u2, u3⟩ := frz_new (K := K) (xs := [V.int (tm.1 : Nat), V.ref pt]) hp6 ho6
          refine cC _ _ ((s5.trans t1).trans u1) ?_
          rw [take_snoc (key i tm et)]
          exact (p.mono fun x t h => h.same ((s5.trans t1).trans u1)).snoc ⟨p6, pt, false, rfl, u2, (skp u1).sqT t2, fun z => nomatch z⟩
      · have ek : us.length = (ps.1.map fun t => (t.1, t.2.map fun w => if ps.2 < w then ps.2 else w)).length := by rw [List.length_map, hul]
        rw [ek, List.take_length] at p
        have hb3 := (skp s3).sqT hb
        refine ⟨_, rfl, _, rfl, b, _, _, _, rfl, rfl, hb3, atI_nat (j := 1) rfl, ?_⟩
        refine ⟨D, true, acc, _, _, rfl, .inl (.inl e), p.mono fun x t h => h.f, fun t ht => ?_, by rw [List.length_map]; omega, fun x H5 s5 hx => q x H5 (s3.trans s5) hx⟩
        obtain ⟨t0, h0, rfl⟩ := List.mem_map.mp ht
        exact ⟨fun z => (hne t0 h0).1 (List.map_eq_nil_iff.mp z), by rw [List.length_map]; exact (hne t0 h0).2⟩
    | raise j ts =>
      obtain ⟨a, tl, rfl, ha, hpl, htl⟩ := hst
      obtain ⟨g1, g2, g3, g4⟩ := hg
      obtain ⟨z, ez, hzv⟩ := hvs.getR (at0_get g1)
      have okj := at0_ok hok j
      have in1 := okj.inn hz
      have in2 : TermsIn sz ts := fun t ht => by
        obtain ⟨n, e1, e2⟩ := g2.1 t ht
        subst e2
        exact ⟨e1, g3 t ht, hz _ (List.mem_of_getElem? e1)⟩
      refine ⟨_, rfl, a, _, rfl, ha, true, rfl, iteF ⟨_, rfl, a, false, _, rfl, ha, _, _, rfl, rfl, _, rfl, ?_⟩⟩
      rw [show ([V.str "raise", V.int (j : Nat), V.ref tl].length : Int) = 3 from rfl, decide_eq_false (by omega)]
      refine iteF ⟨_, rfl, a, _, _, _, rfl, rfl, ha, atI_nat (j := 0) rfl, _, rfl, al, true, vs, rfl, hl, _, _, rfl, ?_⟩
      refine ⟨_, rfl, rfl, _, rfl, ?_⟩
      rw [str_ne (by decide +kernel)]
      refine iteF ⟨_, rfl, rfl, _, rfl, ?_⟩
      rw [str_ne (by decide +kernel)]
      refine iteF ⟨_, rfl, a, _, _, _, rfl, rfl, ha, atI_nat (j := 1) rfl, _, rfl, _, _, rfl, true, ?_, iteF ?_⟩
      · rw [decide_eq_true (by omega)]
      refine ⟨_, rfl, _, rfl, a, _, _, _, rfl, rfl, ha, atI_nat (j := 1) rfl, al, _, _, z, rfl, rfl, hl, atI_nat ez, ?_⟩
      refine ⟨_, rfl, rfl, _, rfl, ?_⟩
      rw [str_ne (by decide +kernel)]
      refine iteF ⟨_, rfl, rfl, _, rfl, ?_⟩
      rw [str_ne (by decide +kernel)]
      refine iteF ⟨_, rfl, rfl, _, rfl, ?_⟩
      rw [decide_eq_true rfl]
      refine iteT ⟨_, rfl, a, false, _, rfl, ha, rfl, _, rfl, ?_⟩
      rw [show ([V.str "raise", V.int (j : Nat), V.ref tl].length : Int) = 3 from rfl, decide_eq_true rfl]
      exact iteT ⟨_, rfl, _, rfl, _, rfl, a, _, _, _, rfl, rfl, ha, atI_nat (j := 2) rfl, zv, z, sz, at0 vals j, tl, ts, rfl, hsz, hzv.pur, htl, okj.1, in1, g2, in2, g4, hn, q⟩
end
end Bh
namespace Bh
open PySem PySem.Spec PyProof.Rows L2
section
variable {P : Program} {w : World} {K : PySem.W.Frag} {mg : Str → Option Value} {base : Heap}
/-- all that the law's own check of a proof needs -/
structure LIn (K : PySem.W.Frag) (H : Hp) (zv : V) (sa va : Addr) (sz : List Nat) (told : Sums) (sts : List Step) : Prop where
  pz : Pur K H zv (dSizes sz)
  pt : ToldV K H sa told
  steps : StepsV K H va sts
  good : StepsGood sz told sts
  few : sz.length ≤ 60
  zs : ∀ n ∈ sz, n ≤ 1000
  ok : ∀ s ∈ told, SumOk sz s
  short : sts.length ≤ 1000000
theorem LIn.kp {H H' : Hp} {zv : V} {sa va : Addr} {sz : List Nat} {told : Sums} {sts : List Step} (e : Kp H H') (h : LIn K H zv sa va sz told sts) : LIn K H' zv sa va sz told sts :=
  ⟨h.pz.kp e, h.pt.kp e, h.steps.kp e, h.good, h.few, h.zs, h.ok, h.short⟩
def sp_lsums (K : PySem.W.Frag) : Sp := fun vs H Q _ => ∃ (zv : V) (sz : List Nat) (sa va : Addr) (told : Sums) (sts : List Step), vs = [zv, .ref sa, .ref va] ∧ LIn K H zv sa va sz told sts ∧
  ∀ l fs H', Same H H' → H' l = some (.lst fs) → A2 (SumV K H') fs (stepVals sz.length told sts) → Q (.ref l) H'
theorem sc_law_sums_of : FnScope ["_law_lots_here", "_law_sums_so", "_law_steps_so", "_law_found", "_law_step_so", "_law_told"] ["_law_lots_here", "_law_sums_so", "_law_steps_so"] (defScope (topS 76)) := ⟨rfl, rfl, rfl, by decide +kernel, rfl, by decide +kernel, by decide +kernel⟩
theorem ok_lsums (fr : Free mg) (D : DefAt K mg "_law_sums_of" (topS 76)) (d__law_step : OkD P w K mg base 3 "_law_step" ["_law_lots_here", "_law_sums_so", "_law_ahead_here", "_law_step_so"] (sp_lstep K)) :
    OkD P w K mg base 4 "_law_sums_of" ["_law_lots_here", "_law_sums_so", "_law_steps_so"] (sp_lsums K) := by
  refine D.ok sc_law_sums_of (fun _ _ _ _ _ _ us hl => match us, hl with | [_, _, _], _ => rfl) (fun vs H Q E h => ?_) (fun f cdv A outer s H vs Q E hr h => ?_)
  · obtain ⟨zv, sz, sa, va, told, sts, rfl, _⟩ := h; rfl
  · obtain ⟨zv, sz, sa, va, told, sts, rfl, hin, q⟩ := h
    refine ⟨_, (pss_cons (ps_if (pt_not (pt_val (pe_callB (cr_isTupK (K := K)) (by rfl) fr.isinstance (by decide +kernel) (pa_cons (pv 2) (pa_cons (pe_bltn (v := .ty "tuple") (by rfl) fr.tuple (by decide +kernel) rfl) pa_nil))))) (pss_one (ps_ret pe_non)) pss_nil)
 (pss_cons (ps_set (i := 3) sc_law_sums_of.nd rfl (by first | exact .inl rfl | exact .inr rfl) (pe_lst pa_nil))
 (pss_cons (ps_for PassesOwn.never rfl (pi_seqK (K := K) (pv 2)) (pg_name (i := 4) sc_law_sums_of.nd rfl (by first | exact .inl rfl | exact .inr rfl)) (pss_cons (ps_set (i := 5) sc_law_sums_of.nd rfl (by first | exact .inl rfl | exact .inr rfl) (pe_callD d__law_step (hr.mono (by decide)) (by rfl) (pa_cons (pv 0) (pa_cons (pv 1) (pa_cons (pv 3) (pa_cons (pv 4) pa_nil))))))
 (pss_cons (ps_if (pt_cmp (pc_isN (pv 5))) (pss_one (ps_ret pe_non)) pss_nil)
 (pss_one (ps_expr (pe_bm PySem.F.plainAttrs_list PySem.F.slot_list_append PySem.F.type_list_append mt_append (pv 3) (pa_cons (pv 5) pa_nil)))))))
 (pss_one (ps_ret (pv 3)))))), ?_⟩
    obtain ⟨xs, hxs, hxa⟩ := id hin.steps
    refine ⟨_, rfl, va, _, rfl, hxs, true, rfl, iteF ?_⟩
    refine ⟨Nat.zero_le _, fun F hF => ?_⟩
    have s0 := same_new (o := .lst []) hF
    refine ⟨_, rfl, va, false, rfl, ⟨xs, (skp s0).sqT hxs⟩, ?_⟩
    refine for_it (walk_seq (k := false) (xs := xs)) (fun i σ H' => ∃ y4 y5 fs, σ = [some zv, some (.ref sa), some (.ref va), some (.ref F), y4, y5] ∧ Same H H' ∧ H' F = some (.lst fs) ∧ A2 (SumV K H') fs ((stepVals sz.length told sts).take i))
      ⟨none, none, [], rfl, s0, upd_same, A2.nil⟩ (fun i σ H' _ p => ?_) (fun i x σ H1 H2 hi p y => ?_) (fun σ H' p => ?_)
    · obtain ⟨_, _, _, _, s1, _⟩ := p
      exact (skp s1).sqT hxs
    · obtain ⟨y4, y5, fs, rfl, s1, eF, hfs⟩ := p
      obtain ⟨rfl, ex⟩ := y
      obtain ⟨st, est, hst⟩ := hxa.getL ex
      have hin2 := hin.kp (skp s1)
      have hgst := hin.good.get est
      have hoks : ∀ s ∈ (stepVals sz.length told sts).take i, SumOk sz s := fun s hs => stepVals_ok hin.zs hin.ok hin.good s (List.mem_of_mem_take hs)
      refine ⟨_, rfl, _, rfl, _, rfl, _, rfl, zv, sz, sa, F, told, _, x, st, rfl, hin2.pz, hin2.pt, ⟨fs, .inl (.inl eF), hfs⟩, hst.kp (skp s1), hgst, hin.few, hin.zs, hoks, fun x H3 s3 hx => ?_⟩
      have hxn : x ≠ .non := by
        obtain ⟨a, t, rfl, _⟩ := hx
        intro z
        cases z
      refine ⟨_, rfl, _, rfl, ?_⟩
      rw [decide_eq_false hxn]
      have hfl : fs.length ≤ 1000000 := by rw [hfs.1, List.length_take, stepVals_len]; have := hin.short; omega
      refine iteF ⟨_, rfl, .inl ⟨rfl, fs, .inl (.inl (s3 _ _ eF))⟩, _, rfl, F, fs, _, rfl, rfl, s3 _ _ eF, sz_lt' (by omega), ?_⟩
      refine ⟨_, _, _, rfl, smut (s1.trans s3) hF, upd_same, ?_⟩
      rw [take_snoc (stepVals_get est)]
      have k4 := kp_lst (ys := fs ++ [x]) (s3 _ _ eF)
      exact (hfs.mono fun x t h => h.kp ((skp s3).trans k4)).snoc (hx.kp k4)
    · obtain ⟨y4, y5, fs, rfl, s1, eF, hfs⟩ := p
      rw [List.take_of_length_le (by rw [stepVals_len, hxa.1]; exact Nat.le_refl _)] at hfs
      exact ⟨_, rfl, q F fs _ s1 eF hfs⟩
def sp_lrefutes (K : PySem.W.Frag) : Sp := fun vs H Q _ => ∃ (zv lv : V) (sz : List Nat) (sa va : Addr) (told : Sums) (sts : List Step), vs = [zv, .ref sa, lv, .ref va] ∧ LIn K H zv sa va sz told sts ∧ Tiny sz ∧ Pur K H lv (dLets sz) ∧
  ∀ H', Same H H' → Q (.bl (lastLow sz (stepVals sz.length told sts))) H'
theorem lastLow_some {sz : List Nat} {vals : Sums} {s : PSum} (h : vals[vals.length - 1]? = some s) : lastLow sz vals = decide (sumTf s (topF s (sz.map fun n => 2 ^ n - 1)) < s.2) := by
  unfold lastLow
  rw [List.getLast?_eq_getElem?, h]
theorem sc_law_refutes : FnScope ["_law_lots_here", "_law_sums_so", "_law_lets_so", "_law_steps_so", "_law_found"] ["_law_lots_here", "_law_sums_so", "_law_lets_so", "_law_steps_so"] (defScope (topS 77)) := ⟨rfl, rfl, rfl, by decide +kernel, rfl, by decide +kernel, by decide +kernel⟩
theorem ok_lrefutes (fr : Free mg) (D : DefAt K mg "_law_refutes" (topS 77)) (d__law_sums_of : OkD P w K mg base 4 "_law_sums_of" ["_law_lots_here", "_law_sums_so", "_law_steps_so"] (sp_lsums K))
    (d__law_tops : OkD P w K mg base 1 "_law_tops" ["_law_told", "_law_lets_so"] (sp_tops K)) : OkD P w K mg base 5 "_law_refutes" ["_law_lots_here", "_law_sums_so", "_law_lets_so", "_law_steps_so"] (sp_lrefutes K) := by
  refine D.ok sc_law_refutes (fun _ _ _ _ _ _ us hl => match us, hl with | [_, _, _, _], _ => rfl) (fun vs H Q E h => ?_) (fun f cdv A outer s H vs Q E hr h => ?_)
  · obtain ⟨zv, lv, sz, sa, va, told, sts, rfl, _⟩ := h; rfl
  · obtain ⟨zv, lv, sz, sa, va, told, sts, rfl, hin, hz, hlv, q⟩ := h
    refine ⟨_, (pss_cons (ps_set (i := 4) sc_law_refutes.nd rfl (by first | exact .inl rfl | exact .inr rfl) (pe_callD d__law_sums_of (hr.mono (by decide)) (by rfl) (pa_cons (pv 0) (pa_cons (pv 1) (pa_cons (pv 3) pa_nil)))))
 (pss_one (ps_ret (pe_and (pe_cmp (pc_notN (pv 4))) (pe_and (pe_cmpR (op_neL (hu0 hr)) (pv 4) (pe_lst pa_nil) (nomark _)) (pe_one (pe_cmpR op_lt (pe_callD d__law_tops (hr.mono (by decide)) (by rfl) (pa_cons (pe_ix (ix_listK (K := K)) (pv 4) (pe_un un_neg pe_int) (fun _ _ => rfl)) (pa_cons (pv 2) pa_nil))) (pe_ix (ix_tupK (K := K)) (pe_ix (ix_listK (K := K)) (pv 4) (pe_un un_neg pe_int) (fun _ _ => rfl)) pe_int (fun _ _ => rfl)) (nomark _)))))))), ?_⟩
    refine ⟨_, rfl, _, rfl, _, rfl, zv, sz, sa, va, told, sts, rfl, hin, fun l fs H1 s1 el hfs => ?_⟩
    refine ⟨_, rfl, true, rfl, iteT ?_⟩
    refine ⟨_, rfl, Nat.zero_le _, fun E hE => ?_⟩
    have sE := same_new (o := .lst []) hE
    refine ⟨l, E, fs, rfl, rfl, sE _ _ el, upd_same, _, rfl, ?_⟩
    have s1E := s1.trans sE
    cases hv : stepVals sz.length told sts with
    | nil =>
      rw [hv] at hfs q
      have e0 := List.eq_nil_of_length_eq_zero hfs.1
      subst e0
      exact iteF (q _ s1E)
    | cons v0 vr =>
      have hne : stepVals sz.length told sts ≠ [] := by rw [hv]; exact List.cons_ne_nil _ _
      have hf0 : fs.isEmpty = false := by
        cases fs with
        | nil => have := hfs.1; rw [hv] at this; cases this
        | cons x r => rfl
      rw [hf0]
      have hlen := hfs.1
      have hlast : (stepVals sz.length told sts)[fs.length - 1]? = some ((stepVals sz.length told sts).getLast hne) := by
        rw [hlen, List.getLast_eq_getElem]
        exact List.getElem?_eq_getElem _
      have hlow := lastLow_some (sz := sz) (hlen ▸ hlast)
      rw [hlow] at q
      obtain ⟨x, ex, hx⟩ := hfs.getR hlast
      have hsok := stepVals_ok hin.zs hin.ok hin.good _ (List.mem_of_getElem? hlast)
      have el2 := sE _ _ el
      refine iteT ⟨_, rfl, _, rfl, l, _, _, x, rfl, rfl, lstA el2, atI_last ex, _, rfl, x, lv, sz, _, rfl, hx.pur.kp (skp sE), hsok, hz, hlv.kp (skp s1E), fun H3 s3 => ?_⟩
      have s3E := sE.trans s3
      obtain ⟨b, t, rfl, hb, hpt, htt⟩ := hx
      exact ⟨_, rfl, _, rfl, l, _, _, _, rfl, rfl, lstA (s3 _ _ el2), atI_last ex, b, _, _, _, rfl, rfl, (skp s3E).sqT hb, atI_nat (j := 1) rfl, _, _, rfl, rfl, q _ (s1.trans s3E)⟩
end
end Bh
namespace Bh
open PySem PySem.Spec PyProof.Rows L2
def barW (n v : Nat) : List Int := (List.range n).map fun x => if x = v then (0 : Int) else 1
theorem barW_len (n v : Nat) : (barW n v).length = n := by unfold barW; rw [List.length_map, List.length_range]
theorem barW_get {n v i : Nat} (h : i < n) : (barW n v)[i]? = some (if i = v then (0 : Int) else 1) := by
  unfold barW
  rw [List.getElem?_map, List.getElem?_range h]
  rfl
theorem barW_rg {n v : Nat} : ∀ x ∈ barW n v, 0 ≤ x ∧ x ≤ 3 := fun x hx => by
  obtain ⟨y, _, rfl⟩ := List.mem_map.mp hx
  show 0 ≤ (if y = v then (0 : Int) else 1) ∧ (if y = v then (0 : Int) else 1) ≤ 3
  split <;> omega
theorem barB {n c : Nat} {v : Nat} (h : 1 ≤ n) : formB [(c, barW n v)] 1 ≤ 1000 := by
  have hm := lmin_mem (l := barW n v) (fun z => by have := congrArg List.length z; rw [barW_len] at this; have this : n = 0 := this; omega)
  have := (barW_rg _ hm).1
  unfold formB
  rw [List.map_cons, List.map_nil, List.sum_cons, List.sum_nil]
  show 1 - (lmin (barW n v) + 0) ≤ 1000
  omega
section
variable {P : Program} {w : World} {K : PySem.W.Frag} {mg : Str → Option Value} {base : Heap}
def sp_like (K : PySem.W.Frag) : Sp := fun vs H Q _ => ∃ (x y : V) (d : PyData), vs = [x, y] ∧ Dp K H x d ∧ Dp K H y d ∧ ((∃ a b, x = .ref a ∧ y = .ref b) ∨ ∃ b, x = .bl b ∧ y = .bl b) ∧ d.showable = true ∧ d.hasDict = false ∧ d.depth ≤ 40 ∧ d.shown.length ≤ 1000000 ∧ Q (.bl true) H
theorem sc_law_like : FnScope ["_law_got", "_law_due"] ["_law_got", "_law_due"] (defScope (topS 65)) := ⟨rfl, rfl, rfl, by decide +kernel, rfl, by decide +kernel, by decide +kernel⟩
theorem ok_like (fr : Free mg) (D : DefAt K mg "_law_like" (topS 65)) : OkG P w K mg base 1 "_law_like" ["_law_got", "_law_due"] (sp_like K) := by
  refine D.okG sc_law_like (fun _ _ _ _ _ _ us hl => match us, hl with | [_, _], _ => rfl) (fun vs H Q E h => ?_) (fun f cdv A outer s H vs Q E hr hgd h => ?_)
  · obtain ⟨x, y, d, rfl, _⟩ := h; rfl
  · obtain ⟨x, y, d, rfl, hx, hy, hxy, h1, h2, h3, h4, q⟩ := h
    refine ⟨_, (pss_one (ps_ret (pe_cmpR op_eq (pe_callB (cr_repr hgd (hr.units)) (by rfl) fr.repr (by decide +kernel) (pa_cons (pv 0) pa_nil)) (pe_callB (cr_repr hgd (hr.units)) (by rfl) fr.repr (by decide +kernel) (pa_cons (pv 1) pa_nil)) (nomark _)))), ?_⟩
    have hx1 : (∃ a, x = .ref a) ∨ ∃ b, x = .bl b := by
      rcases hxy with ⟨a, b, e1, e2⟩ | ⟨b, e1, e2⟩
      · exact .inl ⟨a, e1⟩
      · exact .inr ⟨b, e1⟩
    have hy1 : (∃ a, y = .ref a) ∨ ∃ b, y = .bl b := by
      rcases hxy with ⟨a, b, e1, e2⟩ | ⟨b, e1, e2⟩
      · exact .inl ⟨b, e2⟩
      · exact .inr ⟨b, e2⟩
    refine ⟨_, rfl, x, d, rfl, hx, hx1, h1, h2, h3, h4, _, rfl, y, d, rfl, hy, hy1, h1, h2, h3, h4, rfl, ?_⟩
    rw [decide_eq_true rfl]
    exact q
def sp_barred (K : PySem.W.Frag) : Sp := fun vs H Q _ => ∃ (d a b : Addr) (n : Nat) (zv : V) (sz : List Nat) (sa : Addr) (T : Sums), vs = [.ref d, zv, .ref sa] ∧ DS H d a b n ∧ n ≤ 90000 ∧ Pur K H zv (dSizes sz) ∧ Tiny sz ∧ 1 ≤ sz.length ∧ ToldV K H sa T ∧ (∀ s ∈ T, SumOk sz s) ∧ T.length ≤ 1000 ∧
  (∀ H', Same H H' → Q .non H') ∧ ∀ (p : Addr) (u : PSum) (H' : Hp), DS H' d a b (n + 1) → DFr d b H H' → ToldV K H' p (T ++ [u]) → SumOk sz u → SmallS u → Q (.ref p) H'
theorem sc_law_barred : FnScope ["_law_state", "_law_lots_here", "_law_sums_so", "_law_rows_so", "_law_spot", "_law_weights_so", "_law_worth"] ["_law_state", "_law_lots_here", "_law_sums_so"] (defScope (topS 79)) := ⟨rfl, rfl, rfl, by decide +kernel, rfl, by decide +kernel, by decide +kernel⟩
theorem ok_barred (fr : Free mg) (D : DefAt K mg "_law_barred" (topS 79)) (d__law_lets : OkD P w K mg base 1 "_law_lets" ["_law_lots_here", "_law_fixed_so"] (sp_lets K)) (d__law_keeping : OkD P w K mg base 2 "_law_keeping" ["_law_lots_here", "_law_sums_so", "_law_lets_so"] (sp_keeping K))
    (d__law_draw : OkD P w K mg base 2 "_law_draw" ["_law_state", "_law_limit"] sp_draw) (d__law_form : OkD P w K mg base 1 "_law_form" ["_law_terms_so", "_law_bound_so"] (sp_form_so K)) : OkD P w K mg base 3 "_law_barred" ["_law_state", "_law_lots_here", "_law_sums_so"] (sp_barred K) := by
  refine D.ok sc_law_barred (fun _ _ _ _ _ _ us hl => match us, hl with | [_, _, _], _ => rfl) (fun vs H Q E h => ?_) (fun f cdv A outer s H vs Q E hr h => ?_)
  · obtain ⟨d, a, b, n, zv, sz, sa, T, rfl, _⟩ := h; rfl
  · obtain ⟨d, a, b, n, zv, sz, sa, T, rfl, hD, hn, hzv, hz, hs1, hT, hok, hTl, q1, q2⟩ := h
    refine ⟨_, (pss_cons (ps_set (i := 3) sc_law_barred.nd rfl (by first | exact .inl rfl | exact .inr rfl) (pe_callD d__law_keeping (hr.mono (by decide)) (by rfl) (pa_cons (pv 1) (pa_cons (pv 2) (pa_cons (pe_callD d__law_lets (hr.mono (by decide)) (by rfl) (pa_cons (pv 1) (pa_cons (pe_tupF pa_nil) pa_nil))) pa_nil)))))
 (pss_cons (ps_if (pt_cmpR (op_eqL (hu0 hr)) (pv 3) (pe_lst pa_nil) (nomark _)) (pss_one (ps_ret pe_non)) pss_nil)
 (pss_cons (ps_set (i := 4) sc_law_barred.nd rfl (by first | exact .inl rfl | exact .inr rfl) (pe_callD d__law_draw (hr.mono (by decide)) (by rfl) (pa_cons (pv 0) (pa_cons (pe_callB (cr_lenK (K := K)) (by rfl) fr.len (by decide +kernel) (pa_cons (pv 1) pa_nil)) pa_nil))))
 (pss_cons (ps_set (i := 5) sc_law_barred.nd rfl (by first | exact .inl rfl | exact .inr rfl) (pe_callTy (cr_tupK (K := K)) (by rfl) fr.tuple (by decide +kernel) (pa_cons (pe_lc (own := [("_law_worth", 6)]) rfl sc_law_barred.nd (pi_range1 (by rfl) fr.range (pa_cons (pe_ix (ix_tupK (K := K)) (pv 1) (pv 4) (fun _ _ => rfl)) pa_nil)) (blkOk_by (by kernel_rfl)) (fun _ _ _ _ _ => (pg_name (i := 6) sc_law_barred.nd rfl (by first | exact .inl rfl | exact .inr rfl))) (fun _ _ _ _ _ => pts_nil) (fun _ _ _ _ _ => (pe_ifExp (pt_cmpR op_eq (pv 6) (pe_ix (ix_tupK (K := K)) (pe_ix (ix_listK (K := K)) (pv 3) pe_int (fun _ _ => rfl)) (pv 4) (fun _ _ => rfl)) (nomark _)) pe_int pe_int))) pa_nil)))
 (pss_one (ps_ret (pe_op (op_catG (K := K)) (pv 2) (pe_tupF (pa_cons (pe_callD d__law_form (hr.mono (by decide)) (by rfl) (pa_cons (pe_lst (pa_cons (pe_tupF (pa_cons (pv 4) (pa_cons (pv 5) pa_nil))) pa_nil)) (pa_cons pe_int pa_nil))) pa_nil))))))))), ?_⟩
    obtain ⟨xs, hxs, hxT⟩ := id hT
    have hn4 := hz.1
    refine ⟨_, rfl, _, rfl, _, rfl, Nat.zero_le _, fun p0 o0 hp0 ho0 => ?_⟩
    obtain ⟨u1, u2, u3⟩ := frz_new (K := K) (xs := []) hp0 ho0
    refine ⟨zv, p0, sz, rfl, hzv.kp (skp u1), hz, u2, fun lv H2 s2 hlv => ?_⟩
    have s02 := u1.trans s2
    refine ⟨zv, lv, sa, sz, xs, T, rfl, hzv.kp (skp s02), hz, (skp s02).sqT hxs, hxT.mono fun v s h => h.pur.kp (skp s02), hok, hTl, hlv, fun R ys H3 s3 eR hY => ?_⟩
    have s03 := s02.trans s3
    refine ⟨_, rfl, Nat.zero_le _, fun E hE => ?_⟩
    have sE := same_new (o := .lst []) hE
    have s04 := s03.trans sE
    have eR4 := sE _ _ eR
    have hY4 := hY.mono fun v r h => h.kp (skp sE)
    refine ⟨R, E, ys, rfl, rfl, eR4, upd_same, _, rfl, ?_⟩
    revert s04 eR4 hY4
    generalize (upd H3 E (.lst [])) = H4
    intro s04 eR4 hY4
    cases ys with
    | nil => exact iteT (q1 _ s04)
    | cons y0 yr =>
      have hyl := hY4.1
      obtain ⟨r, er, hr0⟩ := hY4.getL (i := 0) (x := y0) rfl
      have hval := (mem_rows sz r).mp (List.mem_filter.mp (List.mem_of_getElem? er)).1
      have hD4 := hD.same s04
      obtain ⟨za, rfl, hza⟩ := pSizes (hzv.kp (skp s04))
      refine iteF ⟨_, rfl, _, rfl, za, false, _, rfl, hza, d, a, b, n, (szV sz).length, rfl, hD4, by omega, by rw [szV_len]; exact hs1, by rw [szV_len]; omega, fun c H5 hc hD5 f5 => ?_⟩
      rw [szV_len] at hc
      have k5 := hD4.kpf f5
      have hza5 := k5.sqT hza
      have hz4 := hz.le c
      have hz1 := hz.pos hc
      have hRd : R ≠ d := by rintro rfl; rw [hD4.hd] at eR4; cases eR4
      have hoffR : R ≠ b := by
        rintro rfl
        obtain ⟨cs, ls, e1, e2, e3⟩ := hD4.hl
        rw [e2] at eR4
        have := Option.some.inj eR4
        injection this with this
        obtain ⟨ra, rfl, _⟩ := pRow hr0
        cases ls with
        | nil => cases this
        | cons l0 lr => rw [List.map_cons] at this; injection this with h1 h2; cases h1
      have eR5 := f5 _ _ hRd hoffR eR4
      obtain ⟨ra, rfl, hra⟩ := pRow (hr0.kp k5)
      have hrl : c < r.length := by rw [hval.1]; exact hc
      have erc : r[c]? = some (rv r c) := by unfold rv; rw [List.getD_eq_getElem?_getD, List.getElem?_eq_getElem hrl]; rfl
      refine ⟨_, rfl, _, rfl, za, _, _, _, rfl, rfl, hza5, atI_nat (szV_get (szOf_get hc)), _, rfl, by omega, by omega, fun F hF => ?_⟩
      refine lc_gen (walk_range (lo := 0)) (by rw [Int.toNat_natCast]; omega) hF (fun _ _ => trivial) (fun i acc _ => acc = ((barW (szOf sz c) (rv r c)).take i).map V.int) (fun _ _ _ _ _ p => p) (fun _ => rfl) (fun i x H6 H7 acc C N hi s6 p y cC cN => ?_) (fun acc H6 s6 e l p => ?_)
      · obtain ⟨rfl, rfl⟩ := y
        rw [Int.toNat_natCast] at hi
        refine ⟨rfl, yesT ⟨_, rfl, _, rfl, R, _, _, _, rfl, rfl, lstA (s6 _ _ eR5), atI_nat (j := 0) rfl, _, rfl, ra, _, _, _, rfl, rfl, (skp s6).sqT hra, atI_nat (natsV_get erc), rfl, _, rfl, ?_⟩⟩
        have et := barW_get (v := rv r c) hi
        by_cases hb : i = rv r c
        · rw [decide_eq_true (show V.int (0 + ((i : Nat) : Int)) = V.int ((rv r c : Nat) : Int) by rw [Int.zero_add, hb])]
          rw [if_pos hb] at et
          refine iteT (cC _ _ (Same.refl _) ?_)
          rw [take_snoc et, List.map_append, p]
          rfl
        · rw [decide_eq_false (show ¬ (V.int (0 + ((i : Nat) : Int)) = V.int ((rv r c : Nat) : Int)) from fun z => hb (by have := V.int.inj z; omega))]
          rw [if_neg hb] at et
          refine iteF (cC _ _ (Same.refl _) ?_)
          rw [take_snoc et, List.map_append, p]
          rfl
      · rw [Int.toNat_natCast, List.take_of_length_le (by rw [barW_len]; exact Nat.le_refl _)] at p
        subst p
        refine ⟨F, true, _, rfl, lstA e, fun _ wt ow hwt how => ?_, fun z => nomatch z⟩
        obtain ⟨v1, v2, v3⟩ := frz_new (K := K) (xs := (barW (szOf sz c) (rv r c)).map V.int) hwt how
        have s7 := s6.trans v1
        revert v2 s7
        generalize (upd H6 wt (.frz ow (.tup ((barW (szOf sz c) (rv r c)).map V.int)))) = H7
        intro v2 s7
        refine ⟨_, rfl, _, rfl, _, rfl, by rw [sizeLine_eq]; show 2 ≤ _; omega, fun p1 o1 hp1 ho1 => ?_⟩
        obtain ⟨w1, w2, w3⟩ := frz_new (K := K) (xs := [V.int (c : Nat), V.ref wt]) hp1 ho1
        refine ⟨by rw [sizeLine_eq]; show 1 ≤ _; omega, fun L hL => ?_⟩
        have m1 := same_new (o := .lst [V.ref p1]) hL
        have s8 := w1.trans m1
        have hin1 : TermsOk sz [(c, barW (szOf sz c) (rv r c))] := ⟨fun t ht => by
          rw [List.mem_singleton] at ht
          subst ht
          exact ⟨_, szOf_get hc, barW_len _ _⟩, List.pairwise_singleton _ _⟩
        have hdr : Drawn [(c, barW (szOf sz c) (rv r c))] := fun t ht => by
          rw [List.mem_singleton] at ht
          subst ht
          exact ⟨fun z => by have := congrArg List.length z; rw [barW_len] at this; have this : szOf sz c = 0 := this; omega, barW_rg⟩
        refine ⟨L, true, [.ref p1], [(c, barW (szOf sz c) (rv r c))], 1, rfl, .inl (.inl upd_same), ⟨rfl, fun i x t e1 e2 => ?_⟩, fun t ht => ⟨(hdr t ht).1, ?_⟩, by show 1 ≤ _; omega, fun x H9 s9 hx => ?_⟩
        · match i, e1, e2 with
          | 0, e1, e2 =>
            cases e1
            cases e2
            exact ⟨p1, wt, false, rfl, (skp m1).sqT w2, (skp s8).sqT v2⟩
        · rw [List.mem_singleton] at ht
          subst ht
          show (barW (szOf sz c) (rv r c)).length ≤ 1000
          rw [barW_len]
          omega
        · refine ⟨by rw [sizeLine_eq]; show 1 ≤ _; omega, fun p2 o2 hp2 ho2 => ?_⟩
          obtain ⟨z1, z2, z3⟩ := frz_new (K := K) (xs := [x]) hp2 ho2
          have s5z := ((s7.trans s8).trans s9).trans z1
          have kxs := ((skp s04).trans k5).trans (skp s5z)
          have hxl := hxT.1
          refine ⟨sa, p2, xs, [x], rfl, rfl, kxs.sqT hxs, z2, by show xs.length + 1 ≤ _; omega, fun p H' s' hp => ?_⟩
          refine q2 p _ H' (hD5.same (s5z.trans s')) (((DFr.of s04).trans f5).trans (DFr.of (s5z.trans s'))) ⟨xs ++ [x], hp, (hxT.mono fun v s h => h.kp (kxs.trans (skp s'))).snoc (hx.kp (skp (z1.trans s')))⟩ (form_ok hin1 fun t ht => (hdr t ht).1) (small_form hdr (barB (by omega)))
end
end Bh
namespace Bh
open PySem PySem.Spec PyProof.Rows L2
def okD (d : PyData) : Bool := d.showable && !d.hasDict && decide (d.depth ≤ 40) && decide (d.shown.length ≤ 1000000)
theorem okD_all {d : PyData} (h : okD d = true) : d.showable = true ∧ d.hasDict = false ∧ d.depth ≤ 40 ∧ d.shown.length ≤ 1000000 := by
  unfold okD at h
  rw [Bool.and_eq_true, Bool.and_eq_true, Bool.and_eq_true] at h
  exact ⟨h.1.1.1, by simpa using h.1.1.2, of_decide_eq_true h.1.2, of_decide_eq_true h.2⟩
def dRowA (r : List Nat) : PyData := .tuple [.str "row", dRow r]
theorem rows_okD : ∀ k < 5, ∀ r ∈ rowsOf (List.replicate k 4), okD (dRowA r) = true := by decide +kernel
theorem row_okD {sz r : List Nat} (hz : Tiny sz) (h : Valid sz r) : okD (dRowA r) = true := by
  refine rows_okD sz.length (by have := hz.1; omega) r ((mem_rows _ r).mpr ⟨by rw [List.length_replicate]; exact h.1, fun c hc => ?_⟩)
  rw [List.length_replicate] at hc
  have h1 := h.2 c hc
  have h2 := hz.le c
  unfold szOf
  rw [List.getD_eq_getElem?_getD, List.getElem?_replicate, if_pos hc]
  show rv r c < 4
  omega
theorem bl_okD (b : Bool) : okD (.bool b) = true := by cases b <;> decide +kernel
theorem keepB_iff {T : Sums} {r : List Nat} : keepB T r = true ↔ ∀ u ∈ T, Keeps u r := by
  unfold keepB Keeps
  rw [List.all_eq_true]
  exact ⟨fun h u hu => of_decide_eq_true (h u hu), fun h u hu => decide_eq_true (h u hu)⟩
theorem keeping_nil {sz : List Nat} {T : Sums} (h : ∀ r, ¬ Sol sz T r) : (rowsOf sz).filter (keepB T) = [] := by
  rw [List.filter_eq_nil_iff]
  intro r hr hk
  exact h r ⟨(mem_rows sz r).mp hr, keepB_iff.mp hk⟩
theorem A2.take {α β : Type} {R : α → β → Prop} {xs : List α} {ts : List β} (h : A2 R xs ts) (k : Nat) : A2 R (xs.take k) (ts.take k) := by
  refine ⟨by rw [List.length_take, List.length_take, h.1], fun i x t a b => ?_⟩
  rw [List.getElem?_take] at a b
  by_cases hi : i < k
  · rw [if_pos hi] at a b
    exact h.2 i x t a b
  · rw [if_neg hi] at a
    cases a
theorem cut_take {xs : List V} {c : Nat} : cutV xs none (some (c : Int)) = xs.take c := by
  unfold cutV
  rw [HT.sIx_none, HT.sIx_nat, List.drop_zero, Nat.sub_zero]
  by_cases h : c ≤ xs.length
  · rw [Nat.min_eq_left h]
  · rw [Nat.min_eq_right (by omega), List.take_length, List.take_of_length_le (by omega)]
theorem tAndV_join {ta tb : TE} {σ : L2.St} {H : Hp} {Q : VK} (R : V → Hp → Prop) (hR : ∀ x H', R x H' → Q x H') (h : (∀ x H', R x H' → Q x H') → tAndV ta tb σ H Q) : tAndV ta tb σ H Q := h hR
theorem lastLow_ref {sz : List Nat} {T : Sums} {sts : List Step} (h : RefOk sz T sts) : lastLow sz (stepVals sz.length T sts) = true := by
  obtain ⟨_, h0, h1, h2⟩ := h
  have hl : sts.length - 1 < (stepVals sz.length T sts).length := by
    rw [stepVals_len]
    have := List.length_pos_iff.mpr h0
    omega
  have e := at0_get hl
  rw [← stepVals_len sz.length T sts] at e
  rw [lastLow_some e, stepVals_len]
  refine decide_eq_true ?_
  unfold sumTf
  rw [h1, List.map_nil, List.sum_nil]
  omega
theorem DS.offL {H : Hp} {d a b F : Addr} {n : Nat} {x : V} {xs : List V} (h : DS H d a b n) (e : H F = some (.lst (x :: xs))) (hx : ∀ i, x ≠ .int i) : F ≠ d ∧ F ≠ b := by
  refine ⟨(fun z => by subst z; rw [h.hd] at e; cases e), fun z => ?_⟩
  subst z
  obtain ⟨cs, ls, e1, e2, e3⟩ := h.hl
  rw [e2] at e
  have e := Option.some.inj e
  injection e with e
  cases ls with
  | nil => cases e
  | cons l0 lr =>
    rw [List.map_cons] at e
    injection e with h1 h2
    exact hx _ h1.symm
section
variable {P : Program} {w : World} {K : PySem.W.Frag} {mg : Str → Option Value} {base : Heap}
def sp_answer (K : PySem.W.Frag) : Sp := fun vs H Q _ => ∃ (d a b : Addr) (n : Nat) (zv : V) (sz : List Nat) (sa : Addr) (T : Sums), vs = [.ref d, zv, .ref sa] ∧ DS H d a b n ∧ n ≤ 90000 ∧ Pur K H zv (dSizes sz) ∧ Tiny sz ∧ ToldV K H sa T ∧ (∀ s ∈ T, SumOk sz s) ∧ Small T ∧ T.length ≤ 7 ∧
  ∀ (m : Nat) (H' : Hp), m ≤ n + 3 → DS H' d a b m → DFr d b H H' → Q (.bl true) H'
theorem sc_law_answer_right : FnScope ["_law_state", "_law_lots_here", "_law_sums_so", "_law_rows_so", "_law_got", "_law_lets_so", "_law_found", "_law_turn", "_law_many_so", "_law_due"] ["_law_state", "_law_lots_here", "_law_sums_so"] (defScope (topS 78)) := ⟨rfl, rfl, rfl, by decide +kernel, rfl, by decide +kernel, by decide +kernel⟩
theorem ok_answer (fr : Free mg) (D : DefAt K mg "_law_answer_right" (topS 78)) (d__law_lets : OkD P w K mg base 1 "_law_lets" ["_law_lots_here", "_law_fixed_so"] (sp_lets K)) (d__law_keeping : OkD P w K mg base 2 "_law_keeping" ["_law_lots_here", "_law_sums_so", "_law_lets_so"] (sp_keeping K))
    (d_search : OkD P w K mg base 8 "search" ["sizes", "sums"] (sp_search K)) (d__law_like : OkG P w K mg base 1 "_law_like" ["_law_got", "_law_due"] (sp_like K)) (d__law_refutes : OkD P w K mg base 5 "_law_refutes" ["_law_lots_here", "_law_sums_so", "_law_lets_so", "_law_steps_so"] (sp_lrefutes K))
    (d_is_refuted : OkD P w K mg base 8 "is_refuted" ["sizes", "sums", "fixed", "value"] (sp_is_refuted K)) (d__law_sums_of : OkD P w K mg base 4 "_law_sums_of" ["_law_lots_here", "_law_sums_so", "_law_steps_so"] (sp_lsums K))
    (d__law_draw : OkD P w K mg base 2 "_law_draw" ["_law_state", "_law_limit"] sp_draw) (d__law_tops : OkD P w K mg base 1 "_law_tops" ["_law_told", "_law_lets_so"] (sp_tops K)) : OkG P w K mg base 9 "_law_answer_right" ["_law_state", "_law_lots_here", "_law_sums_so"] (sp_answer K) := by
  refine D.okG sc_law_answer_right (fun _ _ _ _ _ _ us hl => match us, hl with | [_, _, _], _ => rfl) (fun vs H Q E h => ?_) (fun f cdv A outer s H vs Q E hr hgd h => ?_)
  · obtain ⟨d, a, b, n, zv, sz, sa, T, rfl, _⟩ := h; rfl
  · obtain ⟨d, a, b, n, zv, sz, sa, T, rfl, hD, hn, hzv, hz, hT, hok, hsm, hTl, q⟩ := h
    refine ⟨_, (pss_cons (ps_par (i := 3) (j := 4) (by rfl) sc_law_answer_right.nd rfl rfl (by decide) rfl rfl (pa_cons (pe_callD d__law_keeping (hr.mono (by decide)) (by rfl) (pa_cons (pv 1) (pa_cons (pv 2) (pa_cons (pe_callD d__law_lets (hr.mono (by decide)) (by rfl) (pa_cons (pv 1) (pa_cons (pe_tupF pa_nil) pa_nil))) pa_nil)))) (pa_cons (pe_callD d_search (hr.mono (by decide)) (by rfl) (pa_cons (pv 1) (pa_cons (pv 2) pa_nil))) pa_nil)) (by rfl))
 (pss_cons (ps_if (pt_cmpR (op_neL (hu0 hr)) (pv 3) (pe_lst pa_nil) (nomark _)) (pss_one (ps_ret (pe_callDG d__law_like (hr.mono (by decide)) hgd (by rfl) (pa_cons (pv 4) (pa_cons (pe_tupF (pa_cons pe_str (pa_cons (pe_ix (ix_listK (K := K)) (pv 3) pe_int (fun _ _ => rfl)) pa_nil))) pa_nil))))) pss_nil)
 (pss_cons (ps_if (PW.pt (pw_or (pt_not (pt_val (pe_callB (cr_isTupK (K := K)) (by rfl) fr.isinstance (by decide +kernel) (pa_cons (pv 4) (pa_cons (pe_bltn (v := .ty "tuple") (by rfl) fr.tuple (by decide +kernel) rfl) pa_nil))))) (pw_or (pt_cmpR op_ne (pe_callB (cr_lenK (K := K)) (by rfl) fr.len (by decide +kernel) (pa_cons (pv 4) pa_nil)) pe_int (nomark _)) (pw_or1 (pt_cmpR op_ne (pe_ix (ix_tupK (K := K)) (pv 4) pe_int (fun _ _ => rfl)) pe_str (nomark _)))))) (pss_one (ps_ret pe_bl)) pss_nil)
 (pss_cons (ps_set (i := 5) sc_law_answer_right.nd rfl (by first | exact .inl rfl | exact .inr rfl) (pe_callD d__law_lets (hr.mono (by decide)) (by rfl) (pa_cons (pv 1) (pa_cons (pe_tupF pa_nil) pa_nil))))
 (pss_cons (ps_if (PW.pt (pw_or (pt_not (pt_val (pe_callD d__law_refutes (hr.mono (by decide)) (by rfl) (pa_cons (pv 1) (pa_cons (pv 2) (pa_cons (pv 5) (pa_cons (pe_ix (ix_tupK (K := K)) (pv 4) pe_int (fun _ _ => rfl)) pa_nil))))))) (pw_or1 (pt_cmpR op_isnot_bl (pe_callD d_is_refuted (hr.mono (by decide)) (by rfl) (pa_cons (pv 1) (pa_cons (pv 2) (pa_cons (pe_tupF pa_nil) (pa_cons (pe_ix (ix_tupK (K := K)) (pv 4) pe_int (fun _ _ => rfl)) pa_nil))))) pe_bl (nomark _))))) (pss_one (ps_ret pe_bl)) pss_nil)
 (pss_cons (ps_set (i := 6) sc_law_answer_right.nd rfl (by first | exact .inl rfl | exact .inr rfl) (pe_callD d__law_sums_of (hr.mono (by decide)) (by rfl) (pa_cons (pv 1) (pa_cons (pv 2) (pa_cons (pe_ix (ix_tupK (K := K)) (pv 4) pe_int (fun _ _ => rfl)) pa_nil)))))
 (pss_cons (ps_for PassesOwn.never rfl (pi_range1 (by rfl) fr.range (pa_cons pe_int pa_nil)) (pg_name (i := 7) sc_law_answer_right.nd rfl (by first | exact .inl rfl | exact .inr rfl)) (pss_cons (ps_set (i := 8) sc_law_answer_right.nd rfl (by first | exact .inl rfl | exact .inr rfl) (pe_callD d__law_draw (hr.mono (by decide)) (by rfl) (pa_cons (pv 0) (pa_cons (pe_callB (cr_lenK (K := K)) (by rfl) fr.len (by decide +kernel) (pa_cons (pv 6) pa_nil)) pa_nil))))
 (pss_cons (ps_set (i := 9) sc_law_answer_right.nd rfl (by first | exact .inl rfl | exact .inr rfl) (pe_and (pe_cmpR op_gt (pv 8) pe_int (nomark _)) (pe_one (pe_cmpR op_lt (pe_callD d__law_tops (hr.mono (by decide)) (by rfl) (pa_cons (pe_ix (ix_listK (K := K)) (pv 6) (pe_op op_sub (pv 8) pe_int) (fun _ _ => rfl)) (pa_cons (pv 5) pa_nil))) (pe_ix (ix_tupK (K := K)) (pe_ix (ix_listK (K := K)) (pv 6) (pe_op op_sub (pv 8) pe_int) (fun _ _ => rfl)) pe_int (fun _ _ => rfl)) (nomark _)))))
 (pss_one (ps_if (pt_not (pt_val (pe_callDG d__law_like (hr.mono (by decide)) hgd (by rfl) (pa_cons (pe_callD d_is_refuted (hr.mono (by decide)) (by rfl) (pa_cons (pv 1) (pa_cons (pv 2) (pa_cons (pe_tupF pa_nil) (pa_cons (pe_slice (sl_G (K := K)) (pe_ix (ix_tupK (K := K)) (pv 4) pe_int (fun _ _ => rfl)) po_none (po_some (pv 8))) pa_nil))))) (pa_cons (pv 9) pa_nil))))) (pss_one (ps_ret pe_bl)) pss_nil)))))
 (pss_one (ps_ret pe_bl))))))))), ?_⟩
    obtain ⟨xs, hxs, hxT⟩ := id hT
    have hn4 := hz.1
    have hz1 : ∀ n ∈ sz, n ≤ 1000 := fun n hn => by have := (hz.2 n hn).2; omega
    refine ⟨_, rfl, _, rfl, _, rfl, Nat.zero_le _, fun p0 o0 hp0 ho0 => ?_⟩
    obtain ⟨u1, u2, u3⟩ := frz_new (K := K) (xs := []) hp0 ho0
    refine ⟨zv, p0, sz, rfl, hzv.kp (skp u1), hz, u2, fun lv H2 s2 hlv => ?_⟩
    have s02 := u1.trans s2
    refine ⟨zv, lv, sa, sz, xs, T, rfl, hzv.kp (skp s02), hz, (skp s02).sqT hxs, hxT.mono fun v s h => h.pur.kp (skp s02), hok, by omega, hlv, fun R ys H3 s3 eR hY => ?_⟩
    have s03 := s02.trans s3
    refine ⟨_, rfl, _, rfl, zv, sz, sa, xs, T, rfl, hzv.kp (skp s03), hz, (skp s03).sqT hxs, hxT.mono fun v s h => h.pur.kp (skp s03), hok, hsm, hTl, fun gv H4 s4 ho => ?_⟩
    have s04 := s03.trans s4
    refine ⟨_, _, rfl, ?_⟩
    refine ⟨_, rfl, Nat.zero_le _, fun E hE => ?_⟩
    have sE := same_new (o := .lst []) hE
    have s05 := s04.trans sE
    have eR5 := sE _ _ (s4 _ _ eR)
    have hY5 := hY.mono fun v r h => h.kp (skp (s4.trans sE))
    refine ⟨R, E, ys, rfl, rfl, eR5, upd_same, _, rfl, ?_⟩
    have ho5 : Outcome K (upd H4 E (.lst [])) gv sz T := by
      rcases ho with ⟨r, h1, h2⟩ | ⟨sts, h1, h2, h3, h4⟩
      · exact .inl ⟨r, h1, Pur.kp (skp sE) h2⟩
      · exact .inr ⟨sts, h1, h2, h3, h4.kp (skp sE)⟩
    revert s05 eR5 hY5 ho5
    generalize (upd H4 E (.lst [])) = H5
    intro s05 eR5 hY5 ho5
    have hD5 := hD.same s05
    rcases ho5 with ⟨r, ⟨hsol, hleast⟩, hrow⟩ | ⟨sts, hrf, hno, hsl, gp, tp, rfl, hgp, hst⟩
    · obtain ⟨l, hl⟩ := first_row hsol.1 (keepB_iff.mpr hsol.2) (fun q hq hk => hleast q ⟨hq, keepB_iff.mp hk⟩)
      rw [hl] at hY5
      cases ys with
      | nil => cases hY5.1
      | cons y0 yr =>
        have hr0 := hY5.2 0 y0 r rfl rfl
        obtain ⟨g1, g2, g3, g4⟩ := okD_all (row_okD hz hsol.1)
        obtain ⟨ga, gx, rfl, hg1, hg2⟩ := Pur.inv hrow
        refine iteT ⟨_, rfl, _, rfl, R, _, _, _, rfl, rfl, lstA eR5, atI_nat (j := 0) rfl, by rw [sizeLine_eq]; show 2 ≤ _; omega, fun p o hp ho => ?_⟩
        obtain ⟨w1, w2, w3⟩ := frz_new (K := K) (xs := [V.str "row", y0]) hp ho
        exact ⟨_, .ref p, dRowA r, rfl, (Pur.kp (skp w1) hrow).dp, (Pur.tup w2 (.cons (.str _) (.cons (hr0.kp (skp w1)) .nil))).dp, .inl ⟨_, _, rfl, rfl⟩, g1, g2, g3, g4, q n _ (by omega) (hD5.same w1) (DFr.of (s05.trans w1))⟩
    · rw [keeping_nil hno] at hY5
      have e0 := List.eq_nil_of_length_eq_zero hY5.1
      subst e0
      refine iteF ?_
      refine ⟨_, rfl, gp, _, rfl, hgp, true, rfl, iteF ⟨_, rfl, gp, false, _, rfl, hgp, rfl, _, rfl, ?_⟩⟩
      rw [show ([V.str "proof", V.ref tp].length : Int) = 2 from rfl, decide_eq_true rfl]
      refine iteF ⟨_, rfl, gp, _, _, _, rfl, rfl, hgp, atI_nat (j := 0) rfl, rfl, _, rfl, ?_⟩
      rw [decide_eq_true rfl]
      refine iteF ?_
      have hgood := hrf.1
      have hlow := lastLow_ref hrf
      refine ⟨_, rfl, Nat.zero_le _, fun p1 o1 hp1 ho1 => ?_⟩
      obtain ⟨v1, v2, v3⟩ := frz_new (K := K) (xs := []) hp1 ho1
      refine ⟨zv, p1, sz, rfl, hzv.kp (skp (s05.trans v1)), hz, v2, fun lv2 H6 s6 hlv2 => ?_⟩
      have s56 := v1.trans s6
      have k56 := skp s56
      have k06 := skp (s05.trans s56)
      have hin : LIn K H6 zv sa tp sz T sts := ⟨hzv.kp k06, hT.kp k06, hst.kp k56, hgood, by omega, hz1, hok, by omega⟩
      refine ⟨_, rfl, _, rfl, _, rfl, _, rfl, gp, _, _, _, rfl, rfl, k56.sqT hgp, atI_nat (j := 1) rfl, zv, lv2, sz, sa, tp, T, sts, rfl, hin, hz, hlv2, fun H7 s7 => ⟨_, rfl, ?_⟩⟩
      rw [hlow]
      refine iteF ?_
      have k57 := k56.trans (skp s7)
      have hin7 := hin.kp (skp s7)
      refine ⟨_, rfl, _, rfl, Nat.zero_le _, fun p2 o2 hp2 ho2 => ?_⟩
      obtain ⟨w1, w2, w3⟩ := frz_new (K := K) (xs := []) hp2 ho2
      have hin8 := hin7.kp (skp w1)
      refine ⟨_, rfl, gp, _, _, _, rfl, rfl, (k57.trans (skp w1)).sqT hgp, atI_nat (j := 1) rfl, zv, sz, sa, p2, tp, T, sts, rfl, hin8.pz, hz, hin8.pt, hok, by omega, w2, hin8.steps, hgood, by omega, fun H9 s9 => ⟨_, _, rfl, rfl, _, rfl, ?_⟩⟩
      rw [hlow]
      refine iteF ?_
      have s59 := ((s56.trans s7).trans w1).trans s9
      have hin9 := hin8.kp (skp s9)
      refine ⟨_, rfl, _, rfl, _, rfl, gp, _, _, _, rfl, rfl, (skp s59).sqT hgp, atI_nat (j := 1) rfl, zv, sz, sa, tp, T, sts, rfl, hin9, fun F fs Ha sa' eF hfs => ?_⟩
      have s5a := s59.trans sa'
      have hina := hin9.kp (skp sa')
      have hlva := hlv2.kp (skp (((s7.trans w1).trans s9).trans sa'))
      have hgpa := (skp s5a).sqT hgp
      have hDa := hD5.same s5a
      have f0a := DFr.of (d := d) (b := b) (s05.trans s5a)
      have hfl : fs.length = sts.length := by rw [hfs.1, stepVals_len]
      have hsp : 1 ≤ sts.length := List.length_pos_iff.mpr hrf.2.1
      have hoffF : F ≠ d ∧ F ≠ b := by
        cases fs with
        | nil => rw [← hfl] at hsp; exact absurd hsp (by decide)
        | cons x r =>
          obtain ⟨sv, _, hsv⟩ := hfs.getL (i := 0) (x := x) rfl
          obtain ⟨b1, t1, rfl, _⟩ := hsv
          exact hDa.offL eF fun i z => by cases z
      refine ⟨3, rfl, by decide, by decide, ?_⟩
      refine for_it (walk_range (lo := 0)) (fun i σ H' => ∃ m y7 y8 y9, σ = [some (.ref d), some zv, some (.ref sa), some (.ref R), some (.ref gp), some lv2, some (.ref F), y7, y8, y9] ∧ DS H' d a b m ∧ m ≤ n + i ∧ DFr d b Ha H')
        ⟨n, none, none, none, rfl, hDa, by omega, DFr.refl _ _ _⟩ (fun _ _ _ _ _ => trivial) (fun i x σ H1 H1' hi p y => ?_) (fun σ H' p => ?_)
      · obtain ⟨m, y7, y8, y9, rfl, hDm, hm, fm⟩ := p
        obtain ⟨rfl, rfl⟩ := y
        have hi3 : i < 3 := hi
        have eF1 := fm _ _ hoffF.1 hoffF.2 eF
        refine ⟨_, rfl, _, rfl, F, true, _, rfl, lstA eF1, d, a, b, m, fs.length, rfl, hDm, by omega, by omega, by omega, fun c Hb hc hDb fb => ?_⟩
        have fab := fm.trans fb
        have kab := hDa.kpf fab
        have eFb := fab _ _ hoffF.1 hoffF.2 eF
        have hfsb := hfs.mono fun x t h => h.kp kab
        have hinb := hina.kp kab
        have hlvb := hlva.kp kab
        have hgpb := kab.sqT hgpa
        unfold gName
        dsimp only
        refine tAndV_join (fun x H' => x = .bl (lastLow sz ((stepVals sz.length T sts).take c)) ∧ Same Hb H') (fun x Hc hx => ?_) (fun nx => ?_)
        · obtain ⟨rfl, sc⟩ := hx
          have hinc := hinb.kp (skp sc)
          have hgpc := (skp sc).sqT hgpb
          refine ⟨_, rfl, _, rfl, Nat.zero_le _, fun p4 o4 hp4 ho4 => ?_⟩
          obtain ⟨t1, t2, t3⟩ := frz_new (K := K) (xs := []) hp4 ho4
          have hind := hinc.kp (skp t1)
          obtain ⟨vs, hvs, hva⟩ := hind.steps
          refine ⟨_, rfl, gp, _, _, _, rfl, rfl, (skp t1).sqT hgpc, atI_nat (j := 1) rfl, _, rfl, _, rfl, tp, vs, rfl, hvs, fun p5 He se hp5 => ?_⟩
          rw [cut_take] at hp5
          have hine := hind.kp (skp se)
          refine ⟨zv, sz, sa, p4, p5, T, sts.take c, rfl, hine.pz, hz, hine.pt, hok, by omega, (skp se).sqT t2, ⟨vs.take c, hp5, (hva.mono fun x t h => h.kp (skp se)).take c⟩, hgood.take c, by rw [List.length_take]; omega, fun Hf sf => ?_⟩
          rw [stepVals_take]
          obtain ⟨g1, g2, g3, g4⟩ := okD_all (bl_okD (lastLow sz ((stepVals sz.length T sts).take c)))
          have scf := ((sc.trans t1).trans se).trans sf
          refine ⟨_, rfl, _, _, .bool _, rfl, .bl _, .bl _, .inr ⟨_, rfl, rfl⟩, g1, g2, g3, g4, true, rfl, iteF ?_⟩
          exact ⟨m + 1, _, _, _, rfl, hDb.same scf, by omega, fab.trans (DFr.of scf)⟩
        · refine ⟨_, rfl, _, _, rfl, rfl, _, rfl, ?_⟩
          by_cases hc0 : 0 < c
          · rw [decide_eq_true (show (0 : Int) < ((c : Nat) : Int) by omega)]
            have hcl : c - 1 < (stepVals sz.length T sts).length := by rw [stepVals_len]; omega
            have ev : (stepVals sz.length T sts)[c - 1]? = some (at0 (stepVals sz.length T sts) (c - 1)) := at0_get hcl
            obtain ⟨x, ex, hx⟩ := hfsb.getR ev
            have hsok := stepVals_ok hz1 hok hgood _ (List.mem_of_getElem? ev)
            have eix : atI fs (((c : Nat) : Int) - 1) = some x := by
              rw [show ((c : Nat) : Int) - 1 = ((c - 1 : Nat) : Int) by omega]
              exact atI_nat ex
            refine iteT ⟨_, rfl, _, rfl, _, _, rfl, rfl, F, _, _, x, rfl, rfl, lstA eFb, eix, _, rfl, x, lv2, sz, _, rfl, hx.pur, hsok, hz, hlvb, fun Hc sc => ?_⟩
            obtain ⟨b1, t1, rfl, hb1, _, _⟩ := hx
            refine ⟨_, rfl, _, rfl, _, _, rfl, rfl, F, _, _, _, rfl, rfl, lstA (sc _ _ eFb), eix, b1, _, _, _, rfl, rfl, (skp sc).sqT hb1, atI_nat (j := 1) rfl, _, _, rfl, rfl, nx _ _ ⟨?_, sc⟩⟩
            have el : ((stepVals sz.length T sts).take c)[((stepVals sz.length T sts).take c).length - 1]? = some (at0 (stepVals sz.length T sts) (c - 1)) := by
              rw [List.length_take, Nat.min_eq_left (by omega), List.getElem?_take, if_pos (by omega)]
              exact ev
            rw [lastLow_some el]
          · have hc0 : c = 0 := by omega
            subst hc0
            rw [decide_eq_false (show ¬ ((0 : Int) < ((0 : Nat) : Int)) by omega)]
            exact iteF (nx _ _ ⟨rfl, Same.refl _⟩)
      · obtain ⟨m, y7, y8, y9, rfl, hDm, hm, fm⟩ := p
        exact q m _ hm hDm (f0a.trans fm)
end
end Bh
namespace Bh
open PySem PySem.Spec PyProof.Rows L2
/-! ### readings that make data -/
def Mk (K : PySem.W.Frag) (te : TE) (d : PyData) : Prop := ∀ (σ : L2.St) (H : Hp) (Q : VK), (∀ v H', Same H H' → Pur K H' v d → Q v H') → te σ H Q
def MkA (K : PySem.W.Frag) (ta : TA) (ds : List PyData) : Prop := ∀ (σ : L2.St) (H : Hp) (Q : List V → Hp → Prop), (∀ vs H', Same H H' → PurAll K H' vs ds → Q vs H') → ta σ H Q
section
variable {K : PySem.W.Frag} {te : TE} {ta : TA} {d : PyData} {ds : List PyData} {H : Hp} {v : V} {sz : List Nat} {T : Sums}
theorem mk_int {i : Int} : Mk K (tC (.int i)) (.int i) := fun σ H Q q => q _ H (Same.refl _) (.int i)
theorem mk_str {x : Str} : Mk K (tC (.str x)) (.str x) := fun σ H Q q => q _ H (Same.refl _) (.str x)
theorem mk_bl {b : Bool} : Mk K (tC (.bl b)) (.bool b) := fun σ H Q q => q _ H (Same.refl _) (.bl b)
theorem mka_nil : MkA K tNil [] := fun σ H Q q => q [] H (Same.refl _) .nil
theorem mka_cons (h : Mk K te d) (g : MkA K ta ds) : MkA K (tCons te ta) (d :: ds) := fun σ H Q q =>
  h σ H _ fun v H1 s1 p1 => g σ H1 _ fun vs H2 s2 p2 => q (v :: vs) H2 (s1.trans s2) (.cons (p1.kp (skp s2)) p2)
theorem mk_tup (g : MkA K ta ds) (hl : ds.length ≤ 1000) : Mk K (tTupF ta) (.tuple ds) := fun σ H Q q => g σ H _ fun vs H1 s1 p1 => ⟨by rw [sizeLine_eq, p1.len]; omega, fun p o hp ho => by
  obtain ⟨u1, u2, u3⟩ := frz_new (K := K) (xs := vs) hp ho
  exact q _ _ (s1.trans u1) (.tup u2 (p1.kp (skp u1)))⟩
theorem tup_use {σ : L2.St} {Q : VK} (m : Mk K (tTupF ta) d) (q : ∀ v H', Same H H' → Pur K H' v d → Q v H') : tTupF ta σ H Q := m σ H Q q
theorem lst_use {σ : L2.St} {Q : VK} (m : MkA K ta ds) (hl : ds.length ≤ 1000) (q : ∀ vs H', Same H H' → PurAll K H' vs ds → ∀ p, H' p = none → Q (.ref p) (upd H' p (.lst vs))) : tLst ta σ H Q :=
  m σ H _ fun vs H' s p => ⟨by rw [sizeLine_eq, p.len]; omega, q vs H' s p⟩
theorem lst_set {g : TG} {rest : TS} {D : Ends} {σ : L2.St} (m : MkA K ta ds) (hl : ds.length ≤ 1000) (q : ∀ vs H', Same H H' → PurAll K H' vs ds → ∀ p, H' p = none → g (.ref p) σ (upd H' p (.lst vs)) (rest D)) : tSeq (tAsg (tLst ta) g) rest D σ H :=
  lst_use (Q := fun x H1 => g x σ H1 (rest D)) m hl q
def sumOkB (sz : List Nat) (s : PSum) : Bool := (s.1.all fun t => decide (sz[t.1]? = some t.2.length) && decide (lmin t.2 = 0) && decide (lmax t.2 ≠ 0) && decide (lmax t.2 ≤ 1000)) && decide ((s.1.map (·.1)).Pairwise (· < ·)) && decide (s.2 ≤ 1000) && (decide (1 ≤ s.2) || decide (s = ([], 0)))
theorem sumOkB_ok {s : PSum} (h : sumOkB sz s = true) : SumOk sz s ∧ SmallS s := by
  unfold sumOkB at h
  rw [Bool.and_eq_true, Bool.and_eq_true, Bool.and_eq_true, List.all_eq_true, Bool.or_eq_true, decide_eq_true_eq, decide_eq_true_eq, decide_eq_true_eq, decide_eq_true_eq] at h
  obtain ⟨⟨⟨h1, h2⟩, h3⟩, h4⟩ := h
  have g : ∀ t ∈ s.1, sz[t.1]? = some t.2.length ∧ lmin t.2 = 0 ∧ lmax t.2 ≠ 0 ∧ lmax t.2 ≤ 1000 := fun t ht => by
    have := h1 t ht
    rw [Bool.and_eq_true, Bool.and_eq_true, Bool.and_eq_true, decide_eq_true_eq, decide_eq_true_eq, decide_eq_true_eq, decide_eq_true_eq] at this
    exact ⟨this.1.1.1, this.1.1.2, this.1.2, this.2⟩
  exact ⟨⟨⟨fun t ht => ⟨_, (g t ht).1, rfl⟩, h2⟩, fun t ht => ⟨(g t ht).2.1, (g t ht).2.2.1⟩, h4⟩, h3, fun t ht => (g t ht).2.2.2⟩
theorem sumsOk (h : T.all (sumOkB sz) = true) : (∀ s ∈ T, SumOk sz s) ∧ Small T := by
  rw [List.all_eq_true] at h
  exact ⟨fun s hs => (sumOkB_ok (h s hs)).1, fun s hs => (sumOkB_ok (h s hs)).2⟩
theorem search_mk {σ : L2.St} {Q : VK} (sz : List Nat) (T : Sums) (hz : Tiny sz) (hok : T.all (sumOkB sz) = true) (hl : T.length ≤ 7) (hm : MkA K ta [dSizes sz, dSums T]) (q : ∀ v H', Same H H' → Outcome K H' v sz T → Q v H') : tCall (sp_search K) [] E0 ta σ H Q :=
  hm σ H _ fun vs H1 s1 p => by
    obtain ⟨x, y, rfl, p1, p2⟩ := p.two
    obtain ⟨sa, xs, rfl, h1, h2⟩ := p2.inv
    obtain ⟨k1, k2⟩ := sumsOk hok
    exact ⟨x, sz, sa, xs, T, rfl, p1, hz, h1, pur_A2 h2, k1, k2, hl, fun v H' s ho => q v H' (s1.trans s) ho⟩
theorem out_row (r0 : List Nat) (h : ((rowsOf sz).filter (keepB T)).head? = some r0) (o : Outcome K H v sz T) : Pur K H v (dRowA r0) := by
  rcases o with ⟨r, ⟨hsol, hleast⟩, hrow⟩ | ⟨sts, hrf, hno, _⟩
  · obtain ⟨l, hl⟩ := first_row hsol.1 (keepB_iff.mpr hsol.2) (fun q hq hk => hleast q ⟨hq, keepB_iff.mp hk⟩)
    rw [hl] at h
    cases h
    exact hrow
  · rw [keeping_nil hno] at h
    cases h
theorem out_proof (h : (rowsOf sz).filter (keepB T) = []) (o : Outcome K H v sz T) : ∃ sts, RefOk sz T sts ∧ sts.length ≤ 200000 ∧ ProofV K H v sts := by
  rcases o with ⟨r, ⟨hsol, hleast⟩, hrow⟩ | ⟨sts, hrf, hno, hl, hp⟩
  · obtain ⟨l, hl⟩ := first_row hsol.1 (keepB_iff.mpr hsol.2) (fun q hq hk => hleast q ⟨hq, keepB_iff.mp hk⟩)
    rw [hl] at h
    cases h
  · exact ⟨sts, hrf, hl, hp⟩
end
def pig (n : Nat) (w : List Int) : Terms := (List.range n).map fun c => (c, w)
theorem pig_get {n i : Nat} {w : List Int} (h : i < n) : (pig n w)[i]? = some (i, w) := by
  unfold pig
  rw [List.getElem?_map, List.getElem?_range h]
  rfl
def T1 : Sums := [([(0, [0, 1]), (1, [0, 1])], 1), ([(0, [1, 0]), (1, [1, 0])], 1)]
def T2 : Sums := [(pig 4 [1, 1, 0], 3), (pig 4 [1, 0, 1], 3), (pig 4 [0, 1, 1], 3)]
def T3 : Sums := [(pig 3 [1, 1, 0], 2), (pig 3 [1, 0, 1], 2), (pig 3 [0, 1, 1], 2)]
theorem case0 : ((rowsOf []).filter (keepB [])).head? = some [] := by decide +kernel
theorem case1 : ((rowsOf [3, 2]).filter (keepB [])).head? = some [0, 0] := by decide +kernel
theorem case2 : ((rowsOf [2, 2]).filter (keepB [([], 0)])).head? = some [0, 0] := by decide +kernel
theorem case3 : (rowsOf []).filter (keepB [([], 2)]) = [] := by decide +kernel
theorem case4 : ((rowsOf [2, 2]).filter (keepB T1)).head? = some [0, 1] := by decide +kernel
theorem case5 : (rowsOf [3, 3, 3, 3]).filter (keepB T2) = [] := by decide +kernel
theorem case6 : ((rowsOf [3, 3, 3]).filter (keepB T3)).head? = some [0, 1, 2] := by decide +kernel
theorem good1 : T1.all (sumOkB [2, 2]) = true := by decide +kernel
theorem good2 : T2.all (sumOkB [3, 3, 3, 3]) = true := by decide +kernel
theorem good3 : T3.all (sumOkB [3, 3, 3]) = true := by decide +kernel
def hand : List PyData := [dRowA [], dRowA [0, 0], dRowA [0, 0], .str "proof", dRowA [0, 1], .str "proof", .bool true, dRowA [0, 1, 2]]
theorem hand_ok : okD (.list hand) = true := by decide +kernel
theorem t23_get {i : Nat} {s : PSum} (h : T2[i]? = some s) : T3[i]? = some (s.1.take 3, 2) := by
  match i, h with
  | 0, h => cases h; rfl
  | 1, h => cases h; rfl
  | 2, h => cases h; rfl
  | i + 3, h => cases h
theorem two_ok : (2 : Nat) ≤ sizeLine := by rw [sizeLine_eq]; decide
section
variable {P : Program} {w : World} {K : PySem.W.Frag} {mg : Str → Option Value} {base : Heap}
def sp_hand : Sp := fun vs H Q _ => vs = [] ∧ ∀ H', Q (.bl true) H'
theorem sc_law_by_hand : FnScope ["_law_got", "_law_nobody", "_law_spot", "_law_pigeons", "_law_told", "_law_terms_so", "_law_bound_so", "_law_due"] [] (defScope (topS 80)) := ⟨rfl, rfl, rfl, by decide +kernel, rfl, by decide +kernel, by decide +kernel⟩
theorem ok_hand (fr : Free mg) (D : DefAt K mg "_law_by_hand" (topS 80)) (d_search : OkD P w K mg base 8 "search" ["sizes", "sums"] (sp_search K)) (d__law_like : OkG P w K mg base 1 "_law_like" ["_law_got", "_law_due"] (sp_like K))
    (d_is_refuted : OkD P w K mg base 8 "is_refuted" ["sizes", "sums", "fixed", "value"] (sp_is_refuted K)) : OkG P w K mg base 9 "_law_by_hand" [] sp_hand := by
  refine D.okG sc_law_by_hand (fun _ _ _ _ _ _ us hl => match us, hl with | [], _ => rfl) (fun vs H Q E h => ?_) (fun f cdv A outer s H vs Q E hr hgd h => ?_)
  · rw [h.1]; rfl
  · obtain ⟨rfl, q⟩ := h
    refine ⟨_, (pss_cons (ps_set (i := 0) sc_law_by_hand.nd rfl (by first | exact .inl rfl | exact .inr rfl) (pe_lst (pa_cons (pe_callD d_search (hr.mono (by decide)) (by rfl) (pa_cons (pe_tupF pa_nil) (pa_cons (pe_tupF pa_nil) pa_nil))) (pa_cons (pe_callD d_search (hr.mono (by decide)) (by rfl) (pa_cons (pe_tupF (pa_cons pe_int (pa_cons pe_int pa_nil))) (pa_cons (pe_tupF pa_nil) pa_nil))) (pa_cons (pe_callD d_search (hr.mono (by decide)) (by rfl) (pa_cons (pe_tupF (pa_cons pe_int (pa_cons pe_int pa_nil))) (pa_cons (pe_tupF (pa_cons (pe_tupF (pa_cons (pe_tupF pa_nil) (pa_cons pe_int pa_nil))) pa_nil)) pa_nil))) (pa_cons (pe_ix (ix_tupK (K := K)) (pe_callD d_search (hr.mono (by decide)) (by rfl) (pa_cons (pe_tupF pa_nil) (pa_cons (pe_tupF (pa_cons (pe_tupF (pa_cons (pe_tupF pa_nil) (pa_cons pe_int pa_nil))) pa_nil)) pa_nil))) pe_int (fun _ _ => rfl)) pa_nil))))))
 (pss_cons (ps_expr (pe_bm PySem.F.plainAttrs_list PySem.F.slot_list_append PySem.F.type_list_append mt_append (pv 0) (pa_cons (pe_callD d_search (hr.mono (by decide)) (by rfl) (pa_cons (pe_tupF (pa_cons pe_int (pa_cons pe_int pa_nil))) (pa_cons (pe_tupF (pa_cons (pe_tupF (pa_cons (pe_tupF (pa_cons (pe_tupF (pa_cons pe_int (pa_cons (pe_tupF (pa_cons pe_int (pa_cons pe_int pa_nil))) pa_nil))) (pa_cons (pe_tupF (pa_cons pe_int (pa_cons (pe_tupF (pa_cons pe_int (pa_cons pe_int pa_nil))) pa_nil))) pa_nil))) (pa_cons pe_int pa_nil))) (pa_cons (pe_tupF (pa_cons (pe_tupF (pa_cons (pe_tupF (pa_cons pe_int (pa_cons (pe_tupF (pa_cons pe_int (pa_cons pe_int pa_nil))) pa_nil))) (pa_cons (pe_tupF (pa_cons pe_int (pa_cons (pe_tupF (pa_cons pe_int (pa_cons pe_int pa_nil))) pa_nil))) pa_nil))) (pa_cons pe_int pa_nil))) pa_nil))) pa_nil))) pa_nil)))
 (pss_cons (ps_set (i := 1) sc_law_by_hand.nd rfl (by first | exact .inl rfl | exact .inr rfl) (pe_callTy (cr_tupK (K := K)) (by rfl) fr.tuple (by decide +kernel) (pa_cons (pe_lc (own := [("_law_spot", 2)]) rfl sc_law_by_hand.nd (pi_range1 (by rfl) fr.range (pa_cons pe_int pa_nil)) (blkOk_by (by kernel_rfl)) (fun _ _ _ _ _ => (pg_name (i := 2) sc_law_by_hand.nd rfl (by first | exact .inl rfl | exact .inr rfl))) (fun _ _ _ _ _ => pts_nil) (fun _ _ _ _ _ => (pe_tupF (pa_cons (pv 2) (pa_cons (pe_tupF (pa_cons pe_int (pa_cons pe_int (pa_cons pe_int pa_nil)))) pa_nil))))) pa_nil)))
 (pss_cons (ps_set (i := 3) sc_law_by_hand.nd rfl (by first | exact .inl rfl | exact .inr rfl) (pe_lst (pa_cons (pe_tupF (pa_cons (pv 1) (pa_cons pe_int pa_nil))) (pa_cons (pe_tupF (pa_cons (pe_callTy (cr_tupK (K := K)) (by rfl) fr.tuple (by decide +kernel) (pa_cons (pe_lc (own := [("_law_spot", 2)]) rfl sc_law_by_hand.nd (pi_range1 (by rfl) fr.range (pa_cons pe_int pa_nil)) (blkOk_by (by kernel_rfl)) (fun _ _ _ _ _ => (pg_name (i := 2) sc_law_by_hand.nd rfl (by first | exact .inl rfl | exact .inr rfl))) (fun _ _ _ _ _ => pts_nil) (fun _ _ _ _ _ => (pe_tupF (pa_cons (pv 2) (pa_cons (pe_tupF (pa_cons pe_int (pa_cons pe_int (pa_cons pe_int pa_nil)))) pa_nil))))) pa_nil)) (pa_cons pe_int pa_nil))) pa_nil))))
 (pss_cons (ps_expr (pe_bm PySem.F.plainAttrs_list PySem.F.slot_list_append PySem.F.type_list_append mt_append (pv 3) (pa_cons (pe_tupF (pa_cons (pe_callTy (cr_tupK (K := K)) (by rfl) fr.tuple (by decide +kernel) (pa_cons (pe_lc (own := [("_law_spot", 2)]) rfl sc_law_by_hand.nd (pi_range1 (by rfl) fr.range (pa_cons pe_int pa_nil)) (blkOk_by (by kernel_rfl)) (fun _ _ _ _ _ => (pg_name (i := 2) sc_law_by_hand.nd rfl (by first | exact .inl rfl | exact .inr rfl))) (fun _ _ _ _ _ => pts_nil) (fun _ _ _ _ _ => (pe_tupF (pa_cons (pv 2) (pa_cons (pe_tupF (pa_cons pe_int (pa_cons pe_int (pa_cons pe_int pa_nil)))) pa_nil))))) pa_nil)) (pa_cons pe_int pa_nil))) pa_nil)))
 (pss_cons (ps_set (i := 4) sc_law_by_hand.nd rfl (by first | exact .inl rfl | exact .inr rfl) (pe_callD d_search (hr.mono (by decide)) (by rfl) (pa_cons (pe_op (op_mulG (K := K)) (pe_tupF (pa_cons pe_int pa_nil)) pe_int) (pa_cons (pe_callTy (cr_tupK (K := K)) (by rfl) fr.tuple (by decide +kernel) (pa_cons (pv 3) pa_nil)) pa_nil))))
 (pss_cons (ps_set (i := 0) sc_law_by_hand.nd rfl (by first | exact .inl rfl | exact .inr rfl) (pe_op op_cat (pv 0) (pe_lst (pa_cons (pe_ix (ix_tupK (K := K)) (pv 4) pe_int (fun _ _ => rfl)) (pa_cons (pe_callD d_is_refuted (hr.mono (by decide)) (by rfl) (pa_cons (pe_op (op_mulG (K := K)) (pe_tupF (pa_cons pe_int pa_nil)) pe_int) (pa_cons (pe_callTy (cr_tupK (K := K)) (by rfl) fr.tuple (by decide +kernel) (pa_cons (pv 3) pa_nil)) (pa_cons (pe_tupF pa_nil) (pa_cons (pe_ix (ix_tupK (K := K)) (pv 4) pe_int (fun _ _ => rfl)) pa_nil))))) pa_nil)))))
 (pss_cons (ps_expr (pe_bm PySem.F.plainAttrs_list PySem.F.slot_list_append PySem.F.type_list_append mt_append (pv 0) (pa_cons (pe_callD d_search (hr.mono (by decide)) (by rfl) (pa_cons (pe_op (op_mulG (K := K)) (pe_tupF (pa_cons pe_int pa_nil)) pe_int) (pa_cons (pe_callTy (cr_tupK (K := K)) (by rfl) fr.tuple (by decide +kernel) (pa_cons (pe_lc (own := [("_law_terms_so", 5), ("_law_bound_so", 6)]) rfl sc_law_by_hand.nd (pi_seqK (K := K) (pv 3)) (blkOk_by (by kernel_rfl)) (fun _ _ _ _ _ => (pg_tupK (K := K) (n := 2) (by rfl) (pgs_cons (pg_name (i := 5) sc_law_by_hand.nd rfl (by first | exact .inl rfl | exact .inr rfl)) (pgs_cons (pg_name (i := 6) sc_law_by_hand.nd rfl (by first | exact .inl rfl | exact .inr rfl)) pgs_nil)))) (fun _ _ _ _ _ => pts_nil) (fun _ _ _ _ _ => (pe_tupF (pa_cons (pe_slice (sl_G (K := K)) (pv 5) po_none (po_some pe_int)) (pa_cons pe_int pa_nil))))) pa_nil)) pa_nil))) pa_nil)))
 (pss_cons (ps_set (i := 7) sc_law_by_hand.nd rfl (by first | exact .inl rfl | exact .inr rfl) (pe_lst (pa_cons (pe_tupF (pa_cons pe_str (pa_cons (pe_tupF pa_nil) pa_nil))) (pa_cons (pe_tupF (pa_cons pe_str (pa_cons (pe_tupF (pa_cons pe_int (pa_cons pe_int pa_nil))) pa_nil))) (pa_cons (pe_tupF (pa_cons pe_str (pa_cons (pe_tupF (pa_cons pe_int (pa_cons pe_int pa_nil))) pa_nil))) (pa_cons pe_str (pa_cons (pe_tupF (pa_cons pe_str (pa_cons (pe_tupF (pa_cons pe_int (pa_cons pe_int pa_nil))) pa_nil))) (pa_cons pe_str (pa_cons pe_bl pa_nil)))))))))
 (pss_one (ps_ret (pe_callDG d__law_like (hr.mono (by decide)) hgd (by rfl) (pa_cons (pv 0) (pa_cons (pe_op op_cat (pv 7) (pe_lst (pa_cons (pe_tupF (pa_cons pe_str (pa_cons (pe_tupF (pa_cons pe_int (pa_cons pe_int (pa_cons pe_int pa_nil)))) pa_nil))) pa_nil))) pa_nil)))))))))))))), ?_⟩
    refine search_mk [] [] ⟨by decide, fun n h => nomatch h⟩ rfl (by decide) (by repeat' (first | exact mk_int | exact mk_str | exact mk_bl | exact mka_nil | refine mka_cons ?_ ?_ | refine mk_tup ?_ (by decide))) fun v1 H1 s1 o1 => ?_
    refine search_mk [3, 2] [] ⟨by decide, by decide⟩ rfl (by decide) (by repeat' (first | exact mk_int | exact mk_str | exact mk_bl | exact mka_nil | refine mka_cons ?_ ?_ | refine mk_tup ?_ (by decide))) fun v2 H2 s2 o2 => ?_
    refine search_mk [2, 2] [([], 0)] ⟨by decide, by decide⟩ (by decide +kernel) (by decide) (by repeat' (first | exact mk_int | exact mk_str | exact mk_bl | exact mka_nil | refine mka_cons ?_ ?_ | refine mk_tup ?_ (by decide))) fun v3 H3 s3 o3 => ?_
    refine search_mk [] [([], 2)] ⟨by decide, fun n h => nomatch h⟩ (by decide +kernel) (by decide) (by repeat' (first | exact mk_int | exact mk_str | exact mk_bl | exact mka_nil | refine mka_cons ?_ ?_ | refine mk_tup ?_ (by decide))) fun v4 H4 s4 o4 => ?_
    obtain ⟨sts4, hrf4, hl4, p4, tp4, rfl, hp4, hst4⟩ := out_proof case3 o4
    refine ⟨p4, _, _, _, rfl, rfl, hp4, atI_nat (j := 0) rfl, by rw [sizeLine_eq]; show 4 ≤ _; omega, fun G hG => ?_⟩
    have r1 := (out_row [] case0 o1).kp (skp ((s2.trans s3).trans s4))
    have r2 := (out_row [0, 0] case1 o2).kp (skp (s3.trans s4))
    have r3 := (out_row [0, 0] case2 o3).kp (skp s4)
    have gs1 : PurAll K H4 [v1, v2, v3, V.str "proof"] [dRowA [], dRowA [0, 0], dRowA [0, 0], .str "proof"] := .cons r1 (.cons r2 (.cons r3 (.cons (.str _) .nil)))
    have eG := upd_same (H := H4) (a := G) (o := .lst [v1, v2, v3, V.str "proof"])
    have gs2 := gs1.kp (skp (same_new (o := .lst [v1, v2, v3, V.str "proof"]) hG))
    revert eG gs2
    generalize upd H4 G (.lst [v1, v2, v3, V.str "proof"]) = H5
    intro eG gs2
    refine ⟨_, rfl, .inl ⟨rfl, _, lstA eG⟩, ?_⟩
    refine search_mk [2, 2] T1 ⟨by decide, by decide⟩ good1 (by decide) (by repeat' (first | exact mk_int | exact mk_str | exact mk_bl | exact mka_nil | refine mka_cons ?_ ?_ | refine mk_tup ?_ (by decide))) fun v5 H6 s6 o5 => ?_
    refine ⟨G, _, v5, rfl, rfl, s6 _ _ eG, by rw [sizeLine_eq]; show 4 < _; omega, ?_⟩
    have gs3 := ((gs2.kp (skp s6)).app (.cons (out_row [0, 1] case4 o5) .nil)).kp (kp_lst (ys := [v1, v2, v3, V.str "proof"] ++ [v5]) (s6 _ _ eG))
    have eG3 := upd_same (H := H6) (a := G) (o := .lst ([v1, v2, v3, V.str "proof"] ++ [v5]))
    revert eG3 gs3
    generalize upd H6 G (.lst ([v1, v2, v3, V.str "proof"] ++ [v5])) = H7
    intro gs3 eG3
    refine ⟨4, rfl, by decide, by decide, fun D hD => ?_⟩
    refine lc_gen (walk_range (lo := 0)) (by decide) hD (fun _ _ => trivial) (fun i acc H' => PurAll K H' acc (((pig 4 [1, 1, 0]).take i).map dTerm)) (fun _ _ _ _ e p => p.kp e) (fun _ => .nil) (fun i x Ha Hb acc C N hi sa p y cC cN => ?_) (fun acc Ha sa e l p => ?_)
    · obtain ⟨rfl, rfl⟩ := y
      have hi4 : i < 4 := hi
      refine ⟨rfl, yesT ⟨_, rfl, ?_⟩⟩
      refine tup_use (K := K) (d := dInts [1, 1, 0]) (by repeat' (first | exact mk_int | exact mk_str | exact mk_bl | exact mka_nil | refine mka_cons ?_ ?_ | refine mk_tup ?_ (by decide))) fun wv Hc sc pw => ?_
      refine ⟨two_ok, fun p1 o1 hp1 ho1 => ?_⟩
      obtain ⟨u1, u2, u3⟩ := frz_new (K := K) (xs := [V.int (0 + ((i : Nat) : Int)), wv]) hp1 ho1
      refine cC _ _ (sc.trans u1) ?_
      rw [take_snoc (pig_get hi4), List.map_append]
      have h0 : ∀ h, Pur K h (.int (0 + ((i : Nat) : Int))) (.int ((i : Nat) : Int)) := fun h => by rw [Int.zero_add]; exact .int _
      exact (p.kp (skp (sc.trans u1))).app (.cons (.tup u2 (.cons (h0 _) (.cons (pw.kp (skp u1)) .nil))) .nil)
    have p : PurAll K Ha acc ((pig 4 [1, 1, 0]).map dTerm) := p
    refine ⟨D, true, acc, rfl, lstA e, fun _ wt8 ow hwt how => ?_, fun z => nomatch z⟩
    obtain ⟨w1, w2, w3⟩ := frz_new (K := K) (xs := acc) hwt how
    have pn8 : Pur K _ (.ref wt8) (dTerms (pig 4 [1, 1, 0])) := .tup w2 (p.kp (skp w1))
    have pl8 := w3
    have s8 := sa.trans w1
    revert pn8 pl8 s8
    generalize upd Ha wt8 (.frz ow (.tup acc)) = H8
    intro pn8 pl8 s8
    have eG8 := s8 _ _ eG3
    have gs8 := gs3.kp (skp s8)
    refine ⟨_, rfl, two_ok, fun p1 o1 hp1 ho1 => ?_⟩
    obtain ⟨a1, a2, a3⟩ := frz_new (K := K) (xs := [V.ref wt8, V.int 3]) hp1 ho1
    have t1 : SumV K _ (.ref p1) (pig 4 [1, 1, 0], 3) := ⟨p1, wt8, rfl, a2, pl8.kp (skp a1), pn8.kp (skp a1)⟩
    have eG9 := a1 _ _ eG8
    have gs9 := gs8.kp (skp a1)
    revert t1 eG9 gs9
    generalize upd H8 p1 (.frz o1 (.tup [V.ref wt8, V.int 3])) = H9
    intro t1 eG9 gs9
    refine ⟨4, rfl, by decide, by decide, fun D hD => ?_⟩
    refine lc_gen (walk_range (lo := 0)) (by decide) hD (fun _ _ => trivial) (fun i acc H' => PurAll K H' acc (((pig 4 [1, 0, 1]).take i).map dTerm)) (fun _ _ _ _ e p => p.kp e) (fun _ => .nil) (fun i x Ha Hb acc C N hi sa p y cC cN => ?_) (fun acc Ha sa e l p => ?_)
    · obtain ⟨rfl, rfl⟩ := y
      have hi4 : i < 4 := hi
      refine ⟨rfl, yesT ⟨_, rfl, ?_⟩⟩
      refine tup_use (K := K) (d := dInts [1, 0, 1]) (by repeat' (first | exact mk_int | exact mk_str | exact mk_bl | exact mka_nil | refine mka_cons ?_ ?_ | refine mk_tup ?_ (by decide))) fun wv Hc sc pw => ?_
      refine ⟨two_ok, fun p1 o1 hp1 ho1 => ?_⟩
      obtain ⟨u1, u2, u3⟩ := frz_new (K := K) (xs := [V.int (0 + ((i : Nat) : Int)), wv]) hp1 ho1
      refine cC _ _ (sc.trans u1) ?_
      rw [take_snoc (pig_get hi4), List.map_append]
      have h0 : ∀ h, Pur K h (.int (0 + ((i : Nat) : Int))) (.int ((i : Nat) : Int)) := fun h => by rw [Int.zero_add]; exact .int _
      exact (p.kp (skp (sc.trans u1))).app (.cons (.tup u2 (.cons (h0 _) (.cons (pw.kp (skp u1)) .nil))) .nil)
    have p : PurAll K Ha acc ((pig 4 [1, 0, 1]).map dTerm) := p
    refine ⟨D, true, acc, rfl, lstA e, fun _ wt10 ow hwt how => ?_, fun z => nomatch z⟩
    obtain ⟨w1, w2, w3⟩ := frz_new (K := K) (xs := acc) hwt how
    have pn10 : Pur K _ (.ref wt10) (dTerms (pig 4 [1, 0, 1])) := .tup w2 (p.kp (skp w1))
    have pl10 := w3
    have s10 := sa.trans w1
    revert pn10 pl10 s10
    generalize upd Ha wt10 (.frz ow (.tup acc)) = H10
    intro pn10 pl10 s10
    refine ⟨two_ok, fun p2 o2 hp2 ho2 => ?_⟩
    obtain ⟨b1, b2, b3⟩ := frz_new (K := K) (xs := [V.ref wt10, V.int 3]) hp2 ho2
    have s11 := s10.trans b1
    have t2 : SumV K _ (.ref p2) (pig 4 [1, 0, 1], 3) := ⟨p2, wt10, rfl, b2, pl10.kp (skp b1), pn10.kp (skp b1)⟩
    have t12 : A2 (SumV K _) [V.ref p1, V.ref p2] [(pig 4 [1, 1, 0], 3), (pig 4 [1, 0, 1], 3)] := (A2.nil.snoc (t1.kp (skp s11))).snoc t2
    have eG11 := s11 _ _ eG9
    have gs11 := gs9.kp (skp s11)
    refine ⟨two_ok, fun L hL => ?_⟩
    have s12 := same_new (o := .lst [V.ref p1, V.ref p2]) hL
    have eL := upd_same (a := L) (o := .lst [V.ref p1, V.ref p2])  (H := upd H10 p2 (.frz o2 (.tup [V.ref wt10, V.int 3])))
    have hGL := ne_of_none eG11 hL
    have eG12 := s12 _ _ eG11
    have gs12 := gs11.kp (skp s12)
    have t12 := t12.mono fun v s h => h.kp (skp s12)
    revert eL eG12 gs12 t12
    generalize upd (upd H10 p2 (.frz o2 (.tup [V.ref wt10, V.int 3]))) L (.lst [V.ref p1, V.ref p2]) = H12
    intro eL eG12 gs12 t12
    refine ⟨_, rfl, .inl ⟨rfl, _, lstA eL⟩, ?_⟩
    refine ⟨4, rfl, by decide, by decide, fun D hD => ?_⟩
    refine lc_gen (walk_range (lo := 0)) (by decide) hD (fun _ _ => trivial) (fun i acc H' => PurAll K H' acc (((pig 4 [0, 1, 1]).take i).map dTerm)) (fun _ _ _ _ e p => p.kp e) (fun _ => .nil) (fun i x Ha Hb acc C N hi sa p y cC cN => ?_) (fun acc Ha sa e l p => ?_)
    · obtain ⟨rfl, rfl⟩ := y
      have hi4 : i < 4 := hi
      refine ⟨rfl, yesT ⟨_, rfl, ?_⟩⟩
      refine tup_use (K := K) (d := dInts [0, 1, 1]) (by repeat' (first | exact mk_int | exact mk_str | exact mk_bl | exact mka_nil | refine mka_cons ?_ ?_ | refine mk_tup ?_ (by decide))) fun wv Hc sc pw => ?_
      refine ⟨two_ok, fun p1 o1 hp1 ho1 => ?_⟩
      obtain ⟨u1, u2, u3⟩ := frz_new (K := K) (xs := [V.int (0 + ((i : Nat) : Int)), wv]) hp1 ho1
      refine cC _ _ (sc.trans u1) ?_
      rw [take_snoc (pig_get hi4), List.map_append]
      have h0 : ∀ h, Pur K h (.int (0 + ((i : Nat) : Int))) (.int ((i : Nat) : Int)) := fun h => by rw [Int.zero_add]; exact .int _
      exact (p.kp (skp (sc.trans u1))).app (.cons (.tup u2 (.cons (h0 _) (.cons (pw.kp (skp u1)) .nil))) .nil)
    have p : PurAll K Ha acc ((pig 4 [0, 1, 1]).map dTerm) := p
    refine ⟨D, true, acc, rfl, lstA e, fun _ wt13 ow hwt how => ?_, fun z => nomatch z⟩
    obtain ⟨w1, w2, w3⟩ := frz_new (K := K) (xs := acc) hwt how
    have pn13 : Pur K _ (.ref wt13) (dTerms (pig 4 [0, 1, 1])) := .tup w2 (p.kp (skp w1))
    have pl13 := w3
    have s13 := sa.trans w1
    revert pn13 pl13 s13
    generalize upd Ha wt13 (.frz ow (.tup acc)) = H13
    intro pn13 pl13 s13
    refine ⟨two_ok, fun p3 o3 hp3 ho3 => ?_⟩
    obtain ⟨c1, c2, c3⟩ := frz_new (K := K) (xs := [V.ref wt13, V.int 3]) hp3 ho3
    have s14 := s13.trans c1
    have eL14 := s14 _ _ eL
    refine ⟨L, _, _, rfl, rfl, eL14, by rw [sizeLine_eq]; show 2 < _; omega, ?_⟩
    have kL := kp_lst (ys := [V.ref p1, V.ref p2] ++ [V.ref p3]) eL14
    have t3 : SumV K _ (.ref p3) (pig 4 [0, 1, 1], 3) := ⟨p3, wt13, rfl, c2, pl13.kp (skp c1), pn13.kp (skp c1)⟩
    have t123 : A2 (SumV K _) [V.ref p1, V.ref p2, V.ref p3] T2 := ((t12.mono fun v s h => h.kp (skp s14)).snoc t3).mono fun v s h => h.kp kL
    have eL15 := upd_same (a := L) (o := .lst [V.ref p1, V.ref p2, V.ref p3])  (H := upd H13 p3 (.frz o3 (.tup [V.ref wt13, V.int 3])))
    have gs15 := (gs12.kp (skp s14)).kp kL
    have eG15 := (upd_ne (o := .lst ([V.ref p1, V.ref p2] ++ [V.ref p3])) hGL).trans (s14 _ _ eG12)
    change upd (upd H13 p3 (.frz o3 (.tup [V.ref wt13, V.int 3]))) L (.lst [V.ref p1, V.ref p2, V.ref p3]) G = _ at eG15
    change PurAll K (upd (upd H13 p3 (.frz o3 (.tup [V.ref wt13, V.int 3]))) L (.lst [V.ref p1, V.ref p2, V.ref p3])) _ _ at gs15
    change A2 (SumV K (upd (upd H13 p3 (.frz o3 (.tup [V.ref wt13, V.int 3]))) L (.lst [V.ref p1, V.ref p2, V.ref p3]))) _ _ at t123
    show tSeq _ _ _ _ (upd (upd H13 p3 (.frz o3 (.tup [V.ref wt13, V.int 3]))) L (.lst [V.ref p1, V.ref p2, V.ref p3]))
    have eL15 := eL15
    have eG15 := eG15
    have gs15 := gs15
    have t123 := t123
    revert eL15 eG15 gs15 t123
    generalize upd (upd H13 p3 (.frz o3 (.tup [V.ref wt13, V.int 3]))) L (.lst [V.ref p1, V.ref p2, V.ref p3]) = H15
    intro eL15 eG15 gs15 t123
    refine ⟨by rw [sizeLine_eq]; show 1 ≤ _; omega, fun q1 r1 hq1 hr1 => ?_⟩
    obtain ⟨d1, d2, d3⟩ := frz_new (K := K) (xs := [V.int 3]) hq1 hr1
    refine ⟨q1, .int 3, 4, rfl, rfl, d2, by decide, by decide, fun q2 H16 s16 hq2 => ?_⟩
    have s16 := d1.trans s16
    have z16 : Pur K H16 (.ref q2) (dSizes [3, 3, 3, 3]) := .tup (show SqT K H16 q2 [.int 3, .int 3, .int 3, .int 3] from hq2) (.cons (.int _) (.cons (.int _) (.cons (.int _) (.cons (.int _) .nil))))
    refine ⟨_, rfl, L, true, _, rfl, lstA (s16 _ _ eL15), fun _ tl ol htl hol => ?_, fun z => nomatch z⟩
    obtain ⟨e1, e2, e3⟩ := frz_new (K := K) (xs := [V.ref p1, V.ref p2, V.ref p3]) htl hol
    obtain ⟨k1, k2⟩ := sumsOk good2
    have s17 := s16.trans e1
    refine ⟨_, [3, 3, 3, 3], tl, _, T2, rfl, z16.kp (skp e1), ⟨by decide, by decide⟩, e2, t123.mono fun v s h => h.pur.kp (skp s17), k1, k2, by decide, fun v6 H18 s18 o6 => ?_⟩
    obtain ⟨sts6, hrf6, hl6, p6, tp6, rfl, hp6, hst6⟩ := out_proof case5 o6
    have s18 := s17.trans s18
    have eL18 := s18 _ _ eL15
    have eG18 := s18 _ _ eG15
    have gs18 := gs15.kp (skp s18)
    have t18 := t123.mono fun v s h => h.kp (skp s18)
    refine ⟨_, rfl, _, rfl, p6, _, _, _, rfl, rfl, hp6, atI_nat (j := 0) rfl, ?_⟩
    refine ⟨by rw [sizeLine_eq]; show 1 ≤ _; omega, fun q1 r1 hq1 hr1 => ?_⟩
    obtain ⟨d1, d2, d3⟩ := frz_new (K := K) (xs := [V.int 3]) hq1 hr1
    refine ⟨q1, .int 3, 4, rfl, rfl, d2, by decide, by decide, fun q2 H19 s19 hq2 => ?_⟩
    have s19 := d1.trans s19
    have z19 : Pur K H19 (.ref q2) (dSizes [3, 3, 3, 3]) := .tup (show SqT K H19 q2 [.int 3, .int 3, .int 3, .int 3] from hq2) (.cons (.int _) (.cons (.int _) (.cons (.int _) (.cons (.int _) .nil))))
    refine ⟨_, rfl, L, true, _, rfl, lstA (s19 _ _ eL18), fun _ tm om htm hom => ?_, fun z => nomatch z⟩
    obtain ⟨f1, f2, f3⟩ := frz_new (K := K) (xs := [V.ref p1, V.ref p2, V.ref p3]) htm hom
    refine ⟨Nat.zero_le _, fun q3 r3 hq3 hr3 => ?_⟩
    obtain ⟨g1, g2, g3⟩ := frz_new (K := K) (xs := []) hq3 hr3
    have s20 := (s19.trans f1).trans g1
    have told : ToldV K _ tm T2 := ⟨_, (skp g1).sqT f2, t18.mono fun v s h => h.kp (skp s20)⟩
    refine ⟨_, rfl, p6, _, _, _, rfl, rfl, (skp s20).sqT hp6, atI_nat (j := 1) rfl, _, [3, 3, 3, 3], tm, q3, tp6, T2, sts6, rfl, z19.kp (skp (f1.trans g1)), ⟨by decide, by decide⟩, told, k1, by decide, g2, hst6.kp (skp s20), hrf6.1, by omega, fun H21 s21 => ?_⟩
    rw [lastLow_ref hrf6]
    have s21 := s20.trans s21
    refine ⟨two_ok, fun M hM => ?_⟩
    have s22 := s21.trans (same_new (o := .lst [V.str "proof", V.bl true]) hM)
    have eG22 := s22 _ _ eG18
    refine ⟨G, M, _, _, rfl, rfl, eG22, upd_same, by rw [sizeLine_eq]; show 5 + 2 ≤ _; omega, fun G2 hG2 => ?_⟩
    have s23 := s22.trans (same_new (o := .lst ([v1, v2, v3, V.str "proof"] ++ [v5] ++ [V.str "proof", V.bl true])) hG2)
    have gs23 := (gs18.app (.cons (.str "proof") (.cons (.bl true) .nil))).kp (skp s23)
    have eG23 := upd_same (a := G2) (o := .lst ([v1, v2, v3, V.str "proof"] ++ [v5] ++ [V.str "proof", V.bl true])) (H := upd H21 M (.lst [V.str "proof", V.bl true]))
    have eL23 := s23 _ _ eL18
    have t23 := t18.mono fun v s h => h.kp (skp s23)
    revert gs23 eG23 eL23 t23
    generalize upd (upd H21 M (.lst [V.str "proof", V.bl true])) G2 (.lst ([v1, v2, v3, V.str "proof"] ++ [v5] ++ [V.str "proof", V.bl true])) = H23
    intro gs23 eG23 eL23 t23
    refine ⟨_, rfl, .inl ⟨rfl, _, lstA eG23⟩, ?_⟩
    refine ⟨by rw [sizeLine_eq]; show 1 ≤ _; omega, fun q1 r1 hq1 hr1 => ?_⟩
    obtain ⟨d1, d2, d3⟩ := frz_new (K := K) (xs := [V.int 3]) hq1 hr1
    refine ⟨q1, .int 3, 3, rfl, rfl, d2, by decide, by decide, fun q2 H24 s24 hq2 => ?_⟩
    have s24 := d1.trans s24
    have z24 : Pur K H24 (.ref q2) (dSizes [3, 3, 3]) := .tup (show SqT K H24 q2 [.int 3, .int 3, .int 3] from hq2) (.cons (.int _) (.cons (.int _) (.cons (.int _) .nil)))
    refine ⟨_, rfl, L, true, rfl, ⟨_, lstA (s24 _ _ eL23)⟩, fun D hD => ?_⟩
    refine lc_gen (walk_seq (k := true) (xs := [V.ref p1, V.ref p2, V.ref p3])) (by show 3 ≤ _; omega) hD (fun H' s => lstA (s _ _ (s24 _ _ eL23))) (fun i acc H' => PurAll K H' acc ((T3.take i).map dSum)) (fun _ _ _ _ e p => p.kp e) (fun _ => .nil) (fun i x Ha Hb acc C N hi sa p y cC cN => ?_) (fun acc Ha sa e l p => ?_)
    · obtain ⟨rfl, ex⟩ := y
      obtain ⟨ps, eps, hps⟩ := t23.getL ex
      obtain ⟨c, tt, rfl, hc, htt⟩ := pSum (hps.pur.kp (skp (s24.trans sa)))
      obtain ⟨t, us, rfl, ht, hus⟩ := htt.inv
      refine ⟨c, _, rfl, hc, rfl, _, _, rfl, _, _, rfl, rfl, rfl, yesT ?_⟩
      refine ⟨_, rfl, 3, rfl, t, us, rfl, ht, fun p5 Hc sc hp5 => ?_⟩
      rw [show (3 : Int) = ((3 : Nat) : Int) from rfl, cut_take] at hp5
      refine ⟨two_ok, fun p7 o7 hp7 ho7 => ?_⟩
      obtain ⟨u1, u2, u3⟩ := frz_new (K := K) (xs := [V.ref p5, V.int 2]) hp7 ho7
      refine cC _ _ (sc.trans u1) ?_
      rw [take_snoc (t23_get eps), List.map_append]
      have hut := (hus.kp (skp (sc.trans u1))).take 3
      rw [← List.map_take] at hut
      exact (p.kp (skp (sc.trans u1))).app (.cons (.tup u2 (.cons (.tup ((skp u1).sqT hp5) hut) (.cons (.int _) .nil))) .nil)
    have p : PurAll K Ha acc (T3.map dSum) := p
    refine ⟨D, true, acc, rfl, lstA e, fun _ wt ow hwt how => ?_, fun z => nomatch z⟩
    obtain ⟨y1, y2, y3⟩ := frz_new (K := K) (xs := acc) hwt how
    obtain ⟨k3, k4⟩ := sumsOk good3
    have s25 := (s24.trans sa).trans y1
    refine ⟨_, [3, 3, 3], wt, _, T3, rfl, z24.kp (skp (sa.trans y1)), ⟨by decide, by decide⟩, y2, pur_A2 (p.kp (skp y1)), k3, k4, by decide, fun v8 H26 s26 o8 => ?_⟩
    have s26 := s25.trans s26
    refine ⟨G2, _, v8, rfl, rfl, s26 _ _ eG23, by rw [sizeLine_eq]; show 7 < _; omega, ?_⟩
    have gs27 := ((gs23.kp (skp s26)).app (.cons (out_row [0, 1, 2] case6 o8) .nil)).kp (kp_lst (ys := [v1, v2, v3, V.str "proof"] ++ [v5] ++ [V.str "proof", V.bl true] ++ [v8]) (s26 _ _ eG23))
    have eG27 := upd_same (a := G2) (o := .lst ([v1, v2, v3, V.str "proof"] ++ [v5] ++ [V.str "proof", V.bl true] ++ [v8])) (H := H26)
    revert gs27 eG27
    generalize upd H26 G2 (.lst ([v1, v2, v3, V.str "proof"] ++ [v5] ++ [V.str "proof", V.bl true] ++ [v8])) = H27
    intro gs27 eG27
    dsimp only
    refine lst_set (K := K) (ds := [dRowA [], dRowA [0, 0], dRowA [0, 0], .str "proof", dRowA [0, 1], .str "proof", .bool true]) (by repeat' (first | exact mk_int | exact mk_str | exact mk_bl | exact mka_nil | refine mka_cons ?_ ?_ | refine mk_tup ?_ (by decide))) (by decide) fun ws H28 s28 hw A hA => ?_
    have sA := same_new (o := .lst ws) hA
    have s29 := s28.trans sA
    have eA := upd_same (a := A) (o := .lst ws) (H := H28)
    have hw := hw.kp (skp sA)
    have gs29 := gs27.kp (skp s29)
    have eG29 := s29 _ _ eG27
    revert eA hw gs29 eG29
    generalize upd H28 A (.lst ws) = H29
    intro eA hw gs29 eG29
    refine ⟨_, rfl, _, rfl, ?_⟩
    refine lst_use (K := K) (ds := [dRowA [0, 1, 2]]) (by repeat' (first | exact mk_int | exact mk_str | exact mk_bl | exact mka_nil | refine mka_cons ?_ ?_ | refine mk_tup ?_ (by decide))) (by decide) fun us H30 s30 hu B hB => ?_
    have s31 := s30.trans (same_new (o := .lst us) hB)
    have hwl := hw.len
    have hul := hu.len
    refine ⟨A, B, ws, us, rfl, rfl, s31 _ _ eA, upd_same, by rw [hwl, hul, sizeLine_eq]; show 7 + 1 ≤ _; omega, fun C hC => ?_⟩
    have s32 := s31.trans (same_new (o := .lst (ws ++ us)) hC)
    have hwu := (hw.kp (skp s32)).app (hu.kp (skp ((same_new (o := .lst us) hB).trans (same_new (o := .lst (ws ++ us)) hC))))
    obtain ⟨j1, j2, j3, j4⟩ := okD_all hand_ok
    have hA1 : PurAll K _ _ hand := gs29.kp (skp s32)
    have hB1 : PurAll K _ _ hand := hwu
    exact ⟨.ref G2, .ref C, .list hand, rfl, .lst (lstA (s32 _ _ eG29)) hA1.dp, .lst (lstA upd_same) hB1.dp, .inl ⟨_, _, rfl, rfl⟩, j1, j2, j3, j4, q _⟩
end
end Bh
namespace Bh
open PySem PySem.Spec PyProof.Rows L2
section
variable {P : Program} {w : World} {K : PySem.W.Frag} {mg : Str → Option Value} {base : Heap}
def sp_law (K : PySem.W.Frag) : Sp := fun vs H Q _ => ∃ (s : Addr) (ns : List Int), vs = [.ref s] ∧ SqL K H s (ns.map V.int) ∧ ns.length ≤ 1000 ∧ ∀ H', Q (.bl true) H'
theorem sc_law : FnScope ["_law_script", "_law_state", "_law_turn", "_law_lots_here", "_law_sums_so", "_law_step_here", "_law_more"] ["_law_script"] (defScope (topS 81)) := ⟨rfl, rfl, rfl, by decide +kernel, rfl, by decide +kernel, by decide +kernel⟩
theorem fn_okG {x : Str} {st : Stmt} {N ps : List Str} {k : Nat} {sp : Sp} {f : Addr} {fd : FuncData} (F : FunD K x x (defArgs st) (defBody st) (defScope st) [] [] f fd) (S : FnScope N ps (defScope st)) (len : ∀ vs H Q E, sp vs H Q E → vs.length = ps.length)
    (hbody : ∀ (f : Addr) (cdv : Value) (A : Around) (outer : List Env) (s : Shared) (H : Hp) (vs : List V) (Q : VK) (E : XK), Room k (A.deeper (envOfC x (defScope st) s.heap.objs.size f cdv)) → A.guards = some [] → sp vs H Q E →
      ∃ t, PSs (cxOf CX0 P w K mg base N x (defScope st) f cdv A outer s H E).nox (defBody st) t ∧ t { nx := fun _ H' => Q .non H', rt := Q } (start N vs) H) : FnG P w K mg base (k + 1) f fd ps sp :=
  fn_ofG F S len fun cdv A outer s H vs Q E hr hg hsp => by
    obtain ⟨t, h, q⟩ := hbody f cdv A outer s H vs Q E hr hg hsp
    exact ⟨t, h.nox, q⟩
theorem ok_law {f0 : Addr} {fd : FuncData} (fr : Free mg) (F : FunD K "law" "law" (defArgs (topS 81)) (defBody (topS 81)) (defScope (topS 81)) [] [] f0 fd) (d__law_begin : OkD P w K mg base 1 "_law_begin" ["_law_script"] (sp_begin K)) (d__law_lots : OkD P w K mg base 3 "_law_lots" ["_law_state"] (sp_lots K)) (d__law_draw : OkD P w K mg base 2 "_law_draw" ["_law_state", "_law_limit"] sp_draw)
    (d__law_sum : OkD P w K mg base 3 "_law_sum" ["_law_state", "_law_lots_here"] (sp_lsum K)) (d__law_answer_right : OkG P w K mg base 9 "_law_answer_right" ["_law_state", "_law_lots_here", "_law_sums_so"] (sp_answer K)) (d__law_barred : OkD P w K mg base 3 "_law_barred" ["_law_state", "_law_lots_here", "_law_sums_so"] (sp_barred K))
    (d__law_by_hand : OkG P w K mg base 9 "_law_by_hand" [] sp_hand) : FnG P w K mg base 10 f0 fd ["_law_script"] (sp_law K) := by
  refine fn_okG F sc_law (fun vs H Q E h => ?_) (fun f cdv A outer s H vs Q E hr hgd h => ?_)
  · obtain ⟨s, ns, rfl, _⟩ := h; rfl
  · obtain ⟨sa0, ns, rfl, hs, hl, q⟩ := h
    refine ⟨_, (pss_cons (ps_set (i := 1) sc_law.nd rfl (by first | exact .inl rfl | exact .inr rfl) (pe_callD d__law_begin (hr.mono (by decide)) (by rfl) (pa_cons (pv 0) pa_nil)))
 (pss_cons (ps_for PassesOwn.never rfl (pi_range1 (by rfl) fr.range (pa_cons pe_int pa_nil)) (pg_name (i := 2) sc_law.nd rfl (by first | exact .inl rfl | exact .inr rfl)) (pss_cons (ps_set (i := 3) sc_law.nd rfl (by first | exact .inl rfl | exact .inr rfl) (pe_callD d__law_lots (hr.mono (by decide)) (by rfl) (pa_cons (pv 1) pa_nil)))
 (pss_cons (ps_set (i := 4) sc_law.nd rfl (by first | exact .inl rfl | exact .inr rfl) (pe_callTy (cr_tupK (K := K)) (by rfl) fr.tuple (by decide +kernel) (pa_cons (pe_lc (own := [("_law_step_here", 5)]) rfl sc_law.nd (pi_range1 (by rfl) fr.range (pa_cons (pe_callD d__law_draw (hr.mono (by decide)) (by rfl) (pa_cons (pv 1) (pa_cons pe_int pa_nil))) pa_nil)) (blkOk_by (by kernel_rfl)) (fun _ _ _ _ _ => (pg_name (i := 5) sc_law.nd rfl (by first | exact .inl rfl | exact .inr rfl))) (fun _ _ _ _ _ => pts_nil) (fun _ _ _ _ _ => (pe_callD d__law_sum (hr.mono (by decide)) (by rfl) (pa_cons (pv 1) (pa_cons (pv 3) pa_nil))))) pa_nil)))
 (pss_cons (ps_if (pt_not (pt_val (pe_callDG d__law_answer_right (hr.mono (by decide)) hgd (by rfl) (pa_cons (pv 1) (pa_cons (pv 3) (pa_cons (pv 4) pa_nil)))))) (pss_one (ps_ret pe_bl)) pss_nil)
 (pss_cons (ps_set (i := 6) sc_law.nd rfl (by first | exact .inl rfl | exact .inr rfl) (pe_callD d__law_barred (hr.mono (by decide)) (by rfl) (pa_cons (pv 1) (pa_cons (pv 3) (pa_cons (pv 4) pa_nil)))))
 (pss_one (ps_if (PW.pt (pw_and (pt_cmp (pc_notN (pv 6))) (pw_and1 (pt_not (pt_val (pe_callDG d__law_answer_right (hr.mono (by decide)) hgd (by rfl) (pa_cons (pv 1) (pa_cons (pv 3) (pa_cons (pv 6) pa_nil))))))))) (pss_one (ps_ret pe_bl)) pss_nil)))))))
 (pss_one (ps_ret (pe_callDG0 d__law_by_hand (hr.mono (by decide)) hgd (by rfl)))))), ?_⟩
    refine ⟨_, rfl, sa0, ns, rfl, hs, hl, fun d a b H1 s1 hD hd0 hb0 => ?_⟩
    refine ⟨3, rfl, by decide, by decide, ?_⟩
    refine for_it (walk_range (lo := 0)) (fun i σ H' => ∃ m y2 y3 y4 y6, σ = [some (.ref sa0), some (.ref d), y2, y3, y4, none, y6] ∧ DS H' d a b m ∧ m ≤ 300 * i)
      ⟨0, none, none, none, none, rfl, hD, by omega⟩ (fun _ _ _ _ _ => trivial) (fun i x σ H2 H2' hi p y => ?_) (fun σ H' p => ?_)
    · obtain ⟨m, y2, y3, y4, y6, rfl, hDm, hm⟩ := p
      obtain ⟨rfl, rfl⟩ := y
      have hi3 : i < 3 := hi
      refine ⟨_, rfl, d, a, b, m, rfl, hDm, by omega, fun sz lp m1 H3 hz h1 hm1 hD3 f3 hlp => ?_⟩
      refine ⟨_, rfl, d, a, b, m1, 7, rfl, hD3, by omega, by decide, by decide, fun r H4 hr4 hD4 f4 => ?_⟩
      have hlp4 := hlp.kp (hD3.kpf f4)
      refine ⟨_, rfl, by omega, by omega, fun D hDn => ?_⟩
      have hoff := hD4.off hDn
      have hoa := hD4.offa hDn
      refine lc_draw (walk_range (lo := 0)) (by rw [Int.toNat_natCast]; omega) hDn hoff (fun _ _ => trivial) (fun i acc H' => ∃ (T : Sums) (m2 : Nat), A2 (SumV K H') acc T ∧ T.length = i ∧ (∀ s ∈ T, SumOk sz s ∧ SmallS s) ∧ DS H' d a b m2 ∧ m2 ≤ m1 + 1 + 30 * i) (fun i acc H' ys zs e p => ?_) ⟨[], m1 + 1, A2.nil, rfl, (fun s h => nomatch h), hD4.same (same_new hDn), by omega⟩ (fun j x H5 H6 acc C N hj f5 eD p y cC cN => ?_) (fun acc H5 f5 e l p => ?_)
      · obtain ⟨T, m2, g1, g2, g3, g4, g5⟩ := p
        exact ⟨T, m2, g1.mono fun v s h => h.kp (kp_lst e), g2, g3, g4.upd e ⟨hoff.2, hoa⟩, g5⟩
      · obtain ⟨T, m2, g1, g2, g3, g4, g5⟩ := p
        obtain ⟨rfl, rfl⟩ := y
        rw [Int.toNat_natCast] at hj
        refine ⟨rfl, yesT ⟨_, rfl, _, rfl, d, a, b, lp, m2, sz, rfl, g4, by omega, hlp4.kp (hD4.kpf f5), hz, fun s x m3 H7 hs hsm hm3 hD7 f7 hx => cC _ _ f7 ⟨T ++ [s], m3, (g1.mono fun v s h => h.kp (g4.kpf f7)).snoc hx, ?_, fun u hu => ?_, hD7, by omega⟩⟩⟩
        · rw [List.length_append, g2]; rfl
        · rcases List.mem_append.mp hu with hu | hu
          · exact g3 u hu
          · rw [List.mem_singleton] at hu
            subst hu
            exact ⟨hs, hsm⟩
      · obtain ⟨T, m2, g1, g2, g3, g4, g5⟩ := p
        rw [Int.toNat_natCast] at g2 g5
        have hlp5 := hlp4.kp (hD4.kpf f5)
        refine ⟨D, true, _, rfl, lstA e, fun _ tp ot htp hot => ?_, fun z => nomatch z⟩
        obtain ⟨u1, u2, u3⟩ := frz_new (K := K) (xs := acc) htp hot
        have hT : ToldV K _ tp T := ⟨acc, u2, g1.mono fun v s h => h.kp (skp u1)⟩
        have hD6 := g4.same u1
        have hlp6 := hlp5.kp (skp u1)
        have hok : ∀ s ∈ T, SumOk sz s := fun s h => (g3 s h).1
        have hsm : Small T := fun s h => (g3 s h).2
        revert hT hD6 hlp6
        generalize (upd H5 tp (.frz ot (.tup acc))) = H6
        intro hT hD6 hlp6
        refine ⟨_, rfl, _, rfl, _, rfl, d, a, b, m2, .ref lp, sz, tp, T, rfl, hD6, by omega, hlp6, hz, hT, hok, hsm, by omega, fun m3 H7 hm3 hD7 f7 => ⟨true, rfl, iteF ?_⟩⟩
        have k7 := hD6.kpf f7
        have hlp7 := hlp6.kp k7
        have hT7 := hT.kp k7
        refine ⟨_, rfl, _, rfl, _, rfl, d, a, b, m3, .ref lp, sz, tp, T, rfl, hD7, by omega, hlp7, hz, h1, hT7, hok, by omega, fun H8 s8 => ?_, fun tq u H8 hD8 f8 hT8 hu1 hu2 => ?_⟩
        · refine ⟨_, rfl, _, rfl, ?_⟩
          rw [decide_eq_true rfl]
          exact iteF (iteF ⟨m3, _, _, _, _, rfl, hD7.same s8, by omega⟩)
        · have k8 := hD7.kpf f8
          refine ⟨_, rfl, _, rfl, ?_⟩
          rw [decide_eq_false (fun z => by cases z)]
          refine iteT ⟨_, rfl, _, rfl, _, rfl, d, a, b, m3 + 1, .ref lp, sz, tq, T ++ [u], rfl, hD8, by omega, hlp7.kp k8, hz, hT8, fun s hs => ?_, fun s hs => ?_, by rw [List.length_append]; show T.length + 1 ≤ 7; omega, fun m4 H9 hm4 hD9 f9 => ⟨true, rfl, iteF ⟨m4, _, _, _, _, rfl, hD9, by omega⟩⟩⟩
          · rcases List.mem_append.mp hs with hs | hs
            · exact hok s hs
            · rw [List.mem_singleton] at hs
              subst hs
              exact hu1
          · rcases List.mem_append.mp hs with hs | hs
            · exact hsm s hs
            · rw [List.mem_singleton] at hs
              subst hs
              exact hu2
    · obtain ⟨m, y2, y3, y4, y6, rfl, hDm, hm⟩ := p
      exact ⟨rfl, fun H' => q H'⟩
end
end Bh
set_option maxHeartbeats 0
namespace Bh
open PySem PySem.Spec PyProof.Rows L2
/-! ### the head: the text by places, the facts, the run -/
abbrev rw_ : PySem.W.OpenLaw := PySem.Challenge.rw_besthours_k37_whole_least_rows_or_proofs
def dd (x : Str) (i : Nat) : He.DefD := ⟨(x, none), x, x, defArgs (topS i), defBody (topS i), defScope (topS i), [], []⟩
def fnT0 : List (Str × Nat) := [("is_whole", 8), ("is_from", 9), ("check_sizes", 10), ("is_weights", 11), ("is_terms", 12), ("is_sum", 13), ("form_so", 15), ("added_so", 17), ("up_so", 18), ("divided_so", 19), ("capped_so", 20), ("is_raise", 21), ("raised_so", 22), ("is_ahead", 23), ("pairs_so", 24), ("made_so", 25), ("step_sum", 26), ("walk_steps", 27), ("steps_sums", 28), ("check_sums", 31), ("is_pair", 32), ("check_fixed", 33), ("check_problem", 34), ("values_of", 35), ("bits_of", 36), ("bits_above", 37), ("top_of", 38), ("first_sets", 39), ("begun", 40), ("narrow", 41)]
def fnT1 : List (Str × Nat) := [("tops_of", 42), ("look", 43), ("put_step", 44), ("place_of", 45), ("clause_of_sum", 46), ("cut_at", 47), ("sum_of_clause", 48), ("learn", 49), ("reason_clause", 50), ("turn_back", 51), ("decide", 52), ("advance", 53), ("search_under", 54), ("search", 55), ("is_refuted", 56), ("_law_mixed", 58), ("_law_begin", 59), ("_law_draw", 60), ("_law_form", 61), ("_law_added", 62), ("_law_weight", 63), ("_law_rows", 64), ("_law_like", 65), ("_law_lots", 66), ("_law_sum", 67), ("_law_lets", 68), ("_law_within", 69), ("_law_keeping", 70), ("_law_tops", 71), ("_law_int", 72)]
def fnT2 : List (Str × Nat) := [("_law_ahead", 73), ("_law_raised", 74), ("_law_step", 75), ("_law_sums_of", 76), ("_law_refutes", 77), ("_law_answer_right", 78), ("_law_barred", 79), ("_law_by_hand", 80), ("law", 81)]
def fnT : List (Str × Nat) := fnT0 ++ fnT1 ++ fnT2
def fn : List He.DefD := fnT.map fun p => dd p.1 p.2
def freeT : List Str := ["bool", "dict", "enumerate", "int", "isinstance", "len", "list", "max", "min", "range", "repr", "set", "sorted", "str", "sum", "tuple", "zip"]
def fa : List He.Fa := fnT.map (fun p => .glo p.1) ++ freeT.map (fun x => .free x) ++ [.int "MOST_CHOICES" 100, .int "MOST_VALUES" 200, .int "MOST_SUMS" 40000]
def names0 : List Str := ["HourError", "BadSum", "BadParameter", "MOST_CHOICES", "MOST_VALUES", "NOTHING", "MOST_SUMS", "is_whole", "is_from", "check_sizes", "is_weights", "is_terms", "is_sum", "is_set", "form_so", "added_so", "up_so", "divided_so", "capped_so", "is_raise", "raised_so", "is_ahead", "pairs_so", "made_so", "step_sum", "walk_steps", "steps_sums", "check_sums", "is_pair", "check_fixed"]
def names1 : List Str := ["check_problem", "values_of", "bits_of", "bits_above", "top_of", "first_sets", "begun", "narrow", "tops_of", "look", "put_step", "place_of", "clause_of_sum", "cut_at", "sum_of_clause", "learn", "reason_clause", "turn_back", "decide", "advance", "search_under", "search", "is_refuted", "_law_mixed", "_law_begin", "_law_draw", "_law_form", "_law_added", "_law_weight", "_law_rows"]
def names2 : List Str := ["_law_like", "_law_lots", "_law_sum", "_law_lets", "_law_within", "_law_keeping", "_law_tops", "_law_int", "_law_ahead", "_law_raised", "_law_step", "_law_sums_of", "_law_refutes", "_law_answer_right", "_law_barred", "_law_by_hand"]
def names : List Str := names0 ++ names1 ++ names2
/-- NOTHING is ((), 0) -/
def nEmp (K : PySem.W.Frag) : Addr := match K.lookup (He.ga K "NOTHING") with
  | some ⟨_, _, .seq its _, _⟩ => (match its.toList with
    | .ref a :: _ => a
    | _ => 0)
  | _ => 0
def isTupB (K : PySem.W.Frag) (a : Addr) (vs : List V) : Bool := match K.lookup a with
  | some ⟨.type c, none, .seq its _, _⟩ => decide (c = "tuple") && (decide (its.size ≤ 1000) && He.relAll vs its.toList)
  | _ => false
def exN (K : PySem.W.Frag) : Bool := (He.Fa.glo "NOTHING").ok K && (isTupB K (He.ga K "NOTHING") [.ref (nEmp K), .int 0] && isTupB K (nEmp K) [])
abbrev hk : PySem.W.Hook := He.hookX 4 fa fn [] [] exN
def ob (s : PySem.W.SharedT) : He.AlX := He.obsX 4 fa fn [] [] exN (HandSHeadRun.getT s)
theorem ob_eq (s : PySem.W.SharedT) : ob s = hk.obs s.abs := He.obsX_eq (HandSHeadRun.getT_eq s)
abbrev R : PySem.W.OpenRow := PySem.W.OpenLaw.row rw_
theorem run (w : World) : HandSHeadRun.RunEq R (PySem.W.view R.prog [81]) hk ob 4000 names w := by
  intro os
  kernel_rfl
end Bh
namespace Bh
open PySem PySem.Spec PyProof.Rows L2
section
variable {w : World} {K : PySem.W.Frag} {h : Heap} {mg : Str → Option Value}
theorem def_at (X : K.In h) (G : h.Ns mainGlobals mg) (c : He.SaysD fa fn K) {x : Str} {i : Nat} (hm : (x, i) ∈ fnT) : DefAt K mg x (topS i) := by
  obtain ⟨fd, F⟩ := c.defs (d := dd x i) (List.mem_map.mpr ⟨(x, i), hm, rfl⟩)
  exact ⟨_, fd, He.glo_ok X G (c.facts (f := .glo x) (List.mem_append_left _ (List.mem_append_left _ (List.mem_map.mpr ⟨(x, i), hm, rfl⟩)))), F⟩
theorem free_at (X : K.In h) (G : h.Ns mainGlobals mg) (c : He.SaysD fa fn K) {x : Str} (hm : x ∈ freeT) : mg x = none :=
  He.free_ok X G (c.facts (f := .free x) (List.mem_append_left _ (List.mem_append_right _ (List.mem_map.mpr ⟨x, hm, rfl⟩))))
theorem int_at (X : K.In h) (G : h.Ns mainGlobals mg) (c : He.SaysD fa fn K) {x : Str} {i : Int} (hm : He.Fa.int x i ∈ [He.Fa.int "MOST_CHOICES" 100, .int "MOST_VALUES" 200, .int "MOST_SUMS" 40000]) : ∃ t, mg x = some (.int i t) :=
  He.int_ok X G (c.facts (f := .int x i) (List.mem_append_right _ hm))
theorem free_all (X : K.In h) (G : h.Ns mainGlobals mg) (c : He.SaysD fa fn K) : Free mg := by
  refine ⟨free_at X G c (x := "bool") (by decide +kernel), free_at X G c (x := "dict") (by decide +kernel), free_at X G c (x := "enumerate") (by decide +kernel), free_at X G c (x := "int") (by decide +kernel), free_at X G c (x := "isinstance") (by decide +kernel), free_at X G c (x := "len") (by decide +kernel), free_at X G c (x := "list") (by decide +kernel), free_at X G c (x := "max") (by decide +kernel), free_at X G c (x := "min") (by decide +kernel), free_at X G c (x := "range") (by decide +kernel), free_at X G c (x := "repr") (by decide +kernel), free_at X G c (x := "set") (by decide +kernel), free_at X G c (x := "sorted") (by decide +kernel), free_at X G c (x := "str") (by decide +kernel), free_at X G c (x := "sum") (by decide +kernel), free_at X G c (x := "tuple") (by decide +kernel), free_at X G c (x := "zip") (by decide +kernel), int_at X G c ?_, int_at X G c ?_, int_at X G c ?_⟩
  · exact List.mem_cons_self
  · exact List.mem_cons_of_mem _ List.mem_cons_self
  · exact List.mem_cons_of_mem _ (List.mem_cons_of_mem _ List.mem_cons_self)
theorem isTupB_ok {a : Addr} {vs : List V} (e : isTupB K a vs = true) : (∀ H : Hp, SqT K H a vs) ∧ ∀ H : Hp, PlT K H a := by
  unfold isTupB at e
  cases q : K.lookup a with
  | none =>
    rw [q] at e
    cases e
  | some o =>
    obtain ⟨oc, od, dt, osl⟩ := o
    rw [q] at e
    cases oc with
    | type c =>
      cases od with
      | none =>
        cases dt with
        | seq its n =>
          obtain ⟨h1, h2⟩ := He.ba (show (decide (c = "tuple") && (decide (its.size ≤ 1000) && He.relAll vs its.toList)) = true from e)
          obtain ⟨h3, h4⟩ := He.ba h2
          exact ⟨fun H => .inr ⟨_, its, n, q, congrArg Value.type (of_decide_eq_true h1), rfl, Nat.le_trans (of_decide_eq_true h3) (by rw [sizeLine_eq]; decide), He.relAll_ok h4⟩, fun H => .inr ⟨_, q, rfl⟩⟩
        | _ => cases e
      | some b => cases dt <;> cases e
    | _ => cases od <;> cases dt <;> cases e
theorem nothing_at (X : K.In h) (G : h.Ns mainGlobals mg) (e : exN K = true) : ∃ aN : Addr, mg "NOTHING" = some (.ref aN) ∧ ∀ H, SumV K H (.ref aN) ([], 0) := by
  obtain ⟨h1, h2⟩ := He.ba (show ((He.Fa.glo "NOTHING").ok K && (isTupB K (He.ga K "NOTHING") [.ref (nEmp K), .int 0] && isTupB K (nEmp K) [])) = true from e)
  obtain ⟨h3, h4⟩ := He.ba h2
  exact ⟨_, He.glo_ok X G h1, fun H => ⟨_, nEmp K, rfl, (isTupB_ok h3).1 H, (isTupB_ok h4).2 H, .tup ((isTupB_ok h4).1 H) .nil⟩⟩
theorem all_ok {P : Program} {base : Heap} {f0 : Addr} {fd : FuncData} (X : K.In h) (G : h.Ns mainGlobals mg) (c : He.SaysD fa fn K) (e : exN K = true) (F : FunD K "law" "law" (defArgs (topS 81)) (defBody (topS 81)) (defScope (topS 81)) [] [] f0 fd) : FnG P w K mg base 10 f0 fd ["_law_script"] (sp_law K) := by
  obtain ⟨aN, gN, pN⟩ := nothing_at X G e
  have fr := free_all X G c
  have d__law_begin : OkD P w K mg base 1 "_law_begin" ["_law_script"] (sp_begin K) := ok_begin fr (def_at X G c (x := "_law_begin") (i := 59) (by decide +kernel))
  have d__law_mixed : OkD P w K mg base 1 "_law_mixed" ["_law_cell", "_law_k"] sp_mixed := ok_mixed fr (def_at X G c (x := "_law_mixed") (i := 58) (by decide +kernel))
  have d__law_draw : OkD P w K mg base 2 "_law_draw" ["_law_state", "_law_limit"] sp_draw := ok_draw fr (def_at X G c (x := "_law_draw") (i := 60) (by decide +kernel)) d__law_mixed
  have d__law_lots : OkD P w K mg base 3 "_law_lots" ["_law_state"] (sp_lots K) := ok_lots fr (def_at X G c (x := "_law_lots") (i := 66) (by decide +kernel)) d__law_draw
  have d__law_form : OkD P w K mg base 1 "_law_form" ["_law_terms_so", "_law_bound_so"] (sp_form_so K) := ok_law_form fr (def_at X G c (x := "_law_form") (i := 61) (by decide +kernel))
  have d__law_sum : OkD P w K mg base 3 "_law_sum" ["_law_state", "_law_lots_here"] (sp_lsum K) := ok_lsum fr (def_at X G c (x := "_law_sum") (i := 67) (by decide +kernel)) d__law_draw d__law_form
  have d__law_lets : OkD P w K mg base 1 "_law_lets" ["_law_lots_here", "_law_fixed_so"] (sp_lets K) := ok_lets fr (def_at X G c (x := "_law_lets") (i := 68) (by decide +kernel))
  have d__law_rows : OkD P w K mg base 1 "_law_rows" ["_law_sizes_so"] (sp_rows K) := ok_rows fr (def_at X G c (x := "_law_rows") (i := 64) (by decide +kernel))
  have d__law_within : OkD P w K mg base 1 "_law_within" ["_law_lets_so", "_law_row_so"] (sp_within K) := ok_within fr (def_at X G c (x := "_law_within") (i := 69) (by decide +kernel))
  have d__law_weight : OkD P w K mg base 1 "_law_weight" ["_law_told", "_law_row_so"] (sp_weight K) := ok_weight fr (def_at X G c (x := "_law_weight") (i := 63) (by decide +kernel))
  have d__law_keeping : OkD P w K mg base 2 "_law_keeping" ["_law_lots_here", "_law_sums_so", "_law_lets_so"] (sp_keeping K) := ok_keeping fr (def_at X G c (x := "_law_keeping") (i := 70) (by decide +kernel)) d__law_rows d__law_within d__law_weight
  have d_is_whole : OkD P w K mg base 1 "is_whole" ["value"] sp_is_whole := ok_is_whole fr (def_at X G c (x := "is_whole") (i := 8) (by decide +kernel))
  have d_is_from : OkD P w K mg base 2 "is_from" ["value", "low", "high"] sp_is_from := ok_is_from fr (def_at X G c (x := "is_from") (i := 9) (by decide +kernel)) d_is_whole
  have d_check_sizes : OkD P w K mg base 3 "check_sizes" ["value"] (sp_check_sizes K) := ok_check_sizes fr (def_at X G c (x := "check_sizes") (i := 10) (by decide +kernel)) d_is_from
  have d_is_weights : OkD P w K mg base 2 "is_weights" ["value", "size"] (sp_is_weights K) := ok_is_weights fr (def_at X G c (x := "is_weights") (i := 11) (by decide +kernel)) d_is_whole
  have d_is_terms : OkD P w K mg base 3 "is_terms" ["sizes", "value"] (sp_is_terms K) := ok_is_terms fr (def_at X G c (x := "is_terms") (i := 12) (by decide +kernel)) d_is_from d_is_weights
  have d_is_sum : OkD P w K mg base 4 "is_sum" ["sizes", "value"] (sp_is_sum K) := ok_is_sum fr gN pN (def_at X G c (x := "is_sum") (i := 13) (by decide +kernel)) d_is_whole d_is_terms
  have d_check_sums : OkD P w K mg base 5 "check_sums" ["sizes", "value"] (sp_check_sums K) := ok_check_sums fr (def_at X G c (x := "check_sums") (i := 31) (by decide +kernel)) d_is_sum
  have d_is_pair : OkD P w K mg base 1 "is_pair" ["sizes", "value"] (fun _ _ _ _ => False) := ok_is_pair (def_at X G c (x := "is_pair") (i := 32) (by decide +kernel))
  have d_check_fixed : OkD P w K mg base 2 "check_fixed" ["sizes", "value"] (sp_check_fixed K) := ok_check_fixed fr (def_at X G c (x := "check_fixed") (i := 33) (by decide +kernel)) d_is_pair
  have d_check_problem : OkD P w K mg base 6 "check_problem" ["sizes", "sums", "fixed"] (sp_check_problem K) := ok_check_problem fr (def_at X G c (x := "check_problem") (i := 34) (by decide +kernel)) d_check_sizes d_check_sums d_check_fixed
  have d_bits_of : OkD P w K mg base 1 "bits_of" ["values"] (sp_bits_of K) := ok_bits_of fr (def_at X G c (x := "bits_of") (i := 36) (by decide +kernel))
  have d_first_sets : OkD P w K mg base 2 "first_sets" ["sizes", "fixed"] (sp_first_sets K) := ok_first_sets fr (def_at X G c (x := "first_sets") (i := 39) (by decide +kernel)) d_bits_of
  have d_begun : OkD P w K mg base 3 "begun" ["sizes", "sums", "fixed"] (sp_begun K) := ok_begun fr (def_at X G c (x := "begun") (i := 40) (by decide +kernel)) d_first_sets
  have d_values_of : OkD P w K mg base 1 "values_of" ["bits"] (sp_values_of K) := ok_values_of fr (def_at X G c (x := "values_of") (i := 35) (by decide +kernel))
  have d_top_of : OkD P w K mg base 2 "top_of" ["weights", "bits"] (sp_top_of K) := ok_top_of fr (def_at X G c (x := "top_of") (i := 38) (by decide +kernel)) d_values_of
  have d_tops_of : OkD P w K mg base 3 "tops_of" ["state", "number"] (sp_tops_of K) := ok_tops_of fr (def_at X G c (x := "tops_of") (i := 42) (by decide +kernel)) d_top_of
  have d_bits_above : OkD P w K mg base 2 "bits_above" ["weights", "low"] (sp_bits_above K) := ok_bits_above fr (def_at X G c (x := "bits_above") (i := 37) (by decide +kernel)) d_bits_of
  have d_narrow : OkD P w K mg base 1 "narrow" ["state", "choice", "bits", "reason"] (sp_narrow K) := ok_narrow fr (def_at X G c (x := "narrow") (i := 41) (by decide +kernel))
  have d_look : OkD P w K mg base 4 "look" ["state", "number"] (sp_look K) := ok_look fr (def_at X G c (x := "look") (i := 43) (by decide +kernel)) d_tops_of d_bits_above d_narrow
  have d_put_step : OkD P w K mg base 1 "put_step" ["state", "step"] (sp_put_step K) := ok_put_step fr (def_at X G c (x := "put_step") (i := 44) (by decide +kernel))
  have d_place_of : OkD P w K mg base 2 "place_of" ["state", "number"] (sp_place_of K) := ok_place_of fr (def_at X G c (x := "place_of") (i := 45) (by decide +kernel)) d_put_step
  have d_clause_of_sum : OkD P w K mg base 3 "clause_of_sum" ["state", "number", "tops"] (sp_clause_of_sum K) := ok_clause_of_sum fr (def_at X G c (x := "clause_of_sum") (i := 46) (by decide +kernel)) d_place_of d_put_step d_bits_above
  have d_sum_of_clause : OkD P w K mg base 1 "sum_of_clause" ["state", "clause"] (sp_sum_of_clause K) := ok_sum_of_clause fr (def_at X G c (x := "sum_of_clause") (i := 48) (by decide +kernel))
  have d_learn : OkD P w K mg base 2 "learn" ["state", "place", "clause", "choice"] (sp_learn K) := ok_learn fr (def_at X G c (x := "learn") (i := 49) (by decide +kernel)) d_sum_of_clause d_narrow
  have d_reason_clause : OkD P w K mg base 4 "reason_clause" ["state", "number", "choice", "gone"] (sp_reason_clause K) := ok_reason_clause fr (def_at X G c (x := "reason_clause") (i := 50) (by decide +kernel)) d_tops_of d_top_of d_clause_of_sum
  have d_cut_at : OkD P w K mg base 2 "cut_at" ["state", "near", "far", "choice"] (sp_cut_at K) := ok_cut_at fr (def_at X G c (x := "cut_at") (i := 47) (by decide +kernel)) d_put_step
  have d_turn_back : OkD P w K mg base 5 "turn_back" ["state", "number"] (sp_turn_back K) := ok_turn_back fr (def_at X G c (x := "turn_back") (i := 51) (by decide +kernel)) d_tops_of d_clause_of_sum d_learn d_reason_clause d_cut_at d_put_step
  have d_decide : OkD P w K mg base 2 "decide" ["state"] (sp_decide K) := ok_decide fr (def_at X G c (x := "decide") (i := 52) (by decide +kernel)) d_narrow d_values_of
  have d_advance : OkD P w K mg base 6 "advance" ["state"] (sp_advance K) := ok_advance fr (def_at X G c (x := "advance") (i := 53) (by decide +kernel)) d_look d_turn_back d_decide
  have d_search_under : OkD P w K mg base 7 "search_under" ["sizes", "sums", "fixed"] (sp_search_under K) := ok_search_under fr (def_at X G c (x := "search_under") (i := 54) (by decide +kernel)) d_check_problem d_begun d_advance
  have d_search : OkD P w K mg base 8 "search" ["sizes", "sums"] (sp_search K) := ok_search fr (def_at X G c (x := "search") (i := 55) (by decide +kernel)) d_search_under
  have d__law_like : OkG P w K mg base 1 "_law_like" ["_law_got", "_law_due"] (sp_like K) := ok_like fr (def_at X G c (x := "_law_like") (i := 65) (by decide +kernel))
  have d__law_int : OkD P w K mg base 1 "_law_int" ["_law_worth", "_law_low"] sp_int := ok_int fr (def_at X G c (x := "_law_int") (i := 72) (by decide +kernel))
  have d__law_ahead : OkD P w K mg base 2 "_law_ahead" ["_law_worth", "_law_many_so"] sp_lahead := ok_lahead fr (def_at X G c (x := "_law_ahead") (i := 73) (by decide +kernel)) d__law_int
  have d__law_added : OkD P w K mg base 2 "_law_added" ["_law_pairs_so"] (sp_added_so K) := ok_law_added fr (def_at X G c (x := "_law_added") (i := 62) (by decide +kernel)) d__law_form
  have d__law_raised : OkD P w K mg base 2 "_law_raised" ["_law_lots_here", "_law_told", "_law_terms_so"] (sp_lraised K) := ok_lraised fr (def_at X G c (x := "_law_raised") (i := 74) (by decide +kernel)) d__law_int d__law_form
  have d__law_step : OkD P w K mg base 3 "_law_step" ["_law_lots_here", "_law_sums_so", "_law_ahead_here", "_law_step_so"] (sp_lstep K) := ok_lstep fr (def_at X G c (x := "_law_step") (i := 75) (by decide +kernel)) d__law_int d__law_ahead d__law_added d__law_form d__law_raised
  have d__law_sums_of : OkD P w K mg base 4 "_law_sums_of" ["_law_lots_here", "_law_sums_so", "_law_steps_so"] (sp_lsums K) := ok_lsums fr (def_at X G c (x := "_law_sums_of") (i := 76) (by decide +kernel)) d__law_step
  have d__law_tops : OkD P w K mg base 1 "_law_tops" ["_law_told", "_law_lets_so"] (sp_tops K) := ok_tops fr (def_at X G c (x := "_law_tops") (i := 71) (by decide +kernel))
  have d__law_refutes : OkD P w K mg base 5 "_law_refutes" ["_law_lots_here", "_law_sums_so", "_law_lets_so", "_law_steps_so"] (sp_lrefutes K) := ok_lrefutes fr (def_at X G c (x := "_law_refutes") (i := 77) (by decide +kernel)) d__law_sums_of d__law_tops
  have d_is_ahead : OkD P w K mg base 2 "is_ahead" ["value", "many"] sp_is_ahead := ok_is_ahead fr (def_at X G c (x := "is_ahead") (i := 23) (by decide +kernel)) d_is_whole
  have d_pairs_so : OkD P w K mg base 3 "pairs_so" ["ahead", "value"] (sp_pairs_so K) := ok_pairs_so fr (def_at X G c (x := "pairs_so") (i := 24) (by decide +kernel)) d_is_whole d_is_ahead
  have d_form_so : OkD P w K mg base 1 "form_so" ["terms", "bound"] (sp_form_so K) := ok_form_so fr gN pN (def_at X G c (x := "form_so") (i := 15) (by decide +kernel))
  have d_added_so : OkD P w K mg base 2 "added_so" ["pairs"] (sp_added_so K) := ok_added_so fr (def_at X G c (x := "added_so") (i := 17) (by decide +kernel)) d_form_so
  have d_capped_so : OkD P w K mg base 2 "capped_so" ["one"] (sp_capped_so K) := ok_capped_so fr (def_at X G c (x := "capped_so") (i := 20) (by decide +kernel)) d_form_so
  have d_up_so : OkD P w K mg base 1 "up_so" ["number", "by"] sp_up_so := ok_up_so fr (def_at X G c (x := "up_so") (i := 18) (by decide +kernel))
  have d_divided_so : OkD P w K mg base 2 "divided_so" ["one", "by"] (sp_divided_so K) := ok_divided_so fr (def_at X G c (x := "divided_so") (i := 19) (by decide +kernel)) d_up_so d_form_so
  have d_is_raise : OkD P w K mg base 1 "is_raise" ["one", "terms"] (sp_is_raise K) := ok_is_raise fr (def_at X G c (x := "is_raise") (i := 21) (by decide +kernel))
  have d_raised_so : OkD P w K mg base 2 "raised_so" ["one", "terms"] (sp_raised_so K) := ok_raised_so fr (def_at X G c (x := "raised_so") (i := 22) (by decide +kernel)) d_form_so
  have d_made_so : OkD P w K mg base 4 "made_so" ["sizes", "ahead", "step"] (sp_made_so K) := ok_made_so fr (def_at X G c (x := "made_so") (i := 25) (by decide +kernel)) d_is_whole d_is_ahead d_pairs_so d_added_so d_capped_so d_divided_so d_is_terms d_is_raise d_raised_so
  have d_step_sum : OkD P w K mg base 5 "step_sum" ["sizes", "sums", "given", "ahead", "step"] (sp_step_sum K) := ok_step_sum fr (def_at X G c (x := "step_sum") (i := 26) (by decide +kernel)) d_is_ahead d_made_so
  have d_walk_steps : OkD P w K mg base 6 "walk_steps" ["sizes", "sums", "given", "steps"] (sp_walk_steps K) := ok_walk_steps fr (def_at X G c (x := "walk_steps") (i := 27) (by decide +kernel)) d_step_sum
  have d_steps_sums : OkD P w K mg base 7 "steps_sums" ["sizes", "sums", "given", "value"] (sp_steps_sums K) := ok_steps_sums fr (def_at X G c (x := "steps_sums") (i := 28) (by decide +kernel)) d_walk_steps
  have d_is_refuted : OkD P w K mg base 8 "is_refuted" ["sizes", "sums", "fixed", "value"] (sp_is_refuted K) := ok_is_refuted fr (def_at X G c (x := "is_refuted") (i := 56) (by decide +kernel)) d_check_problem d_steps_sums d_first_sets d_top_of
  have d__law_answer_right : OkG P w K mg base 9 "_law_answer_right" ["_law_state", "_law_lots_here", "_law_sums_so"] (sp_answer K) := ok_answer fr (def_at X G c (x := "_law_answer_right") (i := 78) (by decide +kernel)) d__law_lets d__law_keeping d_search d__law_like d__law_refutes d_is_refuted d__law_sums_of d__law_draw d__law_tops
  have d__law_barred : OkD P w K mg base 3 "_law_barred" ["_law_state", "_law_lots_here", "_law_sums_so"] (sp_barred K) := ok_barred fr (def_at X G c (x := "_law_barred") (i := 79) (by decide +kernel)) d__law_lets d__law_keeping d__law_draw d__law_form
  have d__law_by_hand : OkG P w K mg base 9 "_law_by_hand" [] sp_hand := ok_hand fr (def_at X G c (x := "_law_by_hand") (i := 80) (by decide +kernel)) d_search d__law_like d_is_refuted
  exact ok_law fr F d__law_begin d__law_lots d__law_draw d__law_sum d__law_answer_right d__law_barred d__law_by_hand
end
end Bh
open PySem PySem.W PySem.Calls PyProof.Rows
theorem PySem.Challenge.cw_besthours_k37_whole_least_rows_or_proofs_holds : PySem.Challenge.rw_besthours_k37_whole_least_rows_or_proofs.Holds := by
  w_on; o_law
  refine HandSHeadRun.head_any (r := OpenLaw.row PySem.Challenge.rw_besthours_k37_whole_least_rows_or_proofs) (q := view (OpenLaw.row PySem.Challenge.rw_besthours_k37_whole_least_rows_or_proofs).prog [81]) (H := Bh.hk) (ob := Bh.ob) (M := 4000) (loose := Bh.names) (d := HandSHeadRun.topDef (OpenLaw.row PySem.Challenge.rw_besthours_k37_whole_least_rows_or_proofs).prog 81) (kwd := []) Bh.ob_eq
    (by kernel_rfl) (fun s => by kernel_rfl) Bh.run (by kernel_rfl) (by kernel_rfl) (by kernel_rfl) (by rfl) (by first | assumption | decide +kernel) (by decide +kernel) ⟨rfl, rfl, rfl, rfl, rfl, by decide +kernel⟩ ?hw ?hc
  case hw => w_witness2
  case hc =>
    refine Bh.walk_ofG (l := PySem.Challenge.rw_besthours_k37_whole_least_rows_or_proofs) (n := 63) (k := 10) (x := "_law_script") rfl (by decide) (by kernel_rfl) ⟨rfl, by decide, by decide⟩ ?F
    intro w mg fa h Y G hmg0
    obtain ⟨K, KX, c⟩ := Y
    have hmg : mg ("law" : PySem.Str) = some (.ref fa) := by
      have e : (HandSHeadRun.topDef (OpenLaw.row PySem.Challenge.rw_besthours_k37_whole_least_rows_or_proofs).prog 81).name = ("law" : PySem.Str) := by kernel_rfl
      rw [← e]
      exact hmg0
    obtain ⟨f, fd, gf, F⟩ := Bh.def_at KX G c.t.d (x := "law") (i := 81) (by decide +kernel)
    have ef := gf.symm.trans hmg
    cases ef
    refine ⟨K, fd, Bh.sp_law K, KX, fun s u => L2.FunD.bindsA (ps := ["_law_script"]) F (fun _ _ _ _ _ _ us hl => match us, hl with | [_], _ => rfl) s [u] rfl, fun H a ns hl _ hS => ⟨a, ns, rfl, hS, Nat.le_trans hl (by decide), fun _ => rfl⟩, fun base KB GB => ?_⟩
    exact Bh.all_ok (P := (PySem.Challenge.rw_besthours_k37_whole_least_rows_or_proofs).prog) (w := w) (base := base) KX G c.t.d c.more F
