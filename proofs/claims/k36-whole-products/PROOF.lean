import PyProof.Rows.All
import Wide.All
import OpenK.AllK
import Wide.FinOn
import HandS.ForMost
import HandS.ForExc
import HandS.IsInst
import HandS.Property
import HandS.ExcField
import HandS.ExcInit
import HandS.TupLe
import HandS.Zip
import HandS.Wide
import HandS.Conv
import HandS.More
import HandS.Walk
import HandS.Deep
import HandS.EndBits
import KE.DataMinMax
import KE.GoesEnum
import KE.GoesRaise
import PySem.Challenge.RW_thinslopes_k36_whole_answers_are_the_pro
import HandS.ExcOwn
import HandS.WordsExc
import HandS.CallSlots
import HandS.Defaults
import PyProof.ReprLen
import PyProof.Rows.RegStrFacts
section
set_option Elab.async false
set_option linter.all false
set_option maxRecDepth 100000
set_option maxHeartbeats 4000000
/-! K36, ground: data in a part of the heap, how parts grow, calls in short. -/
namespace K36
open PySem PySem.Spec PyProof.Rows L2

/-! ### data: what kind it is -/
def isSeqD : PyData → Bool
  | .list _ => true
  | .tuple _ => true
  | _ => false
def tyN : PyData → String
  | .none => "NoneType"
  | .bool _ => "bool"
  | .int _ => "int"
  | .str _ => "str"
  | .list _ => "list"
  | .tuple _ => "tuple"
  | .dict _ => "dict"
def isS (t n : String) : Bool := t == n || (t == "bool" && n == "int")
abbrev isD (d : PyData) (n : String) : Bool := isS (tyN d) n
def kindsL : List String := ["NoneType", "bool", "int", "str", "list", "tuple", "dict"]
theorem tyN_mem (d : PyData) : tyN d ∈ kindsL := by cases d <;> simp [tyN, kindsL]
/-- told data, or some dict of ours -/
def Da (K : PySem.W.Frag) (H : Hp) (v : V) (d : PyData) : Prop :=
  Dp K H v d ∨ (d = .dict [] ∧ ∃ a kvs, v = .ref a ∧ H a = some (.dK kvs))

theorem rd_mono {H H' : Hp} {a : Addr} {u : HO} (e : Same H H') (h : Rd H a u) : Rd H' a u := by
  rcases h with h | ⟨o, h⟩
  · exact .inl (e _ _ h)
  · exact .inr ⟨o, e _ _ h⟩
theorem sql_mono {K : PySem.W.Frag} {H H' : Hp} {a : Addr} {xs : List V} (e : Same H H') (h : SqL K H a xs) : SqL K H' a xs := h.imp (rd_mono e) id
theorem sqt_mono {K : PySem.W.Frag} {H H' : Hp} {a : Addr} {xs : List V} (e : Same H H') (h : SqT K H a xs) : SqT K H' a xs := h.imp (rd_mono e) id

mutual
theorem dp_mono {K : PySem.W.Frag} {H H' : Hp} (e : Same H H') : ∀ {d : PyData} {v : V}, Dp K H v d → Dp K H' v d
  | .none, _, h => by cases h; exact .non
  | .bool b, _, h => by cases h; exact .bl b
  | .int i, _, h => by cases h; exact .int i
  | .str x, _, h => by cases h; exact .str x
  | .list ds, _, h => by
    cases h with
    | lst hs ha => exact .lst (sql_mono e hs) (dpAll_mono e ha)
  | .tuple ds, _, h => by
    cases h with
    | tup hs ha => exact .tup (sqt_mono e hs) (dpAll_mono e ha)
  | .dict _, _, h => nomatch h
theorem dpAll_mono {K : PySem.W.Frag} {H H' : Hp} (e : Same H H') : ∀ {ds : List PyData} {vs : List V}, DpAll K H vs ds → DpAll K H' vs ds
  | [], _, h => by cases h; exact .nil
  | d :: ds, _, h => by
    cases h with
    | cons h1 h2 => exact .cons (dp_mono e h1) (dpAll_mono e h2)
end
theorem da_mono {K : PySem.W.Frag} {H H' : Hp} (e : Same H H') {d : PyData} {v : V} (h : Da K H v d) : Da K H' v d := by
  rcases h with h | ⟨h, a, kvs, h1, h2⟩
  · exact .inl (dp_mono e h)
  · exact .inr ⟨h, a, kvs, h1, e _ _ h2⟩

section
variable {K : PySem.W.Frag} {H : Hp}
theorem dp_int {v : V} {i : Int} (h : Dp K H v (.int i)) : v = .int i := by cases h; rfl
theorem dp_str {v : V} {i : Str} (h : Dp K H v (.str i)) : v = .str i := by cases h; rfl
theorem dp_list {v : V} {ds : List PyData} (h : Dp K H v (.list ds)) : ∃ a xs, v = .ref a ∧ SqL K H a xs ∧ DpAll K H xs ds := by
  cases h with
  | lst hs ha => exact ⟨_, _, rfl, hs, ha⟩
theorem dp_tup {v : V} {ds : List PyData} (h : Dp K H v (.tuple ds)) : ∃ a xs, v = .ref a ∧ SqT K H a xs ∧ DpAll K H xs ds := by
  cases h with
  | tup hs ha => exact ⟨_, _, rfl, hs, ha⟩
theorem dpAll_len : ∀ {ds : List PyData} {xs : List V}, DpAll K H xs ds → xs.length = ds.length
  | [], _, h => by cases h; rfl
  | d :: ds, _, h => by
    cases h with
    | cons h1 h2 => exact congrArg (· + 1) (dpAll_len h2)
theorem dpAll_get : ∀ {ds : List PyData} {xs : List V}, DpAll K H xs ds → ∀ {i : Nat} {d : PyData}, ds[i]? = some d → ∃ x, xs[i]? = some x ∧ Dp K H x d
  | [], _, _, i, d, e => by simp at e
  | d :: ds, _, h, 0, d', e => by
    cases h with
    | cons h1 h2 =>
      have e' : d = d' := by simpa using e
      subst e'
      exact ⟨_, rfl, h1⟩
  | d :: ds, _, h, i + 1, d', e => by
    cases h with
    | cons h1 h2 =>
      obtain ⟨x, e1, e2⟩ := dpAll_get h2 (i := i) (d := d') (by simpa using e)
      exact ⟨x, by simpa using e1, e2⟩
/-- by the value's place -/
theorem dpAll_at : ∀ {ds : List PyData} {xs : List V}, DpAll K H xs ds → ∀ {i : Nat} {x : V}, xs[i]? = some x → ∃ d, ds[i]? = some d ∧ Dp K H x d
  | [], _, h, i, d, e => by cases h; simp at e
  | d :: ds, _, h, 0, x, e => by
    cases h with
    | cons h1 h2 =>
      have e' := Option.some.inj e
      subst e'
      exact ⟨_, rfl, h1⟩
  | d :: ds, _, h, i + 1, d', e => by
    cases h with
    | cons h1 h2 =>
      obtain ⟨x, e1, e2⟩ := dpAll_at h2 (i := i) (x := d') (by simpa using e)
      exact ⟨x, by simpa using e1, e2⟩
theorem dpAll_app : ∀ {ds es : List PyData} {xs ys : List V}, DpAll K H xs ds → DpAll K H ys es → DpAll K H (xs ++ ys) (ds ++ es)
  | [], es, _, ys, h, h' => by cases h; exact h'
  | d :: ds, es, _, ys, h, h' => by
    cases h with
    | cons h1 h2 => exact .cons h1 (dpAll_app h2 h')
theorem dpAll_one {d : PyData} {x : V} (h : Dp K H x d) : DpAll K H [x] [d] := .cons h .nil
theorem dpAll_set : ∀ {ds : List PyData} {xs : List V}, DpAll K H xs ds → ∀ (i : Nat) {d : PyData} {x : V}, Dp K H x d → DpAll K H (xs.set i x) (ds.set i d)
  | [], _, h, i, d, x, _ => by cases h; exact .nil
  | d :: ds, _, h, 0, d', x, q => by
    cases h with
    | cons h1 h2 => exact .cons q h2
  | d :: ds, _, h, i + 1, d', x, q => by
    cases h with
    | cons h1 h2 => exact .cons h1 (dpAll_set h2 i q)
theorem dpAll_ints : ∀ {ns : List Int} {xs : List V}, DpAll K H xs (ns.map PyData.int) → xs = ns.map V.int
  | [], _, h => by cases h; rfl
  | n :: ns, _, h => by
    cases h with
    | cons h1 h2 => rw [dp_int h1, dpAll_ints h2]; rfl
theorem dpAll_of_ints : ∀ (ns : List Int), DpAll K H (ns.map V.int) (ns.map PyData.int)
  | [] => .nil
  | n :: ns => .cons (.int n) (dpAll_of_ints ns)
theorem dpAll_take : ∀ {ds : List PyData} {xs : List V}, DpAll K H xs ds → ∀ (i : Nat), DpAll K H (xs.take i) (ds.take i)
  | [], _, h, i => by cases h; rw [List.take_nil, List.take_nil]; exact .nil
  | d :: ds, _, h, 0 => .nil
  | d :: ds, _, h, i + 1 => by
    cases h with
    | cons h1 h2 => exact .cons h1 (dpAll_take h2 i)
theorem dpAll_drop : ∀ {ds : List PyData} {xs : List V}, DpAll K H xs ds → ∀ (i : Nat), DpAll K H (xs.drop i) (ds.drop i)
  | [], _, h, i => by cases h; rw [List.drop_nil, List.drop_nil]; exact .nil
  | d :: ds, _, h, 0 => h
  | d :: ds, _, h, i + 1 => by
    cases h with
    | cons h1 h2 => exact dpAll_drop h2 i
/-- a list of ints, a tuple of ints, read -/
theorem dp_ints {v : V} {ns : List Int} (h : Dp K H v (.list (ns.map PyData.int))) : ∃ a, v = .ref a ∧ SqL K H a (ns.map V.int) := by
  obtain ⟨a, xs, e, hs, ha⟩ := dp_list h
  rw [dpAll_ints ha] at hs
  exact ⟨a, e, hs⟩
theorem dp_intsT {v : V} {ns : List Int} (h : Dp K H v (.tuple (ns.map PyData.int))) : ∃ a, v = .ref a ∧ SqT K H a (ns.map V.int) := by
  obtain ⟨a, xs, e, hs, ha⟩ := dp_tup h
  rw [dpAll_ints ha] at hs
  exact ⟨a, e, hs⟩
theorem dp_of_lst {p : Addr} {xs : List V} {ds : List PyData} (h : H p = some (.lst xs)) (ha : DpAll K H xs ds) : Dp K H (.ref p) (.list ds) := .lst (SqL.of h) ha
theorem dp_of_tup {p : Addr} {xs : List V} {ds : List PyData} (h : H p = some (.tup xs)) (ha : DpAll K H xs ds) : Dp K H (.ref p) (.tuple ds) := .tup (SqT.of h) ha
end

/-! ### how the finished part and the heap grow -/
/-- from (G, H) to (G', H'): the finished part is kept and grows by new objects alone; of the others only those at M may change -/
structure Ext (M : Addr → Prop) (G H G' H' : Hp) : Prop where
  gg : Same G G'
  hh : ∀ b o, ¬ M b → H b = some o → H' b = some o
  th : ∀ b o, H b = some o → ∃ o', H' b = some o'
  gh : Same G' H'
  nw : ∀ b o, G' b = some o → G b = some o ∨ H b = none
abbrev M0 : Addr → Prop := fun _ => False
abbrev M1 (a : Addr) : Addr → Prop := fun b => b = a

section
variable {M M' : Addr → Prop} {G H G1 H1 G2 H2 : Hp} {p : Addr} {o u : HO}
theorem Ext.refl (e : Same G H) : Ext M G H G H := ⟨Same.refl _, fun _ _ _ h => h, fun _ o h => ⟨o, h⟩, e, fun _ _ h => .inl h⟩
theorem Ext.same (e : Same G H) (h : Same H H1) : Ext M G H G H1 := ⟨Same.refl _, fun b o _ q => h b o q, fun b o q => ⟨o, h b o q⟩, e.trans h, fun _ _ q => .inl q⟩
theorem Ext.trans (a : Ext M G H G1 H1) (b : Ext M G1 H1 G2 H2) : Ext M G H G2 H2 where
  gg := a.gg.trans b.gg
  hh := fun c o m q => b.hh c o m (a.hh c o m q)
  th := fun c o q => by
    obtain ⟨o', q'⟩ := a.th c o q
    exact b.th c o' q'
  gh := b.gh
  nw := fun c o q => by
    rcases b.nw c o q with q | q
    · exact a.nw c o q
    · refine .inr ?_
      cases e : H c with
      | none => rfl
      | some o' =>
        obtain ⟨o2, e2⟩ := a.th c o' e
        rw [q] at e2
        cases e2
theorem Ext.mono (a : Ext M G H G1 H1) (h : ∀ b, M b → M' b) : Ext M' G H G1 H1 := ⟨a.gg, fun b o m q => a.hh b o (fun z => m (h b z)) q, a.th, a.gh, a.nw⟩
theorem Ext.up (a : Ext M0 G H G1 H1) : Ext M G H G1 H1 := a.mono fun _ z => z.elim
/-- all that was is as it was -/
theorem Ext.sm (a : Ext M0 G H G1 H1) : Same H H1 := fun b o q => a.hh b o (fun z => z) q
theorem Ext.free (a : Ext M G H G1 H1) (h : H1 p = none) : H p = none := by
  cases e : H p with
  | none => rfl
  | some o =>
    obtain ⟨o', e'⟩ := a.th p o e
    rw [h] at e'
    cases e'
/-- what is not finished stays so -/
theorem Ext.out (a : Ext M G H G1 H1) (g : G p = none) (h : H p = some o) : G1 p = none := by
  cases e : G1 p with
  | none => rfl
  | some u =>
    rcases a.nw p u e with z | z
    · rw [g] at z; cases z
    · rw [h] at z; cases z
theorem free_of (e : Same G H) (h : H p = none) : G p = none := e.free h
theorem same_upd (h : H p = none) : Same H (upd H p o) := fun b u e => by
  rw [upd_ne (ne_of_none e h)]
  exact e
/-- a new object that is not finished -/
theorem Ext.al (a : Ext M G H G1 H1) (h : H1 p = none) : Ext M G H G1 (upd H1 p o) :=
  a.trans (Ext.same a.gh (same_upd h))
/-- a new object, finished at once -/
theorem Ext.fin (a : Ext M G H G1 H1) (h : H1 p = none) : Ext M G H (upd G1 p o) (upd H1 p o) where
  gg := a.gg.trans (same_upd (a.gh.free h))
  hh := fun b u m q => same_upd h b u (a.hh b u m q)
  th := fun b u q => by
    obtain ⟨u', e⟩ := a.th b u q
    exact ⟨u', same_upd h b u' e⟩
  gh := fun b u q => by
    by_cases e : b = p
    · subst e; rw [upd_same] at q ⊢; exact q
    · rw [upd_ne e] at q ⊢; exact a.gh b u q
  nw := fun b u q => by
    by_cases e : b = p
    · subst e; exact .inr (a.free h)
    · rw [upd_ne e] at q; exact a.nw b u q
/-- an object of ours is written -/
theorem Ext.wr (a : Ext M G H G1 H1) (h0 : H p = none ∨ M p) (g : G1 p = none) : Ext M G H G1 (upd H1 p o) where
  gg := a.gg
  hh := fun b u m q => by
    have n : b ≠ p := fun e => by
      subst e
      rcases h0 with z | z
      · rw [z] at q; cases q
      · exact m z
    rw [upd_ne n]
    exact a.hh b u m q
  th := fun b u q => by
    by_cases e : b = p
    · subst e; exact ⟨o, upd_same⟩
    · obtain ⟨u', e'⟩ := a.th b u q
      exact ⟨u', by rw [upd_ne e]; exact e'⟩
  gh := fun b u q => by
    have n : b ≠ p := fun e => by subst e; rw [g] at q; cases q
    rw [upd_ne n]
    exact a.gh b u q
  nw := a.nw
/-- an object of ours is finished -/
theorem Ext.fz (a : Ext M G H G1 H1) (h0 : H p = none) (h : H1 p = some o) (g : G1 p = none) : Ext M G H (upd G1 p o) H1 where
  gg := a.gg.trans (same_upd g)
  hh := a.hh
  th := a.th
  gh := fun b u q => by
    by_cases e : b = p
    · subst e; rw [upd_same] at q; rw [h]; exact q
    · rw [upd_ne e] at q; exact a.gh b u q
  nw := fun b u q => by
    by_cases e : b = p
    · subst e; exact .inr h0
    · rw [upd_ne e] at q; exact a.nw b u q
end
end K36
end

section
set_option Elab.async false
set_option linter.all false
set_option maxRecDepth 100000
set_option maxHeartbeats 4000000
/-! K36, further rules: kinds, texts of data, the greatest of a tuple, a datum in a tuple, walks over tuples. -/
namespace K36
open PySem PySem.Spec PyProof.Rows L2

/-! ### isinstance -/
theorem tyx_da {K : PySem.W.Frag} {H : Hp} {v : V} {d : PyData} (h : Da K H v d) : TyX K H v (.type (tyN d)) := by
  rcases h with h | ⟨rfl, a, kvs, rfl, h⟩
  · cases h with
    | non => exact .base .non
    | bl b => exact .base (.bl b)
    | int i => exact .base (.int i)
    | str x => exact .base (.str x)
    | lst hs ha =>
      rcases hs with (e | ⟨o, e⟩) | ⟨o, its, n, e, c, _⟩
      · exact .base (.lst e)
      · exact .base (.frz e)
      · exact .kList e c
    | tup hs ha =>
      rcases hs with (e | ⟨o, e⟩) | ⟨o, its, n, e, c, _⟩
      · exact .base (.tup e)
      · exact .fTuple e
      · exact .kTuple e c
  · exact .base (.dK h)
theorem kit_list (d : PyData) : kitB (tyN d) "list" = some (isD d "list") := (by decide +kernel : ∀ t ∈ kindsL, kitB t "list" = some (isS t "list")) _ (tyN_mem d)
theorem kit_tuple (d : PyData) : kitB (tyN d) "tuple" = some (isD d "tuple") := (by decide +kernel : ∀ t ∈ kindsL, kitB t "tuple" = some (isS t "tuple")) _ (tyN_mem d)
theorem kit_int (d : PyData) : kitB (tyN d) "int" = some (isD d "int") := (by decide +kernel : ∀ t ∈ kindsL, kitB t "int" = some (isS t "int")) _ (tyN_mem d)
theorem kit_bool (d : PyData) : kitB (tyN d) "bool" = some (isD d "bool") := (by decide +kernel : ∀ t ∈ kindsL, kitB t "bool" = some (isS t "bool")) _ (tyN_mem d)
theorem kit_str (d : PyData) : kitB (tyN d) "str" = some (isD d "str") := (by decide +kernel : ∀ t ∈ kindsL, kitB t "str" = some (isS t "str")) _ (tyN_mem d)
section
variable {X : Cx}
/-- isinstance(x, T) of told data, T a built-in type whose answer is known -/
theorem call_isN : CallR X (.builtin "isinstance") (fun xs H Q => ∃ (x : V) (n : String) (d : PyData) (b : Bool), xs = [x, .ty n] ∧ Da X.K H x d ∧ kitB (tyN d) n = some b ∧ Q (.bl b) H) := by
  intro pins s σ H xs us Q I r h
  obtain ⟨x, n, d, b, rfl, hd, hk, q⟩ := h
  exact call_isi pins s σ H _ us Q I r ⟨x, .ty n, .type (tyN d), .type n, b, rfl, .ty n, tyx_da hd, kit_ty hk, q⟩
/-- isinstance(x, (list, tuple)) -/
theorem call_isLT : CallR X (.builtin "isinstance") (fun xs H Q => ∃ (x : V) (t : Addr) (d : PyData), xs = [x, .ref t] ∧ H t = some (.tup [.ty "list", .ty "tuple"]) ∧ Da X.K H x d ∧ Q (.bl (isSeqD d)) H) := by
  intro pins s σ H xs us Q I r h
  obtain ⟨x, t, d, rfl, ht, hd, q⟩ := h
  refine call_isiT pins s σ H _ us Q I r ⟨x, t, _, .type (tyN d), [.type "list", .type "tuple"], isSeqD d, rfl, ht, .cons (.ty _) (.cons (.ty _) .nil), tyx_da hd, ?_, q⟩
  have e : isSeqD d = (isD d "list" || isD d "tuple") := by cases d <;> simp [isSeqD, isS, tyN]
  rw [e]
  refine kitAny_cons (kit_ty (kit_list d)) (fun e1 => kitAny_cons (kit_ty (kit_tuple d)) (fun e2 => ?_) fun e2 => ?_) fun e1 => ?_
  · rw [kitAny_nil, e1, e2]; rfl
  · rw [e1, e2]; rfl
  · rw [e1]; rfl

/-! ### repr -/
/-- what repr must know of data -/
structure Shown (d : PyData) : Prop where
  show_ : d.showable = true
  nodict : d.hasDict = false
  deep : d.depth + 1 ≤ 60
  short : d.shown.length ≤ sizeLine
theorem call_reprD (hg : X.A.guards = some []) (hu : X.A.units + 64 < cLine) :
    CallR X (.builtin "repr") (fun xs H Q => ∃ (x : V) (d : PyData), xs = [x] ∧ Dp X.K H x d ∧ Shown d ∧ ((∃ i, x = .int i) ∨ ∃ a, x = .ref a) ∧ Q (.str d.shown) H) := by
  intro pins s σ H xs us Q I r h
  obtain ⟨x, d, rfl, hd, sh, hk, q⟩ := h
  obtain ⟨u, rfl, rx⟩ := vals1 r
  rcases hk with ⟨i, rfl⟩ | ⟨a, rfl⟩
  · obtain ⟨t, rfl⟩ := rx
    cases hd
    exact PySem.P.repr_of_int (by simpa [PyData.showable] using sh.show_) ⟨.str _, H, I.tok _, ⟨_, rfl⟩, q⟩
  · obtain ⟨as, rd⟩ := Dp.reads I d _ u hd rx
    obtain rfl : u = .ref a := rx
    have hb := sh.deep
    exact repr_of_reads' (h₀ := s.heap) rd sh.show_ (PyData.noDict_hsm sh.nodict) hg (by omega) (fun _ _ e => e)
      (fun h' u tk hk => ⟨.str _, H, I.kept (t' := tk) hk, ⟨_, rfl⟩, q⟩) sh.short

/-! ### the greatest of a tuple of ints -/
theorem alike_ints (ns : List Int) : PySem.W.AlikeAll (ns.map PyData.int) := by
  refine ⟨fun a ha b hb => ?_, fun a ha => ?_⟩
  · obtain ⟨i, _, rfl⟩ := List.mem_map.mp ha
    obtain ⟨j, _, rfl⟩ := List.mem_map.mp hb
    rfl
  · obtain ⟨i, _, rfl⟩ := List.mem_map.mp ha
    intro z
    cases z
theorem depth_ints : ∀ ns : List Int, PyData.depthAll (ns.map PyData.int) = 0
  | [] => by simp [PyData.depthAll]
  | n :: ns => by
    have ih := depth_ints ns
    simp [PyData.depthAll, PyData.depth, ih]
theorem call_maxT (hc : X.calm = true) (hu : X.A.units + 64 < cLine) :
    CallR X (.builtin "max") (fun xs H Q => ∃ (a : Addr) (n : Int) (ns : List Int), xs = [.ref a] ∧ SqT X.K H a ((n :: ns).map V.int) ∧ Q (.int (ns.foldl max n)) H) := by
  intro pins s σ H xs us Q I r h
  obtain ⟨a, n, ns, rfl, hs, q⟩ := h
  obtain ⟨u, rfl, rx⟩ := vals1 r
  obtain rfl : u = .ref a := rx
  obtain ⟨its, rv, ht, _⟩ := I.tuple hs
  obtain ⟨as, rd⟩ := Dp.readsAll I ((n :: ns).map PyData.int) _ its (dpAll_of_ints (n :: ns)) rv
  refine PySem.W.max_tuple_data (vs := its.toArray) (x := .int n) (xs := ns.map PyData.int) (I.ok.hd hc) ht (by simpa using rd) (alike_ints (n :: ns)) ?_ fun i v h' tk bs _ rd' hk => ?_
  · show X.A.units + 1 + PyData.depthAll ((n :: ns).map PyData.int) < cLine
    rw [depth_ints]
    omega
  · rw [PySem.W.maxD_ints] at rd'
    cases rd' with
    | int i t => exact ⟨.int _, H, I.kept (t' := tk) hk, ⟨_, rfl⟩, q⟩

/-! ### a datum in a tuple -/
theorem op_notInT (hu : X.A.units + 65 < cLine) : OpR X (compareOp .NotIn) (fun x y H Q => ∃ d ds, Dp X.K H x d ∧ Dp X.K H y (.tuple ds) ∧ SeqAt.shaped d = true ∧ SeqAt.shaped (.tuple ds) = true ∧ Q (.bl (!ds.any fun z => PyData.eqv z d)) H) := by
  intro pins s σ H x y v u Q I rx ry h
  obtain ⟨d, ds, hd, he, sd, se, q⟩ := h
  obtain ⟨as, r1⟩ := Dp.reads I d x v hd rx
  obtain ⟨bs, r2⟩ := Dp.reads I (.tuple ds) y u he ry
  exact SeqAt.notIn_tuple_reads r2 r1 (SeqAt.canLay_of_shaped se) (SeqAt.canLay_of_shaped sd) (room_in_shaped sd hu) ⟨.bl _, H, I, rfl, q⟩

/-! ### what is walked: one of two -/
theorem pi_or {tg iter : Expr} {wi wj : TI} (h : PI X tg iter wi) (h' : PI X tg iter wj) : PI X tg iter (fun σ H R => wi σ H R ∨ wj σ H R) :=
  ⟨fun pins s σ H R I w => w.elim (h.run pins s σ H R I) (h'.run pins s σ H R I)⟩
/-- a list or a tuple -/
theorem pi_seq {tg e : Expr} {te : TE} (h : PE X e te) : PI X tg e (fun σ H R => iList X.K te σ H R ∨ iTup X.K te σ H R) := pi_or (pi_list h) (pi_tup h)
end
end K36
end

section
set_option Elab.async false
set_option linter.all false
set_option maxRecDepth 100000
set_option maxHeartbeats 4000000
/-! K36, walks over a tuple with its places, over a tuple beside a list. -/
namespace K36
open PySem PySem.Spec PyProof.Rows L2

/-! ### enumerate(tuple) -/
theorem meets_enum1 {v : Value} {o : Obj} {C : Heap → Prop} (B : Begins v o C) :
    Meets (Builtin.«enumerate.__new__» ⟨[.type "enumerate", v], []⟩) (fun _ R s => C s.heap ∧
      R (.ok (.ret (.ref (s.heap.push o).objs.size)))
        { s with heap := (s.heap.push o).push { cls := .type "enumerate", data := .fields #[.none, .bool false, .ref s.heap.objs.size, rawInt 0, .none, .none] } }) :=
  .of_wp fun prog w A R s h => by
    obtain ⟨hp, g, d, tk, os⟩ := s
    obtain ⟨h1, h⟩ := h
    have hs := sub_enumerate
    have go : ∀ {A' : Around} {E Q : Value → Shared → Prop}, Q (.ref hp.objs.size) ⟨hp.push o, g, d, tk, os⟩ →
        wpAny (model prog w) A' (pyIter v) Q E ⟨hp, g, d, tk, os⟩ := fun q => B.iter prog w _ _ ⟨hp, g, d, tk, os⟩ _ h1 q
    wp_walk using go
    refine wpAny_stack_any fun st => wpAny_pure ?_
    split
    · rename_i c _ _ _ _ _
      cases (c == Value.type "enumerate") <;> (wp_walk using go; exact ⟨_, rfl, h⟩)
    · wp_walk using go
      exact ⟨_, rfl, h⟩

theorem call_enum1 {prog : Program} {w : World} {A : Around} {E : Value → Shared → Prop} {s : Shared} {v : Value} {o : Obj} {C : Heap → Prop} {Q : Value → Shared → Prop} (B : Begins v o C) (h1 : C s.heap)
    (h : ∀ h', IsEnum h' (s.heap.objs.size + 1) s.heap.objs.size 0 .none → h'.get? s.heap.objs.size = some o →
      (∀ b u, s.heap.get? b = some u → h'.get? b = some u) → Q (.ref (s.heap.objs.size + 1)) { s with heap := h' }) :
    wpAny (model prog w) A (call (.type "enumerate") [v]) Q E s := by
  refine callType_new F.called_enumerate (by decide) (F.typeCall_enumerate_1 _) (F.newCall_enumerate_1 _) (fun obj => F.args_object_init_2 obj _) F.entry_enumerate_new (meets_enum1 B) ⟨h1, ?_⟩
  have hz : (s.heap.push o).objs.size = s.heap.objs.size + 1 := Heap.size_push ..
  show _ ∧ _
  rw [hz]
  have he : IsEnum ((s.heap.push o).push { cls := .type "enumerate", data := .fields #[.none, .bool false, .ref s.heap.objs.size, rawInt 0, .none, .none] }) (s.heap.objs.size + 1) s.heap.objs.size 0 .none := by
    have q := Heap.get?_push_size (s.heap.push o) (o := { cls := .type "enumerate", data := .fields #[.none, .bool false, .ref s.heap.objs.size, rawInt 0, .none, .none] }) rfl
    rw [hz] at q
    exact q
  exact ⟨⟨_, he, rfl⟩, h _ he (Heap.get?_push_of_some _ (Heap.get?_push_size _ B.free)) fun b u x => Heap.get?_push_of_some _ (Heap.get?_push_of_some _ x)⟩

/-- the tuple at a as it stands at each turn, each item in a new pair with its place -/
def IteT (K : PySem.W.Frag) (a : Addr) : It where
  go := fun i H => ∃ (xs : List V) (x : V), SqT K H a xs ∧ xs[i]? = some x
  yld := fun i H v H' => ∃ T x, v = .ref T ∧ H T = none ∧ H' = upd H T (.tup [.int (i : Nat), x]) ∧ ∀ xs, SqT K H a xs → xs[i]? = some x
  stop := fun i H => ∃ xs : List V, SqT K H a xs ∧ xs.length = i

theorem turn_enumT {P : Program} {w : World} {K : PySem.W.Frag} {elts : List Expr} {kk : Nat} {tpos : Pos} (a e it : Addr) (hne : e ≠ it) (hai : a ≠ it) (hae : a ≠ e) :
    Turn P w K (.Tuple elts kk tpos) (IteT K a) [e, it] e (fun i h => (∃ old, IsEnum h e it ((i : Nat) : Int) old) ∧ h.IsTupleIter it a i) where
  mem := List.mem_cons_self
  obj := fun i h st b hb => by
    obtain ⟨⟨old, he⟩, o, ho, hc, hd⟩ := st
    rcases List.mem_cons.mp hb with z | hb
    · rw [z]; exact ⟨_, he, fun v q => nomatch q⟩
    · rw [List.mem_singleton.mp hb]; exact ⟨o, ho, fun v q => by rw [hd] at q; cases q⟩
  keep := fun i h h' st k => by
    obtain ⟨⟨old, he⟩, hi⟩ := st
    exact ⟨⟨old, k e (by simp) _ he⟩, hi.at fun o q => k it (by simp) o q⟩
  item := by
    intro X hP hw hK hc i pins s σ H E I hf st hg
    subst hP hw hK
    obtain ⟨⟨old, he⟩, hit⟩ := st
    obtain ⟨xs, x, hq, hx⟩ := hg
    obtain ⟨its, rv, p, hz⟩ := I.tuple hq
    obtain ⟨u, hu, ru⟩ := rv.get hx
    have hil : i < its.toArray.size := by
      have := (List.getElem?_eq_some_iff.mp hu).1
      simpa using this
    have D := Draws.tuple (prog := X.prog) (w := X.w) (A := X.A.in1) (I.ok.hd hc) it a hai its.toArray
    have hel : e < s.heap.objs.size := Heap.lt_size he
    have hti : it < s.heap.objs.size := by
      obtain ⟨_, q, _⟩ := hit
      exact Heap.lt_size q
    refine wpAny_pyNext_enum_itemC D he ⟨hit, p⟩ hil hne (by simp only [List.mem_cons, List.not_mem_nil, or_false, not_or]; exact ⟨hne, Ne.symm hae⟩) fun u' h' tk hu' ho st' hT hsz hk => ?_
    have eu : u' = u := by
      have z : its.toArray[i]? = some u' := hu'
      have z2 : its[i]? = some u' := by simpa using z
      rw [hu] at z2
      exact (Option.some.inj z2).symm
    subst eu
    refine ⟨_, rfl, wpAny_letOwnedTupleGo_enum (s := { s with heap := h', toks := tk + 1 }) ho fun h'' he' sb => ?_⟩
    have hT2 : h''.get? s.heap.objs.size = some { cls := .type "tuple", data := .seq #[.int i tk, u'] } := (sb.2 _ (Nat.ne_of_gt hel)).trans hT
    have new : ObjOk X.prog X.w (upd H s.heap.objs.size (.tup [.int (i : Nat), x])) h'' s.heap.objs.size (.tup [.int (i : Nat), x]) :=
      ⟨by show 2 ≤ sizeLine; decide, [.int i tk, u'], .cons ⟨_, rfl⟩ (.cons ru .nil), ⟨_, hT2, rfl, _, rfl⟩⟩
    have I1 : Inv X pins σ (upd H s.heap.objs.size (.tup [.int (i : Nat), x])) { s with heap := h'', toks := tk + 1 } :=
      I.turnedNew (ch := [e, it]) (fun b ob hb q => by
        have n1 : b ≠ e := fun z => hb (by simp [z])
        have n2 : b ≠ it := fun z => hb (by simp [z])
        exact (sb.2 b n1).trans (hk b ob n1 n2 q)) hf (Nat.le_refl _) new
    refine ⟨.ref s.heap.objs.size, _, I1, rfl, ⟨_, x, rfl, I.hok.fresh (Nat.le_refl _), rfl, fun ys hy => by rw [I.tuple_inj hy hq]; exact hx⟩, ⟨⟨u', ?_⟩, st'.1.at fun o q => (sb.2 it (Ne.symm hne)).trans q⟩, fun b hb => ?_⟩
    · rw [show ((i + 1 : Nat) : Int) = (i : Int) + 1 by omega]
      exact he'
    · have hb' : b < s.heap.objs.size := by
        rcases List.mem_cons.mp hb with z | z
        · rw [z]; exact hel
        · rw [List.mem_singleton.mp z]; exact hti
      rw [upd_ne (Nat.ne_of_lt hb')]
      exact (hf b hb).1
  done := by
    intro X hP hw hK hc i pins s σ H E I hf st hg
    subst hP hw hK
    obtain ⟨⟨old, he⟩, hit⟩ := st
    obtain ⟨xs, hq, hx⟩ := hg
    obtain ⟨its, rv, p, hz⟩ := I.tuple hq
    have hl := rv.length
    obtain ⟨f0, f1, f2, f3, f4, f5⟩ := hf it (by simp)
    have D := Draws.tuple (prog := X.prog) (w := X.w) (A := X.A.in1) (I.ok.hd hc) it a hai its.toArray
    have hn : i = its.toArray.size := by simp; omega
    exact wpAny_pyNext_enum_endD D he ⟨hn ▸ hit, p⟩ fun h' eb => ⟨rfl, I.turned (t' := s.toks) (fun b o hb q => eb b o hb q) f0 f1 f3 f4 f5⟩
  self := fun A i s Q E st h => by
    obtain ⟨⟨_, he⟩, _⟩ := st
    exact wpAny_pyIter_enum he h

def iEnumT (K : PySem.W.Frag) (ta : TA) : TI := fun σ H R => ta σ H fun vs H1 => ∃ a xs, vs = [.ref a] ∧ SqT K H1 a xs ∧ R (IteT K a) H1
section
variable {X : Cx}
theorem pi_enumT {e : Expr} {ta : TA} {p pos tpos : Pos} {elts : List Expr} {kk : Nat} (hg : Gl X "enumerate") (hm : X.mg "enumerate" = none) (ha : PA X [e] ta)
    (hs : starEach [e] X.env = [(false, eval e X.env)] := by rfl) : PI X (.Tuple elts kk tpos) (.Call (.Name "enumerate" p) [e] [] pos) (iEnumT X.K ta) := by
  refine ⟨fun pins s σ H R I h => ?_⟩
  refine Call_ (ld_blt I hg hm boot_enumerate (PyProof.Rows.callWith_type1 (thn (ha.run pos pins s σ H _ I h) fun us s1 hq => ?_) hs rfl))
  obtain ⟨vs, H1, I1, r1, a, xs, ex, hq, q⟩ := hq
  subst ex
  obtain ⟨u, rfl, r⟩ := vals1 r1
  obtain rfl : u = .ref a := r
  obtain ⟨its, rv, p', hz⟩ := I1.tuple hq
  have hlt : a < s1.heap.objs.size := p'.lt
  refine call_enum1 (begins_tuple a its.toArray) p' fun h' he hit hk => wpAny_pyIter_enum he ?_
  have I2 : Inv X pins σ H1 { s1 with heap := h' } := I1.kept (t' := s1.toks) hk
  refine ⟨s1.heap.objs.size + 1, [s1.heap.objs.size + 1, s1.heap.objs.size], _, _, H1, rfl, I2,
    turn_enumT a (s1.heap.objs.size + 1) s1.heap.objs.size (Nat.succ_ne_self _) (Nat.ne_of_lt hlt) (Nat.ne_of_lt (Nat.lt_succ_of_lt hlt)), ⟨⟨.none, he⟩, _, hit, rfl, rfl⟩, fun b hb => ?_, q⟩
  have hle : s1.heap.objs.size ≤ b := by
    rcases List.mem_cons.mp hb with z | z
    · rw [z]; exact Nat.le_succ _
    · rw [List.mem_singleton.mp z]; exact Nat.le_refl _
  exact I1.fpOk hle (I1.hok.fresh hle)
/-- enumerate of a list or of a tuple -/
theorem pi_enumA {e : Expr} {ta : TA} {p pos tpos : Pos} {elts : List Expr} {kk : Nat} (hg : Gl X "enumerate") (hm : X.mg "enumerate" = none) (ha : PA X [e] ta)
    (hs : starEach [e] X.env = [(false, eval e X.env)] := by rfl) : PI X (.Tuple elts kk tpos) (.Call (.Name "enumerate" p) [e] [] pos) (fun σ H R => iEnum X.K ta σ H R ∨ iEnumT X.K ta σ H R) :=
  pi_or (pi_enum hg hm ha hs) (pi_enumT hg hm ha hs)
end
theorem walk_enumT {K : PySem.W.Frag} {a : Addr} {xs : List V} : Walk (IteT K a) xs.length (fun H => SqT K H a xs) (YPair (fun i => some (.int (i : Nat))) (fun i => xs[i]?)) where
  goes := fun i H hi g => ⟨xs, xs[i], g, List.getElem?_eq_getElem hi⟩
  stops := fun H g => ⟨xs, g, rfl⟩
  yields := fun i H x H' hi g y => by
    obtain ⟨T, z, e1, e2, e3, e4⟩ := y
    exact ⟨T, _, z, e1, e2, e3, rfl, e4 xs g⟩

/-! ### zip(tuple, list) -/
/-- the tuple at a and the list at b, the items in new pairs -/
def ItzM (K : PySem.W.Frag) (a b : Addr) : It where
  go := fun i H => ∃ (xs ys : List V) (x y : V), SqT K H a xs ∧ SqL K H b ys ∧ xs[i]? = some x ∧ ys[i]? = some y
  yld := fun i H v H' => ∃ T x y, v = .ref T ∧ H T = none ∧ H' = upd H T (.tup [x, y]) ∧ (∀ xs, SqT K H a xs → xs[i]? = some x) ∧ ∀ ys, SqL K H b ys → ys[i]? = some y
  stop := fun i H => ∃ xs ys : List V, SqT K H a xs ∧ SqL K H b ys ∧ i ≤ xs.length ∧ i ≤ ys.length ∧ (i = xs.length ∨ i = ys.length)
theorem turn_zipM {P : Program} {w : World} {K : PySem.W.Frag} {elts : List Expr} {kk : Nat} {tpos : Pos} {a b z TI TO i1 i2 : Addr} (D : ZipSep2 z TI TO i1 i2 [i1, a] [i2, b]) (na : a ≠ i1) (nb : b ≠ i2) :
    Turn P w K (.Tuple elts kk tpos) (ItzM K a b) [z, TI, TO, i1, i2] z
      (fun i h => IsZip h z TI TO .none ∧ IsTupOf2 h TI (.ref i1) (.ref i2) ∧ (∃ x y, IsTupOf2 h TO x y) ∧ h.IsTupleIter i1 a i ∧ h.IsListIter i2 b i) where
  mem := List.mem_cons_self
  obj := fun i h st c hc => by
    obtain ⟨hz, hTI, ⟨x, y, hTO⟩, ⟨o1, e1, _, d1⟩, ⟨o2, e2, _, d2⟩⟩ := st
    simp only [List.mem_cons, List.not_mem_nil, or_false] at hc
    rcases hc with q | q | q | q | q
    · subst q; exact ⟨_, hz, fun v z => nomatch z⟩
    · subst q; exact ⟨_, hTI, fun v z => nomatch z⟩
    · subst q; exact ⟨_, hTO, fun v z => nomatch z⟩
    · exact ⟨o1, q ▸ e1, fun v q => by rw [d1] at q; cases q⟩
    · exact ⟨o2, q ▸ e2, fun v q => by rw [d2] at q; cases q⟩
  keep := fun i h h' st k => by
    obtain ⟨hz, hTI, ⟨x, y, hTO⟩, h1, h2⟩ := st
    exact ⟨k z (by simp) _ hz, k TI (by simp) _ hTI, ⟨x, y, k TO (by simp) _ hTO⟩, h1.at fun o q => k i1 (by simp) o q, h2.at fun o q => k i2 (by simp) o q⟩
  item := by
    intro X hP hw hK hc i pins s σ H E I hf st hg
    subst hP hw hK
    obtain ⟨hz, hTI, ⟨x0, y0, hTO⟩, h1, h2⟩ := st
    obtain ⟨xs, ys, x, y, hqx, hqy, hx, hy⟩ := hg
    obtain ⟨its, rv, p, _⟩ := I.tuple hqx
    obtain ⟨its2, rv2, p2, _⟩ := I.list hqy
    obtain ⟨u, hu, ru⟩ := rv.get hx
    obtain ⟨u2, hu2, ru2⟩ := rv2.get hy
    have l1 : i < its.toArray.size := by simpa using (List.getElem?_eq_some_iff.mp hu).1
    have l2 : i < its2.toArray.size := by simpa using (List.getElem?_eq_some_iff.mp hu2).1
    have hzl : z < s.heap.objs.size := Heap.lt_size hz
    have D1 := Draws.tuple (prog := X.prog) (w := X.w) (A := X.A.in1) (I.ok.hd hc) i1 a na its.toArray
    have D2 := Draws.list (prog := X.prog) (w := X.w) (A := X.A.in1) (I.ok.hd hc) i2 b nb its2.toArray
    refine wpAny_pyNext_zipD2_item D D1 D2 hz hTI hTO ⟨h1, p⟩ ⟨h2, p2.isList⟩ l1 l2 fun w1 w2 h' tk e1 e2 z' TO' s1' s2' hT hsz hk => ?_
    have f1 : w1 = u := by
      have q : its.toArray[i]? = some w1 := e1
      have q2 : its[i]? = some w1 := by simpa using q
      exact Option.some.inj (q2.symm.trans hu)
    have f2 : w2 = u2 := by
      have q : its2.toArray[i]? = some w2 := e2
      have q2 : its2[i]? = some w2 := by simpa using q
      exact Option.some.inj (q2.symm.trans hu2)
    subst f1 f2
    refine ⟨_, rfl, wpAny_letOwnedTupleGo_zip (s := { s with heap := h', toks := tk }) z' fun h'' z'' sb => ?_⟩
    have hT2 : h''.get? s.heap.objs.size = some { cls := .type "tuple", data := .seq #[w1, w2] } := (sb.2 _ (Nat.ne_of_gt hzl)).trans hT
    have new : ObjOk X.prog X.w (upd H s.heap.objs.size (.tup [x, y])) h'' s.heap.objs.size (.tup [x, y]) :=
      ⟨by show 2 ≤ sizeLine; decide, [w1, w2], .cons ru (.cons ru2 .nil), ⟨_, hT2, rfl, _, rfl⟩⟩
    have I1 : Inv X pins σ (upd H s.heap.objs.size (.tup [x, y])) { s with heap := h'', toks := tk } :=
      I.turnedNew (ch := [z, TI, TO, i1, i2]) (fun c o hb q => by
        simp only [List.mem_cons, List.not_mem_nil, or_false, not_or] at hb
        exact (sb.2 c hb.1).trans (hk c o hb.1 hb.2.2.1 hb.2.2.2.1 hb.2.2.2.2 q)) hf (Nat.le_refl _) new
    refine ⟨.ref s.heap.objs.size, _, I1, rfl, ⟨_, x, y, rfl, I.hok.fresh (Nat.le_refl _), rfl, fun l hl => by rw [I.tuple_inj hl hqx]; exact hx, fun l hl => by rw [I.list_inj hl hqy]; exact hy⟩, ⟨z'', ?_, ⟨w1, w2, ?_⟩, ?_, ?_⟩, fun c hcm => ?_⟩
    · exact (sb.2 _ D.TIz).trans (hk _ _ D.TIz D.TITO D.TIi1 D.TIi2 hTI)
    · exact (sb.2 _ D.TOz).trans TO'
    · exact s1'.1.at fun o q => (sb.2 _ (Ne.symm D.zi1)).trans q
    · exact s2'.1.at fun o q => (sb.2 _ (Ne.symm D.zi2)).trans q
    · have hlt : c < s.heap.objs.size := by
        simp only [List.mem_cons, List.not_mem_nil, or_false] at hcm
        rcases hcm with q | q | q | q | q
        · rw [q]; exact hzl
        · rw [q]; exact Heap.lt_size hTI
        · rw [q]; exact Heap.lt_size hTO
        · rw [q]; obtain ⟨_, e, _⟩ := h1; exact Heap.lt_size e
        · rw [q]; obtain ⟨_, e, _⟩ := h2; exact Heap.lt_size e
      rw [upd_ne (Nat.ne_of_lt hlt)]
      exact (hf c hcm).1
  done := by
    intro X hP hw hK hc i pins s σ H E I hf st hg
    subst hP hw hK
    obtain ⟨hz, hTI, ⟨x0, y0, hTO⟩, h1, h2⟩ := st
    obtain ⟨xs, ys, hqx, hqy, le1, le2, hend⟩ := hg
    obtain ⟨its, rv, p, _⟩ := I.tuple hqx
    obtain ⟨its2, rv2, p2, _⟩ := I.list hqy
    have D1 := Draws.tuple (prog := X.prog) (w := X.w) (A := X.A.in1) (I.ok.hd hc) i1 a na its.toArray
    have D2 := Draws.list (prog := X.prog) (w := X.w) (A := X.A.in1) (I.ok.hd hc) i2 b nb its2.toArray
    have n1 : xs.length = its.toArray.size := by simpa using rv.length
    have n2 : ys.length = its2.toArray.size := by simpa using rv2.length
    refine wpAny_pyNext_zipD2_end D D1 D2 hz hTI hTO ⟨h1, p⟩ ⟨h2, p2.isList⟩ (by omega) (by omega) (by omega) fun h' tk hk => ⟨rfl, I.turnedL (t' := tk) (ch := [z, TI, TO, i1, i2]) (fun c o hb q => ?_) hf⟩
    simp only [List.mem_cons, List.not_mem_nil, or_false, not_or] at hb
    exact hk c o hb.1 hb.2.2.1 hb.2.2.2.1 hb.2.2.2.2 q
  self := fun A i s Q E st h => wpAny_pyIter_zip st.1 h
def iZipM (K : PySem.W.Frag) (ta : TA) : TI := fun σ H R => ta σ H fun vs H1 => ∃ a b xs ys, vs = [.ref a, .ref b] ∧ SqT K H1 a xs ∧ SqL K H1 b ys ∧ R (ItzM K a b) H1
theorem pi_zipM {X : Cx} {e e2 : Expr} {ta : TA} {p pos tpos : Pos} {elts : List Expr} {kk : Nat} (hg : Gl X "zip") (hm : X.mg "zip" = none) (ha : PA X [e, e2] ta)
    (hs : starEach [e, e2] X.env = (false, eval e X.env) :: starEach [e2] X.env := by rfl) (hpl : (backTo pos (starEach [e2] X.env)).any (·.1) = false := by rfl) :
    PI X (.Tuple elts kk tpos) (.Call (.Name "zip" p) [e, e2] [] pos) (iZipM X.K ta) := by
  refine ⟨fun pins s σ H R I h => ?_⟩
  refine Call_ (ld_blt I hg hm PyProof.Rows.boot_zip (PyProof.Rows.callWith_type1 (thn (ha.run pos pins s σ H _ I h) fun us s1 hq => ?_) hs hpl))
  obtain ⟨vs, H1, I1, r1, a, b, xs, ys, ex, hqx, hqy, q⟩ := hq
  subst ex
  obtain ⟨u, u', rfl, r, r'⟩ := vals2 r1
  obtain rfl : u = .ref a := r
  obtain rfl : u' = .ref b := r'
  obtain ⟨its, rv, p1, _⟩ := I1.tuple hqx
  obtain ⟨its2, rv2, p2, _⟩ := I1.list hqy
  have la : a < s1.heap.objs.size := p1.lt
  have lb : b < s1.heap.objs.size := p2.lt
  refine zip_begins2 (begins_tuple a its.toArray) (begins_list b its2.toArray) p1 p2.isList fun h' hz hTI hTO h1 h2 hsz hk => wpAny_pyIter_zip hz ?_
  have I2 : Inv X pins σ H1 { s1 with heap := h' } := I1.kept (t' := s1.toks) hk
  have sep := zip_sep2 (N := s1.heap.objs.size) (fp1 := [a]) (fp2 := [b]) (fun c hc => by rw [List.mem_singleton.mp hc]; exact la) (fun c hc => by rw [List.mem_singleton.mp hc]; exact lb)
  refine ⟨s1.heap.objs.size + 4, [s1.heap.objs.size + 4, s1.heap.objs.size + 2, s1.heap.objs.size + 3, s1.heap.objs.size, s1.heap.objs.size + 1], _, _, H1, rfl, I2,
    turn_zipM sep (Nat.ne_of_lt la) (Nat.ne_of_lt (Nat.lt_succ_of_lt lb)), ⟨hz, hTI, ⟨_, _, hTO⟩, ⟨_, h1, rfl, rfl⟩, ⟨_, h2, rfl, rfl⟩⟩, fun c hcm => ?_, q⟩
  have hle : s1.heap.objs.size ≤ c := by
    simp only [List.mem_cons, List.not_mem_nil, or_false] at hcm
    rcases hcm with q | q | q | q | q <;> rw [q] <;> first | exact Nat.le_refl _ | exact Nat.le_add_right _ _
  exact I1.fpOk hle (I1.hok.fresh hle)
theorem walk_zipM {K : PySem.W.Frag} {a b : Addr} {xs ys : List V} (hl : xs.length = ys.length) : Walk (ItzM K a b) xs.length (fun H => SqT K H a xs ∧ SqL K H b ys) (YPair (fun i => xs[i]?) (fun i => ys[i]?)) where
  goes := fun i H hi g => ⟨xs, ys, xs[i], ys[i], g.1, g.2, List.getElem?_eq_getElem hi, List.getElem?_eq_getElem _⟩
  stops := fun H g => ⟨xs, ys, g.1, g.2, Nat.le_refl _, Nat.le_of_eq hl, .inl rfl⟩
  yields := fun i H x H' hi g y => by
    obtain ⟨T, z1, z2, e1, e2, e3, e4, e5⟩ := y
    exact ⟨T, z1, z2, e1, e2, e3, e4 xs g.1, e5 ys g.2⟩
/-- zip of two tuples of one length -/
theorem walk_zipT {K : PySem.W.Frag} {a b : Addr} {xs ys : List V} (hl : xs.length = ys.length) : Walk (RZ.ItzT K a b) xs.length (fun H => SqT K H a xs ∧ SqT K H b ys) (YPair (fun i => xs[i]?) (fun i => ys[i]?)) where
  goes := fun i H hi g => ⟨xs, ys, xs[i], ys[i], g.1, g.2, List.getElem?_eq_getElem hi, List.getElem?_eq_getElem _⟩
  stops := fun H g => ⟨xs, ys, g.1, g.2, .inl (Nat.le_refl _)⟩
  yields := fun i H x H' hi g y => by
    obtain ⟨T, z1, z2, e1, e2, e3, e4, e5⟩ := y
    exact ⟨T, z1, z2, e1, e2, e3, e4 xs g.1, e5 ys g.2⟩
end K36
end

section
set_option Elab.async false
set_option linter.all false
set_option maxRecDepth 100000
set_option maxHeartbeats 4000000
/-! K36, a list comprehension whose element is a call that may raise. -/
namespace K36
open PySem PySem.Spec PyProof.Rows L2

/-- what an exception out of a call of the block leaves -/
def FlewBlk (X : Cx) (s3 : Shared) (H3 : Hp) (scope : Scope) (ce : Env) (fp : List Addr) (E : XK) : Value → Shared → Prop := fun u s' =>
  ∃ pins σ H s, Inv (X.blk s3 H3 scope ce fp) pins σ H s ∧ L2.CX X.prog X.w X.stack H s E u s'
/-- the block's context, where calls may raise as E tells -/
abbrev blkX (X : Cx) (s3 : Shared) (H3 : Hp) (scope : Scope) (ce : Env) (fp : List Addr) (E : XK) : Cx := (X.blk s3 H3 scope ce fp).wish (FlewBlk X s3 H3 scope ce fp E)
theorem passBlk {X : Cx} {s3 : Shared} {H3 : Hp} {scope : Scope} {ce : Env} {fp : List Addr} {E : XK} : Passes (L2.CX X.prog X.w) (blkX X s3 H3 scope ce fp E) E :=
  fun pins σ H s e s' I c => ⟨pins, σ, H, s, I.unwish, c⟩

section
variable {X : Cx}
theorem flew_out {pins : List (Addr × Obj)} {σ : L2.St} {H3 : Hp} {s3 : Shared} {scope : Scope} {ce : Env} {fp : List Addr} {E : XK} {u : Value} {s' : Shared}
    (hs : X.stack = X.env :: X.outer) (hf : X.env.frame = some X.env.locals) (I3 : Inv X pins σ H3 s3) (f3 : ∀ b ∈ fp, FpOk X pins H3 b) (cL : s3.heap.objs.size ≤ ce.locals) (cF : ce.frame = X.env.frame)
    (tk : Takes X (fun cls d _ H => E cls d H)) (hx : FlewBlk X s3 H3 scope ce fp E u s') :
    notedBy (model X.prog X.w) X.A ce (CompFails (model X.prog X.w) X.A X.xe ce) u s' := by
  obtain ⟨pinsB, σB, H, s, Is, a, B, H', cls, d, rfl, fl, hok, ub, na, os, ag, hE⟩ := hx
  have hfr : X.A.frames = some (X.env :: X.outer) := by rw [I3.ok.frames, hs]
  have fl' : HandSPX.FlyingZ B (X.env :: X.outer) a (Zc cls d) s'.heap := hs ▸ fl
  obtain ⟨mC, hnC, _⟩ := Is.loc
  have hnC : s.heap.Ns ce.locals mC := hnC
  obtain ⟨oC, esC, epC, hoC, hdC, hrC⟩ := id hnC
  have HC : H ce.locals = none := Is.free
  -- the block's own dict is no frame
  have nCf : ce.locals ∉ frs X.stack := fun hm => by
    obtain ⟨_, o, ho, _⟩ := I3.stack.mem hm
    exact absurd (Nat.lt_of_lt_of_le (Heap.lt_size ho) cL) (Nat.lt_irrefl _)
  have BC : B.get? ce.locals = some oC := ub.keep _ _ hoC HC nCf
  have H'C : H' ce.locals = none := ub.free _ _ hoC HC
  show wpAny _ _ (noteFrame (.ref a) ce) _ _ s'
  rw [noteFrame_env _ cF]
  refine HandSPX.looks_onZ Zc.steady hfr hf fl' fun h1 held1 up1 => ?_
  have hn1 : h1.Ns ce.locals mC := Heap.Ns.upToSlots (⟨oC, esC, epC, fl.1 _ _ BC, hdC, hrC⟩ : s'.heap.Ns ce.locals mC) up1
  refine ⟨mC, hn1, fun h2 m2 hn2 sb2 => ?_⟩
  obtain ⟨B', b1, b2⟩ := restrict B fun b => decide (b ≠ ce.locals)
  have bk : ∀ b, b ≠ ce.locals → B'.get? b = B.get? b := fun b hb => b1 b (decide_eq_true hb)
  have bC : B'.get? ce.locals = none := b2 _ (by simp)
  have bsub : ∀ b o, B'.get? b = some o → b ≠ ce.locals ∧ B.get? b = some o := fun b o e => by
    by_cases hb : b = ce.locals
    · rw [hb, bC] at e; cases e
    · exact ⟨hb, (bk b hb).symm.trans e⟩
  obtain ⟨st1, bn1, ff1, oe, vs, T, oT, ts, he, hz, hd, hv1, hnT, hTe, hT, hdT, h3⟩ := held1
  obtain ⟨oC1, _, _, hoC1, hdC1, _⟩ := id hn1
  have nea : a ≠ ce.locals := fun z => by
    rw [z, hoC1] at he
    have z2 := Option.some.inj he
    rw [z2, hd] at hdC1
    cases hdC1
  have neT : T ≠ ce.locals := fun z => by
    rw [z, hoC1] at hT
    have z2 := Option.some.inj hT
    rw [z2, hdT] at hdC1
    cases hdC1
  have ff2 : h2.FunFrames B (X.env :: X.outer) := Heap.FunFrames.sameBut sb2 hn2 ff1
  have held2 : HandSPX.HeldZ B' (X.env :: X.outer) a (Zc cls d) X.env.locals h2 := by
    refine ⟨fun b o e => ?_, ?_, funFrames_none ff2 fun L hL => ?_, oe, vs, T, oT, ts, ?_, hz, hd, hv1, ?_, hTe, ?_, hdT, h3⟩
    · obtain ⟨n, e'⟩ := bsub b o e
      exact (sb2.2 b n).trans (st1 b o e')
    · rw [bk a nea]; exact bn1
    · by_cases e : L = ce.locals
      · rw [e]; exact bC
      · rw [bk L e]
        obtain ⟨hnL, _⟩ := ff1.mem hL
        exact hnL
    · exact (sb2.2 a nea).trans he
    · rw [bk T neT]; exact hnT
    · exact (sb2.2 T neT).trans hT
  obtain ⟨_, _, _, oe2, vs2, T2, _, _, he2, _, hd2, hv2, _⟩ := id held2
  unfold PySem.passOn
  refine wpAny_bind (wpAny_field he2 hd2 hv2 ?_)
  rw [if_neg (show ¬ ((Value.ref T2 == Value.none) = true) from by simp)]
  rw [cF, hf]
  refine wpAny_bind (HandSPX.setFlight_onZ held2 fun h4 held4 up4 => wpAny_throw (tk _ _ ?_))
  -- the state without the exception and without the block
  obtain ⟨G, g1, g2⟩ := restrict h4 fun b => (B'.get? b).isSome || decide (b ∈ frs X.stack)
  have st4 : B'.StaysIn h4 := held4.1
  have gB : ∀ b o, B'.get? b = some o → G.get? b = some o := fun b o e => by
    rw [g1 b (by simp [e])]
    exact st4 b o e
  have gF : ∀ b, b ∈ frs X.stack → G.get? b = h4.get? b := fun b hb => g1 b (by simp [hb])
  have og : ∀ b o, G.get? b = some o → h4.get? b = some o ∧ ((B'.get? b).isSome = true ∨ b ∈ frs X.stack) := fun b o e => by
    cases q : ((B'.get? b).isSome || decide (b ∈ frs X.stack)) with
    | false => rw [g2 b q] at e; cases e
    | true =>
      rw [g1 b q] at e
      exact ⟨e, by simpa [Bool.or_eq_true] using q⟩
  have old : ∀ b o, s3.heap.get? b = some o → b ≠ ce.locals := fun b o e => Nat.ne_of_lt (Nat.lt_of_lt_of_le (Heap.lt_size e) cL)
  -- a frame's object, through all
  have slots : ∀ b o, b ∈ frs X.stack → s3.heap.get? b = some o → H3 b = none → b ∉ fp → ∃ sl, h4.get? b = some { o with slots := sl } := fun b o hb e n hx => by
    obtain ⟨_, o₀, e₀, hnf⟩ := I3.stack.mem hb
    rw [e] at e₀; cases e₀
    obtain ⟨l1, e1⟩ := Is.base.slot b o e n hb hx
    obtain ⟨l2, e2⟩ := ub.slot b _ e1 hb
    obtain ⟨l3, e3⟩ := up1 b _ e2 hnf
    have e4 := (sb2.2 b (old b o e)).trans e3
    obtain ⟨l5, e5⟩ := up4 b _ e4 hnf
    exact ⟨l5, e5⟩
  have nfp : ∀ b, b ∈ frs X.stack → b ∉ fp := fun b hb hx => by
    obtain ⟨_, q1, q2, _⟩ := f3 b hx
    rcases List.mem_cons.mp (I3.stkSub b hb) with z | z
    · exact q1 z
    · exact q2 z
  have J : Inv X pins σ H' { s' with heap := G } := by
    refine I3.call' (ch := fp) (os.trans Is.os) ⟨fun b o e n hb hx => ?_, fun b o e n hb hx => ?_, fun b o e n hx => ?_, fun b o e hx => ?_, fun b xs e => ub.tups _ _ (Is.base.tups _ _ e), fun b o xs e => ub.frzs _ _ _ (Is.base.frzs _ _ _ e), fun b ps e => ?_⟩ ?_ ag fun b hb => ?_
    · have e1 := Is.base.keep b o e n hb hx
      have n1 := Is.base.free b o e n hx
      exact gB b o ((bk b (old b o e)).trans (ub.keep b o e1 n1 hb))
    · obtain ⟨sl, q⟩ := slots b o hb e n hx
      exact ⟨sl, by rw [gF b hb]; exact q⟩
    · obtain ⟨o', e1⟩ := Is.base.there b o e hx
      exact ub.free b o' e1 (Is.base.free b o e n hx)
    · by_cases hb : b ∈ frs X.stack
      · obtain ⟨sl, q⟩ := slots b o hb e (I3.stkFree b hb) hx
        exact ⟨_, by show G.get? b = _; rw [gF b hb]; exact q⟩
      · obtain ⟨o', e1⟩ := Is.base.there b o e hx
        obtain ⟨o2, e2⟩ := ub.there b o' e1 hb
        exact ⟨o2, gB b o2 ((bk b (old b o e)).trans e2)⟩
    · obtain ⟨m1, e1⟩ := Is.base.tbls b ps e
      obtain ⟨m2, e2⟩ := ub.tbls b _ e1
      exact ⟨m1 ++ m2, by rw [e2, Array.append_assoc]⟩
    · intro b o q
      refine (hok b o q).stay (fun c v hc r => gB c v ((bk c fun z => ?_).trans r)) (fun _ r => r) fun _ _ r => r
      subst z
      rcases hc with hc | hc
      · rw [← hc, H'C] at q; cases q
      · rw [H'C] at hc; cases hc
    · obtain ⟨_, q1, q2, q3, q4, q5⟩ := f3 b hb
      exact ⟨q3, q1, q4, q5⟩
  refine ⟨a, B', { s' with heap := G }, pins, σ, H', cls, d, rfl, J, fun b o e hb => ?_, Heap.UpToSlots.of_keeps fun b o e => (og b o e).1, .inr (.inr (by rw [hs]; exact held4)), na, rfl, ag, hE⟩
  obtain ⟨e', h⟩ := og b o e
  rcases h with h | h
  · obtain ⟨o', q⟩ := Option.isSome_iff_exists.mp h
    have z := st4 b o' q
    rw [e'] at z
    cases z
    exact q
  · exact absurd h hb

/-- [elt for target in iter], elt a call that may raise as E tells: read as a plain one -/
theorem pe_lcX {elt tg iter : Expr} {scope : Scope} {own : List (Str × Nat)} {pos : Pos} {wi : TI} {g : TG} {te : TE} {E : XK}
    (hc : X.calm = true) (hN : X.N.Nodup) (hs : X.stack = X.env :: X.outer) (hf : X.env.frame = some X.env.locals) (tk : Takes X (fun cls d _ H => E cls d H)) (hi : PI X tg iter wi) (ok : BlkOk X.N X.env.scope scope own)
    (hg : ∀ (s : Shared) (H : Hp) (C : Addr) (cl : List (Str × Addr)) (fp : List Addr), PG (X.blk s H scope (compEnvC scope cl C X.env) fp) tg g)
    (he : ∀ (s : Shared) (H : Hp) (C : Addr) (cl : List (Str × Addr)) (fp : List Addr), PE (blkX X s H scope (compEnvC scope cl C X.env) fp E) elt te)
    (hfs : ∀ x, foldedSetIterable iter X.env x = pure x := by intro _; rfl) :
    PE X (.ListComp elt [⟨tg, iter, [], 0⟩] scope pos) (tLc wi g tYes te (own.map (·.2))) := by
  refine ⟨fun pins s σ H Q I h => ?_⟩
  rw [eval_ListComp]
  have cap : ∀ y ∈ scope.names, y.2 = .free → ∃ c, X.env.cells.lookup y.1 = some c := fun y hy e =>
    (ok.free y hy e).elim (fun k => I.ok.has _ (.inl k)) fun k => I.ok.has _ (.inr k)
  refine comprehension_at (use := none) rfl hfs (closure_ok cap) ok.kind (fun y hy e => by rw [ok.uniq y hy, e]) (thn (hi.run pins s σ H _ I h) fun xv s1 hx => thn hx fun itv s2 h2 => ?_)
  obtain ⟨it, fp, tn, J, H2, e, I2, T, st2, f2, q⟩ := h2
  subst e
  refine wpAny_newObj_type (newEnv_comp ?_) (by show 0 ≤ sizeLine; decide)
  generalize hD : s2.heap.objs.size = D
  obtain ⟨W, ⟨m0, w0⟩, turn⟩ := q D (I2.hok.fresh (Nat.le_of_eq hD))
  generalize hs3 : ({ s2 with heap := s2.heap.push { cls := .type "list", data := .seq ([] : List Value).toArray } } : Shared) = s3
  have h3 : s3.heap = s2.heap.push { cls := .type "list", data := .seq ([] : List Value).toArray } := by rw [← hs3]
  have I3 : Inv X pins σ (upd H2 D (.lst [])) s3 := by
    rw [← hs3]
    refine I2.laid (t' := s2.toks) (fun b o e => Heap.get?_push_of_some _ e) (Nat.le_of_eq hD) ⟨Nat.zero_le _, [], 0, .nil, ?_⟩
    rw [← hD]
    exact Heap.get?_push_size _ rfl
  have f3 : ∀ b ∈ fp, FpOk X pins (upd H2 D (.lst [])) b ∧ b < s3.heap.objs.size := fun b hb => by
    obtain ⟨o, e, _⟩ := T.obj _ _ st2 b hb
    have lt := Heap.lt_size e
    refine ⟨⟨?_, (f2 b hb).2⟩, by rw [h3, Heap.size_push]; exact Nat.lt_succ_of_lt lt⟩
    rw [upd_ne (by rw [← hD]; exact Nat.ne_of_lt lt)]
    exact (f2 b hb).1
  have st3 : tn 0 s3.heap := T.keep _ _ _ st2 fun b _ o e => by rw [h3]; exact Heap.get?_push_of_some _ e
  have I4 := block_start I3 ok hN f3
  generalize cellsFrom (s3.heap.objs.size + 1) scope.names (cloFrom X.env.cells scope.names []) = cl at I4 ⊢
  have pg := hg s3 (upd H2 D (.lst [])) s3.heap.objs.size cl fp
  have pe := he s3 (upd H2 D (.lst [])) s3.heap.objs.size cl fp
  show codeAny _ _ (.compStart (.ListComp elt [⟨tg, iter, [], 0⟩] scope pos) 0 (.ref it) (.ref D) (compEnvC scope cl s3.heap.objs.size X.env))
    (compEnds (model X.prog X.w) X.A X.xe none (EP X pins σ Q) (.ref D) (compEnvC scope cl s3.heap.objs.size X.env)) { s3 with heap := pushCells (s3.heap.push { cls := .type "dict", data := .dict #[] }) scope.names }
  have nfp : ∀ b ∈ fp, (upd H2 D (.lst [])) b = none := fun b hb => (f3 b hb).1.1
  generalize hce : compEnvC scope cl s3.heap.objs.size X.env = ce at I4 pg pe ⊢
  have cL : ce.locals = s3.heap.objs.size := by subst hce; rfl
  have cF : ce.frame = X.env.frame := by subst hce; rfl
  generalize hH3 : upd H2 D (.lst []) = H3 at I3 I4 pg pe w0 nfp f3
  generalize hs4 : ({ s3 with heap := pushCells (s3.heap.push { cls := .type "dict", data := .dict #[] }) scope.names } : Shared) = s4 at I4 ⊢
  have st4 : tn 0 s4.heap := T.keep _ _ _ st3 fun b _ o e => by rw [← hs4]; exact pushCells_keeps _ _ _ _ (Heap.get?_push_of_some _ e)
  have stat : ∀ {σ' : L2.St} {H' : Hp} {s' : Shared}, Inv (X.blk s3 H3 scope ce fp) [] σ' H' s' → (∀ b ∈ fp, H' b = none) → ∀ b ∈ fp, FpOk (X.blk s3 H3 scope ce fp) [] H' b := fun {σ' H' s'} I' hn b hb =>
    ⟨hn b hb, (I'.ok.exf b hb).1, I'.ok.exfs b hb, .inl hb, fun x c e => (I'.ok.exf b hb).2 x c e, fun p hp => absurd (show p ∈ ([] : List (Addr × Obj)) ++ [] from hp) (by simp)⟩
  have loop : codeAny (model X.prog X.w) X.A (.compLoop (.ListComp elt [⟨tg, iter, [], 0⟩] scope pos) 0 (.ref it) (.ref D) ce) (compEnds (model X.prog X.w) X.A X.xe none (EP X pins σ Q) (.ref D) ce) s4 := by
    refine compLoop_any (fun n s' => ∃ i H', Inv (X.blk s3 H3 scope ce fp) [] (wipe σ (own.map (·.2))) H' s' ∧ tn i s'.heap ∧ (∀ b ∈ fp, H' b = none) ∧ W i n H') ?_ m0 ⟨0, H3, I4, st4, nfp, w0⟩
    rintro n s5 ⟨i, H5, I5, st5, n5, w5⟩
    rcases turn i n H5 w5 with ⟨stop, qq⟩ | ⟨go, Nx, hNx, step⟩
    · refine thnF (T.done (X.blk s3 H3 scope ce fp) rfl rfl rfl hc i [] s5 _ H5 (fun _ _ => False) I5 (stat I5 n5) st5 stop) fun r s6 ⟨hr, I6⟩ => ?_
      subst hr
      have I7 : Inv X pins σ H5 s6 := I3.call' (ch := fp) I6.os I6.base I6.hok I6.bare fun b hb => by
        obtain ⟨_, q1, q2, q3, q4, q5⟩ := (f3 b hb).1
        exact ⟨q3, q1, q4, q5⟩
      have nC : H5 s3.heap.objs.size = none := by
        have z : H5 ce.locals = none := I6.free
        rw [cL] at z
        exact z
      obtain ⟨m, hn, _⟩ := I6.loc
      have hn : s6.heap.Ns ce.locals m := hn
      refine ⟨m, hn, fun h'' sb => ?_⟩
      rw [cL] at sb
      obtain ⟨k0, k1, k2, k3, k4, k5⟩ := I3.fpOk (Nat.le_refl _) nC
      exact ⟨.ref D, H5, I7.turned (t' := s6.toks) (fun b o hb e => (sb.2 b hb).trans e) k0 k1 k3 k4 k5, rfl, qq⟩
    · refine thnF (T.item (X.blk s3 H3 scope ce fp) rfl rfl rfl hc i [] s5 _ H5 (fun _ _ => False) I5 (stat I5 n5) st5 go) fun r s6 ⟨u, hr, h6⟩ => ?_
      subst hr
      refine thnF h6 fun _ s7 ⟨x, H7, I7, r7, y7, st7, n7⟩ => ?_
      have I7' := I7.pinned (stat I7 n7) (T.obj _ _ st7)
      refine thnF (pg.run _ s7 _ H7 x u _ I7' r7 (step x H7 y7)) fun _ s8 ⟨σ8, H8, I8, hw8, q8⟩ => ?_
      refine thnF ((pts_nil (X := X.blk s3 H3 scope ce fp)).run _ s8 σ8 H8 _ I8 q8) fun b s9 ⟨H9, I9, q9⟩ => ?_
      have fin : ∀ {s' : Shared} {H' : Hp}, Inv (X.blk s3 H3 scope ce fp) ([] ++ pinsAt fp s7.heap) σ8 H' s' → Nx H' →
          ∃ m, m < n ∧ ∃ i H', Inv (X.blk s3 H3 scope ce fp) [] (wipe σ (own.map (·.2))) H' s' ∧ tn i s'.heap ∧ (∀ b ∈ fp, H' b = none) ∧ W i m H' := fun {s' H'} I' nx => by
        obtain ⟨m', hm, w'⟩ := hNx H' nx
        have pin' : ∀ b ∈ fp, ∀ o, s7.heap.get? b = some o → s'.heap.get? b = some o ∧ H' b = none := fun b hb o e => by
          obtain ⟨z1, z2, _⟩ := I'.pin (b, o) (List.mem_append_right _ (List.mem_append_right _ (mem_pinsAt hb e)))
          exact ⟨z1, z2⟩
        refine ⟨m', hm, i + 1, H', (I'.unpinned (pins := [])).weak (by rw [← hw8, wipe_length]) (fun j v e => ?_), T.keep _ _ _ st7 fun b hb o e => (pin' b hb o e).1, fun b hb => ?_, w'⟩
        · rw [← hw8] at e
          exact (wipe_some e).1
        · obtain ⟨o, e, _⟩ := T.obj _ _ st7 b hb
          exact (pin' b hb o e).2
      cases b with
      | false =>
        simp only [Bool.false_eq_true, if_false] at q9 ⊢
        exact fin I9 q9
      | true =>
        simp only [if_true] at q9 ⊢
        refine wpAny_mono (pe.run _ s9 σ8 H9 _ (I9.wish _) q9) (fun z s10 ⟨yv, H10, I10, r10, acc, hD10, hz10, nx⟩ => ?_) fun u s' hx => flew_out hs hf I3 (fun b hb => (f3 b hb).1) (Nat.le_of_eq cL.symm) cF tk hx
        exact app_ok (X := X.blk s3 H3 scope ce fp) I10.unwish hD10 hz10 r10 fun s11 I11 => fin I11 nx
  exact codeAny_compStart_list loop (T.self X.A 0 _ _ _ st4 loop)
end
end K36
end

section
set_option Elab.async false
set_option linter.all false
set_option maxRecDepth 100000
set_option maxHeartbeats 4000000
/-! K36, defs that must know that nothing is being shown around them (they call repr); the end over such a law; calls in short. -/
namespace K36
open PySem PySem.Spec PyProof.Rows L2

/-- a def's promise where no guard stands around it -/
structure FnG (P : Program) (w : World) (K : PySem.W.Frag) (mg : Str → Option Value) (base : Heap) (k : Nat) (f : Addr) (fd : FuncData) (ps : List Str) (sp : Sp) : Prop where
  len : ∀ vs H Q E, sp vs H Q E → vs.length = ps.length
  run : ∀ (A : Around) (outer : List Env) (s : Shared) (H : Hp) (args : Args) (us : List Value) (vs : List V) (Q : VK) (E : XK), A.guards = some [] → Room k A →
    Env0 P w K mg base A outer s H → BindsTo s fd args (ps.zip us) → Vals vs us → sp vs H Q E → codeAny (model P w) A (.call (.ref f) args) (CR CX0 outer P w H s Q E) s

section
variable {P : Program} {w : World} {K : PySem.W.Frag} {mg : Str → Option Value} {base : Heap}
theorem okG {x qual : Str} {st : Stmt} {f : Addr} {fd : FuncData} {N ps : List Str} {k : Nat} {sp : Sp} (F : Fun K x qual st f fd) (S : FnScope N ps (defScope st)) (len : ∀ vs H Q E, sp vs H Q E → vs.length = ps.length)
    (hbody : ∀ (cdv : Value) (A : Around) (outer : List Env) (s : Shared) (H : Hp) (vs : List V) (Q : VK) (E : XK), A.guards = some [] → Room k (A.deeper (envOfC qual (defScope st) s.heap.objs.size f cdv)) → sp vs H Q E →
      ∃ t, PSs (cxOf CX0 P w K mg base N qual (defScope st) f cdv A outer s H E).nox (defBody st) t ∧ t { nx := fun _ H' => Q .non H', rt := Q } (start N vs) H) : FnG P w K mg base (k + 1) f fd ps sp := by
  obtain ⟨oc, od, kV, doc, pm, an, cdv, ct, osl, rfl, lk, hcd⟩ := F.ex
  refine ⟨len, fun A outer s H args us vs Q E hgd hr e0 hb r hsp => ?_⟩
  have bs : ∀ b o, base.get? b = some o → s.heap.get? b = some o := fun b o e => (e0.bs b o e).1
  have KX : K.In s.heap := e0.mod.kin.keeps bs
  refine codeAny_call_function hr.depth (KX _ _ lk) rfl S.co S.gen rfl (PySem.W.codeRec_of KX hcd) (hb _ _ _ _ ?_)
  refine wpAny_newFunctionEnv_cells S.kind (fun y hy => ?_) fun env he s1 x1 => ?_
  · rcases S.par y.1 (List.of_mem_zip (a := y.1) (b := y.2) hy).1 with q | q
    · exact .inl q
    · exact .inr ⟨q, PySem.W.cellsFrom_some _ _ _ (.inl q)⟩
  · subst he
    refine ⟨(e0.mod.nolimit.keeps bs).keeps x1.toInCall.keep, codeAny_func ?_⟩
    obtain ⟨t, ht, hq⟩ := hbody cdv A outer s H vs Q E hgd (hr.deeper _) hsp
    have I := inv_start (CX := CX0) (E := E) S hr.hd e0 (len _ _ _ _ hsp) r x1
    refine wpAny_mono (ht.nox.run [] s1 (start N vs) H _ I hq) (fun fl s' hs => ?_) fun e s' hs => hs
    have fin : ∀ {σ' : L2.St} {H' : Hp} {v : V} {u : Value}, Inv (cxOf CX0 P w K mg base N qual (defScope st) f cdv A outer s H E) [] σ' H' s' → RelV v u → Q v H' → CE outer P w H s Q u s' :=
      fun {σ' H' v u} J rv q => ⟨v, H', J.os, J.bare, J.base, J.hok, rv, q⟩
    cases fl with
    | ret u =>
      obtain ⟨v, σ', H', J, rv, q⟩ := hs
      exact fin J rv q
    | next =>
      obtain ⟨σ', H', J, q⟩ := hs
      exact fin (v := V.non) (u := Value.none) J rfl q
    | brk => exact False.elim hs.choose_spec.choose_spec.2
    | cont => exact False.elim hs.choose_spec.choose_spec.2
end

/-- a def of the module that may be called: its promise, where it stands, how it binds -/
structure Dfn (P : Program) (w : World) (K : PySem.W.Frag) (mg : Str → Option Value) (base : Heap) (CX : CXT) (k : Nat) (x : Str) (ps : List Str) (dvs : List V) (sp : Sp) : Prop where
  ex : ∃ f fd ds, FnOk P w K mg base CX k f fd ps sp ∧ mg x = some (.ref f) ∧ PySem.W.keepIn K (.ref f) = true ∧ Binds K fd ps ds ∧ Vals dvs ds
structure DfnG (P : Program) (w : World) (K : PySem.W.Frag) (mg : Str → Option Value) (base : Heap) (k : Nat) (x : Str) (ps : List Str) (sp : Sp) : Prop where
  ex : ∃ f fd, FnG P w K mg base k f fd ps sp ∧ mg x = some (.ref f) ∧ PySem.W.keepIn K (.ref f) = true ∧ Binds K fd ps []
section
variable {X : Cx} {CX : CXT} {k : Nat} {x : Str} {ps : List Str} {sp : Sp} {dvs : List V} {E : XK} {p pos : Pos} {e : Expr} {es : List Expr} {t : TA}
theorem pe_dfn (D : Dfn X.prog X.w X.K X.mg X.base CX k x ps dvs sp) (hr : Room k X.A) (hg : Gl X x) (hx : Passes CX X E) (ha : PA X (e :: es) t) (hdb : (x == ("__debug__" : Str)) = false := by decide)
    (he : starEach (e :: es) X.env = (false, eval e X.env) :: starEach es X.env := by rfl) (hpl : (backTo pos (starEach es X.env)).any (·.1) = false := by rfl) : PE X (.Call (.Name x p) (e :: es) [] pos) (tCall sp dvs E t) := by
  obtain ⟨f, fd, ds, F, hm, hk, hb, hd⟩ := D.ex
  exact pe_call F hr hg hm hk hb hd hx ha hdb he hpl
theorem pe_dfnG (D : DfnG X.prog X.w X.K X.mg X.base k x ps sp) (hgd : X.A.guards = some []) (hr : Room k X.A) (hg : Gl X x) (ha : PA X (e :: es) t) (hdb : (x == ("__debug__" : Str)) = false := by decide)
    (he : starEach (e :: es) X.env = (false, eval e X.env) :: starEach es X.env := by rfl) (hpl : (backTo pos (starEach es X.env)).any (·.1) = false := by rfl) : PE X (.Call (.Name x p) (e :: es) [] pos) (tCall sp [] E0 t) := by
  obtain ⟨f, fd, F, hm, hk, hb⟩ := D.ex
  refine ⟨fun pins s σ H Q I h => wpAny_Call_Name_kw (ld_glob I hg hm ?_ hdb)⟩
  refine PySem.W.callWith_K (h₀ := X.base) I.ok.mod.kin hk (thn (ha.run pos pins s σ H _ I h) fun us s1 hq => ?_) he hpl
  obtain ⟨vs, H1, I1, r, q⟩ := hq
  refine ⟨I1.kIn, wpAny_call ?_⟩
  have q : sp vs H1 Q E0 := by
    have z : sp (vs ++ []) H1 Q E0 := q
    rwa [List.append_nil] at z
  have hl : (us ++ []).length = ps.length := by rw [List.append_nil, ← r.length]; exact F.len _ _ _ _ q
  have hb' := hb s1 us I1.kIn hl
  rw [List.append_nil] at hb'
  refine codeAny_mono (F.run X.A X.stack s1 H1 ⟨us, []⟩ us vs Q E0 hgd hr I1.env0 hb' r q) fun r' s' hq => ?_
  rcases r' with er | (_ | _ | _ | u)
  · exact hq.elim
  all_goals first | exact I1.after hq | exact False.elim hq
end

/-! ### the end -/
theorem law_callG {P : Program} {w : World} {K : PySem.W.Frag} {mg mb : Str → Option Value} {k : Nat} {fa a : Addr} {fd : FuncData} {x : Str} {sp : Sp} {s₁ : Shared} {vs : List Value} {ns : List Int}
    (KX : K.In s₁.heap) (hns : s₁.heap.Ns mainGlobals mg) (hb : s₁.heap.Ns builtinsNs mb) (hbb : ∀ x : Str, x ≠ "__name__" → mb x = bootBuiltins x) (hlim : s₁.heap.NoLimit) (hg : s₁.gens = #[])
    (ha : s₁.heap.get? a = some { cls := .type "list", data := .seq vs.toArray }) (hi : IntsAre vs ns) (hl : ns.length ≤ sizeLine) (hr : Room k callerA)
    (F : ∀ base : Heap, K.In base → base.Ns mainGlobals mg → FnG P w K mg base k fa fd [x] sp) (hbind : ∀ (s : Shared) (u : Value), BindsTo s fd ⟨[u], []⟩ [(x, u)])
    (hsp : ∀ H : Hp, SqL K H a (ns.map V.int) → sp [.ref a] H (fun v _ => v = .bl true) E0) :
    codeAny (model P w) callerA (.call (.ref fa) ⟨[.ref a], []⟩) (fun r s' => r = .ok (.ret (.bool true)) ∧ OldK s₁.heap s'.heap ∧ s'.os = s₁.os ∧ AllBare s'.gens) s₁ := by
  have rv := vals_ints hi
  -- whatever is told ahead of the call: the script alone, or nothing
  have core : ∀ H : Hp, SqL K H a (ns.map V.int) → HOk P w H s₁.heap → (∀ b u, H b = some u → b = a ∧ K.lookup b = none ∧ ∃ o xs, u = .frz o (.lst xs)) →
      codeAny (model P w) callerA (.call (.ref fa) ⟨[.ref a], []⟩) (fun r s' => r = .ok (.ret (.bool true)) ∧ OldK s₁.heap s'.heap ∧ s'.os = s₁.os ∧ AllBare s'.gens) s₁ := by
    intro H hS hok hA
    have lft : ∀ {b : Addr} {o : Obj}, s₁.heap.get? b = some o → (∀ u, H b ≠ some u) → (hidT s₁.heap H).get? b = some o := fun {b o} e n => hidT_get e (by
      cases q : H b with
      | none => rfl
      | some u => exact absurd q (n u))
    have nsK : ∀ {b : Addr} {m : Str → Option Value}, s₁.heap.Ns b m → (hidT s₁.heap H).Ns b m := fun {b m} ⟨o, es, ep, e, d, r⟩ => ⟨o, es, ep, lft e (fun u q => by
      obtain ⟨rfl, _⟩ := hA b u q
      rw [ha] at e
      have z := Option.some.inj e
      subst z
      cases d), d, r⟩
    have hKb : K.In (hidT s₁.heap H) := fun b o e => lft (KX b o e) fun u q => by
      obtain ⟨_, z, _⟩ := hA b u q
      rw [z] at e
      cases e
    have hM : Mod K mg (hidT s₁.heap H) := ⟨hKb, nsK hns, ⟨mb, nsK hb, hbb⟩, hlim.imp fun mc z => ⟨nsK z.1, z.2⟩⟩
    have e0 : Env0 P w K mg (hidT s₁.heap H) callerA [] s₁ H := ⟨rfl, hM, fun b o e => of_hidT e, Nat.le_of_eq (hidT_size _ _), trivial, fun b z => (nomatch z), hok, .of_eq hg⟩
    refine codeAny_mono ((F _ hKb (nsK hns)).run callerA [] s₁ H ⟨[.ref a], []⟩ [.ref a] [.ref a] _ _ rfl hr e0 (hbind s₁ (.ref a)) (.cons rfl .nil) (hsp H hS)) fun r s' h => ?_
    rcases r with er | (_ | _ | _ | u)
    · exact h.elim
    · exact False.elim h
    · exact False.elim h
    · exact False.elim h
    · obtain ⟨v, H', os, bare, un, hok', r', q⟩ := h
      have q' : v = .bl true := q
      subst q'
      obtain rfl : u = Value.bool true := r'
      refine ⟨rfl, OldK.of_keep fun b o e => ?_, os, bare⟩
      cases q : H b with
      | none => exact un.keep b o e q (fun z => nomatch z) (fun z => nomatch z)
      | some u =>
        obtain ⟨_, _, ob, xs, rfl⟩ := hA b u q
        obtain ⟨e1, _⟩ := hok b _ q
        obtain ⟨e2, _⟩ := hok' b _ (un.frzs b ob _ q)
        rw [e] at e1
        rw [Option.some.inj e1]
        exact e2
  cases hk : K.lookup a with
  | some o =>
    have e := KX a o hk
    rw [ha] at e
    have z := Option.some.inj e
    subst z
    exact core (fun _ => none) (.inr ⟨_, vs.toArray, _, hk, rfl, rfl, rfl, by rw [List.size_toArray, hi.length]; exact hl, by simpa using rv⟩) (fun b u z => nomatch z) fun b u z => nomatch z
  | none =>
    have one : ∀ b u, (fun c : Addr => if c = a then some (HO.frz { cls := .type "list", data := .seq vs.toArray } (.lst (ns.map V.int))) else none) b = some u → b = a ∧ u = .frz { cls := .type "list", data := .seq vs.toArray } (.lst (ns.map V.int)) := fun b u z => by
      by_cases q : b = a
      · have z' := (if_pos q).symm.trans z
        exact ⟨q, (Option.some.inj z').symm⟩
      · have z' := (if_neg q).symm.trans z
        cases z'
    refine core (fun c => if c = a then some (.frz { cls := .type "list", data := .seq vs.toArray } (.lst (ns.map V.int))) else none) (.inl (.inr ⟨_, if_pos rfl⟩)) (fun b u z => ?_) fun b u z => ?_
    · obtain ⟨rfl, rfl⟩ := one b u z
      exact ⟨ha, by rw [List.length_map]; exact hl, vs, _, rv, ha⟩
    · obtain ⟨rfl, rfl⟩ := one b u z
      exact ⟨rfl, hk, _, _, rfl⟩
/-- the goal that k_head leaves, from a law's promise that may show data -/
theorem walk_G {l : PySem.W.OpenLaw} {n k : Nat} {q : Program} {loose : List Str} {XP : (Str → Option Value) → Heap → Prop} {YP : World → Heap → Prop} {d : DefRec} {K : Params → PySem.W.Frag} {sp : World → Sp} {x : Str}
    (hn : l.most = some n) (hn2 : n ≤ sizeLine) (hdf : d.params.defaults = []) (hr : Room k callerA) (hY : ∀ (w : World) (h : Heap), YP w h → (K w.params).In h)
    (F : ∀ (w : World) (mg : Str → Option Value) (fa : Addr) (h : Heap), (K w.params).In h → h.Ns mainGlobals mg → mg d.name = some (.ref fa) →
      ∃ fd : FuncData, (∀ (s : Shared) (u : Value), BindsTo s fd ⟨[u], []⟩ [(x, u)]) ∧ ∀ base : Heap, (K w.params).In base → base.Ns mainGlobals mg → FnG l.prog w (K w.params) mg base k fa fd [x] (sp w))
    (hsp : ∀ (w : World) (H : Hp) (a : Addr) (ns : List Int), ns.length ≤ n → SqL (K w.params) H a (ns.map V.int) → sp w [.ref a] H (fun v _ => v = .bl true) E0) :
    PySem.W.WalkO q loose XP YP l.row.toRowW d [] (fun f vs => PySem.call f vs) := by
  refine Att.attach_call hn hdf fun w s₀ s₁ mg mb fa o pm cd doc a vs ns G Y ho hd hcd hmg hobj hints hlen hg => ?_
  obtain ⟨fd, hb, hF⟩ := F w mg fa _ (hY w _ Y) G.T.g hmg
  exact law_callG (hY w _ Y) G.T.g G.T.b G.T.builtins G.T.nolimit hg hobj hints (Nat.le_trans hlen hn2) hr hF hb fun H hS => hsp w H a ns hlen hS
end K36
end

section
set_option Elab.async false
set_option linter.all false
set_option maxRecDepth 100000
set_option maxHeartbeats 4000000
/-! K36, the module of ratios. -/
namespace K36
open PySem PySem.Spec PyProof.Rows L2

def topS (i : Nat) : Stmt := PySem.Challenge.pw_thinslopes_k36_whole_answers_are_the_pro.main.body.getD i (.Pass ⟨0, 0, 0, 0⟩)

/-- names that the module leaves to the built-in ones -/
structure Bi (mg : Str → Option Value) : Prop where
  len : mg "len" = none
  abs : mg "abs" = none
  sum : mg "sum" = none
  max : mg "max" = none
  repr : mg "repr" = none
  isinstance : mg "isinstance" = none
  int : mg "int" = none
  bool : mg "bool" = none
  str : mg "str" = none
  list : mg "list" = none
  tuple : mg "tuple" = none
  range : mg "range" = none
  zip : mg "zip" = none
  enumerate : mg "enumerate" = none

theorem ibF {b : Bool} {A B : Prop} (e : b = false) (h : B) : if b = true then A else B := by
  rw [e]
  exact iteF h
theorem ibT {b : Bool} {A B : Prop} (e : b = true) (h : A) : if b = true then A else B := by
  rw [e]
  exact iteT h
theorem ib2 {b : Bool} {A B : Prop} (h1 : b = true → A) (h2 : b = false → B) : if b = true then A else B := by
  cases b with
  | true => exact iteT (h1 rfl)
  | false => exact iteF (h2 rfl)
def optV : Option Int → V
  | none => .non
  | some i => .int i
def isWhole (d : PyData) (lo hi : Option Int) : Bool :=
  match d with
  | .int i => (match lo with | some l => decide (l ≤ i) | none => true) && (match hi with | some h => decide (i ≤ h) | none => true)
  | _ => false

section
variable {P : Program} {w : World} {K : PySem.W.Frag} {mg : Str → Option Value} {base : Heap}

/-! ### is_sequence -/
abbrev s_is_sequence : Stmt := topS 9
theorem sc_is_sequence : FnScope ["thing"] ["thing"] (defScope s_is_sequence) := ⟨rfl, rfl, rfl, by decide +kernel, rfl, by decide +kernel, by decide +kernel⟩
def spIsSeq (K : PySem.W.Frag) : Sp := fun vs H Q _ => ∃ v d, vs = [v] ∧ Da K H v d ∧ ∀ H', Same H H' → Q (.bl (isSeqD d)) H'
theorem ok_is_sequence {f : Addr} {fd : FuncData} {k : Nat} (F : Fun K "is_sequence" "is_sequence" s_is_sequence f fd) (B : Bi mg) : FnOk P w K mg base CX0 (k + 1) f fd ["thing"] (spIsSeq K) := by
  refine F.ok sc_is_sequence (fun vs H Q E h => ?_) (fun cdv A outer s H vs Q E hr h => ?_)
  · obtain ⟨v, d, rfl, _⟩ := h
    rfl
  · obtain ⟨v, d, rfl, hd, q⟩ := h
    refine ⟨_, (pss_one (ps_ret (pe_callB call_isLT (by rfl) B.isinstance (by decide +kernel) (pa_cons (pv 0) (pa_cons (pe_tup (pa_cons (pe_bltn (v := .ty "list") (by rfl) B.list (by decide +kernel) rfl) (pa_cons (pe_bltn (v := .ty "tuple") (by rfl) B.tuple (by decide +kernel) rfl) pa_nil))) pa_nil))))), ?_⟩
    refine ⟨v, rfl, by show 2 ≤ sizeLine; decide, fun t ht => ?_⟩
    exact ⟨v, t, d, rfl, upd_same, da_mono (same_upd ht) hd, q _ (same_upd ht)⟩

/-! ### is_whole -/
abbrev s_is_whole : Stmt := topS 10
theorem sc_is_whole : FnScope ["thing", "low", "high"] ["thing", "low", "high"] (defScope s_is_whole) := ⟨rfl, rfl, rfl, by decide +kernel, rfl, by decide +kernel, by decide +kernel⟩
def spIsWhole (K : PySem.W.Frag) : Sp := fun vs H Q _ => ∃ v d lo hi, vs = [v, optV lo, optV hi] ∧ Da K H v d ∧ Q (.bl (isWhole d lo hi)) H
theorem ok_is_whole {f : Addr} {fd : FuncData} {k : Nat} {oc dV kV doc pm cdv ct : Value} {an od : Option Addr} {osl : Array (Option Value)}
    (lk : K.lookup f = some ⟨oc, od, .func (PySem.W.fnOf "is_whole" "is_whole" (defArgs s_is_whole) (defBody s_is_whole) (defScope s_is_whole) dV kV doc pm an cdv ct), osl⟩) (hcd : PySem.W.codeIn K cdv "is_whole" = true) (B : Bi mg) :
    FnOk P w K mg base CX0 (k + 1) f (PySem.W.fnOf "is_whole" "is_whole" (defArgs s_is_whole) (defBody s_is_whole) (defScope s_is_whole) dV kV doc pm an cdv ct) ["thing", "low", "high"] (spIsWhole K) := by
  refine fn_of lk hcd sc_is_whole (fun vs H Q E h => ?_) (fun A outer s H vs Q E hr h => ?_)
  · obtain ⟨v, d, lo, hi, rfl, _⟩ := h
    rfl
  · obtain ⟨v, d, lo, hi, rfl, hd, q⟩ := h
    refine ⟨_, PSs.nox (pss_cons (ps_if (PW.pt (pw_or (pt_not (pt_val (pe_callB call_isN (by rfl) B.isinstance (by decide +kernel) (pa_cons (pv 0) (pa_cons (pe_bltn (v := .ty "int") (by rfl) B.int (by decide +kernel) rfl) pa_nil))))) (pw_or1 (pt_val (pe_callB call_isN (by rfl) B.isinstance (by decide +kernel) (pa_cons (pv 0) (pa_cons (pe_bltn (v := .ty "bool") (by rfl) B.bool (by decide +kernel) rfl) pa_nil)))))))
        (pss_one (ps_ret pe_bl))
        pss_nil)
      (pss_cons (ps_if (PW.pt (pw_and (pt_cmpR op_notN (pv 1) pe_non (nomark _)) (pw_and1 (pt_cmpR op_lt (pv 0) (pv 1) (nomark _)))))
        (pss_one (ps_ret pe_bl))
        pss_nil)
      (pss_one (ps_ret (pe_or (pe_cmpR op_isN (pv 2) pe_non (nomark _)) (pe_one (pe_cmpR op_le (pv 0) (pv 2) (nomark _)))))))), ?_⟩
    refine ⟨v, rfl, v, "int", d, _, rfl, hd, kit_int d, _, rfl, ?_⟩
    cases e1 : isD d "int" with
    | false =>
      refine iteT (iteT ?_)
      have e : isWhole d lo hi = false := by cases d <;> first | rfl | (simp [isS, tyN] at e1)
      rw [e] at q
      exact q
    | true =>
      refine iteF ⟨v, rfl, v, "bool", d, _, rfl, hd, kit_bool d, _, rfl, ?_⟩
      cases e2 : isD d "bool" with
      | true =>
        refine iteT ?_
        have e : isWhole d lo hi = false := by cases d <;> first | rfl | (simp [isS, tyN] at e2)
        rw [e] at q
        exact q
      | false =>
        refine iteF ?_
        obtain ⟨i, rfl⟩ : ∃ i, d = .int i := by
          cases d with
          | int i => exact ⟨i, rfl⟩
          | _ => simp [isS, tyN] at e1 e2
        obtain rfl : v = .int i := by
          rcases hd with hd | ⟨z, _⟩
          · exact dp_int hd
          · cases z
        -- low
        refine ⟨_, rfl, rfl, _, rfl, ?_⟩
        have tail : isWhole (.int i) none hi = isWhole (.int i) lo hi →
            (tRet (tOrV (tOp (fun x y H Q => y = V.non ∧ Q (.bl (decide (x = .non))) H) (tVar 2) (tC V.non)) (tOp (rI0 fun i j => .bl (decide (i ≤ j))) (tVar 0) (tVar 2)))) { nx := fun _ H' => Q .non H', rt := Q } (start ["thing", "low", "high"] [.int i, optV lo, optV hi]) H := fun e => by
          refine ⟨_, rfl, rfl, _, rfl, ?_⟩
          cases hi with
          | none =>
            refine iteT ?_
            rw [← e] at q
            exact q
          | some h =>
            refine iteF ⟨_, rfl, _, rfl, i, h, rfl, rfl, ?_⟩
            rw [← e] at q
            exact q
        cases lo with
        | none => exact iteF (iteF (tail rfl))
        | some l =>
          refine iteT ⟨_, rfl, _, rfl, i, l, rfl, rfl, _, rfl, ?_⟩
          by_cases hl : i < l
          · rw [decide_eq_true hl]
            refine iteT ?_
            have e : isWhole (.int i) (some l) hi = false := by
              show (decide (l ≤ i) && _) = false
              rw [decide_eq_false (by omega), Bool.false_and]
            rw [e] at q
            exact q
          · rw [decide_eq_false hl]
            refine iteF (tail ?_)
            show _ = (decide (l ≤ i) && _)
            rw [decide_eq_true (show l ≤ i by omega)]
            rfl
end
end K36
end

section
set_option Elab.async false
set_option linter.all false
set_option maxRecDepth 100000
set_option maxHeartbeats 4000000
/-! K36, the module of ratios, further. -/
namespace K36
open PySem PySem.Spec PyProof.Rows L2

/-- lowest terms, the bottom above 0 -/
def norm (t b : Int) : Int × Int := (t / (Int.gcd t b : Int), b / (Int.gcd t b : Int))
abbrev ratD (r : Int × Int) : PyData := .tuple [.int r.1, .int r.2]
theorem gcd_step (x y : Int) (hy : 0 ≤ y) (hx : 0 ≤ x) : Int.gcd y (x % y) = Int.gcd x y := by
  rw [Int.gcd_comm x y]
  unfold Int.gcd
  have e : (x % y).natAbs = x.natAbs % y.natAbs := by
    rcases Int.eq_ofNat_of_zero_le hx with ⟨a, rfl⟩
    rcases Int.eq_ofNat_of_zero_le hy with ⟨b, rfl⟩
    simp only [Int.natAbs_natCast]
    rw [← Int.natCast_emod, Int.natAbs_natCast]
  rw [e]
  have h := Nat.gcd_rec y.natAbs x.natAbs
  rw [h, Nat.gcd_comm]

section
variable {P : Program} {w : World} {K : PySem.W.Frag} {mg : Str → Option Value} {base : Heap}

/-! ### common_divisor -/
abbrev s_common_divisor : Stmt := topS 11
theorem sc_common_divisor : FnScope ["one", "other"] ["one", "other"] (defScope s_common_divisor) := ⟨rfl, rfl, rfl, by decide +kernel, rfl, by decide +kernel, by decide +kernel⟩
def spGcd : Sp := fun vs H Q _ => ∃ a b : Int, vs = [.int a, .int b] ∧ Q (.int (Int.gcd a b : Int)) H
/-- the walk of Euclid, for both defs that do it -/
theorem euclid {tb : TS} {D : Ends} {H : Hp} {mk : Int → Int → L2.St} {x y : Int} (hx : 0 ≤ x) (hy : 0 ≤ y) (c : TT)
    (hc : ∀ x y Q, 0 ≤ x → 0 ≤ y → Q (!decide (y = 0)) H → c (mk x y) H Q)
    (hb : ∀ x y (N : L2.St → Hp → Prop), 0 ≤ x → 0 < y → N (mk y (x % y)) H → tb { D with nx := N, ct := N, bk := D.nx } (mk x y) H)
    (q : D.nx (mk (Int.gcd x y) 0) H) : tWhile c tb D (mk x y) H := by
  refine ⟨fun m σ H' => ∃ x' y', σ = mk x' y' ∧ H' = H ∧ 0 ≤ x' ∧ 0 ≤ y' ∧ Int.gcd x' y' = Int.gcd x y ∧ m = y'.natAbs, ⟨_, x, y, rfl, rfl, hx, hy, rfl, rfl⟩, ?_⟩
  rintro m σ H' ⟨x', y', rfl, rfl, hx', hy', hg, rfl⟩
  refine hc x' y' _ hx' hy' ?_
  by_cases h0 : y' = 0
  · subst h0
    refine iteF ?_
    have e : x' = (Int.gcd x y : Int) := by
      rw [← hg, Int.gcd_zero_right]
      omega
    rw [e]
    exact q
  · rw [decide_eq_false h0]
    refine iteT ⟨fun σ' H2 => σ' = mk y' (x' % y') ∧ H2 = H', fun σ' H2 hn => ?_, hb x' y' _ hx' (by omega) ⟨rfl, rfl⟩⟩
    obtain ⟨rfl, rfl⟩ := hn
    have h1 := Int.emod_nonneg x' h0
    have h2 := Int.emod_lt_of_pos x' (show 0 < y' by omega)
    exact ⟨_, by omega, y', x' % y', rfl, rfl, hy', h1, (gcd_step x' y' hy' hx').trans hg, rfl⟩
theorem ok_common_divisor {f : Addr} {fd : FuncData} {k : Nat} (F : Fun K "common_divisor" "common_divisor" s_common_divisor f fd) (B : Bi mg) : FnOk P w K mg base CX0 (k + 1) f fd ["one", "other"] spGcd := by
  refine F.ok sc_common_divisor (fun vs H Q E h => ?_) (fun cdv A outer s H vs Q E hr h => ?_)
  · obtain ⟨a, b, rfl, _⟩ := h
    rfl
  · obtain ⟨a, b, rfl, q⟩ := h
    refine ⟨_, (pss_cons (ps_set (i := 0) sc_common_divisor.nd rfl (.inl rfl) (pe_callB call_abs (by rfl) B.abs (by decide +kernel) (pa_cons (pv 0) pa_nil)))
      (pss_cons (ps_set (i := 1) sc_common_divisor.nd rfl (.inl rfl) (pe_callB call_abs (by rfl) B.abs (by decide +kernel) (pa_cons (pv 1) pa_nil)))
      (pss_cons (ps_while PassesOwn.never (pt_cmpR op_ne (pv 1) pe_int (nomark _)) (pss_one (ps_par (i := 0) (j := 1) rfl sc_common_divisor.nd rfl rfl (by decide) rfl rfl (pa_cons (pv 1) (pa_cons (pe_op op_mod (pv 0) (pv 1)) pa_nil)) (by rfl))))
      (pss_one (ps_ret (pv 0)))))), ?_⟩
    refine ⟨_, rfl, a, rfl, _, rfl, b, rfl, ?_⟩
    have ea : (if a < 0 then -a else a) = (a.natAbs : Int) := by split <;> omega
    have eb : (if b < 0 then -b else b) = (b.natAbs : Int) := by split <;> omega
    rw [ea, eb]
    refine euclid (mk := fun x y => [some (.int x), some (.int y)]) (by omega) (by omega) _ (fun x y Q _ _ q' => ?_) (fun x y N hx hy n => ?_) ?_
    · refine ⟨_, rfl, rfl, _, rfl, ?_⟩
      have e : (!decide (V.int y = V.int 0)) = (!decide (y = 0)) := by
        by_cases h : y = 0
        · subst h; rfl
        · rw [decide_eq_false h, decide_eq_false fun z => h (V.int.inj z)]
      rw [e]
      exact q'
    · exact ⟨_, rfl, _, rfl, _, rfl, x, y, rfl, rfl, hy, _, _, rfl, n⟩
    · refine ⟨_, rfl, ?_⟩
      have e : Int.gcd (a.natAbs : Int) (b.natAbs : Int) = Int.gcd a b := by unfold Int.gcd; simp
      rw [e]
      exact q

/-! ### make_ratio -/
/-- below a power of two in size -/
def Sm (i : Int) (k : Nat) : Prop := i.natAbs < 2 ^ k
theorem Sm.mono {i : Int} {k l : Nat} (h : Sm i k) (le : k ≤ l) : Sm i l := Nat.lt_of_lt_of_le h (Nat.pow_le_pow_right (by decide) le)
theorem gcd_sm {t b : Int} {k : Nat} (hb : 0 < b) (h : Sm b k) : Sm (Int.gcd t b : Int) k := by
  have h1 : (Int.gcd t b) ≤ b.natAbs := Nat.le_of_dvd (by omega) (Nat.gcd_dvd_right _ _)
  show (Int.gcd t b : Int).natAbs < 2 ^ k
  rw [Int.natAbs_natCast]
  exact Nat.lt_of_le_of_lt h1 h
theorem gcd_pos {t b : Int} (hb : 0 < b) : 0 < (Int.gcd t b : Int) := by
  have h := Nat.gcd_pos_of_pos_right (m := t.natAbs) (show 0 < b.natAbs by omega)
  show 0 < ((Nat.gcd t.natAbs b.natAbs : Nat) : Int)
  omega
theorem gcd_div {t b : Int} (hb : 0 < b) (h : Sm b 2000) : CDivW t (Int.gcd t b : Int) := wide_div (gcd_pos hb) (gcd_sm hb h) (by decide) (by decide)
abbrev s_make_ratio : Stmt := topS 12
theorem sc_make_ratio : FnScope ["top", "bottom", "shared"] ["top", "bottom"] (defScope s_make_ratio) := ⟨rfl, rfl, rfl, by decide +kernel, rfl, by decide +kernel, by decide +kernel⟩
def spMake : Sp := fun vs H Q _ => ∃ t b : Int, vs = [.int t, .int b] ∧ 0 < b ∧ Sm b 2000 ∧ ∀ p, H p = none → Q (.ref p) (upd H p (.tup [.int (norm t b).1, .int (norm t b).2]))
theorem ok_make_ratio {f : Addr} {fd : FuncData} {oc dV kV doc pm cdv ct : Value} {an od : Option Addr} {osl : Array (Option Value)}
    (lk : K.lookup f = some ⟨oc, od, .func (PySem.W.fnOf "make_ratio" "make_ratio" (defArgs s_make_ratio) (defBody s_make_ratio) (defScope s_make_ratio) dV kV doc pm an cdv ct), osl⟩) (hcd : PySem.W.codeIn K cdv "make_ratio" = true)
    (D_is_whole1 : Dfn P w K mg base CX0 1 "is_whole" ["thing", "low", "high"] [.non, .non] (spIsWhole K)) (D_common_divisor : Dfn P w K mg base CX0 1 "common_divisor" ["one", "other"] [] spGcd) :
    FnOk P w K mg base CX0 2 f (PySem.W.fnOf "make_ratio" "make_ratio" (defArgs s_make_ratio) (defBody s_make_ratio) (defScope s_make_ratio) dV kV doc pm an cdv ct) ["top", "bottom"] spMake := by
  refine fn_of lk hcd sc_make_ratio (fun vs H Q E h => ?_) (fun A outer s H vs Q E hr h => ?_)
  · obtain ⟨a, b, rfl, _⟩ := h
    rfl
  · obtain ⟨t, b, rfl, hb, hz, q⟩ := h
    refine ⟨_, PSs.nox (pss_cons (ps_if (pt_not (pt_val (pe_dfn D_is_whole1 (hr.mono (by decide)) (by rfl) pass0 (pa_cons (pv 0) pa_nil))))
        (pss_one ps_never)
        pss_nil)
      (pss_cons (ps_if (PW.pt (pw_or (pt_not (pt_val (pe_dfn D_is_whole1 (hr.mono (by decide)) (by rfl) pass0 (pa_cons (pv 1) pa_nil)))) (pw_or1 (pt_cmpR op_eq (pv 1) pe_int (nomark _)))))
        (pss_one ps_never)
        pss_nil)
      (pss_cons (ps_if (pt_cmpR op_lt (pv 1) pe_int (nomark _))
        (pss_cons (ps_set (i := 0) sc_make_ratio.nd rfl (.inl rfl) (pe_un un_neg (pv 0)))
        (pss_one (ps_set (i := 1) sc_make_ratio.nd rfl (.inl rfl) (pe_un un_neg (pv 1)))))
        pss_nil)
      (pss_cons (ps_set (i := 2) sc_make_ratio.nd rfl (.inl rfl) (pe_dfn D_common_divisor (hr.mono (by decide)) (by rfl) pass0 (pa_cons (pv 0) (pa_cons (pv 1) pa_nil))))
      (pss_one (ps_ret (pe_tup (pa_cons (pe_op op_fdivW (pv 0) (pv 2)) (pa_cons (pe_op op_fdivW (pv 1) (pv 2)) pa_nil))))))))), ?_⟩
    refine ⟨_, rfl, _, _, none, none, rfl, .inl (.int t), _, rfl, iteF ?_⟩
    refine ⟨_, rfl, _, _, none, none, rfl, .inl (.int b), _, rfl, iteF ⟨_, rfl, rfl, _, rfl, ?_⟩⟩
    rw [decide_eq_false (show ¬ V.int b = V.int 0 from fun z => by have := V.int.inj z; omega)]
    refine iteF ⟨_, rfl, b, 0, rfl, rfl, _, rfl, ?_⟩
    rw [decide_eq_false (show ¬ b < 0 by omega)]
    refine iteF ⟨_, rfl, _, rfl, t, b, rfl, ?_⟩
    refine ⟨_, rfl, _, rfl, t, _, rfl, rfl, gcd_div hb hz, _, rfl, _, rfl, b, _, rfl, rfl, gcd_div hb hz, ?_⟩
    exact ⟨by show 2 ≤ sizeLine; decide, q⟩

/-! ### is_ratio, as_ratio -/
/-- in lowest terms with a bottom above 0 -/
def IsRat (r : Int × Int) : Prop := 1 ≤ r.2 ∧ Int.gcd r.1 r.2 = 1
abbrev s_is_ratio : Stmt := topS 13
theorem sc_is_ratio : FnScope ["thing"] ["thing"] (defScope s_is_ratio) := ⟨rfl, rfl, rfl, by decide +kernel, rfl, by decide +kernel, by decide +kernel⟩
def spIsRatio (K : PySem.W.Frag) : Sp := fun vs H Q _ => ∃ v r, vs = [v] ∧ Dp K H v (ratD r) ∧ IsRat r ∧ Q (.bl true) H
theorem ok_is_ratio {f : Addr} {fd : FuncData} (F : Fun K "is_ratio" "is_ratio" s_is_ratio f fd) (B : Bi mg)
    (D_is_whole1 : Dfn P w K mg base CX0 1 "is_whole" ["thing", "low", "high"] [.non, .non] (spIsWhole K)) (D_is_whole2 : Dfn P w K mg base CX0 1 "is_whole" ["thing", "low", "high"] [.non] (spIsWhole K))
    (D_common_divisor : Dfn P w K mg base CX0 1 "common_divisor" ["one", "other"] [] spGcd) : FnOk P w K mg base CX0 2 f fd ["thing"] (spIsRatio K) := by
  refine F.ok sc_is_ratio (fun vs H Q E h => ?_) (fun cdv A outer s H vs Q E hr h => ?_)
  · obtain ⟨a, b, rfl, _⟩ := h
    rfl
  · obtain ⟨v, r, rfl, hd, ⟨h1, h2⟩, q⟩ := h
    obtain ⟨a, rfl, hs⟩ := dp_intsT (ns := [r.1, r.2]) hd
    refine ⟨_, (pss_cons (ps_if (PW.pt (pw_or (pt_not (pt_val (pe_callB call_isN (by rfl) B.isinstance (by decide +kernel) (pa_cons (pv 0) (pa_cons (pe_bltn (v := .ty "tuple") (by rfl) B.tuple (by decide +kernel) rfl) pa_nil))))) (pw_or1 (pt_cmpR op_ne (pe_callB call_len_seq (by rfl) B.len (by decide +kernel) (pa_cons (pv 0) pa_nil)) pe_int (nomark _)))))
        (pss_one (ps_ret pe_bl))
        pss_nil)
      (pss_cons (ps_if (PW.pt (pw_or (pt_not (pt_val (pe_dfn D_is_whole1 (hr.mono (by decide)) (by rfl) pass0 (pa_cons (pe_ix ix_tup (pv 0) pe_int (fun _ _ => rfl)) pa_nil)))) (pw_or1 (pt_not (pt_val (pe_dfn D_is_whole2 (hr.mono (by decide)) (by rfl) pass0 (pa_cons (pe_ix ix_tup (pv 0) pe_int (fun _ _ => rfl)) (pa_cons pe_int pa_nil))))))))
        (pss_one (ps_ret pe_bl))
        pss_nil)
      (pss_one (ps_ret (pe_cmpR op_eq (pe_dfn D_common_divisor (hr.mono (by decide)) (by rfl) pass0 (pa_cons (pe_ix ix_tup (pv 0) pe_int (fun _ _ => rfl)) (pa_cons (pe_ix ix_tup (pv 0) pe_int (fun _ _ => rfl)) pa_nil))) pe_int (nomark _)))))), ?_⟩
    have g0 : atI ([r.1, r.2].map V.int) 0 = some (.int r.1) := atI_nat (j := 0) rfl
    have g1 : atI ([r.1, r.2].map V.int) 1 = some (.int r.2) := atI_nat (j := 1) rfl
    refine ⟨_, rfl, _, "tuple", _, true, rfl, .inl hd, kit_tuple _, _, rfl, iteF ?_⟩
    refine ⟨_, rfl, a, _, rfl, .inr hs, rfl, _, rfl, iteF ?_⟩
    refine ⟨_, rfl, a, _, 0, _, rfl, rfl, hs, g0, _, _, none, none, rfl, .inl (.int _), _, rfl, iteF ?_⟩
    refine ⟨_, rfl, a, _, 1, _, rfl, rfl, hs, g1, _, _, some 1, none, rfl, .inl (.int _), _, rfl, ?_⟩
    have e : (!isWhole (.int r.2) (some 1) none) = false := by
      show (!(decide (1 ≤ r.2) && true)) = false
      rw [decide_eq_true h1]
      rfl
    refine ibF e ?_
    refine ⟨_, rfl, a, _, 0, _, rfl, rfl, hs, g0, _, rfl, a, _, 1, _, rfl, rfl, hs, g1, r.1, r.2, rfl, ?_⟩
    rw [h2]
    exact ⟨rfl, q⟩
/-- a number that stands for the ratio r -/
inductive NumD : PyData → Int × Int → Prop
  | int (i : Int) : NumD (.int i) (i, 1)
  | rat (r : Int × Int) (h : IsRat r) : NumD (ratD r) r
abbrev s_as_ratio : Stmt := topS 14
theorem sc_as_ratio : FnScope ["thing"] ["thing"] (defScope s_as_ratio) := ⟨rfl, rfl, rfl, by decide +kernel, rfl, by decide +kernel, by decide +kernel⟩
def spAsRatio (K : PySem.W.Frag) : Sp := fun vs H Q _ => ∃ G v d r, vs = [v] ∧ Same G H ∧ Dp K G v d ∧ NumD d r ∧ ∀ G' H' a, Ext M0 G H G' H' → Dp K G' (.ref a) (ratD r) → Q (.ref a) H'
theorem ok_as_ratio {f : Addr} {fd : FuncData} (F : Fun K "as_ratio" "as_ratio" s_as_ratio f fd) (B : Bi mg)
    (D_is_whole1 : Dfn P w K mg base CX0 1 "is_whole" ["thing", "low", "high"] [.non, .non] (spIsWhole K)) (D_is_ratio : Dfn P w K mg base CX0 2 "is_ratio" ["thing"] [] (spIsRatio K)) : FnOk P w K mg base CX0 3 f fd ["thing"] (spAsRatio K) := by
  refine F.ok sc_as_ratio (fun vs H Q E h => ?_) (fun cdv A outer s H vs Q E hr h => ?_)
  · obtain ⟨_, a, _, _, rfl, _⟩ := h
    rfl
  · obtain ⟨G, v, d, r, rfl, gh, hd, hn, q⟩ := h
    refine ⟨_, (pss_cons (ps_if (pt_val (pe_dfn D_is_whole1 (hr.mono (by decide)) (by rfl) pass0 (pa_cons (pv 0) pa_nil)))
        (pss_one (ps_ret (pe_tup (pa_cons (pv 0) (pa_cons pe_int pa_nil)))))
        pss_nil)
      (pss_one (ps_ret (pe_ifExp (pt_val (pe_dfn D_is_ratio (hr.mono (by decide)) (by rfl) pass0 (pa_cons (pv 0) pa_nil))) (pv 0) pe_non)))), ?_⟩
    have hH := dp_mono gh hd
    refine ⟨v, rfl, v, d, none, none, rfl, .inl hH, _, rfl, ?_⟩
    cases hn with
    | int i =>
      obtain rfl := dp_int hd
      refine iteT ⟨_, rfl, by show 2 ≤ sizeLine; decide, fun p hp => ?_⟩
      have X := (Ext.refl (M := M0) gh).fin (o := .tup [.int i, .int 1]) hp
      exact q _ _ p X (dp_of_tup upd_same (dpAll_of_ints [i, 1]))
    | rat r hr' =>
      refine iteF ⟨v, rfl, v, r, rfl, hH, hr', _, rfl, iteT ⟨v, rfl, ?_⟩⟩
      obtain ⟨a, rfl, _⟩ := dp_intsT (ns := [r.1, r.2]) hd
      exact q _ _ a (Ext.refl gh) hd
end
end K36
end

section
set_option Elab.async false
set_option linter.all false
set_option maxRecDepth 100000
set_option maxHeartbeats 4000000
/-! K36, the module of moulds: what its constructor checks. -/
namespace K36
open PySem PySem.Spec PyProof.Rows L2

abbrev natD (n : Nat) : PyData := .int (n : Int)
abbrev cellD (c : Nat × Nat) : PyData := .tuple [natD c.1, natD c.2]
def ltC (a b : Nat × Nat) : Prop := a.1 < b.1 ∨ (a.1 = b.1 ∧ a.2 < b.2)
/-- one more than the greatest, 0 of none -/
def fresh (ls : List Nat) : Nat := ls.foldl (fun f l => max f (l + 1)) 0
theorem fresh_snoc (ls : List Nat) (l : Nat) : fresh (ls ++ [l]) = max (fresh ls) (l + 1) := by
  unfold fresh
  rw [List.foldl_append]
  rfl
theorem fresh_take {ls : List Nat} {i : Nat} (h : i < ls.length) : fresh (ls.take (i + 1)) = max (fresh (ls.take i)) (ls[i] + 1) := by
  rw [List.take_add_one, List.getElem?_eq_getElem h]
  exact fresh_snoc _ _
theorem foldl_ge (ls : List Nat) : ∀ a, a ≤ ls.foldl (fun f l => max f (l + 1)) a := by
  induction ls with
  | nil => intro a; exact Nat.le_refl _
  | cons l ls ih => intro a; exact Nat.le_trans (Nat.le_max_left _ _) (ih _)
theorem fresh_mem {ls : List Nat} {l : Nat} (h : l ∈ ls) : l < fresh ls := by
  unfold fresh
  suffices ∀ (ls : List Nat) (a : Nat), l ∈ ls → l < ls.foldl (fun f l => max f (l + 1)) a from this ls 0 h
  intro ls
  induction ls with
  | nil => intro a h; cases h
  | cons x ls ih =>
    intro a h
    rcases List.mem_cons.mp h with e | h
    · subst e
      have := foldl_ge ls (max a (l + 1))
      show l < ls.foldl _ (max a (l + 1))
      omega
    · exact ih _ h
theorem fresh_le {ls : List Nat} {m : Nat} (h : ∀ y ∈ ls, y < m) : fresh ls ≤ m := by
  unfold fresh
  suffices ∀ (ls : List Nat) (a : Nat), a ≤ m → (∀ y ∈ ls, y < m) → ls.foldl (fun f l => max f (l + 1)) a ≤ m from this ls 0 (Nat.zero_le _) h
  intro ls
  induction ls with
  | nil => intro a ha _; exact ha
  | cons x ls ih =>
    intro a ha h
    have hx := h x List.mem_cons_self
    exact ih _ (by show max a (x + 1) ≤ m; omega) fun y hy => h y (List.mem_cons_of_mem _ hy)
theorem fresh_of_max {ls : List Nat} {m : Nat} (h : m ∈ ls) (hm : ∀ y ∈ ls, y ≤ m) : fresh ls = m + 1 :=
  Nat.le_antisymm (fresh_le fun y hy => Nat.lt_succ_of_le (hm y hy)) (fresh_mem h)
/-- letters by first appearance -/
def LettersOk (ls : List Nat) : Prop := ∀ i (h : i < ls.length), ls[i] ≤ fresh (ls.take i)

structure Mo where
  h : Nat
  w : Nat
  cells : List (Nat × Nat)
  letters : List Nat
structure Mo.Ok (M : Mo) : Prop where
  h1 : 1 ≤ M.h
  h6 : M.h ≤ 6
  w1 : 1 ≤ M.w
  w6 : M.w ≤ 6
  inn : ∀ c ∈ M.cells, c.1 < M.h ∧ c.2 < M.w
  asc : M.cells.Pairwise ltC
  len : M.letters.length = M.cells.length
  let_ : LettersOk M.letters
  few : M.cells.length ≤ 36
def Mo.many (M : Mo) : Nat := fresh M.letters
abbrev cellsD (cs : List (Nat × Nat)) : List PyData := cs.map cellD
abbrev natsD (ns : List Nat) : List PyData := ns.map natD
theorem natsD_ints (ns : List Nat) : natsD ns = (ns.map (fun n : Nat => (n : Int))).map PyData.int := by rw [List.map_map]; rfl

section
variable {P : Program} {w : World} {K : PySem.W.Frag} {mg : Str → Option Value} {base : Heap}

/-! ### is_couple -/
abbrev s_is_couple : Stmt := topS 17
theorem sc_is_couple : FnScope ["thing", "height", "width"] ["thing", "height", "width"] (defScope s_is_couple) := ⟨rfl, rfl, rfl, by decide +kernel, rfl, by decide +kernel, by decide +kernel⟩
def spCouple (K : PySem.W.Frag) : Sp := fun vs H Q _ => ∃ v c h w, vs = [v, .int (h : Nat), .int (w : Nat)] ∧ Dp K H v (cellD c) ∧ c.1 < h ∧ c.2 < w ∧ ∀ H', Same H H' → Q (.bl true) H'
theorem ok_is_couple {f : Addr} {fd : FuncData} (F : Fun K "is_couple" "is_couple" s_is_couple f fd) (B : Bi mg) (D_is_sequence : Dfn P w K mg base CX0 1 "is_sequence" ["thing"] [] (spIsSeq K))
    (D_is_whole3 : Dfn P w K mg base CX0 1 "is_whole" ["thing", "low", "high"] [] (spIsWhole K)) : FnOk P w K mg base CX0 2 f fd ["thing", "height", "width"] (spCouple K) := by
  refine F.ok sc_is_couple (fun vs H Q E h => ?_) (fun cdv A outer s H vs Q E hr h => ?_)
  · obtain ⟨a, _, _, _, rfl, _⟩ := h
    rfl
  · obtain ⟨v, c, h, w, rfl, hd, h1, h2, q⟩ := h
    obtain ⟨a, rfl, hs⟩ := dp_intsT (ns := [(c.1 : Int), (c.2 : Int)]) hd
    refine ⟨_, (pss_cons (ps_if (PW.pt (pw_or (pt_not (pt_val (pe_dfn D_is_sequence (hr.mono (by decide)) (by rfl) pass0 (pa_cons (pv 0) pa_nil)))) (pw_or1 (pt_cmpR op_ne (pe_callB call_len_seq (by rfl) B.len (by decide +kernel) (pa_cons (pv 0) pa_nil)) pe_int (nomark _)))))
        (pss_one (ps_ret pe_bl))
        pss_nil)
      (pss_one (ps_ret (pe_and (pe_dfn D_is_whole3 (hr.mono (by decide)) (by rfl) pass0 (pa_cons (pe_ix ix_tup (pv 0) pe_int (fun _ _ => rfl)) (pa_cons pe_int (pa_cons (pe_op op_sub (pv 1) pe_int) pa_nil)))) (pe_one (pe_dfn D_is_whole3 (hr.mono (by decide)) (by rfl) pass0 (pa_cons (pe_ix ix_tup (pv 0) pe_int (fun _ _ => rfl)) (pa_cons pe_int (pa_cons (pe_op op_sub (pv 2) pe_int) pa_nil))))))))), ?_⟩
    refine ⟨_, rfl, _, _, rfl, .inl hd, fun H1 sm => ?_⟩
    have hs1 := sqt_mono sm hs
    refine ⟨_, rfl, iteF ⟨_, rfl, a, _, rfl, .inr hs1, rfl, _, rfl, iteF ?_⟩⟩
    refine ⟨_, rfl, a, _, 0, _, rfl, rfl, hs1, atI_nat (j := 0) rfl, _, rfl, _, _, rfl, rfl, _, _, some 0, some ((h : Int) - 1), rfl, .inl (.int _), _, rfl, ?_⟩
    have e1 : isWhole (.int (c.1 : Int)) (some 0) (some ((h : Int) - 1)) = true := by
      show (decide ((0 : Int) ≤ c.1) && decide ((c.1 : Int) ≤ h - 1)) = true
      rw [decide_eq_true (by omega), decide_eq_true (by omega)]
      rfl
    have e2 : isWhole (.int (c.2 : Int)) (some 0) (some ((w : Int) - 1)) = true := by
      show (decide ((0 : Int) ≤ c.2) && decide ((c.2 : Int) ≤ w - 1)) = true
      rw [decide_eq_true (by omega), decide_eq_true (by omega)]
      rfl
    refine ibT e1 ⟨_, rfl, a, _, 1, _, rfl, rfl, hs1, atI_nat (j := 1) rfl, _, rfl, _, _, rfl, rfl, _, _, some 0, some ((w : Int) - 1), rfl, .inl (.int _), ?_⟩
    rw [e2]
    exact q _ sm

/-! ### checked_cells -/
theorem cell_le {a b : Nat × Nat} (h : ltC a b) : Ob.lexAt (fun j => decide (([(b.1 : Int), (b.2 : Int)] : List Int).getD j 0 = ([(a.1 : Int), (a.2 : Int)] : List Int).getD j 0))
    (fun j => decide (([(b.1 : Int), (b.2 : Int)] : List Int).getD j 0 ≤ ([(a.1 : Int), (a.2 : Int)] : List Int).getD j 0)) (decide (2 ≤ 2)) 0 (min 2 2) = false := by
  show (if decide ((b.1 : Int) = a.1) = true then (if decide ((b.2 : Int) = a.2) = true then true else decide ((b.2 : Int) ≤ a.2)) else decide ((b.1 : Int) ≤ a.1)) = false
  rcases h with h | ⟨h1, h2⟩
  · rw [decide_eq_false (show ¬ (b.1 : Int) = a.1 by omega), if_neg Bool.false_ne_true]
    exact decide_eq_false (by omega)
  · rw [decide_eq_true (show (b.1 : Int) = a.1 by omega), if_pos rfl, decide_eq_false (show ¬ (b.2 : Int) = a.2 by omega), if_neg Bool.false_ne_true]
    exact decide_eq_false (by omega)
abbrev s_checked_cells : Stmt := topS 18
theorem sc_checked_cells : FnScope ["height", "width", "cells", "told", "at", "cell"] ["height", "width", "cells"] (defScope s_checked_cells) := ⟨rfl, rfl, rfl, by decide +kernel, rfl, by decide +kernel, by decide +kernel⟩
def spCells (K : PySem.W.Frag) : Sp := fun vs H Q _ => ∃ G v cs h w, vs = [.int (h : Nat), .int (w : Nat), v] ∧ Same G H ∧ Dp K G v (.list (cellsD cs)) ∧ (∀ c ∈ cs, c.1 < h ∧ c.2 < w) ∧ cs.Pairwise ltC ∧ cs.length ≤ 1000 ∧
  ∀ G' H' a, Ext M0 G H G' H' → Dp K G' (.ref a) (.tuple (cellsD cs)) → Q (.ref a) H'
theorem ok_checked_cells {f : Addr} {fd : FuncData} (F : Fun K "checked_cells" "checked_cells" s_checked_cells f fd) (B : Bi mg) (D_is_sequence : Dfn P w K mg base CX0 1 "is_sequence" ["thing"] [] (spIsSeq K))
    (D_is_couple : Dfn P w K mg base CX0 2 "is_couple" ["thing", "height", "width"] [] (spCouple K)) : FnOk P w K mg base CX0 3 f fd ["height", "width", "cells"] (spCells K) := by
  refine F.ok sc_checked_cells (fun vs H Q E h => ?_) (fun cdv A outer s H vs Q E hr h => ?_)
  · obtain ⟨_, a, _, _, _, rfl, _⟩ := h
    rfl
  · obtain ⟨G, v, cs, h, w, rfl, gh, hd, hin, has, hlen, q⟩ := h
    obtain ⟨a, xs, rfl, hs, hx⟩ := dp_list hd
    have lx : xs.length = cs.length := by rw [dpAll_len hx, List.length_map]
    refine ⟨_, (pss_cons (ps_if (pt_not (pt_val (pe_dfn D_is_sequence (hr.mono (by decide)) (by rfl) pass0 (pa_cons (pv 2) pa_nil))))
        (pss_one ps_never)
        pss_nil)
      (pss_cons (ps_set (i := 3) sc_checked_cells.nd rfl (.inl rfl) (pe_lst pa_nil))
      (pss_cons (ps_for PassesOwn.never rfl (pi_enum (by rfl) B.enumerate (pa_cons (pv 2) pa_nil)) (pg_tup rfl (pgs_cons (pg_name (i := 4) sc_checked_cells.nd rfl (.inl rfl)) (pgs_cons (pg_name (i := 5) sc_checked_cells.nd rfl (.inl rfl)) pgs_nil)))
        (pss_cons (ps_if (pt_not (pt_val (pe_dfn D_is_couple (hr.mono (by decide)) (by rfl) pass0 (pa_cons (pv 5) (pa_cons (pv 0) (pa_cons (pv 1) pa_nil))))))
          (pss_one ps_never)
          pss_nil)
        (pss_cons (ps_if (PW.pt (pw_and (pt_truth (pv 3) (by intro _; rfl)) (pw_and1 (pt_cmpR (op_leT hr.units0) (pe_callTy call_tuple_of (by rfl) B.tuple (by decide +kernel) (pa_cons (pv 5) pa_nil)) (pe_ix ix_list (pv 3) (pe_un un_neg pe_int) (fun _ _ => rfl)) (nomark _)))))
          (pss_one ps_never)
          pss_nil)
        (pss_one (ps_expr (pe_bm PySem.F.plainAttrs_list PySem.F.slot_list_append PySem.F.type_list_append mt_append (pv 3) (pa_cons (pe_callTy call_tuple_of (by rfl) B.tuple (by decide +kernel) (pa_cons (pv 5) pa_nil)) pa_nil)))))))
      (pss_one (ps_ret (pe_callTy call_tuple_of (by rfl) B.tuple (by decide +kernel) (pa_cons (pv 3) pa_nil))))))), ?_⟩
    refine ⟨_, rfl, _, _, rfl, .inl (dp_mono gh hd), fun H1 sm => ⟨_, rfl, iteF ?_⟩⟩
    have X1 : Ext M0 G H G H1 := Ext.same gh sm
    -- told = []
    refine ⟨Nat.zero_le _, fun p hp => ?_⟩
    have hp0 : H p = none := X1.free hp
    have gp : G p = none := gh.free hp0
    have X2 : Ext M0 G H G (upd H1 p (.lst [])) := X1.al hp
    refine ⟨.ref a, rfl, a, xs, rfl, sql_mono X2.gh hs, ?_⟩
    refine for_it (walk_enum (xs := xs)) (fun i σ H' => ∃ y4 y5, σ = [some (.int (h : Nat)), some (.int (w : Nat)), some (.ref a), some (.ref p), y4, y5] ∧ Ext M0 G H G H' ∧ H' p = some (.lst (xs.take i)))
      ⟨none, none, rfl, X2, upd_same⟩ (fun i σ H' _ hP => ?_) (fun i x σ H' H2 hi hP hY => ?_) (fun σ H' hP => ?_)
    · obtain ⟨_, _, rfl, X, _⟩ := hP
      exact sql_mono X.gh hs
    · obtain ⟨y4, y5, rfl, X, ep⟩ := hP
      obtain ⟨T, z1, z2, rfl, nT, rfl, e1, e2⟩ := hY
      have e1 : V.int (i : Nat) = z1 := Option.some.inj e1
      subst e1
      have e2 : xs[i]? = some z2 := e2
      have hic : i < cs.length := by omega
      obtain ⟨d, hdi, hdz⟩ := dpAll_at hx e2
      have ed : d = cellD cs[i] := by
        rw [List.getElem?_map, List.getElem?_eq_getElem hic] at hdi
        exact (Option.some.inj hdi).symm
      subst ed
      have X3 := X.al (o := .tup [.int (i : Nat), z2]) nT
      refine ⟨T, _, rfl, .inl (.inl upd_same), rfl, _, _, rfl, _, _, rfl, rfl, ?_⟩
      have ci := hin _ (List.getElem_mem hic)
      refine ⟨_, rfl, _, rfl, _, rfl, z2, cs[i], h, w, rfl, dp_mono X3.gh hdz, ci.1, ci.2, fun H3 sm3 => ⟨_, rfl, iteF ?_⟩⟩
      have X4 := X3.trans (Ext.same X3.gh sm3)
      have ep4 : H3 p = some (.lst (xs.take i)) := sm3 _ _ (by rw [upd_ne (ne_of_none ep nT)]; exact ep)
      obtain ⟨b, rfl, hsb⟩ := dp_intsT (ns := [(cs[i].1 : Int), (cs[i].2 : Int)]) hdz
      refine ⟨.ref p, rfl, !(xs.take i).isEmpty, .inl ⟨_, .inl (.inl ep4), rfl⟩, ?_⟩
      -- behind the tests
      have go : tDrop (tBM K "list" rAppend (tVar 3) (tCons (tCB (fun xs H Q => ∃ p ys, xs = [.ref p] ∧ ((SqL K H p ys ∧ ∀ l, H l = none → Q (.ref l) (upd H l (.tup ys))) ∨ (SqT K H p ys ∧ Q (.ref p) H))) (tCons (tVar 5) tNil)) tNil))
          { nx := fun σ H' => ∃ y4 y5, σ = [some (.int (h : Nat)), some (.int (w : Nat)), some (.ref a), some (.ref p), y4, y5] ∧ Ext M0 G H G H' ∧ H' p = some (.lst (xs.take (i + 1))),
            rt := Q } [some (.int (h : Nat)), some (.int (w : Nat)), some (.ref a), some (.ref p), some (.int (i : Nat)), some (.ref b)] H3 := by
        refine ⟨.ref p, rfl, .inl ⟨rfl, _, .inl (.inl ep4)⟩, .ref b, rfl, b, _, rfl, .inr ⟨sqt_mono X4.gh hsb, ?_⟩⟩
        refine ⟨p, _, _, rfl, rfl, ep4, by rw [List.length_take]; exact small1000 (by omega), ?_⟩
        refine ⟨_, _, rfl, X4.wr (.inl hp0) gp, ?_⟩
        rw [upd_same, List.take_add_one, e2]
        rfl
      by_cases h0 : i = 0
      · subst h0
        exact iteF (iteF go)
      · have ht : (!(xs.take i).isEmpty) = true := by
          cases e : xs.take i with
          | nil =>
            have := congrArg List.length e
            rw [List.length_take, List.length_nil] at this
            omega
          | cons _ _ => rfl
        refine ibT ht ?_
        obtain ⟨j, rfl⟩ : ∃ j, i = j + 1 := ⟨i - 1, by omega⟩
        have hj : j < cs.length := by omega
        obtain ⟨zj, ezj, hzj⟩ := dpAll_get hx (i := j) (d := cellD cs[j]) (by rw [List.getElem?_map, List.getElem?_eq_getElem hj]; rfl)
        obtain ⟨c, rfl, hsc⟩ := dp_intsT (ns := [(cs[j].1 : Int), (cs[j].2 : Int)]) hzj
        have el : xs.take (j + 1) = xs.take j ++ [.ref c] := by rw [List.take_add_one, ezj]; rfl
        refine ⟨.ref b, rfl, b, _, rfl, .inr ⟨sqt_mono X4.gh hsb, ?_⟩⟩
        refine ⟨.ref p, rfl, _, rfl, p, _, -1, .ref c, rfl, rfl, .inl (.inl ep4), by rw [el]; exact atI_last _ _, ?_⟩
        refine ⟨b, c, _, _, rfl, rfl, sqt_mono X4.gh hsb, sqt_mono X4.gh hsc, _, rfl, ?_⟩
        have lt := List.pairwise_iff_getElem.mp has j (j + 1) hj hic (Nat.lt_succ_self _)
        exact ibF (cell_le lt) go
    · obtain ⟨y4, y5, rfl, X, ep⟩ := hP
      rw [List.take_of_length_le (Nat.le_refl _)] at ep
      refine ⟨.ref p, rfl, p, xs, rfl, .inl ⟨.inl (.inl ep), fun l hl => ?_⟩⟩
      exact q _ _ l (X.fin hl) (dp_of_tup upd_same (dpAll_mono (same_upd (X.gh.free hl)) hx))
end
end K36
end

section
set_option Elab.async false
set_option linter.all false
set_option maxRecDepth 100000
set_option maxHeartbeats 4000000
/-! K36, grids of lists; the module of moulds, further. -/
namespace K36
open PySem PySem.Spec PyProof.Rows L2

/-! ### lists of lists that are still being written -/
/-- the lists at as, new since H0 and not finished, hold the rows t -/
structure Grid (K : PySem.W.Frag) (H0 G H : Hp) (as : List Addr) (t : List (List PyData)) : Prop where
  nd : as.Nodup
  len : as.length = t.length
  at_ : ∀ (i : Nat) (a : Addr) (row : List PyData), as[i]? = some a → t[i]? = some row → ∃ xs, H a = some (.lst xs) ∧ DpAll K G xs row
  out : ∀ a ∈ as, G a = none ∧ H0 a = none
section
variable {K : PySem.W.Frag} {H0 G G' H H' : Hp} {as : List Addr} {t : List (List PyData)}
theorem Grid.nil : Grid K H0 G H [] [] := ⟨List.nodup_nil, rfl, fun i a row e => by simp at e, fun a h => nomatch h⟩
theorem Grid.here (g : Grid K H0 G H as t) {a : Addr} (h : a ∈ as) : ∃ xs, H a = some (.lst xs) := by
  obtain ⟨i, hi, e⟩ := List.getElem_of_mem h
  have hi' : i < t.length := by rw [← g.len]; exact hi
  obtain ⟨xs, e1, _⟩ := g.at_ i a t[i] (by rw [List.getElem?_eq_getElem hi, e]) (List.getElem?_eq_getElem hi')
  exact ⟨xs, e1⟩
/-- elsewhere all may grow -/
theorem Grid.grow (g : Grid K H0 G H as t) (gg : Same G G') (hh : ∀ a ∈ as, ∀ o, H a = some o → H' a = some o) (out : ∀ a ∈ as, G' a = none) : Grid K H0 G' H' as t where
  nd := g.nd
  len := g.len
  at_ := fun i a row e1 e2 => by
    obtain ⟨xs, q1, q2⟩ := g.at_ i a row e1 e2
    exact ⟨xs, hh a (List.mem_of_getElem? e1) _ q1, dpAll_mono gg q2⟩
  out := fun a h => ⟨out a h, (g.out a h).2⟩
theorem Grid.ext (g : Grid K H0 G H as t) (x : Ext M0 G H G' H') : Grid K H0 G' H' as t :=
  g.grow x.gg (fun a _ o e => x.sm a o e) fun a h => by
    obtain ⟨xs, e⟩ := g.here h
    exact x.out (g.out a h).1 e
theorem Grid.other (g : Grid K H0 G H as t) {p : Addr} {o : HO} (h : p ∉ as) : Grid K H0 G (upd H p o) as t :=
  g.grow (Same.refl _) (fun a ha o e => by rw [upd_ne (show a ≠ p from fun z => h (z ▸ ha))]; exact e) fun a ha => (g.out a ha).1
theorem Grid.new (g : Grid K H0 G H as t) {p : Addr} {o : HO} (h : H p = none) : Grid K H0 G (upd H p o) as t :=
  g.other fun z => by
    obtain ⟨xs, e⟩ := g.here z
    rw [h] at e
    cases e
/-- one more row, in a new list -/
theorem Grid.snoc (g : Grid K H0 G H as t) {p : Addr} {xs : List V} {row : List PyData} (hp : p ∉ as) (e : H p = some (.lst xs)) (d : DpAll K G xs row) (o : G p = none) (o0 : H0 p = none) : Grid K H0 G H (as ++ [p]) (t ++ [row]) where
  nd := by
    rw [List.nodup_append]
    exact ⟨g.nd, by simp, fun a ha b hb => by
      rw [List.mem_singleton.mp hb]
      exact fun z => hp (z ▸ ha)⟩
  len := by rw [List.length_append, List.length_append, g.len]; rfl
  at_ := fun i a r e1 e2 => by
    by_cases hi : i < as.length
    · rw [List.getElem?_append_left hi] at e1
      rw [List.getElem?_append_left (by rw [← g.len]; exact hi)] at e2
      exact g.at_ i a r e1 e2
    · have hle : as.length ≤ i := Nat.le_of_not_lt hi
      rw [List.getElem?_append_right hle] at e1
      rw [List.getElem?_append_right (by rw [← g.len]; exact hle), ← g.len] at e2
      cases hk : i - as.length with
      | zero =>
        rw [hk] at e1 e2
        have e1 := Option.some.inj e1
        have e2 := Option.some.inj e2
        subst e1 e2
        exact ⟨xs, e, d⟩
      | succ k =>
        rw [hk] at e1
        simp at e1
  out := fun a ha => by
    rcases List.mem_append.mp ha with h | h
    · exact g.out a h
    · rw [List.mem_singleton.mp h]
      exact ⟨o, o0⟩
/-- a row is written -/
theorem Grid.set (g : Grid K H0 G H as t) {i : Nat} {a : Addr} {xs : List V} {row : List PyData} (ha : as[i]? = some a) (d : DpAll K G xs row) : Grid K H0 G (upd H a (.lst xs)) as (t.set i row) where
  nd := g.nd
  len := by rw [List.length_set]; exact g.len
  at_ := fun j b r e1 e2 => by
    by_cases hj : j = i
    · subst hj
      rw [ha] at e1
      have e1 := Option.some.inj e1
      subst e1
      have hlt : j < t.length := by
        have := (List.getElem?_eq_some_iff.mp e2).1
        rwa [List.length_set] at this
      rw [List.getElem?_set_self hlt] at e2
      have e2 := Option.some.inj e2
      subst e2
      exact ⟨xs, upd_same, d⟩
    · rw [List.getElem?_set_ne (Ne.symm hj)] at e2
      obtain ⟨ys, q1, q2⟩ := g.at_ j b r e1 e2
      refine ⟨ys, ?_, q2⟩
      rw [upd_ne (show b ≠ a from fun z => hj (nd_ix g.nd e1 (z ▸ ha)))]
      exact q1
  out := g.out
end
theorem rep_flat {α : Type} (n : Nat) (x : α) : (List.replicate n [x]).flatten = List.replicate n x := by
  induction n with
  | zero => rfl
  | succ n ih => rw [List.replicate_succ, List.flatten_cons, ih]; rfl
theorem dpAll_rep {K : PySem.W.Frag} {H : Hp} {x : V} {d : PyData} (h : Dp K H x d) : ∀ n, DpAll K H (List.replicate n x) (List.replicate n d)
  | 0 => .nil
  | n + 1 => .cons h (dpAll_rep h n)

/-! ### a mould as it stands -/
/-- the fields, in the order in which they are stored -/
def fsM (M : Mo) (cv lv : V) : List (Str × V) := [("height", .int (M.h : Nat)), ("width", .int (M.w : Nat)), ("cells", cv), ("letters", lv)]
def MouldAt (K : PySem.W.Frag) (C : Addr) (G : Hp) (v : V) (M : Mo) : Prop :=
  ∃ a dx cv lv, v = .ref a ∧ G a = some (.ins C dx (fsM M cv lv)) ∧ Dp K G cv (.tuple (cellsD M.cells)) ∧ Dp K G lv (.tuple (natsD M.letters))
theorem MouldAt.mono {K : PySem.W.Frag} {C : Addr} {G G' : Hp} {v : V} {M : Mo} (e : Same G G') (h : MouldAt K C G v M) : MouldAt K C G' v M := by
  obtain ⟨a, dx, cv, lv, h1, h2, h3, h4⟩ := h
  exact ⟨a, dx, cv, lv, h1, e _ _ h2, dp_mono e h3, dp_mono e h4⟩
/-- what the text says of the class -/
structure MC (K : PySem.W.Frag) (C : Addr) : Prop where
  cl : Cls K C
  nH : NoAttr K C "height"
  nW : NoAttr K C "width"
  nC : NoAttr K C "cells"
  nL : NoAttr K C "letters"

section
variable {P : Program} {w : World} {K : PySem.W.Frag} {mg : Str → Option Value} {base : Heap}

/-! ### checked_letters -/
abbrev s_checked_letters : Stmt := topS 19
theorem sc_checked_letters : FnScope ["many", "letters", "fresh", "at", "letter"] ["many", "letters"] (defScope s_checked_letters) := ⟨rfl, rfl, rfl, by decide +kernel, rfl, by decide +kernel, by decide +kernel⟩
def spLetters (K : PySem.W.Frag) : Sp := fun vs H Q _ => ∃ G v ls, vs = [.int (ls.length : Nat), v] ∧ Same G H ∧ Dp K G v (.list (natsD ls)) ∧ LettersOk ls ∧ ls.length ≤ 1000 ∧
  ∀ G' H' a, Ext M0 G H G' H' → Dp K G' (.ref a) (.tuple (natsD ls)) → Q (.ref a) H'
theorem ok_checked_letters {f : Addr} {fd : FuncData} (F : Fun K "checked_letters" "checked_letters" s_checked_letters f fd) (B : Bi mg) (D_is_sequence : Dfn P w K mg base CX0 1 "is_sequence" ["thing"] [] (spIsSeq K))
    (D_is_whole3 : Dfn P w K mg base CX0 1 "is_whole" ["thing", "low", "high"] [] (spIsWhole K)) : FnOk P w K mg base CX0 2 f fd ["many", "letters"] (spLetters K) := by
  refine F.ok sc_checked_letters (fun vs H Q E h => ?_) (fun cdv A outer s H vs Q E hr h => ?_)
  · obtain ⟨_, a, _, rfl, _⟩ := h
    rfl
  · obtain ⟨G, v, ls, rfl, gh, hd, hok, hlen, q⟩ := h
    obtain ⟨a, xs, rfl, hs, hx⟩ := dp_list hd
    have ex : xs = (ls.map fun n : Nat => (n : Int)).map V.int := by rw [natsD_ints] at hx; exact dpAll_ints hx
    have lx : xs.length = ls.length := by rw [ex, List.length_map, List.length_map]
    refine ⟨_, (pss_cons (ps_if (pt_cmpR op_isN (pv 1) pe_non (nomark _))
        (pss_one ps_never)
        pss_nil)
      (pss_cons (ps_if (PW.pt (pw_or (pt_not (pt_val (pe_dfn D_is_sequence (hr.mono (by decide)) (by rfl) pass0 (pa_cons (pv 1) pa_nil)))) (pw_or1 (pt_cmpR op_ne (pe_callB call_len_seq (by rfl) B.len (by decide +kernel) (pa_cons (pv 1) pa_nil)) (pv 0) (nomark _)))))
        (pss_one ps_never)
        pss_nil)
      (pss_cons (ps_set (i := 2) sc_checked_letters.nd rfl (.inl rfl) pe_int)
      (pss_cons (ps_for PassesOwn.never rfl (pi_enum (by rfl) B.enumerate (pa_cons (pv 1) pa_nil)) (pg_tup rfl (pgs_cons (pg_name (i := 3) sc_checked_letters.nd rfl (.inl rfl)) (pgs_cons (pg_name (i := 4) sc_checked_letters.nd rfl (.inl rfl)) pgs_nil)))
        (pss_cons (ps_if (pt_not (pt_val (pe_dfn D_is_whole3 (hr.mono (by decide)) (by rfl) pass0 (pa_cons (pv 4) (pa_cons pe_int (pa_cons (pv 2) pa_nil))))))
          (pss_one ps_never)
          pss_nil)
        (pss_one (ps_set (i := 2) sc_checked_letters.nd rfl (.inl rfl) (pe_callB (call_max2 rfl) (by rfl) B.max (by decide +kernel) (pa_cons (pv 2) (pa_cons (pe_op op_add (pv 4) pe_int) pa_nil)))))))
      (pss_one (ps_ret (pe_callTy call_tuple_of (by rfl) B.tuple (by decide +kernel) (pa_cons (pv 1) pa_nil)))))))), ?_⟩
    refine ⟨_, rfl, rfl, _, rfl, iteF ⟨_, rfl, _, _, rfl, .inl (dp_mono gh hd), fun H1 sm => ⟨_, rfl, iteF ?_⟩⟩⟩
    have X1 : Ext M0 G H G H1 := Ext.same gh sm
    refine ⟨_, rfl, a, xs, rfl, .inl (sql_mono X1.gh hs), _, rfl, rfl, _, rfl, ?_⟩
    refine ibF (by rw [lx]; simp) ?_
    refine ⟨.ref a, rfl, a, xs, rfl, sql_mono X1.gh hs, ?_⟩
    refine for_it (walk_enum (xs := xs)) (fun i σ H' => ∃ y3 y4, σ = [some (.int (ls.length : Nat)), some (.ref a), some (.int (fresh (ls.take i) : Nat)), y3, y4] ∧ Ext M0 G H G H')
      ⟨none, none, rfl, X1⟩ (fun i σ H' _ hP => ?_) (fun i x σ H' H2 hi hP hY => ?_) (fun σ H' hP => ?_)
    · obtain ⟨_, _, rfl, X⟩ := hP
      exact sql_mono X.gh hs
    · obtain ⟨y3, y4, rfl, X⟩ := hP
      obtain ⟨T, z1, z2, rfl, nT, rfl, e1, e2⟩ := hY
      have e1 : V.int (i : Nat) = z1 := Option.some.inj e1
      subst e1
      have hil : i < ls.length := by omega
      have e2 : xs[i]? = some z2 := e2
      have ez : z2 = .int (ls[i] : Nat) := by
        rw [ex, List.getElem?_map, List.getElem?_map, List.getElem?_eq_getElem hil] at e2
        exact (Option.some.inj e2).symm
      subst ez
      refine ⟨T, _, rfl, .inl (.inl upd_same), rfl, _, _, rfl, _, _, rfl, rfl, ?_⟩
      have hle := hok i hil
      refine ⟨_, rfl, _, rfl, _, _, some 0, some (fresh (ls.take i) : Nat), rfl, .inl (.int _), _, rfl, ?_⟩
      have ew : isWhole (.int (ls[i] : Nat)) (some 0) (some (fresh (ls.take i) : Nat)) = true := by
        show (decide ((0 : Int) ≤ (ls[i] : Nat)) && decide (((ls[i] : Nat) : Int) ≤ (fresh (ls.take i) : Nat))) = true
        rw [decide_eq_true (by omega), decide_eq_true (by omega)]
        rfl
      refine ibF (by rw [ew]; rfl) ⟨_, rfl, _, rfl, _, _, rfl, rfl, _, _, rfl, ?_⟩
      refine ⟨some (.int (i : Nat)), some (.int (ls[i] : Nat)), ?_, X.al nT⟩
      have ef : (if ((ls[i] : Nat) : Int) + 1 > (fresh (ls.take i) : Nat) then ((ls[i] : Nat) : Int) + 1 else (fresh (ls.take i) : Nat)) = (fresh (ls.take (i + 1)) : Nat) := by
        rw [fresh_take hil]
        split <;> omega
      rw [ef]
      rfl
    · obtain ⟨y3, y4, rfl, X⟩ := hP
      refine ⟨.ref a, rfl, a, xs, rfl, .inl ⟨sql_mono X.gh hs, fun l hl => ?_⟩⟩
      exact q _ _ l (X.fin hl) (dp_of_tup upd_same (dpAll_mono (same_upd (X.gh.free hl)) hx))

/-! ### Mould.__init__ -/
abbrev s_Mould_init : Stmt := inClass (topS 21) 0
theorem sc_Mould_init : FnScope ["self", "height", "width", "cells", "letters"] ["self", "height", "width", "cells", "letters"] (defScope s_Mould_init) := ⟨rfl, rfl, rfl, by decide +kernel, rfl, by decide +kernel, by decide +kernel⟩
def spInit (K : PySem.W.Frag) (C : Addr) : Sp := fun vs H Q _ => ∃ G a dx M cv lv, vs = [.ref a, .int (M.h : Nat), .int (M.w : Nat), cv, lv] ∧ Same G H ∧ G a = none ∧ H a = some (.ins C dx []) ∧ M.Ok ∧
  Dp K G cv (.list (cellsD M.cells)) ∧ Dp K G lv (.list (natsD M.letters)) ∧ ∀ G' H', Ext (M1 a) G H G' H' → (∃ cv' lv', H' a = some (.ins C dx (fsM M cv' lv')) ∧ Dp K G' cv' (.tuple (cellsD M.cells)) ∧ Dp K G' lv' (.tuple (natsD M.letters))) → Q .non H'
theorem ok_Mould_init {C : Addr} {f : Addr} {oc dV kV doc pm cdv ct : Value} {an od : Option Addr} {osl : Array (Option Value)}
    (lk : K.lookup f = some ⟨oc, od, .func (PySem.W.fnOf "__init__" "Mould.__init__" (defArgs s_Mould_init) (defBody s_Mould_init) (defScope s_Mould_init) dV kV doc pm an cdv ct), osl⟩) (hcd : PySem.W.codeIn K cdv "Mould.__init__" = true)
    (B : Bi mg) (T : MC K C) {tm : Tok} (gM : mg "MOST" = some (.int 6 tm))
    (D_is_whole3 : Dfn P w K mg base CX0 1 "is_whole" ["thing", "low", "high"] [] (spIsWhole K)) (D_checked_cells : Dfn P w K mg base CX0 3 "checked_cells" ["height", "width", "cells"] [] (spCells K))
    (D_checked_letters : Dfn P w K mg base CX0 2 "checked_letters" ["many", "letters"] [] (spLetters K)) :
    FnOk P w K mg base CX0 4 f (PySem.W.fnOf "__init__" "Mould.__init__" (defArgs s_Mould_init) (defBody s_Mould_init) (defScope s_Mould_init) dV kV doc pm an cdv ct) ["self", "height", "width", "cells", "letters"] (spInit K C) := by
  refine fn_of lk hcd sc_Mould_init (fun vs H Q E h => ?_) (fun A outer s H vs Q E hr h => ?_)
  · obtain ⟨_, _, _, _, _, _, rfl, _⟩ := h
    rfl
  · obtain ⟨G, a, dx, M, cv, lv, rfl, gh, ga, ha, ok, hc, hl, q⟩ := h
    refine ⟨_, PSs.nox (pss_cons (ps_if (pt_not (pt_val (pe_dfn D_is_whole3 (hr.mono (by decide)) (by rfl) pass0 (pa_cons (pv 1) (pa_cons pe_int (pa_cons (pe_glob (v := .int 6) (by rfl) gM ⟨_, rfl⟩) pa_nil))))))
        (pss_one ps_never)
        pss_nil)
      (pss_cons (ps_if (pt_not (pt_val (pe_dfn D_is_whole3 (hr.mono (by decide)) (by rfl) pass0 (pa_cons (pv 2) (pa_cons pe_int (pa_cons (pe_glob (v := .int 6) (by rfl) gM ⟨_, rfl⟩) pa_nil))))))
        (pss_one ps_never)
        pss_nil)
      (pss_cons (ps_fld (pv 0) (pv 1) rfl)
      (pss_cons (ps_fld (pv 0) (pv 2) rfl)
      (pss_cons (ps_fld (pv 0) (pe_dfn D_checked_cells (hr.mono (by decide)) (by rfl) pass0 (pa_cons (pv 1) (pa_cons (pv 2) (pa_cons (pv 3) pa_nil)))) rfl)
      (pss_one (ps_fld (pv 0) (pe_dfn D_checked_letters (hr.mono (by decide)) (by rfl) pass0 (pa_cons (pe_callB call_len_seq (by rfl) B.len (by decide +kernel) (pa_cons (pe_fld (pv 0) rfl) pa_nil)) (pa_cons (pv 4) pa_nil))) rfl))))))), ?_⟩
    have hb := ok.h1
    have hb6 := ok.h6
    have wb := ok.w1
    have wb6 := ok.w6
    have in6 : ∀ n : Nat, 1 ≤ n → n ≤ 6 → (!isWhole (.int (n : Nat)) (some 1) (some 6)) = false := fun n h1 h6 => by
      show (!(decide ((1 : Int) ≤ (n : Nat)) && decide (((n : Nat) : Int) ≤ 6))) = false
      rw [decide_eq_true (by omega), decide_eq_true (by omega)]
      rfl
    refine ⟨_, rfl, _, _, some 1, some 6, rfl, .inl (.int _), _, rfl, ibF (in6 _ hb hb6) ?_⟩
    refine ⟨_, rfl, _, _, some 1, some 6, rfl, .inl (.int _), _, rfl, ibF (in6 _ wb wb6) ?_⟩
    -- the fields
    have X0 : Ext (M1 a) G H G H := Ext.refl gh
    refine ⟨_, rfl, .ref a, rfl, a, C, dx, [], rfl, ha, T.cl, T.nH, by decide, ?_⟩
    refine ⟨_, rfl, .ref a, rfl, a, C, dx, _, rfl, upd_same, T.cl, T.nW, (show (1 : Nat) < 1000 by decide), ?_⟩
    rw [upd_upd]
    have X1 : Ext (M1 a) G H G (upd H a (.ins C dx (putF "width" (.int (M.w : Nat)) (putF "height" (.int (M.h : Nat)) [])))) := X0.wr (.inr rfl) ga
    refine ⟨_, rfl, _, rfl, cv, rfl, G, cv, M.cells, M.h, M.w, rfl, X1.gh, hc, ok.inn, ok.asc, Nat.le_trans ok.few (by decide), fun G2 H2 c2 Y2 d2 => ?_⟩
    have X2 := X1.trans Y2.up
    have g2 : G2 a = none := Y2.out ga upd_same
    have h2 : H2 a = _ := Y2.sm _ _ upd_same
    refine ⟨.ref a, rfl, a, C, dx, _, rfl, h2, T.cl, T.nC, (show (2 : Nat) < 1000 by decide), ?_⟩
    have X3 := X2.wr (p := a) (o := .ins C dx (putF "cells" (.ref c2) (putF "width" (.int (M.w : Nat)) (putF "height" (.int (M.h : Nat)) [])))) (.inr rfl) g2
    obtain ⟨c', xs, ec, hs2, hx2⟩ := dp_tup d2
    obtain rfl : c2 = c' := V.ref.inj ec
    refine ⟨.ref a, rfl, a, C, dx, _, _, rfl, upd_same, T.cl, T.nC, rfl, c2, xs, rfl, .inr (sqt_mono X3.gh hs2), lv, rfl, ?_⟩
    have el : xs.length = M.letters.length := by rw [dpAll_len hx2, List.length_map, ok.len]
    have lim : M.letters.length ≤ 1000 := by rw [ok.len]; exact Nat.le_trans ok.few (by decide)
    refine ⟨G2, lv, M.letters, by rw [el]; rfl, X3.gh, dp_mono Y2.gg hl, ok.let_, lim, fun G4 H4 c4 Y4 d4 => ?_⟩
    have X4 := X3.trans Y4.up
    have g4 : G4 a = none := Y4.out g2 upd_same
    have h4 : H4 a = _ := Y4.sm _ _ upd_same
    refine ⟨.ref a, rfl, a, C, dx, _, rfl, h4, T.cl, T.nL, (show (3 : Nat) < 1000 by decide), ?_⟩
    exact q G4 _ (X4.wr (.inr rfl) g4) ⟨.ref c2, .ref c4, upd_same, dp_mono Y4.gg d2, d4⟩
end
end K36
end

section
set_option Elab.async false
set_option linter.all false
set_option maxRecDepth 100000
set_option maxHeartbeats 4000000
/-! K36, the module of moulds: letters_many, check_numbers, filled. -/
namespace K36
open PySem PySem.Spec PyProof.Rows L2

/-! ### properties and methods that may be called -/
structure Prp (P : Program) (w : World) (K : PySem.W.Frag) (mg : Str → Option Value) (base : Heap) (k : Nat) (C : Addr) (f : Str) (sp : Sp) : Prop where
  ex : ∃ (p g : Addr) (fd : FuncData) (ps : List Str), PropOf K C f p g ∧ FnOk P w K mg base CX0 k g fd ps sp ∧ Binds K fd ps []
theorem pe_prp {X : Cx} {k j : Nat} {C : Addr} {f : Str} {sp : Sp} {e : Expr} {pos : Pos} {ta : TE} (D : Prp X.prog X.w X.K X.mg X.base k C f sp) (c : Cls X.K C) (hr : Room j X.A) (hk : k + 1 ≤ j) (he : PE X e ta)
    (hab : attributeBase e f X.env (eval e X.env) = eval e X.env := by rfl) : PE X (.Attribute e f pos) (tProp C sp [] E0 ta) := by
  obtain ⟨p, g, fd, ps, hp, F, b⟩ := D.ex
  exact pe_prop he c hp F (hr.mono hk) b .nil pass0 hab

/-! ### plain: the table of a filled mould -/
section
variable {α β : Type}
def setCell (t : List (List α)) (c : Nat × Nat) (x : α) : List (List α) := t.set c.1 ((t.getD c.1 []).set c.2 x)
end
abbrev Rt : Type := Int × Int
def tabN (M : Mo) (rs : List Rt) : Nat → List (List Rt)
  | 0 => List.replicate M.h (List.replicate M.w (0, 1))
  | i + 1 => setCell (tabN M rs i) (M.cells.getD i (0, 0)) (rs.getD (M.letters.getD i 0) (0, 1))
def tabOf (M : Mo) (rs : List Rt) : List (List Rt) := tabN M rs M.cells.length
abbrev rowD (r : List Rt) : List PyData := r.map ratD
abbrev rowsD (t : List (List Rt)) : List (List PyData) := t.map rowD
theorem setCell_len {α : Type} (t : List (List α)) (c : Nat × Nat) (x : α) : (setCell t c x).length = t.length := List.length_set
theorem tabN_len (M : Mo) (rs : List Rt) : ∀ i, (tabN M rs i).length = M.h
  | 0 => List.length_replicate
  | i + 1 => (setCell_len _ _ _).trans (tabN_len M rs i)
theorem tabN_row (M : Mo) (rs : List Rt) : ∀ (i : Nat) (r : List Rt), r ∈ tabN M rs i → r.length = M.w
  | 0, r, h => by
    rw [(List.mem_replicate.mp h).2]
    exact List.length_replicate
  | i + 1, r, h => by
    have h' : r ∈ (tabN M rs i).set (M.cells.getD i (0, 0)).1 (((tabN M rs i).getD (M.cells.getD i (0, 0)).1 []).set (M.cells.getD i (0, 0)).2 (rs.getD (M.letters.getD i 0) (0, 1))) := h
    by_cases hc : (M.cells.getD i (0, 0)).1 < (tabN M rs i).length
    · rcases List.mem_or_eq_of_mem_set h' with q | q
      · exact tabN_row M rs i r q
      · rw [q, List.length_set, List.getD_eq_getElem?_getD, List.getElem?_eq_getElem hc, Option.getD_some]
        exact tabN_row M rs i _ (List.getElem_mem hc)
    · rw [List.set_eq_of_length_le (by omega)] at h'
      exact tabN_row M rs i r h'
theorem fresh_max : ∀ (ns : List Nat) (n : Nat), (ns.map fun n : Nat => (n : Int)).foldl max (n : Int) + 1 = ((ns.foldl (fun f l => max f (l + 1)) (n + 1) : Nat) : Int)
  | [], n => rfl
  | m :: ns, n => by
    show (ns.map _).foldl max (max (n : Int) (m : Int)) + 1 = ((ns.foldl _ (max (n + 1) (m + 1)) : Nat) : Int)
    have e1 : max (n : Int) (m : Int) = ((max n m : Nat) : Int) := by omega
    have e2 : max (n + 1) (m + 1) = max n m + 1 := by omega
    rw [e1, e2]
    exact fresh_max ns (max n m)
theorem mem_lt_many {M : Mo} {i : Nat} (h : i < M.letters.length) : M.letters[i] < M.many := fresh_mem (List.getElem_mem h)

/-! ### [tuple(row) for row in rows] -/
abbrev rTupOf (K : PySem.W.Frag) : List V → Hp → VK → Prop := fun xs H Q => ∃ p ys, xs = [.ref p] ∧ ((SqL K H p ys ∧ ∀ l, H l = none → Q (.ref l) (upd H l (.tup ys))) ∨ (SqT K H p ys ∧ Q (.ref p) H))
theorem yesT {σ : L2.St} {H : Hp} {A B : Hp → Prop} (h : A H) : tYes σ H (fun b H' => if b = true then A H' else B H') := iteT (A := A H) (B := B H) h
theorem freeze {K : PySem.W.Frag} {i j : Nat} {σ : L2.St} {H0 G H : Hp} {as : List Addr} {t : List (List PyData)} {D : Addr} {Q : VK} (hi : σ[i]? = some (some (.ref D))) (h1 : ∀ v, ((wipe σ [j]).set j (some v))[j]? = some (some v))
    (h2 : ∀ v, wipe ((wipe σ [j]).set j (some v)) [j] = wipe σ [j]) (gh : Same G H) (g : Grid K H0 G H as t) (hD : H D = some (.lst (as.map V.ref))) (hz : as.length ≤ 1000)
    (q : ∀ G' H' p ys, Ext M0 G H G' H' → H' p = some (.lst ys) → G' p = none → H p = none → DpAll K G' ys (t.map PyData.tuple) → Q (.ref p) H') :
    tLc (iList K (tVar i)) (gName j) tYes (tCB (rTupOf K) (tCons (tVar j) tNil)) [j] σ H Q := by
  refine ⟨.ref D, hi, D, rfl, ⟨_, .inl (.inl hD)⟩, fun p hp => ?_⟩
  have gp : G p = none := gh.free hp
  refine lc_it (walk_list (xs := as.map V.ref)) (fun n H' => ∃ G' ys, Ext M0 G H G' H' ∧ H' p = some (.lst ys) ∧ G' p = none ∧ DpAll K G' ys ((t.take n).map PyData.tuple) ∧ ys.length = n)
    ⟨G, [], (Ext.refl gh).al hp, upd_same, gp, .nil, rfl⟩ (fun n H' _ hP => ?_) (fun n x H' H2 hn hP hY => ?_) fun H' hP => ?_
  · obtain ⟨G', ys, X, _⟩ := hP
    exact .inl (.inl (X.sm _ _ hD))
  · obtain ⟨G', ys, X, ep, gp', hd, hl⟩ := hP
    obtain ⟨rfl, ex⟩ := hY
    have hna : n < as.length := by rw [List.length_map] at hn; exact hn
    have hnt : n < t.length := by rw [← g.len]; exact hna
    rw [List.getElem?_map, List.getElem?_eq_getElem hna] at ex
    obtain rfl : V.ref as[n] = x := Option.some.inj ex
    have g' := g.ext X
    obtain ⟨xs, e1, e2⟩ := g'.at_ n _ _ (List.getElem?_eq_getElem hna) (List.getElem?_eq_getElem hnt)
    refine ⟨h2 _, ?_⟩
    refine yesT ⟨_, h1 _, as[n], xs, rfl, .inl ⟨.inl (.inl e1), fun l hl2 => ?_⟩⟩
    have X2 := X.fin (o := .tup xs) hl2
    have np : l ≠ p := fun z => by rw [z, ep] at hl2; cases hl2
    have ep2 : upd H2 l (.tup xs) p = some (.lst ys) := by rw [upd_ne (Ne.symm np)]; exact ep
    have gp2 : upd G' l (.tup xs) p = none := by rw [upd_ne (Ne.symm np)]; exact gp'
    refine ⟨ys, ep2, Nat.lt_of_lt_of_le (show ys.length < 1000 by omega) (by decide), ?_⟩
    refine ⟨_, ys ++ [.ref l], X2.wr (.inl hp) gp2, upd_same, gp2, ?_, by rw [List.length_append, hl]; rfl⟩
    rw [List.take_add_one, List.getElem?_eq_getElem hnt, Option.toList_some, List.map_append]
    exact dpAll_app (dpAll_mono (same_upd (X.gh.free hl2)) hd) (dpAll_one (dp_of_tup upd_same (dpAll_mono (same_upd (X.gh.free hl2)) e2)))
  · obtain ⟨G', ys, X, ep, gp', hd, hl⟩ := hP
    rw [List.take_of_length_le (by rw [List.length_map, g.len]; exact Nat.le_refl _)] at hd
    exact q G' H' p ys X ep gp' hp hd

section
variable {P : Program} {w : World} {K : PySem.W.Frag} {mg : Str → Option Value} {base : Heap}

/-! ### letters_many -/
abbrev s_Mould_letters_many : Stmt := inClass (topS 21) 2
theorem sc_Mould_letters_many : FnScope ["self"] ["self"] (defScope s_Mould_letters_many) := ⟨rfl, rfl, rfl, by decide +kernel, rfl, by decide +kernel, by decide +kernel⟩
def spMany (K : PySem.W.Frag) (C : Addr) : Sp := fun vs H Q _ => ∃ G v M, vs = [v] ∧ Same G H ∧ MouldAt K C G v M ∧ Q (.int (M.many : Nat)) H
theorem ok_Mould_letters_many {C : Addr} {f : Addr} {fd : FuncData} (F : Fun K "letters_many" "Mould.letters_many" s_Mould_letters_many f fd) (B : Bi mg) (T : MC K C) : FnOk P w K mg base CX0 1 f fd ["self"] (spMany K C) := by
  refine F.ok sc_Mould_letters_many (fun vs H Q E h => ?_) (fun cdv A outer s H vs Q E hr h => ?_)
  · obtain ⟨_, _, _, rfl, _⟩ := h
    rfl
  · obtain ⟨G, v, M, rfl, gh, ⟨a, dx, cv, lv, rfl, ha, hc, hl⟩, q⟩ := h
    refine ⟨_, (pss_one (ps_ret (pe_ifExp (pt_truth (pe_fld (pv 0) rfl) (by intro _; rfl)) (pe_op op_add (pe_callB (call_maxT rfl hr.units) (by rfl) B.max (by decide +kernel) (pa_cons (pe_fld (pv 0) rfl) pa_nil)) pe_int) pe_int))), ?_⟩
    have ea := gh _ _ ha
    obtain ⟨b, xs, rfl, hs, hx⟩ := dp_tup hl
    have ex : xs = (M.letters.map fun n : Nat => (n : Int)).map V.int := by rw [natsD_ints] at hx; exact dpAll_ints hx
    have hs' := sqt_mono gh hs
    refine ⟨.ref a, rfl, a, C, dx, _, _, rfl, ea, T.cl, T.nL, rfl, _, .inr (.inl ⟨xs, hs', rfl⟩), ?_⟩
    cases hM : M.letters with
    | nil =>
      rw [hM] at ex
      subst ex
      refine iteF ?_
      have e : M.many = 0 := by unfold Mo.many; rw [hM]; rfl
      rw [e] at q
      exact q
    | cons n ns =>
      rw [hM] at ex
      subst ex
      refine iteT ⟨.ref a, rfl, a, C, dx, _, _, rfl, ea, T.cl, T.nL, rfl, b, (n : Int), ns.map fun n : Nat => (n : Int), rfl, hs', _, _, rfl, rfl, ?_⟩
      have e : (ns.map fun n : Nat => (n : Int)).foldl max (n : Int) + 1 = (M.many : Nat) := by
        rw [fresh_max]
        unfold Mo.many
        rw [hM]
        show _ = ((ns.foldl _ (max 0 (n + 1)) : Nat) : Int)
        rw [Nat.zero_max]
      show Q (.int (_ + 1)) H
      rw [e]
      exact q

/-! ### check_numbers -/
/-- numbers that stand for ratios -/
def NumsD (ds : List PyData) (rs : List Rt) : Prop := ds.length = rs.length ∧ ∀ (i : Nat) (d : PyData) (r : Rt), ds[i]? = some d → rs[i]? = some r → NumD d r
abbrev ratsD (rs : List Rt) : List PyData := rs.map ratD
abbrev s_check_numbers : Stmt := topS 20
theorem sc_check_numbers : FnScope ["mould", "numbers", "many", "ratios", "at", "number", "ratio"] ["mould", "numbers"] (defScope s_check_numbers) := ⟨rfl, rfl, rfl, by decide +kernel, rfl, by decide +kernel, by decide +kernel⟩
def spCheckN (K : PySem.W.Frag) (C : Addr) : Sp := fun vs H Q _ => ∃ G v nv M ds rs, vs = [v, nv] ∧ Same G H ∧ MouldAt K C G v M ∧ Dp K G nv (.list ds) ∧ NumsD ds rs ∧ rs.length = M.many ∧ rs.length ≤ 1000 ∧
  ∀ G' H' a, Ext M0 G H G' H' → Dp K G' (.ref a) (.tuple (ratsD rs)) → Q (.ref a) H'
theorem ok_check_numbers {C : Addr} {f : Addr} {fd : FuncData} (F : Fun K "check_numbers" "check_numbers" s_check_numbers f fd) (B : Bi mg) (T : MC K C) (D_is_sequence : Dfn P w K mg base CX0 1 "is_sequence" ["thing"] [] (spIsSeq K))
    (D_letters_many : Prp P w K mg base 1 C "letters_many" (spMany K C)) (D_as_ratio : Dfn P w K mg base CX0 3 "as_ratio" ["thing"] [] (spAsRatio K)) : FnOk P w K mg base CX0 4 f fd ["mould", "numbers"] (spCheckN K C) := by
  refine F.ok sc_check_numbers (fun vs H Q E h => ?_) (fun cdv A outer s H vs Q E hr h => ?_)
  · obtain ⟨_, _, _, _, _, _, rfl, _⟩ := h
    rfl
  · obtain ⟨G, v, nv, M, ds, rs, rfl, gh, hM, hd, ⟨hlen, hn⟩, hmany, hz, q⟩ := h
    obtain ⟨a, xs, rfl, hs, hx⟩ := dp_list hd
    have lx : xs.length = ds.length := dpAll_len hx
    refine ⟨_, (pss_cons (ps_if (pt_not (pt_val (pe_dfn D_is_sequence (hr.mono (by decide)) (by rfl) pass0 (pa_cons (pv 1) pa_nil))))
        (pss_one ps_never)
        pss_nil)
      (pss_cons (ps_set (i := 2) sc_check_numbers.nd rfl (.inl rfl) (pe_prp D_letters_many T.cl hr (by decide) (pv 0)))
      (pss_cons (ps_set (i := 3) sc_check_numbers.nd rfl (.inl rfl) (pe_lst pa_nil))
      (pss_cons (ps_for PassesOwn.never rfl (pi_enum (by rfl) B.enumerate (pa_cons (pv 1) pa_nil)) (pg_tup rfl (pgs_cons (pg_name (i := 4) sc_check_numbers.nd rfl (.inl rfl)) (pgs_cons (pg_name (i := 5) sc_check_numbers.nd rfl (.inl rfl)) pgs_nil)))
        (pss_cons (ps_set (i := 6) sc_check_numbers.nd rfl (.inl rfl) (pe_dfn D_as_ratio (hr.mono (by decide)) (by rfl) pass0 (pa_cons (pv 5) pa_nil)))
        (pss_cons (ps_if (pt_cmpR op_isN (pv 6) pe_non (nomark _))
          (pss_one ps_never)
          pss_nil)
        (pss_one (ps_expr (pe_bm PySem.F.plainAttrs_list PySem.F.slot_list_append PySem.F.type_list_append mt_append (pv 3) (pa_cons (pv 6) pa_nil)))))))
      (pss_cons (ps_if (pt_cmpR op_ne (pe_callB call_len_seq (by rfl) B.len (by decide +kernel) (pa_cons (pv 3) pa_nil)) (pv 2) (nomark _))
        (pss_one ps_never)
        pss_nil)
      (pss_one (ps_ret (pe_callTy call_tuple_of (by rfl) B.tuple (by decide +kernel) (pa_cons (pv 3) pa_nil))))))))), ?_⟩
    refine ⟨_, rfl, _, _, rfl, .inl (dp_mono gh hd), fun H1 sm => ⟨_, rfl, iteF ?_⟩⟩
    have X1 : Ext M0 G H G H1 := Ext.same gh sm
    have hM' := hM
    obtain ⟨ma, dx, cv, lv, rfl, hma, hmc, hml⟩ := hM'
    refine ⟨.ref ma, rfl, ma, dx, _, rfl, X1.gh _ _ hma, G, .ref ma, M, rfl, X1.gh, hM, ?_⟩
    refine ⟨Nat.zero_le _, fun p hp => ?_⟩
    have hp0 : H p = none := X1.free hp
    have gp : G p = none := gh.free hp0
    refine ⟨.ref a, rfl, a, xs, rfl, sql_mono (X1.al hp).gh hs, ?_⟩
    refine for_it (walk_enum (xs := xs)) (fun i σ H' => ∃ G' ys y4 y5 y6, σ = [some (.ref ma), some (.ref a), some (.int (M.many : Nat)), some (.ref p), y4, y5, y6] ∧ Ext M0 G H G' H' ∧ H' p = some (.lst ys) ∧ G' p = none ∧
        DpAll K G' ys ((rs.take i).map ratD) ∧ ys.length = i)
      ⟨G, [], none, none, none, rfl, X1.al hp, upd_same, gp, .nil, rfl⟩ (fun i σ H' _ hP => ?_) (fun i x σ H' H2 hi hP hY => ?_) (fun σ H' hP => ?_)
    · obtain ⟨G', ys, _, _, _, rfl, X, _⟩ := hP
      exact sql_mono (X.gg.trans X.gh) hs
    · obtain ⟨G', ys, y4, y5, y6, rfl, X, ep, gp', hdy, hl⟩ := hP
      obtain ⟨Tp, z1, z2, rfl, nT, rfl, e1, e2⟩ := hY
      have e1 : V.int (i : Nat) = z1 := Option.some.inj e1
      subst e1
      have e2 : xs[i]? = some z2 := e2
      obtain ⟨d, hdi, hdz⟩ := dpAll_at hx e2
      have hir : i < rs.length := by omega
      have X3 := X.al (o := .tup [.int (i : Nat), z2]) nT
      refine ⟨Tp, _, rfl, .inl (.inl upd_same), rfl, _, _, rfl, _, _, rfl, rfl, ?_⟩
      refine ⟨z2, rfl, G', z2, d, rs[i], rfl, X3.gh, dp_mono X.gg hdz, hn i _ _ hdi (List.getElem?_eq_getElem hir), fun G4 H4 b Y4 d4 => ?_⟩
      have X4 := X3.trans Y4
      refine ⟨_, rfl, rfl, _, rfl, iteF ?_⟩
      have np : Tp ≠ p := fun z => by rw [z, ep] at nT; cases nT
      have ep4 : H4 p = some (.lst ys) := Y4.sm _ _ (by rw [upd_ne (Ne.symm np)]; exact ep)
      have gp4 : G4 p = none := Y4.out gp' (by rw [upd_ne (Ne.symm np)]; exact ep)
      refine ⟨.ref p, rfl, .inl ⟨rfl, _, .inl (.inl ep4)⟩, .ref b, rfl, p, ys, _, rfl, rfl, ep4, small1000 (by omega), ?_⟩
      refine ⟨G4, ys ++ [.ref b], some (.int (i : Nat)), some z2, some (.ref b), rfl, X4.wr (.inl hp0) gp4, upd_same, gp4, ?_, by rw [List.length_append, hl]; rfl⟩
      rw [List.take_add_one, List.getElem?_eq_getElem hir, Option.toList_some, List.map_append]
      exact dpAll_app (dpAll_mono Y4.gg hdy) (dpAll_one d4)
    · obtain ⟨G', ys, y4, y5, y6, rfl, X, ep, gp', hdy, hl⟩ := hP
      refine ⟨.ref p, rfl, p, ys, rfl, .inl (.inl (.inl ep)), _, rfl, rfl, _, rfl, ?_⟩
      have em : (ys.length : Int) = (M.many : Nat) := by omega
      refine ibF (by rw [em]; simp) ?_
      refine ⟨.ref p, rfl, p, ys, rfl, .inl ⟨.inl (.inl ep), fun l hl' => ?_⟩⟩
      rw [List.take_of_length_le (by omega)] at hdy
      exact q _ _ l (X.fin hl') (dp_of_tup upd_same (dpAll_mono (same_upd (X.gh.free hl')) hdy))
end
end K36
end

section
set_option Elab.async false
set_option linter.all false
set_option maxRecDepth 100000
set_option maxHeartbeats 4000000
/-! K36, the module of moulds: filled. -/
namespace K36
open PySem PySem.Spec PyProof.Rows L2

theorem ixN_n {n j : Nat} (hj : j < n) : ixN n (j : Int) = some j := by
  unfold ixN
  rw [if_pos (by omega), if_pos (by omega), Int.toNat_natCast]
theorem replicate_snoc {α : Type} (n : Nat) (x : α) : List.replicate (n + 1) x = List.replicate n x ++ [x] := List.replicate_succ'
section
variable {P : Program} {w : World} {K : PySem.W.Frag} {mg : Str → Option Value} {base : Heap}

/-- the constant ZERO -/
structure ZeroAt (K : PySem.W.Frag) (mg : Str → Option Value) (z : Addr) : Prop where
  mgz : mg "ZERO" = some (.ref z)
  dp : ∀ G : Hp, Dp K G (.ref z) (ratD (0, 1))
/-- a grid of new rows, each built by [x] * width -/
theorem new_grid {K : PySem.W.Frag} {H0 G H H1 : Hp} {as : List Addr} {t : List (List PyData)} {D p q : Addr} {xs : List V} {row : List PyData} {o : HO} (X : Ext M0 H0 H0 G H) (g : Grid K H0 G H as t) (hd : DpAll K G xs row)
    (hq : H q = none) (e : H1 = upd H q (.lst xs)) : Grid K H0 G H1 (as ++ [q]) (t ++ [row]) := by
  subst e
  refine (g.new hq).snoc (fun z => ?_) upd_same hd (X.gh.free hq) (X.free hq)
  obtain ⟨ys, e⟩ := g.here z
  rw [hq] at e
  cases e

abbrev s_Mould_filled : Stmt := inClass (topS 21) 10
abbrev N_Mould_filled : List Str := ["self", "numbers", "ratios", "rows", "cell", "letter", "row", "_"]
theorem sc_Mould_filled : FnScope ["self", "numbers", "ratios", "rows", "cell", "letter", "row", "_"] ["self", "numbers"] (defScope s_Mould_filled) := ⟨rfl, rfl, rfl, by decide +kernel, rfl, by decide +kernel, by decide +kernel⟩
def spFilled (K : PySem.W.Frag) (C : Addr) : Sp := fun vs H Q _ => ∃ G v nv M ds rs, vs = [v, nv] ∧ Same G H ∧ MouldAt K C G v M ∧ M.Ok ∧ Dp K G nv (.list ds) ∧ NumsD ds rs ∧ rs.length = M.many ∧ rs.length ≤ 1000 ∧
  ∀ G' H' a, Ext M0 G H G' H' → Dp K G' (.ref a) (.tuple ((rowsD (tabOf M rs)).map PyData.tuple)) → Q (.ref a) H'
theorem ok_Mould_filled {C z : Addr} {f : Addr} {fd : FuncData} (F : Fun K "filled" "Mould.filled" s_Mould_filled f fd) (B : Bi mg) (T : MC K C) (Z : ZeroAt K mg z)
    (D_check_numbers : Dfn P w K mg base CX0 4 "check_numbers" ["mould", "numbers"] [] (spCheckN K C)) : FnOk P w K mg base CX0 5 f fd ["self", "numbers"] (spFilled K C) := by
  refine F.ok sc_Mould_filled (fun vs H Q E h => ?_) (fun cdv A outer s H vs Q E hr h => ?_)
  · obtain ⟨_, _, _, _, _, _, rfl, _⟩ := h
    rfl
  · obtain ⟨G, v, nv, M, ds, rs, rfl, gh, hM, ok, hd, hn, hmany, hz, q⟩ := h
    refine ⟨_, (pss_cons (ps_set (i := 2) sc_Mould_filled.nd rfl (.inl rfl) (pe_dfn D_check_numbers (hr.mono (by decide)) (by rfl) pass0 (pa_cons (pv 0) (pa_cons (pv 1) pa_nil))))
      (pss_cons (ps_setLc (i := 3) (own := [("_", 7)]) (g := gName 7) (tt := tYes) (te := tOp rRep (tLst (tCons (tC (.ref z)) tNil)) (tFld K (tVar 0) "width")) rfl sc_Mould_filled.nd rfl rfl (sw_true rfl rfl rfl (by decide +kernel)) (pi_range1 (by rfl) B.range (pa_cons (pe_fld (pv 0) rfl) pa_nil)) (blkOk_by (own := [("_", 7)]) (N := N_Mould_filled) (sc := defScope s_Mould_filled) (by decide +kernel)) (fun _ _ _ _ _ => (pg_name (i := 7) sc_Mould_filled.nd rfl (.inl rfl))) (fun _ _ _ _ _ => pts_nil) (fun _ _ _ _ _ => (pe_op op_rep (pe_lst (pa_cons (pe_glob (v := .ref z) (by rfl) Z.mgz rfl) pa_nil)) (pe_fld (pv 0) rfl))))
      (pss_cons (ps_for PassesOwn.never rfl (RZ.pi_zipA (by rfl) B.zip (pa_cons (pe_fld (pv 0) rfl) (pa_cons (pe_fld (pv 0) rfl) pa_nil))) (pg_tup rfl (pgs_cons (pg_name (i := 4) sc_Mould_filled.nd rfl (.inl rfl)) (pgs_cons (pg_name (i := 5) sc_Mould_filled.nd rfl (.inl rfl)) pgs_nil)))
        (pss_cons (ps_set (i := 6) sc_Mould_filled.nd rfl (.inl rfl) (pe_ix ix_list (pv 3) (pe_ix ix_tup (pv 4) pe_int (fun _ _ => rfl)) (fun _ _ => rfl)))
        (pss_one (ps_asg (pe_ix ix_tup (pv 2) (pv 5) (fun _ _ => rfl)) (pg_sub (pv 6) (pe_ix ix_tup (pv 4) pe_int (fun _ _ => rfl)) set_list)))))
      (pss_one (ps_ret (pe_callTy call_tuple_of (by rfl) B.tuple (by decide +kernel) (pa_cons (pe_lc (own := [("row", 6)]) (g := gName 6) (tt := tYes) (te := tCB (rTupOf K) (tCons (tVar 6) tNil)) rfl sc_Mould_filled.nd (pi_list (pv 3)) (blkOk_by (own := [("row", 6)]) (N := N_Mould_filled) (sc := defScope s_Mould_filled) (by decide +kernel)) (fun _ _ _ _ _ => (pg_name (i := 6) sc_Mould_filled.nd rfl (.inl rfl))) (fun _ _ _ _ _ => pts_nil) (fun _ _ _ _ _ => (pe_callTy call_tuple_of (by rfl) B.tuple (by decide +kernel) (pa_cons (pv 6) pa_nil)))) pa_nil))))))), ?_⟩
    have hM' := hM
    obtain ⟨ma, dx, cv, lv, rfl, hma, hmc, hml⟩ := hM'
    refine ⟨_, rfl, nv, rfl, G, .ref ma, nv, M, ds, rs, rfl, gh, hM, hd, hn, hmany, hz, fun G1 H1 ra Y1 d1 => ?_⟩
    have hb := ok.h6
    have wb := ok.w6
    -- rows
    refine ⟨.ref ma, rfl, ma, C, dx, _, _, rfl, Y1.gh _ _ (Y1.gg _ _ hma), T.cl, T.nH, rfl, (M.h : Nat), rfl, by omega, by omega, fun D hD => ?_⟩
    refine lc_it walk_range (fun n H' => ∃ as, Ext M0 G H G1 H' ∧ Grid K H G1 H' as (List.replicate n (List.replicate M.w (ratD (0, 1)))) ∧ H' D = some (.lst (as.map V.ref)) ∧ as.length = n ∧ D ∉ as)
      ⟨[], Y1.al hD, Grid.nil, upd_same, rfl, fun z => nomatch z⟩ (fun _ _ _ _ => trivial) (fun n x H2 H2' hn' hP hY => ?_) (fun H2 hP => ?_)
    · obtain ⟨as, X, g, eD, hl, nDa⟩ := hP
      obtain ⟨eH, rfl⟩ := hY
      subst eH
      have n7 : n < M.h := by simpa using hn'
      refine ⟨rfl, yesT ⟨by show 1 ≤ sizeLine; decide, fun p hp => ?_⟩⟩
      have X2 := X.al (o := .lst [.ref z]) hp
      refine ⟨.ref ma, rfl, ma, C, dx, _, _, rfl, X2.gh _ _ (Y1.gg _ _ hma), T.cl, T.nW, rfl, p, (M.w : Nat), [.ref z], rfl, rfl, upd_same, by omega, by omega, ?_, fun r hr' => ?_⟩
      · show 1 * ((M.w : Nat) : Int).toNat ≤ sizeLine
        rw [Int.toNat_natCast]
        exact Nat.le_trans (show 1 * M.w ≤ 1000 by omega) (by decide)
      have e : (List.replicate ((M.w : Nat) : Int).toNat [V.ref z]).flatten = List.replicate M.w (.ref z) := by rw [Int.toNat_natCast, rep_flat]
      rw [e]
      have X3 := X2.al (o := .lst (List.replicate M.w (.ref z))) hr'
      have g2 := g.new (o := .lst [.ref z]) hp
      have nD : r ≠ D := fun z' => by
        rw [z', upd_ne (ne_of_none eD hp), eD] at hr'
        cases hr'
      have eD3 : (upd (upd H2' p (.lst [.ref z])) r (.lst (List.replicate M.w (.ref z)))) D = some (.lst (as.map V.ref)) := by
        rw [upd_ne (Ne.symm nD), upd_ne (ne_of_none eD hp)]
        exact eD
      have g3 : Grid K H G1 (upd (upd H2' p (.lst [.ref z])) r (.lst (List.replicate M.w (.ref z)))) (as ++ [r]) (List.replicate n (List.replicate M.w (ratD (0, 1))) ++ [List.replicate M.w (ratD (0, 1))]) := by
        refine (g2.new hr').snoc (fun z' => ?_) upd_same (dpAll_rep (Z.dp G1) M.w) (X2.gh.free hr') (X2.free hr')
        obtain ⟨ys, e⟩ := g2.here z'
        rw [hr'] at e
        cases e
      have nDas : D ∉ as ++ [r] := fun z' => by
        rcases List.mem_append.mp z' with z1 | z1
        · exact nDa z1
        · exact nD (List.mem_singleton.mp z1).symm
      refine ⟨_, eD3, Nat.lt_of_lt_of_le (show (as.map V.ref).length < 1000 by rw [List.length_map]; omega) (by decide), ?_⟩
      refine ⟨as ++ [r], X3.wr (.inl (Y1.free hD)) (Y1.gh.free hD), ?_, ?_, by rw [List.length_append, hl]; rfl, nDas⟩
      · rw [replicate_snoc]
        exact g3.other nDas
      · rw [upd_same, List.map_append]
        rfl
    · obtain ⟨as, X, g, eD, hl, nDa⟩ := hP
      have hl : as.length = M.h := by simpa using hl
      have g0 : Grid K H G1 H2 as (rowsD (tabN M rs 0)) := by
        have e : rowsD (tabN M rs 0) = List.replicate (((M.h : Nat) : Int).toNat) (List.replicate M.w (ratD (0, 1))) := by
          rw [Int.toNat_natCast]
          show (List.replicate M.h (List.replicate M.w ((0, 1) : Rt))).map rowD = _
          rw [List.map_replicate]
          show List.replicate M.h ((List.replicate M.w ((0, 1) : Rt)).map ratD) = _
          rw [List.map_replicate]
        rw [e]
        exact g
      obtain ⟨ca, cxs, rfl, hcs, hcx⟩ := dp_tup hmc
      obtain ⟨la, lxs, rfl, hls, hlx⟩ := dp_tup hml
      have lc : cxs.length = M.cells.length := by rw [dpAll_len hcx, List.length_map]
      have ll : lxs.length = M.letters.length := by rw [dpAll_len hlx, List.length_map]
      have e2 := X.gh _ _ (Y1.gg _ _ hma)
      refine ⟨.ref ma, rfl, ma, C, dx, _, _, rfl, e2, T.cl, T.nC, rfl, .ref ma, rfl, ma, C, dx, _, _, rfl, e2, T.cl, T.nL, rfl, ca, la, cxs, lxs, rfl, ?_⟩
      refine .inr ⟨sqt_mono (X.gg.trans X.gh) hcs, sqt_mono (X.gg.trans X.gh) hls, ?_⟩
      obtain ⟨rxa, rxs, er, hrs, hrx⟩ := dp_tup d1
      obtain rfl : ra = rxa := V.ref.inj er
      refine for_it (walk_zipT (xs := cxs) (ys := lxs) (by rw [lc, ll, ok.len])) (fun i σ H' => ∃ y4 y5 y6 y7, σ = [some (.ref ma), some nv, some (.ref ra), some (.ref D), y4, y5, y6, y7] ∧ Ext M0 G H G1 H' ∧
          Grid K H G1 H' as (rowsD (tabN M rs i)) ∧ H' D = some (.lst (as.map V.ref)))
        ⟨none, none, none, none, rfl, X, g0, eD⟩ (fun i σ H' _ hP => ?_) (fun i x σ H' H3 hi hP hY => ?_) (fun σ H' hP => ?_)
      · obtain ⟨_, _, _, _, rfl, X3, _⟩ := hP
        exact ⟨sqt_mono (X3.gg.trans X3.gh) hcs, sqt_mono (X3.gg.trans X3.gh) hls⟩
      · obtain ⟨y4, y5, y6, y7, rfl, X3, g3, eD3⟩ := hP
        obtain ⟨Tp, z1, z2, rfl, nT, rfl, e1, e2⟩ := hY
        have e1 : cxs[i]? = some z1 := e1
        have e2 : lxs[i]? = some z2 := e2
        have hic : i < M.cells.length := by omega
        have hil : i < M.letters.length := by rw [ok.len]; exact hic
        obtain ⟨d, hdi, hdz⟩ := dpAll_at hcx e1
        have ed : d = cellD M.cells[i] := by
          rw [List.getElem?_map, List.getElem?_eq_getElem hic] at hdi
          exact (Option.some.inj hdi).symm
        subst ed
        obtain ⟨d, hdi, hdz2⟩ := dpAll_at hlx e2
        have ed : d = natD M.letters[i] := by
          rw [List.getElem?_map, List.getElem?_eq_getElem hil] at hdi
          exact (Option.some.inj hdi).symm
        subst ed
        obtain rfl := dp_int hdz2
        obtain ⟨cb, rfl, hsb⟩ := dp_intsT (ns := [(M.cells[i].1 : Int), (M.cells[i].2 : Int)]) hdz
        have X4 := X3.al (o := .tup [.ref cb, .int (M.letters[i] : Nat)]) nT
        have g4 := g3.new (o := .tup [.ref cb, .int (M.letters[i] : Nat)]) nT
        have eD4 : (upd H' Tp (.tup [.ref cb, .int (M.letters[i] : Nat)])) D = some (.lst (as.map V.ref)) := by
          rw [upd_ne (ne_of_none eD3 nT)]
          exact eD3
        have hin := ok.inn _ (List.getElem_mem hic)
        have h1 : M.cells[i].1 < as.length := by omega
        have h1t : M.cells[i].1 < (tabN M rs i).length := by rw [tabN_len]; exact hin.1
        have hlm := mem_lt_many hil
        have hlr : M.letters[i] < rs.length := by rw [hmany]; exact hlm
        have ea : (as.map V.ref)[M.cells[i].1]? = some (.ref as[M.cells[i].1]) := by rw [List.getElem?_map, List.getElem?_eq_getElem h1]; rfl
        obtain ⟨rv, erv, hrv⟩ := dpAll_get hrx (i := M.letters[i]) (d := ratD rs[M.letters[i]]) (by rw [List.getElem?_map, List.getElem?_eq_getElem hlr]; rfl)
        obtain ⟨ys, ey, hy⟩ := g4.at_ M.cells[i].1 as[M.cells[i].1] (rowD (tabN M rs i)[M.cells[i].1]) (List.getElem?_eq_getElem h1) (by rw [List.getElem?_map, List.getElem?_eq_getElem h1t]; rfl)
        have hrow : (tabN M rs i)[M.cells[i].1].length = M.w := tabN_row M rs i _ (List.getElem_mem h1t)
        have hys : ys.length = M.w := by rw [dpAll_len hy, List.length_map, hrow]
        have hsb4 := sqt_mono (X4.gg.trans X4.gh) hsb
        refine ⟨Tp, _, rfl, .inl (.inl upd_same), rfl, _, _, rfl, _, _, rfl, rfl, ?_⟩
        refine ⟨.ref D, rfl, .ref cb, rfl, cb, _, 0, _, rfl, rfl, hsb4, atI_nat (j := 0) rfl, D, as.map V.ref, (M.cells[i].1 : Nat), _, rfl, rfl, .inl (.inl eD4), atI_nat ea, ?_⟩
        refine ⟨.ref ra, rfl, _, rfl, ra, rxs, (M.letters[i] : Nat), rv, rfl, rfl, sqt_mono X4.gh hrs, atI_nat erv, ?_⟩
        refine ⟨_, rfl, .ref cb, rfl, cb, _, 1, _, rfl, rfl, hsb4, atI_nat (j := 1) rfl, as[M.cells[i].1], ys, (M.cells[i].2 : Nat), M.cells[i].2, rfl, rfl, ey, ?_, ?_⟩
        · rw [hys]
          exact ixN_n hin.2
        refine ⟨_, _, _, _, rfl, X4.wr (.inl ?_) ?_, ?_, ?_⟩
        · exact (g4.out _ (List.getElem_mem h1)).2
        · exact (g4.out _ (List.getElem_mem h1)).1
        · have e : rowsD (tabN M rs (i + 1)) = (rowsD (tabN M rs i)).set M.cells[i].1 ((rowD (tabN M rs i)[M.cells[i].1]).set M.cells[i].2 (ratD rs[M.letters[i]])) := by
            show (setCell (tabN M rs i) (M.cells.getD i (0, 0)) (rs.getD (M.letters.getD i 0) (0, 1))).map rowD = _
            have q1 : M.cells.getD i (0, 0) = M.cells[i] := by rw [List.getD_eq_getElem?_getD, List.getElem?_eq_getElem hic]; rfl
            have q2 : M.letters.getD i 0 = M.letters[i] := by rw [List.getD_eq_getElem?_getD, List.getElem?_eq_getElem hil]; rfl
            have q3 : rs.getD M.letters[i] (0, 1) = rs[M.letters[i]] := by rw [List.getD_eq_getElem?_getD, List.getElem?_eq_getElem hlr]; rfl
            rw [q1, q2, q3]
            unfold setCell
            rw [List.map_set]
            have q4 : (tabN M rs i).getD M.cells[i].1 [] = (tabN M rs i)[M.cells[i].1] := by rw [List.getD_eq_getElem?_getD, List.getElem?_eq_getElem h1t]; rfl
            rw [q4]
            show _ = (rowsD (tabN M rs i)).set _ _
            congr 1
            exact List.map_set
          rw [e]
          exact g4.set (List.getElem?_eq_getElem h1) (dpAll_set hy _ hrv)
        · rw [upd_ne fun z' => nDa (by rw [z']; exact List.getElem_mem h1)]
          exact eD4
      · obtain ⟨y4, y5, y6, y7, rfl, X3, g3, eD3⟩ := hP
        have g3 : Grid K H G1 H' as (rowsD (tabOf M rs)) := by
          have e : cxs.length = M.cells.length := lc
          rw [e] at g3
          exact g3
        refine freeze (i := 3) (j := 6) (Q := fun v H2 => rTupOf K [v] H2 Q) (σ := [some (.ref ma), some nv, some (.ref ra), some (.ref D), y4, y5, y6, y7]) rfl (fun _ => rfl) (fun _ => rfl) X3.gh g3 eD3 (by omega) fun G5 H5 p5 ys5 Y5 e5 g5 n5 d5 => ?_
        refine ⟨p5, ys5, rfl, .inl ⟨.inl (.inl e5), fun l hl' => ?_⟩⟩
        have X5 := X3.trans Y5
        exact q _ _ l (X5.fin hl') (dp_of_tup upd_same (dpAll_mono (same_upd (X5.gh.free hl')) d5))
end
end K36
end

section
set_option Elab.async false
set_option linter.all false
set_option maxRecDepth 100000
set_option maxHeartbeats 4000000
/-! K36, the module of asks: BadAsk, check_ask. -/
namespace K36
open PySem PySem.Spec PyProof.Rows L2

/-! ### what asks are refused, on data -/
def seqOf : PyData → Option (List PyData)
  | .list l => some l
  | .tuple l => some l
  | _ => none
/-- true: the kind of columns -/
def kindS (s : Str) : Option Bool := if s = "column" then some true else if s = "row" then some false else none
def kindB : PyData → Option Bool
  | .str s => kindS s
  | _ => none
def okNum (d : PyData) : Bool := isWhole d (some (-10 ^ 9)) (some (10 ^ 9))
def sideOf (h w : Nat) (c : Bool) : Nat := if c = true then w else h
def askBad (h w : Nat) (d : PyData) : Option Str :=
  match seqOf d with
  | some [k, ns] => match kindB k with
    | none => some "kind"
    | some c => match seqOf ns with
      | none => some "length"
      | some l => if l.length = sideOf h w c then (if l.all okNum = true then none else some "number") else some "length"
  | _ => some "kind"
def askRes (d : PyData) : PyData :=
  match seqOf d with
  | some [k, ns] => .tuple [k, .tuple ((seqOf ns).getD [])]
  | _ => d
/-- what stands as the kind may be compared -/
def AskShape (d : PyData) : Prop := ∀ k ns, seqOf d = some [k, ns] → SeqAt.shaped k = true
theorem isSeqD_of {d : PyData} : isSeqD d = (seqOf d).isSome := by cases d <;> rfl
/-- a list or a tuple that holds xs -/
def Sq (K : PySem.W.Frag) (H : Hp) (a : Addr) (xs : List V) : Prop := SqL K H a xs ∨ SqT K H a xs
theorem Sq.mono {K : PySem.W.Frag} {H H' : Hp} {a : Addr} {xs : List V} (e : Same H H') (h : Sq K H a xs) : Sq K H' a xs := h.imp (sql_mono e) (sqt_mono e)
theorem dp_seq {K : PySem.W.Frag} {H : Hp} {v : V} {d : PyData} {l : List PyData} (h : Dp K H v d) (e : seqOf d = some l) : ∃ a xs, v = .ref a ∧ Sq K H a xs ∧ DpAll K H xs l := by
  cases d with
  | list ds =>
    obtain rfl : ds = l := Option.some.inj e
    obtain ⟨a, xs, h1, h2, h3⟩ := dp_list h
    exact ⟨a, xs, h1, .inl h2, h3⟩
  | tuple ds =>
    obtain rfl : ds = l := Option.some.inj e
    obtain ⟨a, xs, h1, h2, h3⟩ := dp_tup h
    exact ⟨a, xs, h1, .inr h2, h3⟩
  | _ => cases e
theorem rIx_of {K : PySem.W.Frag} {H : Hp} {a : Addr} {xs : List V} {i : Nat} {v : V} {Q : VK} (h : Sq K H a xs) (e : xs[i]? = some v) (q : Q v H) : rIx K (.ref a) (.int (i : Nat)) H Q := by
  rcases h with h | h
  · exact .inl ⟨a, xs, _, v, rfl, rfl, h, atI_nat e, q⟩
  · exact .inr (.inl ⟨a, xs, _, v, rfl, rfl, h, atI_nat e, q⟩)
theorem dpAll_two {K : PySem.W.Frag} {H : Hp} {xs : List V} {k ns : PyData} (h : DpAll K H xs [k, ns]) : ∃ x y, xs = [x, y] ∧ Dp K H x k ∧ Dp K H y ns := by
  cases h with
  | cons h1 h2 => cases h2 with
    | cons h2 h3 => cases h3; exact ⟨_, _, rfl, h1, h2⟩

/-! ### BadAsk -/
abbrev badF (i : Int) (x : Str) : List (Str × V) := [("what", .str x), ("index", .int i)]
/-- BadAsk with these leaves: all that was is as it was -/
def Bad (C : Addr) (i : Int) (x : Str) (G H : Hp) (E : XK) : Prop := ∀ H' dd, Ext M0 G H G H' → H' dd = some (.xd (badF i x)) → E (.ref C) (some dd) H'
theorem Ext.drop {M : Addr → Prop} {G H G1 H1 : Hp} (a : Ext M G H G1 H1) : Ext M G H G H1 := ⟨Same.refl _, a.hh, a.th, a.gg.trans a.gh, fun _ _ q => .inl q⟩
theorem Bad.ext {C : Addr} {i : Int} {x : Str} {G H G1 H1 : Hp} {E : XK} (X : Ext M0 G H G1 H1) (b : Bad C i x G H E) : Bad C i x G1 H1 E := fun H' dd Y e => b H' dd (X.trans Y).drop e
def spBadI (C : Addr) : Sp := fun vs H Q _ => ∃ a i x, vs = [.ref a, .int i, .str x] ∧ H a = some (exo a C none) ∧
  ∀ dx, H dx = none → dx ≠ a → Q .non (upd (upd (upd H dx (exd dx [("index", .int i)])) a (exo a C (some dx))) dx (exd dx (badF i x)))
/-- what the text says of the class -/
structure EC (P : Program) (w : World) (K : PySem.W.Frag) (mg : Str → Option Value) (base : Heap) (C : Addr) : Prop where
  T : OexC K C
  X : XfC K C
  nI : PySem.W.findIn K (.ref C) "index" = some none
  nW : PySem.W.findIn K (.ref C) "what" = some none
  gC : mg "BadAsk" = some (.ref C)
  te : PySem.W.exmOne K (.ref C) (.ref C) = some true
  ini : ∃ (fI : Addr) (fd : FuncData), PySem.W.findIn K (.ref C) "__init__" = some (some (.ref fI)) ∧ PySem.W.typeIn K (.ref fI) = some (.type "function") ∧ FnOk P w K mg base CX0 1 fI fd ["self", "index", "what"] (spBadI C) ∧ Binds K fd ["self", "index", "what"] []
def tBad (C : Addr) (W : WX) (ta : TA) : TS := fun _ σ H => ta σ H fun vs H1 => ∃ i x, vs = [.int i, .str x] ∧ ∀ d, H1 d = none → W (.ref C) (some d) σ (upd H1 d (.xd (badF i x)))
theorem ps_imp {X : Cx} {st : Stmt} {t t' : TS} (h : PS X st t) (i : ∀ D σ H, t' D σ H → t D σ H) : PS X st t' := ⟨fun pins s σ H D I q => h.run pins s σ H D I (i _ _ _ q)⟩
theorem mono_var {i : Nat} : ∀ (σ : L2.St) (H : Hp) (Q Q' : VK), (∀ v H', Q v H' → Q' v H') → tVar i σ H Q → tVar i σ H Q' := fun _ _ _ _ h ⟨v, e, q⟩ => ⟨v, e, h _ _ q⟩
theorem mono_c {v : V} : ∀ (σ : L2.St) (H : Hp) (Q Q' : VK), (∀ v H', Q v H' → Q' v H') → tC v σ H Q → tC v σ H Q' := fun _ _ _ _ h q => h _ _ q
/-- raise BadAsk(e1, e2) -/
theorem ps_bad {X : Cx} {W : WX} {C : Addr} {e1 e2 : Expr} {t1 t2 : TE} {p pos pos' : Pos} (hc : X.calm = true) (tk : Takes X W) (S : EC X.prog X.w X.K X.mg X.base C) (hr : Room 2 X.A) (hg : Gl X "BadAsk") (ha : PA X [e1, e2] (tCons t1 (tCons t2 tNil)))
    (m1 : ∀ σ H (Q Q' : VK), (∀ v H', Q v H' → Q' v H') → t1 σ H Q → t1 σ H Q') (m2 : ∀ σ H (Q Q' : VK), (∀ v H', Q v H' → Q' v H') → t2 σ H Q → t2 σ H Q')
    (he : starEach [e1, e2] X.env = (false, eval e1 X.env) :: starEach [e2] X.env := by rfl) (hpl : (backTo pos (starEach [e2] X.env)).any (·.1) = false := by rfl) :
    PS X (.Raise (some (.Call (.Name "BadAsk" p) [e1, e2] [] pos)) none pos') (tBad C W (tCons t1 (tCons t2 tNil))) := by
  obtain ⟨fI, fd, iC, tI, F, b⟩ := S.ini
  refine ps_imp (ps_raise hc tk (pmk_oex S.T iC tI F hr b .nil pass0 hg S.gC ha (by decide) he hpl)) fun D σ H q => ?_
  refine m1 σ H _ _ (fun v1 H1 q1 => m2 σ H1 _ _ (fun v2 H2 q2 => ?_) q1) q
  obtain ⟨i, x, e, k⟩ := q2
  refine ⟨by show 2 ≤ 1000; decide, fun a ha => ?_⟩
  rw [e]
  refine ⟨a, i, x, rfl, upd_same, fun dx hdx ne => ⟨rfl, dx, badF i x, ?_, upd_same, ?_, ?_⟩⟩
  · rw [upd_ne (Ne.symm ne), upd_same]
  · rw [upd_ne ne] at hdx
    exact hdx
  · have hdx' : H2 dx = none := by rw [upd_ne ne] at hdx; exact hdx
    have eq : upd (del (upd (upd (upd (upd H2 a (exo a C none)) dx (exd dx [("index", .int i)])) a (exo a C (some dx))) dx (exd dx (badF i x))) a) dx (.xd (badF i x)) = upd H2 dx (.xd (badF i x)) := by
      funext b
      by_cases hb : b = dx
      · subst hb; rw [upd_same, upd_same]
      · rw [upd_ne hb, upd_ne hb]
        by_cases ha' : b = a
        · subst ha'; rw [del_same, ha]
        · rw [del_ne ha', upd_ne hb, upd_ne ha', upd_ne hb, upd_ne ha']
    rw [eq]
    exact k dx hdx'

section
variable {P : Program} {w : World} {K : PySem.W.Frag} {mg : Str → Option Value} {base : Heap}
abbrev s_BadAsk_init : Stmt := inClass (topS 6) 0
theorem sc_BadAsk_init : FnScope ["self", "index", "what"] ["self", "index", "what"] (defScope s_BadAsk_init) := ⟨rfl, rfl, rfl, by decide +kernel, rfl, by decide +kernel, by decide +kernel⟩
theorem ok_BadAsk_init {C : Addr} {f : Addr} {fd : FuncData} (F : Fun K "__init__" "BadAsk.__init__" s_BadAsk_init f fd) (T : OexC K C) (nI : PySem.W.findIn K (.ref C) "index" = some none) (nW : PySem.W.findIn K (.ref C) "what" = some none) :
    FnOk P w K mg base CX0 1 f fd ["self", "index", "what"] (spBadI C) := by
  refine F.ok sc_BadAsk_init (fun vs H Q E h => ?_) (fun cdv A outer s H vs Q E hr h => ?_)
  · obtain ⟨_, _, _, rfl, _⟩ := h
    rfl
  · obtain ⟨a, i, x, rfl, ha, q⟩ := h
    refine ⟨_, (pss_cons (ps_ost (pv 0) (pv 1))
      (pss_one (ps_ost (pv 0) (pv 2)))), ?_⟩
    refine ⟨_, rfl, .ref a, rfl, a, C, rfl, T, nI, .inl ⟨ha, fun dx hdx ne => ?_⟩⟩
    refine ⟨_, rfl, .ref a, rfl, a, C, rfl, T, nW, .inr ⟨dx, [("index", .int i)], upd_same, ?_, (show (1 : Nat) ≤ 900 by decide), ?_⟩⟩
    · rw [upd_ne ne, upd_same]
    · exact q dx hdx ne
end
end K36
end

section
set_option Elab.async false
set_option linter.all false
set_option maxRecDepth 100000
set_option maxHeartbeats 4000000
/-! K36, the module of asks: check_ask. -/
namespace K36
open PySem PySem.Spec PyProof.Rows L2

theorem kindB_str {k : PyData} {c : Bool} (h : kindB k = some c) : k = .str (if c = true then "column" else "row") := by
  cases k with
  | str s =>
    have h : kindS s = some c := h
    unfold kindS at h
    by_cases h1 : s = "column"
    · rw [if_pos h1] at h
      cases h
      rw [h1]
      rfl
    · rw [if_neg h1] at h
      by_cases h2 : s = "row"
      · rw [if_pos h2] at h
        cases h
        rw [h2]
        rfl
      · rw [if_neg h2] at h
        cases h
  | _ => cases h
theorem eqv_str (a b : Str) : PyData.eqv (.str a) (.str b) = decide (b = a) := by
  simp only [PyData.eqv]
  rw [Bool.eq_iff_iff, beq_iff_eq, decide_eq_true_iff]
  exact eq_comm
theorem kindB_in (k : PyData) : (!([PyData.str "column", .str "row"].any fun z => PyData.eqv z k)) = (kindB k).isNone := by
  cases k with
  | str s =>
    show (!(PyData.eqv (.str "column") (.str s) || (PyData.eqv (.str "row") (.str s) || false))) = (kindS s).isNone
    rw [eqv_str, eqv_str]
    unfold kindS
    by_cases h1 : s = "column"
    · rw [if_pos h1, decide_eq_true h1]; rfl
    · rw [if_neg h1, decide_eq_false h1]
      by_cases h2 : s = "row"
      · rw [if_pos h2, decide_eq_true h2]; rfl
      · rw [if_neg h2, decide_eq_false h2]; rfl
  | none =>
    have e : ∀ a : Str, PyData.eqv (.str a) .none = false := fun a => by simp only [PyData.eqv]
    show (!(PyData.eqv (.str "column") _ || (PyData.eqv (.str "row") _ || false))) = true
    rw [e, e]; rfl
  | bool b =>
    have e : ∀ a : Str, PyData.eqv (.str a) (.bool b) = false := fun a => by simp only [PyData.eqv]
    show (!(PyData.eqv (.str "column") _ || (PyData.eqv (.str "row") _ || false))) = true
    rw [e, e]; rfl
  | int b =>
    have e : ∀ a : Str, PyData.eqv (.str a) (.int b) = false := fun a => by simp only [PyData.eqv]
    show (!(PyData.eqv (.str "column") _ || (PyData.eqv (.str "row") _ || false))) = true
    rw [e, e]; rfl
  | list b =>
    have e : ∀ a : Str, PyData.eqv (.str a) (.list b) = false := fun a => by simp only [PyData.eqv]
    show (!(PyData.eqv (.str "column") _ || (PyData.eqv (.str "row") _ || false))) = true
    rw [e, e]; rfl
  | tuple b =>
    have e : ∀ a : Str, PyData.eqv (.str a) (.tuple b) = false := fun a => by simp only [PyData.eqv]
    show (!(PyData.eqv (.str "column") _ || (PyData.eqv (.str "row") _ || false))) = true
    rw [e, e]; rfl
  | dict b =>
    have e : ∀ a : Str, PyData.eqv (.str a) (.dict b) = false := fun a => by simp only [PyData.eqv]
    show (!(PyData.eqv (.str "column") _ || (PyData.eqv (.str "row") _ || false))) = true
    rw [e, e]; rfl
theorem units65 {k : Nat} {A : Around} (r : Room k A) : A.units + 65 < cLine := by
  have := r.un
  omega
section
variable {P : Program} {w : World} {K : PySem.W.Frag} {mg : Str → Option Value} {base : Heap}
abbrev s_check_ask : Stmt := topS 25
theorem sc_check_ask : FnScope ["mould", "ask", "index", "length", "number"] ["mould", "ask", "index"] (defScope s_check_ask) := ⟨rfl, rfl, rfl, by decide +kernel, rfl, by decide +kernel, by decide +kernel⟩
def spAsk (K : PySem.W.Frag) (C CB : Addr) : Sp := fun vs H Q E => ∃ G v M av d i, vs = [v, av, .int i] ∧ Same G H ∧ MouldAt K C G v M ∧ Dp K G av d ∧ AskShape d ∧
  (askBad M.h M.w d = none → ∀ G' H' a, Ext M0 G H G' H' → Dp K G' (.ref a) (askRes d) → Q (.ref a) H') ∧ ∀ x, askBad M.h M.w d = some x → Bad CB i x G H E
theorem ok_check_ask {C CB : Addr} {f : Addr} {oc dV kV doc pm cdv ct : Value} {an od : Option Addr} {osl : Array (Option Value)}
    (lk : K.lookup f = some ⟨oc, od, .func (PySem.W.fnOf "check_ask" "check_ask" (defArgs s_check_ask) (defBody s_check_ask) (defScope s_check_ask) dV kV doc pm an cdv ct), osl⟩) (hcd : PySem.W.codeIn K cdv "check_ask" = true)
    (B : Bi mg) (T : MC K C) (S : EC P w K mg base CB) {tg : Tok} (gG : mg "GREATEST" = some (.int (10 ^ 9) tg)) (D_is_sequence : Dfn P w K mg base CX0 1 "is_sequence" ["thing"] [] (spIsSeq K))
    (D_is_whole3 : Dfn P w K mg base CX0 1 "is_whole" ["thing", "low", "high"] [] (spIsWhole K)) :
    FnOk P w K mg base (L2.CX P w) 3 f (PySem.W.fnOf "check_ask" "check_ask" (defArgs s_check_ask) (defBody s_check_ask) (defScope s_check_ask) dV kV doc pm an cdv ct) ["mould", "ask", "index"] (spAsk K C CB) := by
  refine fn_of lk hcd sc_check_ask (fun vs H Q E h => ?_) (fun A outer s H vs Q E hr h => ?_)
  · obtain ⟨_, _, _, _, _, _, rfl, _⟩ := h
    rfl
  · obtain ⟨G, v, M, av, d, i, rfl, gh, hM, hd, hsh, qn, qs⟩ := h
    obtain ⟨ma, dx, cv, lv, rfl, hma, hmc, hml⟩ := hM
    refine ⟨_, (pss_cons (ps_if (PW.pt (pw_or (pt_not (pt_val (pe_dfn D_is_sequence (hr.mono (by decide)) (by rfl) pass0 (pa_cons (pv 1) pa_nil)))) (pw_or (pt_cmpR op_ne (pe_callB call_len_seq (by rfl) B.len (by decide +kernel) (pa_cons (pv 1) pa_nil)) pe_int (nomark _)) (pw_or1 (pt_cmpR (op_notInT (units65 hr)) (pe_ix ix_seq (pv 1) pe_int (fun _ _ => rfl)) (pe_tup (pa_cons pe_str (pa_cons pe_str pa_nil))) (by with_unfolding_all rfl))))))
        (pss_one (ps_bad (C := CB) rfl (takes_of rfl rfl rfl rfl) S (hr.mono (by decide)) (by rfl) (pa_cons (pv 2) (pa_cons pe_str pa_nil)) mono_var mono_c))
        pss_nil)
      (pss_cons (ps_set (i := 3) sc_check_ask.nd rfl (.inl rfl) (pe_ifExp (pt_cmpR op_eq (pe_ix ix_seq (pv 1) pe_int (fun _ _ => rfl)) pe_str (nomark _)) (pe_fld (pv 0) rfl) (pe_fld (pv 0) rfl)))
      (pss_cons (ps_if (PW.pt (pw_or (pt_not (pt_val (pe_dfn D_is_sequence (hr.mono (by decide)) (by rfl) pass0 (pa_cons (pe_ix ix_seq (pv 1) pe_int (fun _ _ => rfl)) pa_nil)))) (pw_or1 (pt_cmpR op_ne (pe_callB call_len_seq (by rfl) B.len (by decide +kernel) (pa_cons (pe_ix ix_seq (pv 1) pe_int (fun _ _ => rfl)) pa_nil)) (pv 3) (nomark _)))))
        (pss_one (ps_bad (C := CB) rfl (takes_of rfl rfl rfl rfl) S (hr.mono (by decide)) (by rfl) (pa_cons (pv 2) (pa_cons pe_str pa_nil)) mono_var mono_c))
        pss_nil)
      (pss_cons (ps_for (passes_of rfl) rfl (pi_seq (pe_ix ix_seq (pv 1) pe_int (fun _ _ => rfl))) (pg_name (i := 4) sc_check_ask.nd rfl (.inl rfl))
        (pss_one (ps_if (pt_not (pt_val (pe_dfn D_is_whole3 (hr.mono (by decide)) (by rfl) pass0 (pa_cons (pv 4) (pa_cons (pe_un un_neg (pe_glob (v := .int (10 ^ 9)) (by rfl) gG ⟨_, rfl⟩)) (pa_cons (pe_glob (v := .int (10 ^ 9)) (by rfl) gG ⟨_, rfl⟩) pa_nil))))))
          (pss_one (ps_bad (C := CB) rfl (takes_of rfl rfl rfl rfl) S (hr.mono (by decide)) (by rfl) (pa_cons (pv 2) (pa_cons pe_str pa_nil)) mono_var mono_c))
          pss_nil)))
      (pss_one (ps_ret (pe_tup (pa_cons (pe_ix ix_seq (pv 1) pe_int (fun _ _ => rfl)) (pa_cons (pe_callTy call_tuple_of (by rfl) B.tuple (by decide +kernel) (pa_cons (pe_ix ix_seq (pv 1) pe_int (fun _ _ => rfl)) pa_nil)) pa_nil))))))))), ?_⟩
    have bad : ∀ (x : Str) (H' : Hp) (σ : L2.St), Ext M0 G H G H' → askBad M.h M.w d = some x → σ[2]? = some (some (.int i)) → ∀ D, tBad CB (fun cls d _ H => E cls d H) (tCons (tVar 2) (tCons (tC (.str x)) tNil)) D σ H' := fun x H' σ X e e2 D =>
      ⟨_, e2, i, x, rfl, fun dd hdd => qs x e _ dd (X.al hdd) upd_same⟩
    refine ⟨_, rfl, _, _, rfl, .inl (dp_mono gh hd), fun H1 sm => ⟨_, rfl, ?_⟩⟩
    have X1 : Ext M0 G H G H1 := Ext.same gh sm
    cases hsq : seqOf d with
    | none =>
      refine ibT (by rw [isSeqD_of, hsq]; rfl) (iteT ?_)
      exact bad "kind" H1 _ X1 (by unfold askBad; rw [hsq]) rfl _
    | some l =>
      refine ibF (by rw [isSeqD_of, hsq]; rfl) ?_
      obtain ⟨a, xs, rfl, hs, hx⟩ := dp_seq hd hsq
      refine ⟨.ref a, rfl, a, xs, rfl, hs.mono X1.gh, rfl, _, rfl, ?_⟩
      have lx : xs.length = l.length := dpAll_len hx
      by_cases h2 : l.length = 2
      · refine ibF (by rw [lx, h2]; rfl) ?_
        obtain ⟨k, ns, rfl⟩ : ∃ k ns, l = [k, ns] := by
          match l, h2 with
          | [k, ns], _ => exact ⟨k, ns, rfl⟩
        obtain ⟨x0, x1, rfl, hk, hn⟩ := dpAll_two hx
        refine ⟨.ref a, rfl, rIx_of (i := 0) (hs.mono X1.gh) rfl ⟨by show 2 ≤ sizeLine; decide, fun p hp => ?_⟩⟩
        have X2 := X1.al (o := .tup [.str "column", .str "row"]) hp
        refine ⟨k, [.str "column", .str "row"], dp_mono X2.gh hk, dp_of_tup upd_same (.cons (.str _) (.cons (.str _) .nil)), hsh k ns hsq, by decide +kernel, _, rfl, ?_⟩
        rw [kindB_in]
        cases hkb : kindB k with
        | none =>
          refine iteT ?_
          exact bad "kind" _ _ X2 (by unfold askBad; rw [hsq]; show (match kindB k with | none => _ | some c => _) = _; rw [hkb]) rfl _
        | some c =>
          refine iteF ?_
          obtain rfl := kindB_str hkb
          obtain rfl := dp_str hk
          -- the length
          refine ⟨.ref a, rfl, rIx_of (i := 0) (hs.mono X2.gh) rfl ⟨rfl, _, rfl, ?_⟩⟩
          have ask2 : ∀ {y : Option Str}, (match seqOf ns with | none => some ("length" : Str) | some l => if l.length = sideOf M.h M.w c then (if l.all okNum = true then none else some "number") else some "length") = y → askBad M.h M.w d = y := fun {y} e => by
            rw [← e]
            unfold askBad
            rw [hsq]
            show (match kindB (.str (if c = true then "column" else "row")) with | none => _ | some c => _) = _
            rw [hkb]
            try rfl
          have hma2 := X2.gh _ _ hma
          have lenD : ∀ c' : Bool, ((sideOf M.h M.w c' : Nat) : Int) = if c' = true then ((M.w : Nat) : Int) else ((M.h : Nat) : Int) := fun c' => by cases c' <;> rfl
          have side : ∀ Q2 : V → Hp → Prop, Q2 (.int (sideOf M.h M.w c : Nat)) (upd H1 p (.tup [.str "column", .str "row"])) → (if decide (V.str (if c = true then "column" else "row") = V.str "column") = true then tFld K (tVar 0) "width" (start ["mould", "ask", "index", "length", "number"] [.ref ma, .ref a, .int i]) (upd H1 p (.tup [.str "column", .str "row"])) Q2
              else tFld K (tVar 0) "height" (start ["mould", "ask", "index", "length", "number"] [.ref ma, .ref a, .int i]) (upd H1 p (.tup [.str "column", .str "row"])) Q2) := fun Q2 q2 => by
            cases c with
            | true => exact iteT ⟨.ref ma, rfl, ma, C, dx, _, _, rfl, hma2, T.cl, T.nW, rfl, q2⟩
            | false => exact iteF ⟨.ref ma, rfl, ma, C, dx, _, _, rfl, hma2, T.cl, T.nH, rfl, q2⟩
          refine side _ ?_
          -- the numbers
          refine ⟨.ref a, rfl, rIx_of (i := 1) (hs.mono X2.gh) rfl ⟨x1, ns, rfl, .inl (dp_mono X2.gh hn), fun H3 sm3 => ⟨_, rfl, ?_⟩⟩⟩
          have X3 : Ext M0 G H G H3 := X2.trans (Ext.same X2.gh sm3)
          cases hnq : seqOf ns with
          | none =>
            refine ibT (by rw [isSeqD_of, hnq]; rfl) (iteT ?_)
            exact bad "length" H3 _ X3 (ask2 (by rw [hnq])) rfl _
          | some l =>
            refine ibF (by rw [isSeqD_of, hnq]; rfl) ?_
            obtain ⟨b, ys, rfl, hys, hy⟩ := dp_seq hn hnq
            have ly : ys.length = l.length := dpAll_len hy
            refine ⟨.ref a, rfl, rIx_of (i := 1) (hs.mono X3.gh) rfl ⟨b, ys, rfl, hys.mono X3.gh, _, rfl, rfl, _, rfl, ?_⟩⟩
            by_cases hle : l.length = sideOf M.h M.w c
            · refine ibF (by rw [ly, hle]; simp) ?_
              have ask3 : ∀ {y : Option Str}, (if l.all okNum = true then none else some ("number" : Str)) = y → askBad M.h M.w d = y := fun {y} e => ask2 (by rw [hnq]; show (if l.length = _ then _ else _) = y; rw [if_pos hle]; exact e)
              have mem : ∀ (n : Nat) (x : V), ys[n]? = some x → ∃ e, l[n]? = some e ∧ Dp K G x e := fun n x e => dpAll_at hy e
              have resE : askRes d = .tuple [.str (if c = true then "column" else "row"), .tuple l] := by
                unfold askRes
                rw [hsq]
                show PyData.tuple [_, .tuple ((seqOf ns).getD [])] = _
                rw [hnq]
                rfl
              -- the two ways to walk
              rcases hys with hL | hT
              · refine .inl ⟨.ref a, rfl, rIx_of (i := 1) (hs.mono X3.gh) rfl ⟨b, rfl, ⟨_, sql_mono X3.gh hL⟩, ?_⟩⟩
                refine for_it ((walk_list (K := K) (a := b) (xs := ys)).mono (G' := fun H' => Same G H') (fun H' e => sql_mono e hL) (fun _ _ _ _ _ _ y => y))
                  (fun n σ H' => (∃ y4, σ = [some (.ref ma), some (.ref a), some (.int i), some (.int (sideOf M.h M.w c : Nat)), y4]) ∧ Ext M0 G H G H' ∧ (l.take n).all okNum = true)
                  ⟨⟨none, rfl⟩, X3, rfl⟩ (fun n σ H' _ hP => hP.2.1.gh) (fun n x σ H' H2 hn' hP hY => ?_) (fun σ H' hP => ?_)
                · obtain ⟨⟨y4, rfl⟩, X, hall⟩ := hP
                  obtain ⟨rfl, ex⟩ := hY
                  obtain ⟨e, he, hde⟩ := mem n x ex
                  refine ⟨_, rfl, _, rfl, x, e, some (-10 ^ 9), some (10 ^ 9), rfl, .inl (dp_mono X.gh hde), _, rfl, ?_⟩
                  have hnl : n < l.length := by rw [← ly]; exact hn'
                  have ee : l[n] = e := by rw [List.getElem?_eq_getElem hnl] at he; exact Option.some.inj he
                  cases hok : isWhole e (some (-10 ^ 9)) (some (10 ^ 9)) with
                  | true =>
                    refine iteF ⟨⟨_, rfl⟩, X, ?_⟩
                    rw [List.take_add_one, he, Option.toList_some, List.all_append, hall]
                    show (okNum e && true) = true
                    rw [show okNum e = true from hok]
                    rfl
                  | false =>
                    refine iteT (bad "number" _ _ X (ask3 ?_) rfl _)
                    rw [if_neg]
                    intro hh
                    have := List.all_eq_true.mp hh l[n] (List.getElem_mem hnl)
                    rw [ee, show okNum e = false from hok] at this
                    cases this
                · obtain ⟨⟨y4, rfl⟩, X, hall⟩ := hP
                  rw [ly, List.take_of_length_le (Nat.le_refl _)] at hall
                  refine ⟨.ref a, rfl, rIx_of (i := 0) (hs.mono X.gh) rfl ⟨.ref a, rfl, rIx_of (i := 1) (hs.mono X.gh) rfl ?_⟩⟩
                  refine ⟨b, ys, rfl, .inl ⟨sql_mono X.gh hL, fun t ht => ⟨by show 2 ≤ sizeLine; decide, fun p5 hp5 => ?_⟩⟩⟩
                  have X5 := X.fin (o := .tup ys) ht
                  refine qn (ask3 (by rw [if_pos hall])) _ _ p5 (X5.fin hp5) ?_
                  rw [resE]
                  exact dp_of_tup upd_same (.cons (.str _) (.cons (dp_mono (same_upd (X5.gh.free hp5)) (dp_of_tup upd_same (dpAll_mono (same_upd (X.gh.free ht)) hy))) .nil))
              · refine .inr ⟨.ref a, rfl, rIx_of (i := 1) (hs.mono X3.gh) rfl ⟨b, rfl, ⟨_, sqt_mono X3.gh hT⟩, ?_⟩⟩
                refine for_it ((walk_tup (K := K) (a := b) (xs := ys)).mono (G' := fun H' => Same G H') (fun H' e => sqt_mono e hT) (fun _ _ _ _ _ _ y => y))
                  (fun n σ H' => (∃ y4, σ = [some (.ref ma), some (.ref a), some (.int i), some (.int (sideOf M.h M.w c : Nat)), y4]) ∧ Ext M0 G H G H' ∧ (l.take n).all okNum = true)
                  ⟨⟨none, rfl⟩, X3, rfl⟩ (fun n σ H' _ hP => hP.2.1.gh) (fun n x σ H' H2 hn' hP hY => ?_) (fun σ H' hP => ?_)
                · obtain ⟨⟨y4, rfl⟩, X, hall⟩ := hP
                  obtain ⟨rfl, ex⟩ := hY
                  obtain ⟨e, he, hde⟩ := mem n x ex
                  refine ⟨_, rfl, _, rfl, x, e, some (-10 ^ 9), some (10 ^ 9), rfl, .inl (dp_mono X.gh hde), _, rfl, ?_⟩
                  have hnl : n < l.length := by rw [← ly]; exact hn'
                  have ee : l[n] = e := by rw [List.getElem?_eq_getElem hnl] at he; exact Option.some.inj he
                  cases hok : isWhole e (some (-10 ^ 9)) (some (10 ^ 9)) with
                  | true =>
                    refine iteF ⟨⟨_, rfl⟩, X, ?_⟩
                    rw [List.take_add_one, he, Option.toList_some, List.all_append, hall]
                    show (okNum e && true) = true
                    rw [show okNum e = true from hok]
                    rfl
                  | false =>
                    refine iteT (bad "number" _ _ X (ask3 ?_) rfl _)
                    rw [if_neg]
                    intro hh
                    have := List.all_eq_true.mp hh l[n] (List.getElem_mem hnl)
                    rw [ee, show okNum e = false from hok] at this
                    cases this
                · obtain ⟨⟨y4, rfl⟩, X, hall⟩ := hP
                  rw [ly, List.take_of_length_le (Nat.le_refl _)] at hall
                  refine ⟨.ref a, rfl, rIx_of (i := 0) (hs.mono X.gh) rfl ⟨.ref a, rfl, rIx_of (i := 1) (hs.mono X.gh) rfl ?_⟩⟩
                  refine ⟨b, ys, rfl, .inr ⟨sqt_mono X.gh hT, ⟨by show 2 ≤ sizeLine; decide, fun p5 hp5 => ?_⟩⟩⟩
                  refine qn (ask3 (by rw [if_pos hall])) _ _ p5 (X.fin hp5) ?_
                  rw [resE]
                  exact dp_of_tup upd_same (.cons (.str _) (.cons (dp_mono (same_upd (X.gh.free hp5)) (.tup hT hy)) .nil))
            · refine ibT (by rw [ly]; simpa using fun z => hle (by omega)) ?_
              exact bad "length" H3 _ X3 (ask2 (by rw [hnq]; show (if l.length = _ then _ else _) = _; rw [if_neg hle])) rfl _
      · refine ibT (by rw [lx]; simp; omega) (iteT ?_)
        refine bad "kind" H1 _ X1 ?_ rfl _
        unfold askBad
        rw [hsq]
        match l, h2 with
        | [], _ => rfl
        | [_], _ => rfl
        | _ :: _ :: _ :: _, _ => rfl
        | [_, _], h => exact absurd rfl h
end
end K36
end

section
set_option Elab.async false
set_option linter.all false
set_option maxRecDepth 100000
set_option maxHeartbeats 4000000
/-! K36, the module of asks: check_book. -/
namespace K36
open PySem PySem.Spec PyProof.Rows L2

def firstBad (h w : Nat) : Nat → List PyData → Option (Int × Str)
  | _, [] => none
  | i, d :: ds => match askBad h w d with
    | some x => some ((i : Int), x)
    | none => firstBad h w (i + 1) ds
def bookBad (h w : Nat) (d : PyData) : Option (Int × Str) :=
  match seqOf d with
  | none => some (0, "many")
  | some l => if 8 < l.length then some (0, "many") else firstBad h w 0 l
def bookRes (d : PyData) : PyData := .tuple (((seqOf d).getD []).map askRes)
def BookShape (d : PyData) : Prop := ∀ l, seqOf d = some l → ∀ e ∈ l, AskShape e
theorem da_seq {K : PySem.W.Frag} {H : Hp} {v : V} {d : PyData} {l : List PyData} (h : Da K H v d) (e : seqOf d = some l) : Dp K H v d := by
  rcases h with h | ⟨rfl, _⟩
  · exact h
  · cases e
section
variable {P : Program} {w : World} {K : PySem.W.Frag} {mg : Str → Option Value} {base : Heap}
abbrev s_check_book : Stmt := topS 26
abbrev N_check_book : List Str := ["mould", "book", "at", "ask"]
theorem sc_check_book : FnScope ["mould", "book", "at", "ask"] ["mould", "book"] (defScope s_check_book) := ⟨rfl, rfl, rfl, by decide +kernel, rfl, by decide +kernel, by decide +kernel⟩
def spBook (K : PySem.W.Frag) (C CB : Addr) : Sp := fun vs H Q E => ∃ G v M bv d, vs = [v, bv] ∧ Same G H ∧ MouldAt K C G v M ∧ Da K G bv d ∧ BookShape d ∧
  (bookBad M.h M.w d = none → ∀ G' H' a, Ext M0 G H G' H' → Dp K G' (.ref a) (bookRes d) → Q (.ref a) H') ∧ ∀ i x, bookBad M.h M.w d = some (i, x) → Bad CB i x G H E
theorem ok_check_book {C CB : Addr} {f : Addr} {fd : FuncData} (F : Fun K "check_book" "check_book" s_check_book f fd) (B : Bi mg) (S : EC P w K mg base CB) {tm : Tok} (gM : mg "MOST_ASKS" = some (.int 8 tm))
    (D_is_sequence : Dfn P w K mg base CX0 1 "is_sequence" ["thing"] [] (spIsSeq K)) (D_check_ask3 : Dfn P w K mg base (L2.CX P w) 3 "check_ask" ["mould", "ask", "index"] [] (spAsk K C CB)) :
    FnOk P w K mg base (L2.CX P w) 4 f fd ["mould", "book"] (spBook K C CB) := by
  refine F.okX sc_check_book (fun vs H Q E h => ?_) (fun cdv A outer s H vs Q E hr h => ?_)
  · obtain ⟨_, _, _, _, _, rfl, _⟩ := h
    rfl
  · obtain ⟨G, v, M, bv, d, rfl, gh, hM, hd, hsh, qn, qs⟩ := h
    refine ⟨_, (pss_cons (ps_if (PW.pt (pw_or (pt_not (pt_val (pe_dfn D_is_sequence (hr.mono (by decide)) (by rfl) pass0 (pa_cons (pv 1) pa_nil)))) (pw_or1 (pt_cmpR op_gt (pe_callB call_len_seq (by rfl) B.len (by decide +kernel) (pa_cons (pv 1) pa_nil)) (pe_glob (v := .int 8) (by rfl) gM ⟨_, rfl⟩) (nomark _)))))
        (pss_one (ps_bad (C := CB) rfl (takes_of rfl rfl rfl rfl) S (hr.mono (by decide)) (by rfl) (pa_cons pe_int (pa_cons pe_str pa_nil)) mono_c mono_c))
        pss_nil)
      (pss_one (ps_ret (pe_callTy call_tuple_of (by rfl) B.tuple (by decide +kernel) (pa_cons (pe_lcX (E := E) (own := [("at", 2), ("ask", 3)]) (g := gTup K 2 (gCons (gName 2) (gCons (gName 3) (gNil)))) (te := tCall (spAsk K C CB) [] E (tCons (tVar 0) (tCons (tVar 3) (tCons (tVar 2) tNil)))) rfl sc_check_book.nd rfl rfl (takes_of rfl rfl rfl rfl) (pi_enumA (by rfl) B.enumerate (pa_cons (pv 1) pa_nil)) (blkOk_by (own := [("at", 2), ("ask", 3)]) (N := N_check_book) (sc := defScope s_check_book) (by decide +kernel)) (fun _ _ _ _ _ => (pg_tup rfl (pgs_cons (pg_name (i := 2) sc_check_book.nd rfl (.inl rfl)) (pgs_cons (pg_name (i := 3) sc_check_book.nd rfl (.inl rfl)) pgs_nil)))) (fun _ _ _ _ _ => (pe_dfn D_check_ask3 (hr.mono (by decide)) (by rfl) passBlk (pa_cons (pv 0) (pa_cons (pv 3) (pa_cons (pv 2) pa_nil)))))) pa_nil))))), ?_⟩
    have bad : ∀ (i : Int) (x : Str) (H' : Hp) (σ : L2.St), Ext M0 G H G H' → bookBad M.h M.w d = some (i, x) → ∀ D, tBad CB (fun cls d _ H => E cls d H) (tCons (tC (.int i)) (tCons (tC (.str x)) tNil)) D σ H' := fun i x H' σ X e D =>
      ⟨i, x, rfl, fun dd hdd => qs i x e _ dd (X.al hdd) upd_same⟩
    refine ⟨_, rfl, _, _, rfl, da_mono gh hd, fun H1 sm => ⟨_, rfl, ?_⟩⟩
    have X1 : Ext M0 G H G H1 := Ext.same gh sm
    cases hsq : seqOf d with
    | none =>
      refine ibT (by rw [isSeqD_of, hsq]; rfl) (iteT ?_)
      exact bad 0 "many" H1 _ X1 (by unfold bookBad; rw [hsq]) _
    | some l =>
      refine ibF (by rw [isSeqD_of, hsq]; rfl) ?_
      obtain ⟨a, xs, rfl, hs, hx⟩ := dp_seq (da_seq hd hsq) hsq
      have lx : xs.length = l.length := dpAll_len hx
      refine ⟨.ref a, rfl, a, xs, rfl, hs.mono X1.gh, (xs.length : Nat), 8, rfl, rfl, _, rfl, ?_⟩
      by_cases h8 : 8 < l.length
      · refine ibT (decide_eq_true (by omega)) ?_
        exact bad 0 "many" H1 _ X1 (by unfold bookBad; rw [hsq]; show (if _ then _ else _) = _; rw [if_pos h8]) _
      · refine ibF (decide_eq_false (by omega)) ?_
        have hb : ∀ {y}, firstBad M.h M.w 0 l = y → bookBad M.h M.w d = y := fun {y} e => by
          unfold bookBad
          rw [hsq]
          show (if _ then _ else _) = _
          rw [if_neg h8]
          exact e
        have hr' : bookRes d = .tuple (l.map askRes) := by unfold bookRes; rw [hsq]; rfl
        rcases hs with hL | hT
        · refine .inl ⟨.ref a, rfl, a, xs, rfl, sql_mono X1.gh hL, fun p hp => ?_⟩
          have gp : G p = none := X1.gh.free hp
          refine lc_it ((walk_enum (K := K) (a := a) (xs := xs)).mono (G' := fun H' => Same G H') (fun H' e => sql_mono e hL) (fun _ _ _ _ _ _ y => y))
            (fun n H' => ∃ G' ys, Ext M0 G H G' H' ∧ H' p = some (.lst ys) ∧ G' p = none ∧ DpAll K G' ys ((l.take n).map askRes) ∧ ys.length = n ∧ firstBad M.h M.w 0 l = firstBad M.h M.w n (l.drop n))
            ⟨G, [], X1.al hp, upd_same, gp, .nil, rfl, rfl⟩ (fun n H' _ hP => ?_) (fun n x H' H2 hn' hP hY => ?_) (fun H' hP => ?_)
          · obtain ⟨G', ys, X, _⟩ := hP
            exact X.gg.trans X.gh
          · obtain ⟨G', ys, X, ep, gp', hy, hl, hf⟩ := hP
            obtain ⟨T, z1, z2, rfl, nT, rfl, e1, e2⟩ := hY
            have e1 : V.int (n : Nat) = z1 := Option.some.inj e1
            subst e1
            have e2 : xs[n]? = some z2 := e2
            obtain ⟨e, he, hde⟩ := dpAll_at hx e2
            have hnl : n < l.length := by rw [← lx]; exact hn'
            have ee : l[n] = e := by rw [List.getElem?_eq_getElem hnl] at he; exact Option.some.inj he
            have X2 := X.al (o := .tup [.int (n : Nat), z2]) nT
            have np : T ≠ p := fun z => by rw [z, ep] at nT; cases nT
            have hd' : l.drop n = e :: l.drop (n + 1) := by rw [List.drop_eq_getElem_cons hnl, ee]
            refine ⟨T, _, rfl, .inl (.inl upd_same), rfl, _, _, rfl, _, _, rfl, rfl, rfl, yesT ?_⟩
            refine ⟨v, rfl, z2, rfl, _, rfl, G', v, M, z2, e, (n : Nat), rfl, X2.gh, hM.mono X.gg, dp_mono X.gg hde, hsh l hsq e (ee ▸ List.getElem_mem hnl), fun hok G3 H3 b Y3 d3 => ?_, fun x hx' => ?_⟩
            · have ep3 : H3 p = some (.lst ys) := Y3.sm _ _ (by rw [upd_ne (Ne.symm np)]; exact ep)
              have gp3 : G3 p = none := Y3.out gp' (show upd H' T _ p = some (.lst ys) by rw [upd_ne (Ne.symm np)]; exact ep)
              refine ⟨ys, ep3, Nat.lt_of_lt_of_le (show ys.length < 1000 by omega) (by decide), G3, ys ++ [.ref b], (X2.trans Y3).wr (.inl (X1.free hp)) gp3, upd_same, gp3, ?_, by rw [List.length_append, hl]; rfl, ?_⟩
              · rw [List.take_add_one, he, Option.toList_some, List.map_append]
                exact dpAll_app (dpAll_mono Y3.gg hy) (dpAll_one d3)
              · rw [hf, hd']
                show (match askBad M.h M.w e with | some x => _ | none => _) = _
                rw [hok]
            · refine Bad.ext X2 (qs (n : Nat) x (hb ?_))
              rw [hf, hd']
              show (match askBad M.h M.w e with | some x => _ | none => _) = _
              rw [hx']
          · obtain ⟨G', ys, X, ep, gp', hy, hl, hf⟩ := hP
            rw [lx, List.take_of_length_le (Nat.le_refl _)] at hy
            rw [lx, List.drop_length] at hf
            refine ⟨p, ys, rfl, .inl ⟨.inl (.inl ep), fun t ht => ?_⟩⟩
            refine qn (hb hf) _ _ t (X.fin ht) ?_
            rw [hr']
            exact dp_of_tup upd_same (dpAll_mono (same_upd (X.gh.free ht)) hy)
        · refine .inr ⟨.ref a, rfl, a, xs, rfl, sqt_mono X1.gh hT, fun p hp => ?_⟩
          have gp : G p = none := X1.gh.free hp
          refine lc_it ((walk_enumT (K := K) (a := a) (xs := xs)).mono (G' := fun H' => Same G H') (fun H' e => sqt_mono e hT) (fun _ _ _ _ _ _ y => y))
            (fun n H' => ∃ G' ys, Ext M0 G H G' H' ∧ H' p = some (.lst ys) ∧ G' p = none ∧ DpAll K G' ys ((l.take n).map askRes) ∧ ys.length = n ∧ firstBad M.h M.w 0 l = firstBad M.h M.w n (l.drop n))
            ⟨G, [], X1.al hp, upd_same, gp, .nil, rfl, rfl⟩ (fun n H' _ hP => ?_) (fun n x H' H2 hn' hP hY => ?_) (fun H' hP => ?_)
          · obtain ⟨G', ys, X, _⟩ := hP
            exact X.gg.trans X.gh
          · obtain ⟨G', ys, X, ep, gp', hy, hl, hf⟩ := hP
            obtain ⟨T, z1, z2, rfl, nT, rfl, e1, e2⟩ := hY
            have e1 : V.int (n : Nat) = z1 := Option.some.inj e1
            subst e1
            have e2 : xs[n]? = some z2 := e2
            obtain ⟨e, he, hde⟩ := dpAll_at hx e2
            have hnl : n < l.length := by rw [← lx]; exact hn'
            have ee : l[n] = e := by rw [List.getElem?_eq_getElem hnl] at he; exact Option.some.inj he
            have X2 := X.al (o := .tup [.int (n : Nat), z2]) nT
            have np : T ≠ p := fun z => by rw [z, ep] at nT; cases nT
            have hd' : l.drop n = e :: l.drop (n + 1) := by rw [List.drop_eq_getElem_cons hnl, ee]
            refine ⟨T, _, rfl, .inl (.inl upd_same), rfl, _, _, rfl, _, _, rfl, rfl, rfl, yesT ?_⟩
            refine ⟨v, rfl, z2, rfl, _, rfl, G', v, M, z2, e, (n : Nat), rfl, X2.gh, hM.mono X.gg, dp_mono X.gg hde, hsh l hsq e (ee ▸ List.getElem_mem hnl), fun hok G3 H3 b Y3 d3 => ?_, fun x hx' => ?_⟩
            · have ep3 : H3 p = some (.lst ys) := Y3.sm _ _ (by rw [upd_ne (Ne.symm np)]; exact ep)
              have gp3 : G3 p = none := Y3.out gp' (show upd H' T _ p = some (.lst ys) by rw [upd_ne (Ne.symm np)]; exact ep)
              refine ⟨ys, ep3, Nat.lt_of_lt_of_le (show ys.length < 1000 by omega) (by decide), G3, ys ++ [.ref b], (X2.trans Y3).wr (.inl (X1.free hp)) gp3, upd_same, gp3, ?_, by rw [List.length_append, hl]; rfl, ?_⟩
              · rw [List.take_add_one, he, Option.toList_some, List.map_append]
                exact dpAll_app (dpAll_mono Y3.gg hy) (dpAll_one d3)
              · rw [hf, hd']
                show (match askBad M.h M.w e with | some x => _ | none => _) = _
                rw [hok]
            · refine Bad.ext X2 (qs (n : Nat) x (hb ?_))
              rw [hf, hd']
              show (match askBad M.h M.w e with | some x => _ | none => _) = _
              rw [hx']
          · obtain ⟨G', ys, X, ep, gp', hy, hl, hf⟩ := hP
            rw [lx, List.take_of_length_le (Nat.le_refl _)] at hy
            rw [lx, List.drop_length] at hf
            refine ⟨p, ys, rfl, .inl ⟨.inl (.inl ep), fun t ht => ?_⟩⟩
            refine qn (hb hf) _ _ t (X.fin ht) ?_
            rw [hr']
            exact dp_of_tup upd_same (dpAll_mono (same_upd (X.gh.free ht)) hy)
end
end K36
end

section
set_option Elab.async false
set_option linter.all false
set_option maxRecDepth 100000
set_option maxHeartbeats 4000000
/-! K36, the module of asks: answers_many, span_rows. -/
namespace K36
open PySem PySem.Spec PyProof.Rows L2

/-! ### plain: asks, span rows -/
abbrev Ask : Type := Bool × List Int
abbrev kindStr (c : Bool) : Str := if c = true then "column" else "row"
abbrev intsD (ns : List Int) : List PyData := ns.map PyData.int
def askD (a : Ask) : PyData := .tuple [.str (kindStr a.1), .tuple (intsD a.2)]
def linesOf (M : Mo) (c : Bool) : Nat := if c = true then M.h else M.w
def hereOf (c : Bool) (x : Nat × Nat) : Nat := if c = true then x.1 else x.2
def thereOf (c : Bool) (x : Nat × Nat) : Nat := if c = true then x.2 else x.1
def manyOf (M : Mo) (asks : List Ask) : Nat := (asks.map fun a => linesOf M a.1).sum
def spanN (M : Mo) (a : Ask) : Nat → List (List Int)
  | 0 => List.replicate (linesOf M a.1) (List.replicate M.many 0)
  | i + 1 => setCell (spanN M a i) (hereOf a.1 (M.cells.getD i (0, 0)), M.letters.getD i 0)
      (((spanN M a i).getD (hereOf a.1 (M.cells.getD i (0, 0))) []).getD (M.letters.getD i 0) 0 + a.2.getD (thereOf a.1 (M.cells.getD i (0, 0))) 0)
def spanAsk (M : Mo) (a : Ask) : List (List Int) := spanN M a M.cells.length
def spanRows (M : Mo) (asks : List Ask) : List (List Int) := (asks.map (spanAsk M)).flatten
theorem spanN_len (M : Mo) (a : Ask) : ∀ i, (spanN M a i).length = linesOf M a.1
  | 0 => List.length_replicate
  | i + 1 => (setCell_len _ _ _).trans (spanN_len M a i)
theorem setCell_row {α : Type} {t : List (List α)} {c : Nat × Nat} {x : α} {n : Nat} (h : ∀ r ∈ t, r.length = n) : ∀ r ∈ setCell t c x, r.length = n := by
  intro r hr
  have hr' : r ∈ t.set c.1 ((t.getD c.1 []).set c.2 x) := hr
  by_cases hc : c.1 < t.length
  · rcases List.mem_or_eq_of_mem_set hr' with q | q
    · exact h r q
    · rw [q, List.length_set, List.getD_eq_getElem?_getD, List.getElem?_eq_getElem hc, Option.getD_some]
      exact h _ (List.getElem_mem hc)
  · rw [List.set_eq_of_length_le (by omega)] at hr'
    exact h r hr'
theorem spanN_row (M : Mo) (a : Ask) : ∀ (i : Nat) (r : List Int), r ∈ spanN M a i → r.length = M.many
  | 0, r, h => by
    rw [(List.mem_replicate.mp h).2]
    exact List.length_replicate
  | i + 1, r, h => setCell_row (spanN_row M a i) r h
theorem setCell_map {α β : Type} (f : α → β) (t : List (List α)) (c : Nat × Nat) (x : α) (h : c.1 < t.length) : (setCell t c x).map (fun r => r.map f) = (t.map fun r => r.map f).set c.1 ((t[c.1].map f).set c.2 (f x)) := by
  unfold setCell
  rw [List.map_set, List.getD_eq_getElem?_getD, List.getElem?_eq_getElem h, Option.getD_some, List.map_set]
theorem getD_of {α : Type} {l : List α} {i : Nat} {d : α} (h : i < l.length) : l.getD i d = l[i] := by rw [List.getD_eq_getElem?_getD, List.getElem?_eq_getElem h]; rfl
/-- a book's data say these asks -/
structure BookIs (M : Mo) (d : PyData) (asks : List Ask) : Prop where
  res : bookRes d = .tuple (asks.map askD)
  lens : ∀ a ∈ asks, a.2.length = sideOf M.h M.w a.1
  few : asks.length ≤ 8
theorem isCol (c : Bool) : decide (V.str (kindStr c) = V.str "column") = c := by cases c <;> decide +kernel
theorem ite_q {b c : Bool} (hb : b = c) {Q : VK} {H : Hp} {x y : V} (q : Q (if c = true then x else y) H) : if b = true then Q x H else Q y H := by
  subst hb
  cases b with
  | true => exact iteT q
  | false => exact iteF q
section
variable {P : Program} {w : World} {K : PySem.W.Frag} {mg : Str → Option Value} {base : Heap}
theorem lines_q {C ma dx : Addr} {M : Mo} {cv lv : V} {σ : L2.St} {H : Hp} {Q : VK} {b c : Bool} (T : MC K C) (h0 : σ[0]? = some (some (.ref ma))) (hma : H ma = some (.ins C dx (fsM M cv lv))) (hb : b = c) (q : Q (.int (linesOf M c : Nat)) H) :
    if b = true then tFld K (tVar 0) "height" σ H Q else tFld K (tVar 0) "width" σ H Q := by
  subst hb
  cases b with
  | true => exact iteT ⟨.ref ma, h0, ma, C, dx, _, _, rfl, hma, T.cl, T.nH, rfl, q⟩
  | false => exact iteF ⟨.ref ma, h0, ma, C, dx, _, _, rfl, hma, T.cl, T.nW, rfl, q⟩

/-! ### answers_many -/
abbrev s_answers_many : Stmt := topS 27
theorem sc_answers_many : FnScope ["mould", "book", "many", "kind", "_"] ["mould", "book"] (defScope s_answers_many) := ⟨rfl, rfl, rfl, by decide +kernel, rfl, by decide +kernel, by decide +kernel⟩
def spAnsMany (K : PySem.W.Frag) (C CB : Addr) : Sp := fun vs H Q E => ∃ G v M bv d, vs = [v, bv] ∧ Same G H ∧ MouldAt K C G v M ∧ Da K G bv d ∧ BookShape d ∧
  (bookBad M.h M.w d = none → ∃ asks, BookIs M d asks ∧ ∀ G' H', Ext M0 G H G' H' → Q (.int (manyOf M asks : Nat)) H') ∧ ∀ i x, bookBad M.h M.w d = some (i, x) → Bad CB i x G H E
theorem manyOf_take {M : Mo} {asks : List Ask} {i : Nat} (h : i < asks.length) : manyOf M (asks.take (i + 1)) = manyOf M (asks.take i) + linesOf M asks[i].1 := by
  unfold manyOf
  rw [List.take_add_one, List.getElem?_eq_getElem h, Option.toList_some, List.map_append, List.sum_append]
  simp
theorem ask_at {G : Hp} {xs : List V} {asks : List Ask} {i : Nat} {x : V} (hx : DpAll K G xs (asks.map askD)) (e : xs[i]? = some x) (h : i < asks.length) :
    ∃ a b, x = .ref a ∧ SqT K G a [.str (kindStr asks[i].1), .ref b] ∧ SqT K G b (asks[i].2.map V.int) := by
  obtain ⟨d, hd, hz⟩ := dpAll_at hx e
  rw [List.getElem?_map, List.getElem?_eq_getElem h] at hd
  have hd : askD asks[i] = d := Option.some.inj hd
  subst hd
  obtain ⟨a, ys, e1, e2, e3⟩ := dp_tup hz
  obtain ⟨x0, x1, rfl, h0, h1⟩ := dpAll_two e3
  obtain rfl := dp_str h0
  obtain ⟨b, rfl, hb⟩ := dp_intsT h1
  exact ⟨a, b, e1, e2, hb⟩
theorem ok_answers_many {C CB : Addr} {f : Addr} {fd : FuncData} (F : Fun K "answers_many" "answers_many" s_answers_many f fd) (T : MC K C)
    (D_check_book : Dfn P w K mg base (L2.CX P w) 4 "check_book" ["mould", "book"] [] (spBook K C CB)) : FnOk P w K mg base (L2.CX P w) 5 f fd ["mould", "book"] (spAnsMany K C CB) := by
  refine F.okX sc_answers_many (fun vs H Q E h => ?_) (fun cdv A outer s H vs Q E hr h => ?_)
  · obtain ⟨_, _, _, _, _, rfl, _⟩ := h
    rfl
  · obtain ⟨G, v, M, bv, d, rfl, gh, hM, hd, hsh, qn, qs⟩ := h
    refine ⟨_, (pss_cons (ps_set (i := 2) sc_answers_many.nd rfl (.inl rfl) pe_int)
      (pss_cons (ps_for (passes_of rfl) rfl (pi_tup (pe_dfn (E := E) D_check_book (hr.mono (by decide)) (by rfl) (passes_call (takes_of rfl rfl rfl rfl) (fun _ _ _ _ h => h)) (pa_cons (pv 0) (pa_cons (pv 1) pa_nil)))) (pg_tup rfl (pgs_cons (pg_name (i := 3) sc_answers_many.nd rfl (.inl rfl)) (pgs_cons (pg_name (i := 4) sc_answers_many.nd rfl (.inl rfl)) pgs_nil)))
        (pss_one (ps_set (i := 2) sc_answers_many.nd rfl (.inl rfl) (pe_op op_add (pv 2) (pe_ifExp (pt_cmpR op_eq (pv 3) pe_str (nomark _)) (pe_fld (pv 0) rfl) (pe_fld (pv 0) rfl))))))
      (pss_one (ps_ret (pv 2))))), ?_⟩
    have hM' := hM
    obtain ⟨ma, dx, cv, lv, rfl, hma, _, _⟩ := hM'
    refine ⟨.ref ma, rfl, bv, rfl, G, .ref ma, M, bv, d, rfl, gh, hM, hd, hsh, fun hok G1 H1 ba X1 d1 => ?_, qs⟩
    obtain ⟨asks, ⟨hres, hlens, hfew⟩, qn⟩ := qn hok
    rw [hres] at d1
    obtain ⟨ba', xs, eb, hs, hx⟩ := dp_tup d1
    obtain rfl : ba = ba' := V.ref.inj eb
    have lx : xs.length = asks.length := by rw [dpAll_len hx, List.length_map]
    refine ⟨ba, rfl, ⟨_, sqt_mono X1.gh hs⟩, ?_⟩
    refine for_it (walk_tup (xs := xs)) (fun i σ H' => (∃ y3 y4, σ = [some (.ref ma), some bv, some (.int (manyOf M (asks.take i) : Nat)), y3, y4]) ∧ Ext M0 G H G1 H')
      ⟨⟨none, none, rfl⟩, X1⟩ (fun i σ H' _ hP => sqt_mono hP.2.gh hs) (fun i x σ H' H2 hi hP hY => ?_) (fun σ H' hP => ?_)
    · obtain ⟨⟨y3, y4, rfl⟩, X⟩ := hP
      obtain ⟨rfl, ex⟩ := hY
      have hia : i < asks.length := by omega
      obtain ⟨a, b, rfl, ha, hb⟩ := ask_at hx ex hia
      refine ⟨a, _, rfl, sqt_mono X.gh ha, rfl, _, _, rfl, _, _, rfl, rfl, ?_⟩
      refine ⟨_, rfl, _, rfl, rfl, _, rfl, lines_q T rfl (X.gh _ _ (X1.gg _ _ hma)) (isCol _) ⟨_, _, rfl, rfl, ⟨some (.str (kindStr asks[i].1)), some (.ref b), ?_⟩, X⟩⟩
      rw [manyOf_take hia]
      rfl
    · obtain ⟨⟨y3, y4, rfl⟩, X⟩ := hP
      rw [lx, List.take_of_length_le (Nat.le_refl _)]
      exact ⟨_, rfl, qn _ _ X⟩
end
end K36
end

section
set_option pp.maxSteps 400
set_option pp.deepTerms false
set_option Elab.async false
set_option linter.all false
set_option maxRecDepth 100000
set_option maxHeartbeats 4000000
/-! K36, the module of asks: span_rows. -/
namespace K36
open PySem PySem.Spec PyProof.Rows L2

abbrev rowsI (t : List (List Int)) : List (List PyData) := t.map fun r => r.map PyData.int
theorem spanRows_take {M : Mo} {asks : List Ask} {i : Nat} (h : i < asks.length) : spanRows M (asks.take (i + 1)) = spanRows M (asks.take i) ++ spanAsk M asks[i] := by
  unfold spanRows
  rw [List.take_add_one, List.getElem?_eq_getElem h, Option.toList_some, List.map_append, List.flatten_append]
  simp
theorem mem_len {α : Type} {t : List (List α)} {i n : Nat} (h : ∀ r ∈ t, r.length = n) (hi : i < t.length) : t[i].length = n := h _ (List.getElem_mem hi)
theorem spanRows_len (M : Mo) (hb : M.h ≤ 6) (wb : M.w ≤ 6) : ∀ asks : List Ask, (spanRows M asks).length ≤ 6 * asks.length
  | [] => Nat.zero_le _
  | a :: as => by
    have ih := spanRows_len M hb wb as
    have e : spanRows M (a :: as) = spanAsk M a ++ spanRows M as := rfl
    rw [e, List.length_append, List.length_cons]
    have e2 : (spanAsk M a).length = linesOf M a.1 := spanN_len M a _
    have e3 : linesOf M a.1 ≤ 6 := by unfold linesOf; split <;> omega
    omega
theorem fresh_len {ls : List Nat} (h : LettersOk ls) : ∀ i, i ≤ ls.length → fresh (ls.take i) ≤ i
  | 0, _ => Nat.le_refl _
  | i + 1, hi => by
    have ih := fresh_len h i (by omega)
    have := h i (by omega)
    rw [fresh_take (by omega)]
    omega
theorem many_le {M : Mo} (ok : M.Ok) : M.many ≤ 36 := by
  have h := fresh_len ok.let_ M.letters.length (Nat.le_refl _)
  rw [List.take_length] at h
  have := ok.few
  have := ok.len
  unfold Mo.many
  omega
theorem ite_c {b c : Bool} (hb : b = c) {Q : VK} {σ : L2.St} {H : Hp} {x y : V} (q : Q (if c = true then x else y) H) : if b = true then tC x σ H Q else tC y σ H Q := by
  subst hb
  cases b with
  | true => exact iteT q
  | false => exact iteF q
section
variable {P : Program} {w : World} {K : PySem.W.Frag} {mg : Str → Option Value} {base : Heap}
abbrev s_span_rows : Stmt := topS 28
abbrev N_span_rows : List Str := ["mould", "book", "rows", "kind", "numbers", "side", "lines", "added", "cell", "letter", "row", "_"]
theorem sc_span_rows : FnScope ["mould", "book", "rows", "kind", "numbers", "side", "lines", "added", "cell", "letter", "row", "_"] ["mould", "book"] (defScope s_span_rows) := ⟨rfl, rfl, rfl, by decide +kernel, rfl, by decide +kernel, by decide +kernel⟩
def spSpan (K : PySem.W.Frag) (C CB : Addr) : Sp := fun vs H Q E => ∃ G v M bv d, vs = [v, bv] ∧ Same G H ∧ MouldAt K C G v M ∧ M.Ok ∧ Da K G bv d ∧ BookShape d ∧
  (bookBad M.h M.w d = none → ∃ asks, BookIs M d asks ∧ ∀ G' H' a, Ext M0 G H G' H' → Dp K G' (.ref a) (.tuple ((rowsI (spanRows M asks)).map PyData.tuple)) → Q (.ref a) H') ∧ ∀ i x, bookBad M.h M.w d = some (i, x) → Bad CB i x G H E
theorem ok_span_rows {C CB : Addr} {f : Addr} {fd : FuncData} (F : Fun K "span_rows" "span_rows" s_span_rows f fd) (B : Bi mg) (T : MC K C) (D_letters_many : Prp P w K mg base 1 C "letters_many" (spMany K C))
    (D_check_book : Dfn P w K mg base (L2.CX P w) 4 "check_book" ["mould", "book"] [] (spBook K C CB)) : FnOk P w K mg base (L2.CX P w) 5 f fd ["mould", "book"] (spSpan K C CB) := by
  refine F.okX sc_span_rows (fun vs H Q E h => ?_) (fun cdv A outer s H vs Q E hr h => ?_)
  · obtain ⟨_, _, _, _, _, rfl, _⟩ := h
    rfl
  · obtain ⟨G, v, M, bv, d, rfl, gh, hM, ok, hd, hsh, qn, qs⟩ := h
    refine ⟨_, (pss_cons (ps_set (i := 2) sc_span_rows.nd rfl (.inl rfl) (pe_lst pa_nil))
      (pss_cons (ps_for (passes_of rfl) rfl (pi_tup (pe_dfn (E := E) D_check_book (hr.mono (by decide)) (by rfl) (passes_call (takes_of rfl rfl rfl rfl) (fun _ _ _ _ h => h)) (pa_cons (pv 0) (pa_cons (pv 1) pa_nil)))) (pg_tup rfl (pgs_cons (pg_name (i := 3) sc_span_rows.nd rfl (.inl rfl)) (pgs_cons (pg_name (i := 4) sc_span_rows.nd rfl (.inl rfl)) pgs_nil)))
        (pss_cons (ps_set (i := 5) sc_span_rows.nd rfl (.inl rfl) (pe_ifExp (pt_cmpR op_eq (pv 3) pe_str (nomark _)) pe_int pe_int))
        (pss_cons (ps_set (i := 6) sc_span_rows.nd rfl (.inl rfl) (pe_ifExp (pt_cmpR op_eq (pv 3) pe_str (nomark _)) (pe_fld (pv 0) rfl) (pe_fld (pv 0) rfl)))
        (pss_cons (ps_setLc (i := 7) (own := [("_", 11)]) (g := gName 11) (tt := tYes) (te := tOp rRep (tLst (tCons (tC (.int 0)) tNil)) (tProp C (spMany K C) [] E0 (tVar 0))) rfl sc_span_rows.nd rfl rfl (sw_true rfl rfl rfl (by decide +kernel)) (pi_range1 (by rfl) B.range (pa_cons (pv 6) pa_nil)) (blkOk_by (own := [("_", 11)]) (N := N_span_rows) (sc := defScope s_span_rows) (by decide +kernel)) (fun _ _ _ _ _ => (pg_name (i := 11) sc_span_rows.nd rfl (.inl rfl))) (fun _ _ _ _ _ => pts_nil) (fun _ _ _ _ _ => (pe_op op_rep (pe_lst (pa_cons pe_int pa_nil)) (pe_prp D_letters_many T.cl hr (by decide) (pv 0)))))
        (pss_cons (ps_for (passes_of rfl) rfl (RZ.pi_zipA (by rfl) B.zip (pa_cons (pe_fld (pv 0) rfl) (pa_cons (pe_fld (pv 0) rfl) pa_nil))) (pg_tup rfl (pgs_cons (pg_name (i := 8) sc_span_rows.nd rfl (.inl rfl)) (pgs_cons (pg_name (i := 9) sc_span_rows.nd rfl (.inl rfl)) pgs_nil)))
          (pss_cons (ps_set (i := 10) sc_span_rows.nd rfl (.inl rfl) (pe_ix ix_list (pv 7) (pe_ix ix_tup (pv 8) (pv 5) (fun _ _ => rfl)) (fun _ _ => rfl)))
          (pss_one (ps_asg (pe_op op_add (pe_ix ix_list (pv 10) (pv 9) (fun _ _ => rfl)) (pe_ix ix_tup (pv 4) (pe_ix ix_tup (pv 8) (pe_op op_sub pe_int (pv 5)) (fun _ _ => rfl)) (fun _ _ => rfl))) (pg_sub (pv 10) (pv 9) set_list)))))
        (pss_one (ps_set (i := 2) sc_span_rows.nd rfl (.inl rfl) (pe_op op_cat (pv 2) (pe_lc (own := [("row", 10)]) (g := gName 10) (tt := tYes) (te := tCB (rTupOf K) (tCons (tVar 10) tNil)) rfl sc_span_rows.nd (pi_list (pv 7)) (blkOk_by (own := [("row", 10)]) (N := N_span_rows) (sc := defScope s_span_rows) (by decide +kernel)) (fun _ _ _ _ _ => (pg_name (i := 10) sc_span_rows.nd rfl (.inl rfl))) (fun _ _ _ _ _ => pts_nil) (fun _ _ _ _ _ => (pe_callTy call_tuple_of (by rfl) B.tuple (by decide +kernel) (pa_cons (pv 10) pa_nil))))))))))))
      (pss_one (ps_ret (pe_callTy call_tuple_of (by rfl) B.tuple (by decide +kernel) (pa_cons (pv 2) pa_nil)))))), ?_⟩
    have hM' := hM
    obtain ⟨ma, dx, cv, lv, rfl, hma, hmc, hml⟩ := hM'
    have hb := ok.h6
    have wb := ok.w6
    obtain ⟨ca, cxs, rfl, hcs, hcx⟩ := dp_tup hmc
    obtain ⟨la, lxs, rfl, hls, hlx⟩ := dp_tup hml
    have lc : cxs.length = M.cells.length := by rw [dpAll_len hcx, List.length_map]
    have ll : lxs.length = M.letters.length := by rw [dpAll_len hlx, List.length_map]
    refine ⟨Nat.zero_le _, fun R0 hR0 => ?_⟩
    have X0 : Ext M0 G H G (upd H R0 (.lst [])) := (Ext.refl gh).al hR0
    refine ⟨.ref ma, rfl, bv, rfl, G, .ref ma, M, bv, d, rfl, X0.gh, hM, hd, hsh, fun hok G1 H1 ba X1' d1 => ?_, fun i x hbad => Bad.ext X0 (qs i x hbad)⟩
    have X1 := X0.trans X1'
    obtain ⟨asks, ⟨hres, hlens, hfew⟩, qn⟩ := qn hok
    rw [hres] at d1
    obtain ⟨ba', xs, eb, hs, hx⟩ := dp_tup d1
    obtain rfl : ba = ba' := V.ref.inj eb
    have lx : xs.length = asks.length := by rw [dpAll_len hx, List.length_map]
    refine ⟨ba, rfl, ⟨_, sqt_mono X1.gh hs⟩, ?_⟩
    obtain ⟨Pv, hPv⟩ : ∃ Pv : Nat → L2.St → Hp → Prop, Pv = fun i σ H' => ∃ R y3 y4 y5 y6 y7 y8 y9 y10 y11 G' ys, σ = [some (.ref ma), some bv, some (.ref R), y3, y4, y5, y6, y7, y8, y9, y10, y11] ∧ Ext M0 G H G' H' ∧ Same G1 G' ∧ H' R = some (.lst ys) ∧
        DpAll K G' ys ((rowsI (spanRows M (asks.take i))).map PyData.tuple) := ⟨_, rfl⟩
    refine for_it (walk_tup (xs := xs)) Pv
      (by rw [hPv]; exact ⟨R0, none, none, none, none, none, none, none, none, none, G1, [], rfl, X1, Same.refl _, X1'.sm _ _ upd_same, .nil⟩)
      (fun i σ H' _ hP => ?_) (fun i x σ H' H2 hi hP hY => ?_) (fun σ H' hP => ?_)
    · rw [hPv] at hP
      obtain ⟨_, _, _, _, _, _, _, _, _, _, G', _, _, X, sg, _⟩ := hP
      exact sqt_mono (sg.trans X.gh) hs
    · rw [hPv] at hP
      obtain ⟨R, y3, y4, y5, y6, y7, y8, y9, y10, y11, G', ys, rfl, X, sg, eR, hy⟩ := hP
      obtain ⟨rfl, ex⟩ := hY
      have hia : i < asks.length := by omega
      obtain ⟨a, b, rfl, ha, hb'⟩ := ask_at hx ex hia
      have hal := hlens _ (List.getElem_mem hia)
      have lyR : ys.length = (spanRows M (asks.take i)).length := by rw [dpAll_len hy, List.length_map, List.length_map]
      have lyR2 := spanRows_len M hb wb (asks.take i)
      have ltk : (asks.take i).length ≤ 8 := by rw [List.length_take]; omega
      generalize hav : asks[i] = av at ha hb' hal
      obtain ⟨c, ns⟩ := av
      have sg' : Same G1 H2 := sg.trans X.gh
      refine ⟨a, _, rfl, sqt_mono sg' ha, rfl, _, _, rfl, _, _, rfl, rfl, ?_⟩
      -- side, lines
      refine ⟨_, rfl, rfl, _, rfl, ite_c (isCol c) ⟨_, rfl, rfl, _, rfl, lines_q T rfl (X.gh _ _ (X.gg _ _ hma)) (isCol c) ?_⟩⟩
      have linesLe : linesOf M c ≤ 6 := by unfold linesOf; split <;> omega
      have manyLe : M.many ≤ 36 := many_le ok
      -- added
      refine ⟨_, rfl, _, rfl, by omega, by omega, fun D hD => ?_⟩
      refine lc_it walk_range (fun n H' => ∃ as, Ext M0 G H G' H' ∧ Grid K H G' H' as (List.replicate n (List.replicate M.many (.int 0))) ∧ H' D = some (.lst (as.map V.ref)) ∧ H' R = some (.lst ys) ∧ as.length = n ∧ D ∉ as ∧ R ∉ as)
        ⟨[], X.al hD, Grid.nil, upd_same, by rw [upd_ne (ne_of_none eR hD)]; exact eR, rfl, (fun z => nomatch z), fun z => nomatch z⟩ (fun _ _ _ _ => trivial) (fun n x H3 H3' hn' hP hY => ?_) (fun H3 hP => ?_)
      · obtain ⟨as, X3, g, eD, eR3, hl, nDa, nRa⟩ := hP
        obtain ⟨eH, rfl⟩ := hY
        subst eH
        refine ⟨rfl, yesT ⟨by show 1 ≤ sizeLine; decide, fun p hp => ?_⟩⟩
        have X4 := X3.al (o := .lst [.int 0]) hp
        refine ⟨.ref ma, rfl, ma, dx, _, rfl, X4.gh _ _ (X.gg _ _ hma), G', .ref ma, M, rfl, X4.gh, hM.mono X.gg, ?_⟩
        refine ⟨p, (M.many : Nat), [.int 0], rfl, rfl, upd_same, by omega, by omega, ?_, fun r hr' => ?_⟩
        · show 1 * ((M.many : Nat) : Int).toNat ≤ sizeLine
          rw [Int.toNat_natCast]
          exact Nat.le_trans (show 1 * M.many ≤ 1000 by omega) (by decide)
        have e : (List.replicate ((M.many : Nat) : Int).toNat [V.int 0]).flatten = List.replicate M.many (.int 0) := by rw [Int.toNat_natCast, rep_flat]
        rw [e]
        have X5 := X4.al (o := .lst (List.replicate M.many (.int 0))) hr'
        have g2 := g.new (o := .lst [.int 0]) hp
        have nD : r ≠ D := fun z' => by
          rw [z', upd_ne (ne_of_none eD hp), eD] at hr'
          cases hr'
        have nR : r ≠ R := fun z' => by
          rw [z', upd_ne (ne_of_none eR3 hp), eR3] at hr'
          cases hr'
        have nDR : D ≠ R := fun z' => by
          rw [z', eR] at hD
          cases hD
        have eD3 : (upd (upd H3' p (.lst [.int 0])) r (.lst (List.replicate M.many (.int 0)))) D = some (.lst (as.map V.ref)) := by
          rw [upd_ne (Ne.symm nD), upd_ne (ne_of_none eD hp)]
          exact eD
        have eR4 : (upd (upd H3' p (.lst [.int 0])) r (.lst (List.replicate M.many (.int 0)))) R = some (.lst ys) := by
          rw [upd_ne (Ne.symm nR), upd_ne (ne_of_none eR3 hp)]
          exact eR3
        have g3 : Grid K H G' (upd (upd H3' p (.lst [.int 0])) r (.lst (List.replicate M.many (.int 0)))) (as ++ [r]) (List.replicate n (List.replicate M.many (.int 0)) ++ [List.replicate M.many (.int 0)]) := by
          refine (g2.new hr').snoc (fun z' => ?_) upd_same (dpAll_rep (.int 0) M.many) (X4.gh.free hr') (X4.free hr')
          obtain ⟨ys, e⟩ := g2.here z'
          rw [hr'] at e
          cases e
        have nRas : R ∉ as ++ [r] := fun z' => by
          rcases List.mem_append.mp z' with z1 | z1
          · exact nRa z1
          · exact nR (List.mem_singleton.mp z1).symm
        have nDas : D ∉ as ++ [r] := fun z' => by
          rcases List.mem_append.mp z' with z1 | z1
          · exact nDa z1
          · exact nD (List.mem_singleton.mp z1).symm
        refine ⟨_, eD3, Nat.lt_of_lt_of_le (show (as.map V.ref).length < 1000 by rw [List.length_map]; simp at hn'; omega) (by decide), ?_⟩
        refine ⟨as ++ [r], X5.wr (.inl (X.free hD)) (X.gh.free hD), ?_, ?_, ?_, by rw [List.length_append, hl]; rfl, nDas, nRas⟩
        · rw [replicate_snoc]
          exact g3.other nDas
        · rw [upd_same, List.map_append]
          rfl
        · rw [upd_ne (Ne.symm nDR)]
          exact eR4
      · obtain ⟨as, X3, g, eD, eR3, hl, nDa, nRa⟩ := hP
        have hl : as.length = linesOf M c := by simpa using hl
        have g0 : Grid K H G' H3 as (rowsI (spanN M (c, ns) 0)) := by
          have e : rowsI (spanN M (c, ns) 0) = List.replicate (((linesOf M c : Nat) : Int).toNat) (List.replicate M.many (.int 0)) := by
            rw [Int.toNat_natCast]
            show (List.replicate (linesOf M c) (List.replicate M.many (0 : Int))).map (fun r => r.map PyData.int) = _
            rw [List.map_replicate, List.map_replicate]
          rw [e]
          exact g
        have e2 := X3.gh _ _ (X.gg _ _ hma)
        refine ⟨.ref ma, rfl, ma, C, dx, _, _, rfl, e2, T.cl, T.nC, rfl, .ref ma, rfl, ma, C, dx, _, _, rfl, e2, T.cl, T.nL, rfl, ca, la, cxs, lxs, rfl, ?_⟩
        have gc : Same G H3 := X3.gg.trans X3.gh
        refine .inr ⟨sqt_mono gc hcs, sqt_mono gc hls, ?_⟩
        refine for_it (walk_zipT (xs := cxs) (ys := lxs) (by rw [lc, ll, ok.len])) (fun j σ H' => (∃ y8 y9 y10 y11, σ = [some (.ref ma), some bv, some (.ref R), some (.str (kindStr c)), some (.ref b), some (if c = true then .int 0 else .int 1), some (.int (linesOf M c : Nat)), some (.ref D), y8, y9, y10, y11]) ∧
            Ext M0 G H G' H' ∧ Grid K H G' H' as (rowsI (spanN M (c, ns) j)) ∧ H' D = some (.lst (as.map V.ref)) ∧ H' R = some (.lst ys))
          ⟨⟨y8, y9, y10, y11, rfl⟩, X3, g0, eD, eR3⟩ (fun j σ H' _ hP => ?_) (fun j x σ H' H5 hj hP hY => ?_) (fun σ H' hP => ?_)
        · obtain ⟨_, X4, _⟩ := hP
          exact ⟨sqt_mono (X4.gg.trans X4.gh) hcs, sqt_mono (X4.gg.trans X4.gh) hls⟩
        · obtain ⟨⟨y8, y9, y10, y11, rfl⟩, X4, g4, eD4, eR4⟩ := hP
          obtain ⟨Tp, z1, z2, rfl, nT, rfl, e1, e2⟩ := hY
          have e1 : cxs[j]? = some z1 := e1
          have e2 : lxs[j]? = some z2 := e2
          have hic : j < M.cells.length := by omega
          have hil : j < M.letters.length := by rw [ok.len]; exact hic
          obtain ⟨d0, hdi, hdz⟩ := dpAll_at hcx e1
          have ed : d0 = cellD M.cells[j] := by
            rw [List.getElem?_map, List.getElem?_eq_getElem hic] at hdi
            exact (Option.some.inj hdi).symm
          subst ed
          obtain ⟨d0, hdi, hdz2⟩ := dpAll_at hlx e2
          have ed : d0 = natD M.letters[j] := by
            rw [List.getElem?_map, List.getElem?_eq_getElem hil] at hdi
            exact (Option.some.inj hdi).symm
          subst ed
          obtain rfl := dp_int hdz2
          obtain ⟨cb, rfl, hsb⟩ := dp_intsT (ns := [(M.cells[j].1 : Int), (M.cells[j].2 : Int)]) hdz
          have X5 := X4.al (o := .tup [.ref cb, .int (M.letters[j] : Nat)]) nT
          have g5 := g4.new (o := .tup [.ref cb, .int (M.letters[j] : Nat)]) nT
          have eD5 : (upd H' Tp (.tup [.ref cb, .int (M.letters[j] : Nat)])) D = some (.lst (as.map V.ref)) := by
            rw [upd_ne (ne_of_none eD4 nT)]
            exact eD4
          have eR5 : (upd H' Tp (.tup [.ref cb, .int (M.letters[j] : Nat)])) R = some (.lst ys) := by
            rw [upd_ne (ne_of_none eR4 nT)]
            exact eR4
          have hin := ok.inn _ (List.getElem_mem hic)
          have hhere : hereOf c M.cells[j] < linesOf M c := by cases c with
            | true => exact hin.1
            | false => exact hin.2
          have hthere : thereOf c M.cells[j] < ns.length := by
            have e : ns.length = sideOf M.h M.w c := hal
            rw [e]
            cases c with
            | true => exact hin.2
            | false => exact hin.1
          have h1 : hereOf c M.cells[j] < as.length := by omega
          have h1t : hereOf c M.cells[j] < (spanN M (c, ns) j).length := by rw [spanN_len]; exact hhere
          have hlm := mem_lt_many hil
          have hrow : (spanN M (c, ns) j)[hereOf c M.cells[j]].length = M.many := spanN_row M (c, ns) j _ (List.getElem_mem h1t)
          have ea : (as.map V.ref)[hereOf c M.cells[j]]? = some (.ref as[hereOf c M.cells[j]]) := by rw [List.getElem?_map, List.getElem?_eq_getElem h1]; rfl
          obtain ⟨ws, ew, hw⟩ := g5.at_ (hereOf c M.cells[j]) as[hereOf c M.cells[j]] (intsD (spanN M (c, ns) j)[hereOf c M.cells[j]]) (List.getElem?_eq_getElem h1) (by rw [List.getElem?_map, List.getElem?_eq_getElem h1t]; rfl)
          obtain rfl := dpAll_ints hw
          have hwl : ((spanN M (c, ns) j)[hereOf c M.cells[j]].map V.int).length = M.many := by rw [List.length_map, hrow]
          have hlr : M.letters[j] < (spanN M (c, ns) j)[hereOf c M.cells[j]].length := by omega
          have gb := X5.gg.trans X5.gh
          have hsb5 := sqt_mono gb hsb
          have hb5 := sqt_mono (sg.trans X5.gh) hb'
          refine ⟨Tp, _, rfl, .inl (.inl upd_same), rfl, _, _, rfl, _, _, rfl, rfl, ?_⟩
          -- row = added[cell[side]]
          have side : ∃ k : Nat, (if c = true then V.int 0 else V.int 1) = .int (k : Nat) ∧ ([(M.cells[j].1 : Int), (M.cells[j].2 : Int)].map V.int)[k]? = some (.int (hereOf c M.cells[j] : Nat)) ∧
              (∃ k2 : Nat, (1 : Int) - (k : Nat) = (k2 : Nat) ∧ ([(M.cells[j].1 : Int), (M.cells[j].2 : Int)].map V.int)[k2]? = some (.int (thereOf c M.cells[j] : Nat))) := by
            cases c with
            | true => exact ⟨0, rfl, rfl, 1, rfl, rfl⟩
            | false => exact ⟨1, rfl, rfl, 0, rfl, rfl⟩
          obtain ⟨k, ek, ekx, k2, ek2, ekx2⟩ := side
          refine ⟨.ref D, rfl, .ref cb, rfl, _, rfl, cb, _, (k : Nat), _, rfl, ek, hsb5, atI_nat ekx, D, as.map V.ref, (hereOf c M.cells[j] : Nat), _, rfl, rfl, .inl (.inl eD5), atI_nat ea, ?_⟩
          -- row[letter] + numbers[cell[1 - side]]
          refine ⟨_, rfl, _, rfl, as[hereOf c M.cells[j]], _, (M.letters[j] : Nat), .int ((spanN M (c, ns) j)[hereOf c M.cells[j]][M.letters[j]]), rfl, rfl, .inl (.inl ew), atI_nat (by rw [List.getElem?_map, List.getElem?_eq_getElem hlr]; rfl), ?_⟩
          refine ⟨.ref b, rfl, .ref cb, rfl, _, rfl, 1, (k : Nat), rfl, ek, cb, _, (k2 : Nat), _, rfl, by show V.int (1 - (k : Nat)) = _; rw [ek2], hsb5, atI_nat ekx2, b, _, (thereOf c M.cells[j] : Nat), .int ns[thereOf c M.cells[j]], rfl, rfl, hb5, atI_nat (by rw [List.getElem?_map, List.getElem?_eq_getElem hthere]; rfl), ?_⟩
          refine ⟨_, _, rfl, rfl, _, rfl, _, rfl, as[hereOf c M.cells[j]], _, (M.letters[j] : Nat), M.letters[j], rfl, rfl, ew, ?_, ?_⟩
          · rw [hwl]
            exact ixN_n hlm
          refine ⟨⟨_, _, _, _, rfl⟩, X5.wr (.inl ?_) ?_, ?_, ?_, ?_⟩
          · exact (g5.out _ (List.getElem_mem h1)).2
          · exact (g5.out _ (List.getElem_mem h1)).1
          · have e : rowsI (spanN M (c, ns) (j + 1)) = (rowsI (spanN M (c, ns) j)).set (hereOf c M.cells[j]) ((intsD (spanN M (c, ns) j)[hereOf c M.cells[j]]).set M.letters[j] (.int ((spanN M (c, ns) j)[hereOf c M.cells[j]][M.letters[j]] + ns[thereOf c M.cells[j]]))) := by
              have q : spanN M (c, ns) (j + 1) = setCell (spanN M (c, ns) j) (hereOf c M.cells[j], M.letters[j]) ((spanN M (c, ns) j)[hereOf c M.cells[j]][M.letters[j]] + ns[thereOf c M.cells[j]]) := by
                show setCell (spanN M (c, ns) j) (hereOf c (M.cells.getD j (0, 0)), M.letters.getD j 0) (((spanN M (c, ns) j).getD (hereOf c (M.cells.getD j (0, 0))) []).getD (M.letters.getD j 0) 0 + ns.getD (thereOf c (M.cells.getD j (0, 0))) 0) = _
                rw [getD_of hic, getD_of hil, getD_of h1t, getD_of hlr, getD_of hthere]
              rw [q]
              exact setCell_map PyData.int _ (hereOf c M.cells[j], M.letters[j]) _ h1t
            rw [e]
            exact g5.set (List.getElem?_eq_getElem h1) (dpAll_set hw M.letters[j] (.int _))
          · rw [upd_ne fun z' => nDa (by rw [z']; exact List.getElem_mem h1)]
            exact eD5
          · rw [upd_ne fun z' => nRa (by rw [z']; exact List.getElem_mem h1)]
            exact eR5
        · obtain ⟨⟨y8, y9, y10, y11, rfl⟩, X4, g4, eD4, eR4⟩ := hP
          have g4 : Grid K H G' H' as (rowsI (spanAsk M (c, ns))) := by
            have e : cxs.length = M.cells.length := lc
            rw [e] at g4
            exact g4
          refine ⟨.ref R, rfl, ?_⟩
          refine freeze (i := 7) (j := 10) (Q := fun y H1 => rCat (.ref R) y H1 fun v H2 => Pv (i + 1) ([some (.ref ma), some bv, some v, some (.str (kindStr c)), some (.ref b), some (if c = true then .int 0 else .int 1), some (.int (linesOf M c : Nat)), some (.ref D), y8, y9, y10, y11]) H2)
            (σ := [some (.ref ma), some bv, some (.ref R), some (.str (kindStr c)), some (.ref b), some (if c = true then .int 0 else .int 1), some (.int (linesOf M c : Nat)), some (.ref D), y8, y9, y10, y11]) rfl (fun _ => rfl) (fun _ => rfl) X4.gh g4 eD4 (by omega) fun G6 H6 p6 zs Y6 e6 g6 n6 d6 => ?_
          have X6 := X4.trans Y6
          have lz : zs.length = linesOf M c := by rw [dpAll_len d6, List.length_map, List.length_map, spanAsk, spanN_len]
          refine ⟨R, p6, ys, zs, rfl, rfl, Y6.sm _ _ eR4, e6, Nat.le_trans (show ys.length + zs.length ≤ 1000 by omega) (by decide), fun p7 hp7 => ?_⟩
          rw [hPv]
          refine ⟨p7, _, _, _, _, _, _, _, _, _, G6, ys ++ zs, rfl, X6.al hp7, sg.trans Y6.gg, upd_same, ?_⟩
          rw [spanRows_take hia, hav]
          simp only [rowsI, List.map_append]
          exact dpAll_app (dpAll_mono Y6.gg hy) d6
    · rw [hPv] at hP
      obtain ⟨R, y3, y4, y5, y6, y7, y8, y9, y10, y11, G', ys, rfl, X, sg, eR, hy⟩ := hP
      rw [lx, List.take_of_length_le (Nat.le_refl _)] at hy
      refine ⟨.ref R, rfl, R, ys, rfl, .inl ⟨.inl (.inl eR), fun t ht => ?_⟩⟩
      exact qn _ _ t (X.fin ht) (dp_of_tup upd_same (dpAll_mono (same_upd (X.gh.free ht)) hy))
end
end K36
end

section
set_option pp.maxSteps 400
set_option pp.deepTerms false
set_option Elab.async false
set_option linter.all false
set_option maxRecDepth 100000
set_option maxHeartbeats 4000000
/-! K36, the module of asks: whole_multiple, book_answers; the text of a refused book. -/
namespace K36
open PySem PySem.Spec PyProof.Rows L2

/-! ### plain: the common bottom -/
theorem sm6 {a : Int} (h : a.natAbs ≤ 6) : Sm a 2000 := Nat.lt_of_lt_of_le (Nat.lt_of_le_of_lt h (show 6 < 2 ^ 3 by decide)) (Nat.pow_le_pow_right (by decide) (by decide))
def wm (a b : Int) : Int := a * (norm b a).1
def D6 (d : Int) : Prop := d = 1 ∨ d = 2 ∨ d = 3 ∨ d = 6
theorem wm_D6 {a b : Int} (ha : D6 a) (hb : D6 b) : D6 (wm a b) ∧ a ∣ wm a b ∧ b ∣ wm a b := by
  rcases ha with rfl | rfl | rfl | rfl <;> rcases hb with rfl | rfl | rfl | rfl <;> exact ⟨by unfold D6; decide, by decide, by decide⟩
theorem D6.pos {a : Int} (h : D6 a) : 0 < a ∧ a ≤ 6 := by rcases h with rfl | rfl | rfl | rfl <;> decide
def bottomN (rs : List Rt) : Int := rs.foldl (fun b r => wm b r.2) 1
theorem bottomN_snoc (rs : List Rt) (r : Rt) : bottomN (rs ++ [r]) = wm (bottomN rs) r.2 := by
  unfold bottomN
  rw [List.foldl_append]
  rfl
theorem bottomN_take {rs : List Rt} {i : Nat} (h : i < rs.length) : bottomN (rs.take (i + 1)) = wm (bottomN (rs.take i)) rs[i].2 := by
  rw [List.take_add_one, List.getElem?_eq_getElem h, Option.toList_some, bottomN_snoc]
theorem bottomN_D6 : ∀ (rs : List Rt) (b : Int), D6 b → (∀ r ∈ rs, D6 r.2) → D6 (rs.foldl (fun b r => wm b r.2) b) ∧ b ∣ rs.foldl (fun b r => wm b r.2) b ∧ ∀ r ∈ rs, r.2 ∣ rs.foldl (fun b r => wm b r.2) b
  | [], b, hb, _ => ⟨hb, Int.dvd_refl _, fun r h => nomatch h⟩
  | r :: rs, b, hb, h => by
    have h1 := wm_D6 hb (h r List.mem_cons_self)
    obtain ⟨h2, h3, h4⟩ := bottomN_D6 rs (wm b r.2) h1.1 fun r' hr => h r' (List.mem_cons_of_mem _ hr)
    refine ⟨h2, Int.dvd_trans h1.2.1 h3, fun r' hr => ?_⟩
    rcases List.mem_cons.mp hr with e | hr
    · subst e
      exact Int.dvd_trans h1.2.2 h3
    · exact h4 r' hr
def topsN (rs : List Rt) : List Int := rs.map fun r => r.1 * (bottomN rs / r.2)
def ansN (rs : List Rt) (row : List Int) : Rt := norm ((List.zipWith (· * ·) row (topsN rs)).sum) (bottomN rs)
def answersN (M : Mo) (asks : List Ask) (rs : List Rt) : List Rt := (spanRows M asks).map (ansN rs)
/-- entries of the span rows -/
theorem spanN_bound {M : Mo} {a : Ask} (hn : ∀ n ∈ a.2, -10 ^ 9 ≤ n ∧ n ≤ 10 ^ 9) : ∀ i, ∀ r ∈ spanN M a i, ∀ x ∈ r, -(10 ^ 9 * (i : Int)) ≤ x ∧ x ≤ 10 ^ 9 * i
  | 0, r, hr, x, hx => by
    have hr : r = List.replicate M.many 0 := (List.mem_replicate.mp hr).2
    subst hr
    have hx := (List.mem_replicate.mp hx).2
    subst hx
    omega
  | i + 1, r, hr, x, hx => by
    have ih := spanN_bound (M := M) hn i
    have old : ∀ r' ∈ spanN M a i, ∀ y ∈ r', -(10 ^ 9 * ((i + 1 : Nat) : Int)) ≤ y ∧ y ≤ 10 ^ 9 * ((i + 1 : Nat) : Int) := fun r' h' y hy => by
      have := ih r' h' y hy
      omega
    have hr' : r ∈ (spanN M a i).set (hereOf a.1 (M.cells.getD i (0, 0))) (((spanN M a i).getD (hereOf a.1 (M.cells.getD i (0, 0))) []).set (M.letters.getD i 0)
      (((spanN M a i).getD (hereOf a.1 (M.cells.getD i (0, 0))) []).getD (M.letters.getD i 0) 0 + a.2.getD (thereOf a.1 (M.cells.getD i (0, 0))) 0)) := hr
    rcases List.mem_or_eq_of_mem_set hr' with q | q
    · exact old r q x hx
    · subst q
      have rowok : ∀ y ∈ (spanN M a i).getD (hereOf a.1 (M.cells.getD i (0, 0))) [], -(10 ^ 9 * (i : Int)) ≤ y ∧ y ≤ 10 ^ 9 * (i : Int) := fun y hy => by
        rw [List.getD_eq_getElem?_getD] at hy
        cases e : (spanN M a i)[hereOf a.1 (M.cells.getD i (0, 0))]? with
        | none => rw [e] at hy; cases hy
        | some r' =>
          rw [e] at hy
          exact ih r' (List.mem_of_getElem? e) y hy
      rcases List.mem_or_eq_of_mem_set hx with q | q
      · have := rowok x q
        omega
      · have h1 : -(10 ^ 9 * (i : Int)) ≤ ((spanN M a i).getD (hereOf a.1 (M.cells.getD i (0, 0))) []).getD (M.letters.getD i 0) 0 ∧ ((spanN M a i).getD (hereOf a.1 (M.cells.getD i (0, 0))) []).getD (M.letters.getD i 0) 0 ≤ 10 ^ 9 * (i : Int) := by
          rw [List.getD_eq_getElem?_getD]
          cases e : ((spanN M a i).getD (hereOf a.1 (M.cells.getD i (0, 0))) [])[M.letters.getD i 0]? with
          | none => exact ⟨by show _ ≤ (0 : Int); omega, by show (0 : Int) ≤ _; omega⟩
          | some y => exact rowok y (List.mem_of_getElem? e)
        have h2 : -10 ^ 9 ≤ a.2.getD (thereOf a.1 (M.cells.getD i (0, 0))) 0 ∧ a.2.getD (thereOf a.1 (M.cells.getD i (0, 0))) 0 ≤ 10 ^ 9 := by
          rw [List.getD_eq_getElem?_getD]
          cases e : a.2[thereOf a.1 (M.cells.getD i (0, 0))]? with
          | none => exact ⟨by show _ ≤ (0 : Int); omega, by show (0 : Int) ≤ _; omega⟩
          | some y => exact hn y (List.mem_of_getElem? e)
        subst q
        omega
theorem spanRows_mem {M : Mo} {asks : List Ask} {r : List Int} (h : r ∈ spanRows M asks) : ∃ a ∈ asks, r ∈ spanAsk M a := by
  obtain ⟨l, h1, h2⟩ := List.mem_flatten.mp h
  obtain ⟨a, h3, rfl⟩ := List.mem_map.mp h1
  exact ⟨a, h3, h2⟩

section
variable {P : Program} {w : World} {K : PySem.W.Frag} {mg : Str → Option Value} {base : Heap}
abbrev s_whole_multiple : Stmt := topS 30
theorem sc_whole_multiple : FnScope ["one", "other"] ["one", "other"] (defScope s_whole_multiple) := ⟨rfl, rfl, rfl, by decide +kernel, rfl, by decide +kernel, by decide +kernel⟩
def spWm : Sp := fun vs H Q _ => ∃ a b : Int, vs = [.int a, .int b] ∧ D6 a ∧ ∀ H', Same H H' → Q (.int (wm a b)) H'
theorem ok_whole_multiple {f : Addr} {fd : FuncData} (F : Fun K "whole_multiple" "whole_multiple" s_whole_multiple f fd) (D_make_ratio2 : Dfn P w K mg base CX0 2 "make_ratio" ["top", "bottom"] [] spMake) :
    FnOk P w K mg base CX0 3 f fd ["one", "other"] spWm := by
  refine F.ok sc_whole_multiple (fun vs H Q E h => ?_) (fun cdv A outer s H vs Q E hr h => ?_)
  · obtain ⟨_, _, rfl, _⟩ := h
    rfl
  · obtain ⟨a, b, rfl, ha, q⟩ := h
    refine ⟨_, (pss_one (ps_ret (pe_op op_mul (pv 0) (pe_ix ix_tup (pe_dfn D_make_ratio2 (hr.mono (by decide)) (by rfl) pass0 (pa_cons (pv 1) (pa_cons (pv 0) pa_nil))) pe_int (fun _ _ => rfl))))), ?_⟩
    have hp := ha.pos
    refine ⟨_, rfl, _, rfl, _, rfl, b, a, rfl, hp.1, sm6 (by omega), fun p hpn => ?_⟩
    refine ⟨p, _, 0, _, rfl, rfl, .inl (.inl upd_same), atI_nat (j := 0) rfl, a, _, rfl, rfl, .inl (by omega), q _ (same_upd hpn)⟩
end
end K36
end

section
set_option pp.maxSteps 400
set_option pp.deepTerms false
set_option Elab.async false
set_option linter.all false
set_option maxRecDepth 100000
set_option maxHeartbeats 4000000
/-! K36, the module of asks: book_answers; the text of a refused book. -/
namespace K36
open PySem PySem.Spec PyProof.Rows L2

theorem zipW_take {xs ys : List Int} {i : Nat} (hx : i < xs.length) (hy : i < ys.length) : List.zipWith (· * ·) (xs.take (i + 1)) (ys.take (i + 1)) = List.zipWith (· * ·) (xs.take i) (ys.take i) ++ [xs[i] * ys[i]] := by
  rw [List.take_add_one, List.take_add_one, List.getElem?_eq_getElem hx, List.getElem?_eq_getElem hy, Option.toList_some, Option.toList_some]
  rw [List.zipWith_append (by rw [List.length_take, List.length_take]; omega)]
  rfl
theorem topsN_at {rs : List Rt} {i : Nat} (h : i < rs.length) : (topsN rs)[i]? = some (rs[i].1 * (bottomN rs / rs[i].2)) := by
  unfold topsN
  rw [List.getElem?_map, List.getElem?_eq_getElem h]
  rfl

section
variable {P : Program} {w : World} {K : PySem.W.Frag} {mg : Str → Option Value} {base : Heap}
abbrev s_book_answers : Stmt := topS 29
abbrev N_book_answers : List Str := ["mould", "book", "numbers", "rows", "ratios", "bottom", "ratio", "tops", "row", "often", "top"]
theorem sc_book_answers : FnScope ["mould", "book", "numbers", "rows", "ratios", "bottom", "ratio", "tops", "row", "often", "top"] ["mould", "book", "numbers"] (defScope s_book_answers) := ⟨rfl, rfl, rfl, by decide +kernel, rfl, by decide +kernel, by decide +kernel⟩
theorem blk_answers2 : BlkOk N_book_answers { kind := .function, names := [(".0", .local), ("row", .local), ("make_ratio", .globalImplicit), ("sum", .globalImplicit), ("zip", .globalImplicit), ("bottom", .cell), ("tops", .cell)], isGenerator := false, isCoroutine := false }
    { kind := .function, names := [(".0", .local), ("often", .local), ("top", .local)], isGenerator := false, isCoroutine := false } [("often", 9), ("top", 10)] := blkOk_by (by decide +kernel)
def spAnswers (K : PySem.W.Frag) (C CB : Addr) : Sp := fun vs H Q E => ∃ G v M bv d nv, vs = [v, bv, nv] ∧ Same G H ∧ MouldAt K C G v M ∧ M.Ok ∧ Da K G bv d ∧ BookShape d ∧
  (bookBad M.h M.w d = none → ∃ asks ds rs, BookIs M d asks ∧ (∀ a ∈ asks, ∀ n ∈ a.2, -10 ^ 9 ≤ n ∧ n ≤ 10 ^ 9) ∧ Dp K G nv (.list ds) ∧ NumsD ds rs ∧ rs.length = M.many ∧ (∀ r ∈ rs, D6 r.2) ∧
    ∀ G' H' a, Ext M0 G H G' H' → Dp K G' (.ref a) (.tuple (ratsD (answersN M asks rs))) → Q (.ref a) H') ∧ ∀ i x, bookBad M.h M.w d = some (i, x) → Bad CB i x G H E
theorem ok_book_answers {C CB : Addr} {f : Addr} {fd : FuncData} (F : Fun K "book_answers" "book_answers" s_book_answers f fd) (B : Bi mg)
    (D_span_rows : Dfn P w K mg base (L2.CX P w) 5 "span_rows" ["mould", "book"] [] (spSpan K C CB)) (D_check_numbers : Dfn P w K mg base CX0 4 "check_numbers" ["mould", "numbers"] [] (spCheckN K C))
    (D_whole_multiple : Dfn P w K mg base CX0 3 "whole_multiple" ["one", "other"] [] spWm) (D_make_ratio2 : Dfn P w K mg base CX0 2 "make_ratio" ["top", "bottom"] [] spMake) : FnOk P w K mg base (L2.CX P w) 6 f fd ["mould", "book", "numbers"] (spAnswers K C CB) := by
  refine F.okX sc_book_answers (fun vs H Q E h => ?_) (fun cdv A outer s H vs Q E hr h => ?_)
  · obtain ⟨_, _, _, _, _, _, rfl, _⟩ := h
    rfl
  · obtain ⟨G, v, M, bv, d, nv, rfl, gh, hM, ok, hd, hsh, qn, qs⟩ := h
    refine ⟨_, (pss_cons (ps_set (i := 3) sc_book_answers.nd rfl (.inl rfl) (pe_dfn (E := E) D_span_rows (hr.mono (by decide)) (by rfl) (passes_call (takes_of rfl rfl rfl rfl) (fun _ _ _ _ h => h)) (pa_cons (pv 0) (pa_cons (pv 1) pa_nil))))
      (pss_cons (ps_set (i := 4) sc_book_answers.nd rfl (.inl rfl) (pe_dfn D_check_numbers (hr.mono (by decide)) (by rfl) pass0 (pa_cons (pv 0) (pa_cons (pv 2) pa_nil))))
      (pss_cons (ps_set (i := 5) sc_book_answers.nd rfl (.inr rfl) pe_int)
      (pss_cons (ps_for (passes_of rfl) rfl (pi_tup (pv 4)) (pg_name (i := 6) sc_book_answers.nd rfl (.inl rfl))
        (pss_one (ps_set (i := 5) sc_book_answers.nd rfl (.inr rfl) (pe_dfn D_whole_multiple (hr.mono (by decide)) (by rfl) pass0 (pa_cons (pv 5) (pa_cons (pe_ix ix_tup (pv 6) pe_int (fun _ _ => rfl)) pa_nil))))))
      (pss_cons (ps_set (i := 7) sc_book_answers.nd rfl (.inr rfl) (pe_lc (own := [("ratio", 6)]) (g := gName 6) (tt := tYes) (te := tOp (rI CMul fun i j => .int (i * j)) (tOp (rIxT K) (tVar 6) (tC (.int 0))) (tOp (rI CDiv fun i j => .int (i / j)) (tVar 5) (tOp (rIxT K) (tVar 6) (tC (.int 1))))) rfl sc_book_answers.nd (pi_tup (pv 4)) (blkOk_by (own := [("ratio", 6)]) (N := N_book_answers) (sc := defScope s_book_answers) (by decide +kernel)) (fun _ _ _ _ _ => (pg_name (i := 6) sc_book_answers.nd rfl (.inl rfl))) (fun _ _ _ _ _ => pts_nil) (fun _ _ _ _ _ => (pe_op op_mul (pe_ix ix_tup (pv 6) pe_int (fun _ _ => rfl)) (pe_op op_fdiv (pv 5) (pe_ix ix_tup (pv 6) pe_int (fun _ _ => rfl)))))))
      (pss_one (ps_ret (pe_callTy call_tuple_of (by rfl) B.tuple (by decide +kernel) (pa_cons (pe_lc (own := [("row", 8)]) (g := gName 8) (tt := tYes)
        (te := tCall spMake [] E0 (tCons (tCB (rSum K) (tCons (tLc (iZipM K (tCons (tVar 8) (tCons (tVar 7) tNil))) (gTup K 2 (gCons (gName 9) (gCons (gName 10) gNil))) tYes (tOp (rI CMul fun i j => .int (i * j)) (tVar 9) (tVar 10)) [9, 10]) tNil)) (tCons (tVar 5) tNil)))
        rfl sc_book_answers.nd (pi_tup (pv 3)) (blkOk_by (own := [("row", 8)]) (N := N_book_answers) (sc := defScope s_book_answers) (by decide +kernel)) (fun _ _ _ _ _ => (pg_name (i := 8) sc_book_answers.nd rfl (.inl rfl))) (fun _ _ _ _ _ => pts_nil)
        (fun _ _ _ _ _ => (pe_dfn D_make_ratio2 (hr.mono (by decide)) (by rfl) pass0 (pa_cons (pe_callB (cr_sum rfl) (by rfl) B.sum (by decide +kernel) (pa_cons (pe_lc (own := [("often", 9), ("top", 10)]) (g := gTup K 2 (gCons (gName 9) (gCons (gName 10) (gNil)))) (tt := tYes) (te := tOp (rI CMul fun i j => .int (i * j)) (tVar 9) (tVar 10)) rfl sc_book_answers.nd (pi_zipM (by rfl) B.zip (pa_cons (pv 8) (pa_cons (pv 7) pa_nil)))
          blk_answers2
          (fun _ _ _ _ _ => (pg_tup rfl (pgs_cons (pg_name (i := 9) sc_book_answers.nd rfl (.inl rfl)) (pgs_cons (pg_name (i := 10) sc_book_answers.nd rfl (.inl rfl)) pgs_nil)))) (fun _ _ _ _ _ => pts_nil) (fun _ _ _ _ _ => (pe_op op_mul (pv 9) (pv 10)))) pa_nil)) (pa_cons (pv 5) pa_nil))))) pa_nil))))))))), ?_⟩
    refine ⟨v, rfl, bv, rfl, G, v, M, bv, d, rfl, gh, hM, ok, hd, hsh, fun hok => ?_, qs⟩
    obtain ⟨asks, ds, rs, bk, hnum, hnv, hn, hmany, h6, qn⟩ := qn hok
    refine ⟨asks, bk, fun G1 H1 ra X1 d1 => ?_⟩
    have m36 := many_le ok
    refine ⟨v, rfl, nv, rfl, G1, v, nv, M, ds, rs, rfl, X1.gh, hM.mono X1.gg, dp_mono X1.gg hnv, hn, hmany, by omega, fun G2 H2 ta X2' d2 => ?_⟩
    have X2 := X1.trans X2'
    obtain ⟨rxa, rxs, er, hrs, hrx⟩ := dp_tup d2
    obtain rfl : ta = rxa := V.ref.inj er
    have lr : rxs.length = rs.length := by rw [dpAll_len hrx, List.length_map]
    obtain ⟨rwa, rws, er, hrw, hrwx⟩ := dp_tup (dp_mono X2'.gg d1)
    obtain rfl : ra = rwa := V.ref.inj er
    have lw : rws.length = (spanRows M asks).length := by rw [dpAll_len hrwx, List.length_map, List.length_map]
    have ratAt : ∀ (i : Nat) (x : V), rxs[i]? = some x → ∃ (h : i < rs.length) (a : Addr), x = .ref a ∧ SqT K G2 a [.int rs[i].1, .int rs[i].2] := fun i x e => by
      have hi : i < rs.length := by rw [← lr]; exact (List.getElem?_eq_some_iff.mp e).1
      obtain ⟨d, hd, hz⟩ := dpAll_at hrx e
      rw [List.getElem?_map, List.getElem?_eq_getElem hi] at hd
      have hd : ratD rs[i] = d := Option.some.inj hd
      subst hd
      obtain ⟨a, rfl, hs⟩ := dp_intsT (ns := [rs[i].1, rs[i].2]) hz
      exact ⟨hi, a, rfl, hs⟩
    -- bottom
    refine ⟨.ref ta, rfl, ta, rfl, ⟨_, sqt_mono X2.gh hrs⟩, ?_⟩
    have bN : ∀ i, D6 (bottomN (rs.take i)) := fun i => (bottomN_D6 (rs.take i) 1 (.inl rfl) fun r hr => h6 r (List.mem_of_mem_take hr)).1
    have bAll := bottomN_D6 rs 1 (.inl rfl) h6
    refine for_it (walk_tup (xs := rxs)) (fun i σ H' => (∃ y6, σ = [some v, some bv, some nv, some (.ref ra), some (.ref ta), some (.int (bottomN (rs.take i))), y6, none, none, none, none]) ∧ Ext M0 G H G2 H')
      ⟨⟨none, rfl⟩, X2⟩ (fun i σ H' _ hP => sqt_mono hP.2.gh hrs) (fun i x σ H' H3 hi hP hY => ?_) (fun σ H' hP => ?_)
    · obtain ⟨⟨y6, rfl⟩, X⟩ := hP
      obtain ⟨rfl, ex⟩ := hY
      obtain ⟨hi', a, rfl, hs⟩ := ratAt i x ex
      refine ⟨_, rfl, .ref a, rfl, a, _, 1, _, rfl, rfl, sqt_mono X.gh hs, atI_nat (j := 1) rfl, _, _, rfl, bN i, fun H4 sm => ⟨⟨some (.ref a), ?_⟩, X.trans (Ext.same X.gh sm)⟩⟩
      rw [bottomN_take hi']
      rfl
    · obtain ⟨⟨y6, rfl⟩, X⟩ := hP
      have eb : bottomN (rs.take rxs.length) = bottomN rs := by rw [lr, List.take_of_length_le (Nat.le_refl _)]
      rw [eb]
      have b6 : D6 (bottomN rs) := bAll.1
      have bp := b6.pos
      -- tops
      refine ⟨.ref ta, rfl, ta, rfl, ⟨_, sqt_mono X.gh hrs⟩, fun D hD => ?_⟩
      refine lc_it (walk_tup (xs := rxs)) (fun n H' => Ext M0 G H G2 H' ∧ H' D = some (.lst (((topsN rs).take n).map V.int)))
        ⟨X.al hD, upd_same⟩ (fun i H' _ hP => sqt_mono hP.1.gh hrs) (fun n x H3 H4 hn' hP hY => ?_) (fun H3 hP => ?_)
      · obtain ⟨X3, eD⟩ := hP
        obtain ⟨rfl, ex⟩ := hY
        obtain ⟨hi', a, rfl, hs⟩ := ratAt n x ex
        have hs3 := sqt_mono X3.gh hs
        have hq := (h6 _ (List.getElem_mem hi')).pos
        refine ⟨rfl, yesT ⟨.ref a, rfl, a, _, 0, _, rfl, rfl, hs3, atI_nat (j := 0) rfl, _, rfl, .ref a, rfl, a, _, 1, _, rfl, rfl, hs3, atI_nat (j := 1) rfl, _, _, rfl, rfl, ⟨by omega, by omega⟩, _, _, rfl, rfl, .inr ?_, ?_⟩⟩
        · have h1 : 0 ≤ bottomN rs / rs[n].2 := Int.ediv_nonneg (by omega) (by omega)
          have h2 : bottomN rs / rs[n].2 ≤ bottomN rs := Int.ediv_le_self _ (by omega)
          omega
        refine ⟨_, eD, Nat.lt_of_lt_of_le (show (((topsN rs).take n).map V.int).length < 1000 by rw [List.length_map, List.length_take]; omega) (by decide), X3.wr (.inl (X.free hD)) (X.gh.free hD), ?_⟩
        rw [upd_same, List.take_add_one, topsN_at hi', Option.toList_some, List.map_append]
        rfl
      · obtain ⟨X3, eD⟩ := hP
        rw [lr, List.take_of_length_le (by unfold topsN; rw [List.length_map]; exact Nat.le_refl _)] at eD
        -- the answers
        refine ⟨.ref ra, rfl, ra, rfl, ⟨_, sqt_mono X3.gh hrw⟩, fun p hp => ?_⟩
        have npD : p ≠ D := fun z => by rw [z, eD] at hp; cases hp
        refine lc_it (walk_tup (xs := rws)) (fun n H' => ∃ G' ys, Ext M0 G H G' H' ∧ Same G2 G' ∧ H' D = some (.lst ((topsN rs).map V.int)) ∧ H' p = some (.lst ys) ∧ G' p = none ∧ G' D = none ∧ ys.length = n ∧ DpAll K G' ys (ratsD (((spanRows M asks).take n).map (ansN rs))))
          ⟨G2, [], X3.al hp, Same.refl _, by rw [upd_ne (Ne.symm npD)]; exact eD, upd_same, X3.gh.free hp, X.gh.free hD, rfl, .nil⟩ (fun i H' _ hP => ?_) (fun n x H5 H6 hn' hP hY => ?_) (fun H5 hP => ?_)
        · obtain ⟨G', _, X4, sg, _⟩ := hP
          exact sqt_mono (sg.trans X4.gh) hrw
        · obtain ⟨G', ys, X4, sg, eD4, ep4, gp4, gD4, hl, hy⟩ := hP
          obtain ⟨rfl, ex⟩ := hY
          have hnr : n < (spanRows M asks).length := by rw [← lw]; exact hn'
          obtain ⟨d0, hdi, hdz⟩ := dpAll_at hrwx ex
          rw [List.getElem?_map, List.getElem?_map, List.getElem?_eq_getElem hnr] at hdi
          have hdi : PyData.tuple (intsD (spanRows M asks)[n]) = d0 := Option.some.inj hdi
          subst hdi
          obtain ⟨rowa, rfl, hrow⟩ := dp_intsT hdz
          generalize hrown : (spanRows M asks)[n] = row at hrow
          have hrm : row ∈ spanRows M asks := by rw [← hrown]; exact List.getElem_mem hnr
          obtain ⟨av, hav, hra⟩ := spanRows_mem hrm
          have lrow : row.length = M.many := spanN_row M av _ _ hra
          have ltop : (topsN rs).length = M.many := by unfold topsN; rw [List.length_map]; exact hmany
          have few := ok.few
          have hbd : ∀ x ∈ row, -(2 ^ 64) < x ∧ x < 2 ^ 64 := fun x hx => by
            have := spanN_bound (hnum av hav) _ _ hra x hx
            omega
          refine ⟨rfl, yesT ⟨.ref rowa, rfl, .ref D, rfl, rowa, D, _, _, rfl, sqt_mono (sg.trans X4.gh) hrow, .inl (.inl eD4), fun Z hZ => ?_⟩⟩
          have nZD : Z ≠ D := fun z => by rw [z, eD4] at hZ; cases hZ
          have nZp : Z ≠ p := fun z => by rw [z, ep4] at hZ; cases hZ
          refine lc_it (walk_zipM (xs := row.map V.int) (ys := (topsN rs).map V.int) (by rw [List.length_map, List.length_map]; omega))
            (fun m H' => Ext M0 G H G' H' ∧ H' D = some (.lst ((topsN rs).map V.int)) ∧ H' p = some (.lst ys) ∧ H' Z = some (.lst ((List.zipWith (· * ·) (row.take m) ((topsN rs).take m)).map V.int)))
            ⟨X4.al hZ, by rw [upd_ne (Ne.symm nZD)]; exact eD4, by rw [upd_ne (Ne.symm nZp)]; exact ep4, upd_same⟩ (fun m H' _ hP => ⟨sqt_mono (sg.trans hP.1.gh) hrow, .inl (.inl hP.2.1)⟩) (fun m x H7 H8 hm hP hY => ?_) (fun H7 hP => ?_)
          · obtain ⟨X5, eD5, ep5, eZ5⟩ := hP
            obtain ⟨T, z1, z2, rfl, nT, rfl, e1, e2⟩ := hY
            have hmr : m < row.length := by rw [List.length_map] at hm; exact hm
            have hmt : m < (topsN rs).length := by omega
            have e1 : (row.map V.int)[m]? = some z1 := e1
            have e2 : ((topsN rs).map V.int)[m]? = some z2 := e2
            rw [List.getElem?_map, List.getElem?_eq_getElem hmr] at e1
            rw [List.getElem?_map, List.getElem?_eq_getElem hmt] at e2
            obtain rfl : V.int row[m] = z1 := Option.some.inj e1
            obtain rfl : V.int (topsN rs)[m] = z2 := Option.some.inj e2
            have X6 := X5.al (o := .tup [.int row[m], .int (topsN rs)[m]]) nT
            have nTZ : T ≠ Z := fun z => by rw [z, eZ5] at nT; cases nT
            have nTD : T ≠ D := fun z => by rw [z, eD5] at nT; cases nT
            have nTp : T ≠ p := fun z => by rw [z, ep5] at nT; cases nT
            refine ⟨T, _, rfl, .inl (.inl upd_same), rfl, _, _, rfl, _, _, rfl, rfl, rfl, yesT ?_⟩
            refine ⟨_, rfl, _, rfl, _, _, rfl, rfl, .inl (hbd _ (List.getElem_mem hmr)), _, by rw [upd_ne (Ne.symm nTZ)]; exact eZ5, ?_, X6.wr (.inl (X4.free hZ)) (X4.gh.free hZ), ?_, ?_, ?_⟩
            · refine Nat.lt_of_lt_of_le (show _ < 1000 from ?_) (by decide)
              rw [List.length_map, List.length_zipWith, List.length_take]
              omega
            · rw [upd_ne (Ne.symm nZD), upd_ne (Ne.symm nTD)]
              exact eD5
            · rw [upd_ne (Ne.symm nZp), upd_ne (Ne.symm nTp)]
              exact ep5
            · rw [upd_same, zipW_take hmr hmt, List.map_append]
              rfl
          · obtain ⟨X5, eD5, ep5, eZ5⟩ := hP
            rw [List.length_map, List.take_of_length_le (Nat.le_refl _), List.take_of_length_le (by omega)] at eZ5
            refine ⟨Z, _, rfl, .inl (.inl eZ5), _, rfl, _, _, rfl, bp.1, sm6 (by omega), fun t ht => ?_⟩
            have X6 := X5.fin (o := .tup [.int (ansN rs row).1, .int (ansN rs row).2]) ht
            have ntp : t ≠ p := fun z => by rw [z, ep5] at ht; cases ht
            have ntD : t ≠ D := fun z => by rw [z, eD5] at ht; cases ht
            refine ⟨ys, by rw [upd_ne (Ne.symm ntp)]; exact ep5, Nat.lt_of_lt_of_le (show ys.length < 1000 from ?_) (by decide), _, ys ++ [.ref t], X6.wr (.inl (X3.free hp)) ?_, sg.trans (same_upd (X5.gh.free ht)), ?_, upd_same, ?_, ?_, ?_, ?_⟩
            · have := spanRows_len M ok.h6 ok.w6 asks
              have := bk.few
              omega
            · rw [upd_ne (Ne.symm ntp)]; exact gp4
            · rw [upd_ne (Ne.symm npD), upd_ne (Ne.symm ntD)]; exact eD5
            · rw [upd_ne (Ne.symm ntp)]; exact gp4
            · rw [upd_ne (Ne.symm ntD)]; exact gD4
            · rw [List.length_append, hl]; rfl
            · rw [List.take_add_one, List.getElem?_eq_getElem hnr, Option.toList_some, List.map_append]
              simp only [ratsD, List.map_append, List.map_cons, List.map_nil, hrown]
              exact dpAll_app (dpAll_mono (same_upd (X5.gh.free ht)) hy) (dpAll_one (dp_of_tup upd_same (dpAll_of_ints [(ansN rs row).1, (ansN rs row).2])))
        · obtain ⟨G', ys, X4, sg, eD4, ep4, gp4, gD4, hl, hy⟩ := hP
          rw [lw, List.take_of_length_le (Nat.le_refl _)] at hy
          refine ⟨p, ys, rfl, .inl ⟨.inl (.inl ep4), fun t ht => ?_⟩⟩
          exact qn _ _ t (X4.fin ht) (dp_of_tup upd_same (dpAll_mono (same_upd (X4.gh.free ht)) hy))
end
end K36
end

section
set_option pp.maxSteps 400
set_option pp.deepTerms false
set_option Elab.async false
set_option linter.all false
set_option maxRecDepth 100000
set_option maxHeartbeats 4000000
/-! K36: the text of a refused book; power_asks. -/
namespace K36
open PySem PySem.Spec PyProof.Rows L2

def powRow (len p : Nat) : List Int := (List.range len).map fun (at_ : Nat) => ((at_ : Nat) : Int) ^ p
def powD (k : Str) (len p : Nat) : PyData := .tuple [.str k, .tuple (intsD (powRow len p))]
def powsD (k : Str) (len many : Nat) : List PyData := (List.range many).map (powD k len)
theorem range_snoc (n : Nat) : List.range (n + 1) = List.range n ++ [n] := List.range_succ
section
variable {P : Program} {w : World} {K : PySem.W.Frag} {mg : Str → Option Value} {base : Heap}
abbrev s_book_text : Stmt := topS 33
theorem sc_book_text : FnScope ["mould", "book", "asks", "kind", "numbers", "letter", "number"] ["mould", "book"] (defScope s_book_text) := ⟨rfl, rfl, rfl, by decide +kernel, rfl, by decide +kernel, by decide +kernel⟩
def spText (K : PySem.W.Frag) (C CB : Addr) : Sp := fun vs H Q E => ∃ G v M bv d i x, vs = [v, bv] ∧ Same G H ∧ MouldAt K C G v M ∧ Da K G bv d ∧ BookShape d ∧ bookBad M.h M.w d = some (i, x) ∧ Bad CB i x G H E
theorem ok_book_text {C CB : Addr} {f : Addr} {fd : FuncData} (F : Fun K "book_text" "book_text" s_book_text f fd)
    (D_check_book : Dfn P w K mg base (L2.CX P w) 4 "check_book" ["mould", "book"] [] (spBook K C CB)) : FnOk P w K mg base (L2.CX P w) 5 f fd ["mould", "book"] (spText K C CB) := by
  refine F.okX sc_book_text (fun vs H Q E h => ?_) (fun cdv A outer s H vs Q E hr h => ?_)
  · obtain ⟨_, _, _, _, _, _, _, rfl, _⟩ := h
    rfl
  · obtain ⟨G, v, M, bv, d, i, x, rfl, gh, hM, hd, hsh, hbad, qs⟩ := h
    refine ⟨_, (pss_cons (ps_set (i := 2) sc_book_text.nd rfl (.inl rfl) (pe_lst pa_nil))
      (pss_cons (ps_for (passes_of rfl) rfl (pi_tup (pe_dfn (E := E) D_check_book (hr.mono (by decide)) (by rfl) (passes_call (takes_of rfl rfl rfl rfl) (fun _ _ _ _ h => h)) (pa_cons (pv 0) (pa_cons (pv 1) pa_nil)))) (pg_tup rfl (pgs_cons (pg_name (i := 3) sc_book_text.nd rfl (.inl rfl)) (pgs_cons (pg_name (i := 4) sc_book_text.nd rfl (.inl rfl)) pgs_nil)))
        (pss_cons ps_never (pss_one ps_never)))
      (pss_one ps_never))), ?_⟩
    refine ⟨Nat.zero_le _, fun p hp => ?_⟩
    have X := (Ext.refl (M := M0) gh).al (o := .lst []) hp
    refine ⟨v, rfl, bv, rfl, G, v, M, bv, d, rfl, X.gh, hM, hd, hsh, fun e => ?_, fun j y e => ?_⟩
    · rw [hbad] at e
      cases e
    · rw [hbad] at e
      cases e
      exact Bad.ext X qs

abbrev s_power_asks : Stmt := topS 31
theorem sc_power_asks : FnScope ["kind", "length", "many", "asks", "power", "numbers", "at", "number", "_"] ["kind", "length", "many"] (defScope s_power_asks) := ⟨rfl, rfl, rfl, by decide +kernel, rfl, by decide +kernel, by decide +kernel⟩
def spPower (K : PySem.W.Frag) : Sp := fun vs H Q _ => ∃ (G : Hp) (k : Str) (len many : Nat), vs = [.str k, .int (len : Nat), .int (many : Nat)] ∧ Same G H ∧ len ≤ 100 ∧ many ≤ 100 ∧
  ∀ G' H' a, Ext M0 G H G' H' → Dp K G' (.ref a) (.tuple (powsD k len many)) → Q (.ref a) H'
theorem ok_power_asks {f : Addr} {fd : FuncData} (F : Fun K "power_asks" "power_asks" s_power_asks f fd) (B : Bi mg) : FnOk P w K mg base CX0 1 f fd ["kind", "length", "many"] (spPower K) := by
  refine F.ok sc_power_asks (fun vs H Q E h => ?_) (fun cdv A outer s H vs Q E hr h => ?_)
  · obtain ⟨_, _, _, _, rfl, _⟩ := h
    rfl
  · obtain ⟨G, k, len, many, rfl, gh, hl, hm, q⟩ := h
    refine ⟨_, (pss_cons (ps_set (i := 3) sc_power_asks.nd rfl (.inl rfl) (pe_lst pa_nil))
      (pss_cons (ps_for PassesOwn.never rfl (pi_range1 (by rfl) B.range (pa_cons (pv 2) pa_nil)) (pg_name (i := 4) sc_power_asks.nd rfl (.inl rfl))
        (pss_cons (ps_set (i := 5) sc_power_asks.nd rfl (.inl rfl) (pe_lst pa_nil))
        (pss_cons (ps_for PassesOwn.never rfl (pi_range1 (by rfl) B.range (pa_cons (pv 1) pa_nil)) (pg_name (i := 6) sc_power_asks.nd rfl (.inl rfl))
          (pss_cons (ps_set (i := 7) sc_power_asks.nd rfl (.inl rfl) pe_int)
          (pss_cons (ps_for PassesOwn.never rfl (pi_range1 (by rfl) B.range (pa_cons (pv 4) pa_nil)) (pg_name (i := 8) sc_power_asks.nd rfl (.inl rfl))
            (pss_one (ps_set (i := 7) sc_power_asks.nd rfl (.inl rfl) (pe_op op_mul (pv 7) (pv 6)))))
          (pss_one (ps_expr (pe_bm PySem.F.plainAttrs_list PySem.F.slot_list_append PySem.F.type_list_append mt_append (pv 5) (pa_cons (pv 7) pa_nil)))))))
        (pss_one (ps_expr (pe_bm PySem.F.plainAttrs_list PySem.F.slot_list_append PySem.F.type_list_append mt_append (pv 3) (pa_cons (pe_tup (pa_cons (pv 0) (pa_cons (pe_callTy call_tuple_of (by rfl) B.tuple (by decide +kernel) (pa_cons (pv 5) pa_nil)) pa_nil))) pa_nil)))))))
      (pss_one (ps_ret (pe_callTy call_tuple_of (by rfl) B.tuple (by decide +kernel) (pa_cons (pv 3) pa_nil)))))), ?_⟩
    refine ⟨Nat.zero_le _, fun p hp => ?_⟩
    have gp : G p = none := gh.free hp
    refine ⟨_, rfl, _, rfl, by omega, by omega, ?_⟩
    refine for_it walk_range (fun i σ H' => ∃ y4 y5 y6 y7 y8 G' ys, σ = [some (.str k), some (.int (len : Nat)), some (.int (many : Nat)), some (.ref p), y4, y5, y6, y7, y8] ∧ Ext M0 G H G' H' ∧ H' p = some (.lst ys) ∧ G' p = none ∧ ys.length = i ∧ DpAll K G' ys (powsD k len i))
      ⟨none, none, none, none, none, G, [], rfl, (Ext.refl gh).al hp, upd_same, gp, rfl, .nil⟩ (fun _ _ _ _ _ => trivial) (fun i x σ H' H2 hi hP hY => ?_) (fun σ H' hP => ?_)
    · obtain ⟨y4, y5, y6, y7, y8, G', ys, rfl, X, ep, gp', hly, hy⟩ := hP
      obtain ⟨eH, rfl⟩ := hY
      subst eH
      refine ⟨Nat.zero_le _, fun r hr' => ?_⟩
      have nrp : r ≠ p := fun z => by rw [z, ep] at hr'; cases hr'
      refine ⟨_, rfl, _, rfl, by omega, by omega, ?_⟩
      refine for_it walk_range (fun j σ H' => (∃ y6 y7 y8, σ = [some (.str k), some (.int (len : Nat)), some (.int (many : Nat)), some (.ref p), some (.int (0 + (i : Nat))), some (.ref r), y6, y7, y8]) ∧ Ext M0 G H G' H' ∧ H' p = some (.lst ys) ∧ H' r = some (.lst ((powRow j i).map V.int)))
        ⟨⟨y6, y7, y8, rfl⟩, X.al hr', by rw [upd_ne (Ne.symm nrp)]; exact ep, upd_same⟩ (fun _ _ _ _ _ => trivial) (fun j x σ H3 H4 hj hP hY => ?_) (fun σ H3 hP => ?_)
      · obtain ⟨⟨y6, y7, y8, rfl⟩, X3, ep3, er3⟩ := hP
        obtain ⟨eH, rfl⟩ := hY
        subst eH
        refine ⟨_, rfl, _, rfl, by omega, by omega, ?_⟩
        refine for_it walk_range (fun m σ H' => (∃ y8, σ = [some (.str k), some (.int (len : Nat)), some (.int (many : Nat)), some (.ref p), some (.int (0 + (i : Nat))), some (.ref r), some (.int (0 + (j : Nat))), some (.int (((j : Nat) : Int) ^ m)), y8]) ∧ H' = H4)
          ⟨⟨y8, rfl⟩, rfl⟩ (fun _ _ _ _ _ => trivial) (fun m x σ H5 H6 hm' hP hY => ?_) (fun σ H5 hP => ?_)
        · obtain ⟨⟨y8, rfl⟩, rfl⟩ := hP
          obtain ⟨eH, rfl⟩ := hY
          subst eH
          refine ⟨_, rfl, _, rfl, _, _, rfl, rfl, .inr (by simp at hj; omega), ⟨some (.int (0 + (m : Nat))), ?_⟩, rfl⟩
          have e : ((j : Nat) : Int) ^ m * (0 + (j : Nat)) = ((j : Nat) : Int) ^ (m + 1) := by rw [Int.zero_add, Int.pow_succ]
          show _ = [_, _, _, _, _, _, _, some (V.int (((j : Nat) : Int) ^ (m + 1))), _]
          rw [← e]
          rfl
        · obtain ⟨⟨y8, rfl⟩, rfl⟩ := hP
          have ei : ((0 : Int) + (i : Nat)).toNat = i := by omega
          rw [ei]
          have lp : (powRow j i).length = j := by unfold powRow; rw [List.length_map, List.length_range]
          refine ⟨.ref r, rfl, .inl ⟨rfl, _, .inl (.inl er3)⟩, _, rfl, r, _, _, rfl, rfl, er3, small1000 (by rw [List.length_map, lp]; simp at hj; omega), ⟨_, _, _, rfl⟩, X3.wr (.inl (X.free hr')) (X.gh.free hr'), ?_, ?_⟩
          · rw [upd_ne (Ne.symm nrp)]
            exact ep3
          · rw [upd_same]
            unfold powRow
            rw [range_snoc, List.map_append, List.map_append]
            rfl
      · obtain ⟨⟨y6, y7, y8, rfl⟩, X3, ep3, er3⟩ := hP
        rw [Int.toNat_natCast] at er3
        refine ⟨.ref p, rfl, .inl ⟨rfl, _, .inl (.inl ep3)⟩, _, rfl, .ref r, rfl, r, _, rfl, .inl ⟨.inl (.inl er3), fun t ht => ⟨by show 2 ≤ sizeLine; decide, fun u hu => ?_⟩⟩⟩
        have X4 := X3.fin (o := .tup ((powRow len i).map V.int)) ht
        have X5 := X4.fin (o := .tup [.str k, .ref t]) hu
        have ntp : t ≠ p := fun z => by rw [z, ep3] at ht; cases ht
        have ep4 : upd H3 t (.tup ((powRow len i).map V.int)) p = some (.lst ys) := by rw [upd_ne (Ne.symm ntp)]; exact ep3
        have nup : u ≠ p := fun z => by rw [z, ep4] at hu; cases hu
        have gp5 : upd (upd G' t (.tup ((powRow len i).map V.int))) u (.tup [.str k, .ref t]) p = none := by rw [upd_ne (Ne.symm nup), upd_ne (Ne.symm ntp)]; exact gp'
        refine ⟨p, ys, _, rfl, rfl, by rw [upd_ne (Ne.symm nup)]; exact ep4, small1000 (by simp at hi; omega), ?_⟩
        refine ⟨_, _, _, _, _, _, ys ++ [.ref u], rfl, X5.wr (.inl hp) gp5, upd_same, gp5, by rw [List.length_append, hly]; rfl, ?_⟩
        unfold powsD
        rw [range_snoc, List.map_append]
        have s1 := same_upd (o := .tup ((powRow len i).map V.int)) (X3.gh.free ht)
        have s2 := same_upd (o := .tup [.str k, .ref t]) (X4.gh.free hu)
        exact dpAll_app (dpAll_mono (s1.trans s2) hy) (dpAll_one (dp_of_tup upd_same (.cons (.str _) (.cons (dp_mono s2 (dp_of_tup upd_same (dpAll_of_ints _))) .nil))))
    · obtain ⟨y4, y5, y6, y7, y8, G', ys, rfl, X, ep, gp', hly, hy⟩ := hP
      rw [Int.toNat_natCast] at hy
      refine ⟨.ref p, rfl, p, ys, rfl, .inl ⟨.inl (.inl ep), fun t ht => ?_⟩⟩
      exact q _ _ t (X.fin ht) (dp_of_tup upd_same (dpAll_mono (same_upd (X.gh.free ht)) hy))
end
end K36
end

section
set_option pp.maxSteps 400
set_option pp.deepTerms false
set_option Elab.async false
set_option linter.all false
set_option maxRecDepth 100000
set_option maxHeartbeats 4000000
/-! K36, the law's draws. -/
namespace K36
open PySem PySem.Spec PyProof.Rows L2

/-- the hand: a list of the script's cells (finished), a place, a rest, a total -/
def HandOk (K : PySem.W.Frag) (G H : Hp) (h : Addr) : Prop := ∃ (c : Addr) (cs : List Int) (i : Nat) (rest tot : Int), G h = none ∧ H h = some (.lst [.ref c, .int (i : Nat), .int rest, .int tot]) ∧ SqL K G c (cs.map V.int)
theorem HandOk.ext {K : PySem.W.Frag} {G H G' H' : Hp} {h : Addr} (k : HandOk K G H h) (X : Ext M0 G H G' H') : HandOk K G' H' h := by
  obtain ⟨c, cs, i, rest, tot, h1, h2, h3⟩ := k
  exact ⟨c, cs, i, rest, tot, X.out h1 h2, X.sm _ _ h2, sql_mono X.gg h3⟩
theorem call_intI {X : Cx} : CallR X (.type "int") (fun xs H Q => ∃ i, xs = [.int i] ∧ Q (.int i) H) := fun pins s σ H xs us Q I r h => call_int1 pins s σ H xs us Q I r (.inl h)
theorem pss_imp {X : Cx} {sts : List Stmt} {t t' : TS} (h : PSs X sts t) (i : ∀ D σ H, t' D σ H → t D σ H) : PSs X sts t' := ⟨fun pins s σ H D I q => h.run pins s σ H D I (i _ _ _ q)⟩
section
variable {P : Program} {w : World} {K : PySem.W.Frag} {mg : Str → Option Value} {base : Heap}
abbrev s_law_hand : Stmt := topS 35
theorem sc_law_hand : FnScope ["_law_script", "_law_total", "_law_cells_here", "_law_cell"] ["_law_script"] (defScope s_law_hand) := ⟨rfl, rfl, rfl, by decide +kernel, rfl, by decide +kernel, by decide +kernel⟩
def spHand (K : PySem.W.Frag) : Sp := fun vs H Q _ => ∃ (G : Hp) (a : Addr) (ns : List Int), vs = [.ref a] ∧ Same G H ∧ SqL K G a (ns.map V.int) ∧ ns.length ≤ 1000 ∧ ∀ G' H' h, Ext M0 G H G' H' → HandOk K G' H' h → H h = none → Q (.ref h) H'
theorem ok_law_hand {f : Addr} {fd : FuncData} (F : Fun K "_law_hand" "_law_hand" s_law_hand f fd) (B : Bi mg) : FnOk P w K mg base CX0 1 f fd ["_law_script"] (spHand K) := by
  refine F.ok sc_law_hand (fun vs H Q E h => ?_) (fun cdv A outer s H vs Q E hr h => ?_)
  · obtain ⟨_, _, _, rfl, _⟩ := h
    rfl
  · obtain ⟨G, a, ns, rfl, gh, hs, hn, q⟩ := h
    refine ⟨_, (pss_cons (ps_set (i := 1) sc_law_hand.nd rfl (.inl rfl) (pe_op op_add (pe_callB call_len_seq (by rfl) B.len (by decide +kernel) (pa_cons (pv 0) pa_nil)) pe_int))
      (pss_cons (ps_set (i := 2) sc_law_hand.nd rfl (.inl rfl) (pe_lst pa_nil))
      (pss_cons (ps_for PassesOwn.never rfl (pi_list (pv 0)) (pg_name (i := 3) sc_law_hand.nd rfl (.inl rfl))
        (pss_cons (ps_set (i := 1) sc_law_hand.nd rfl (.inl rfl) (pe_op op_mod (pe_callTy call_intI (by rfl) B.int (by decide +kernel) (pa_cons (pe_op op_add (pe_op op_mul (pv 1) pe_int) (pe_callTy call_intI (by rfl) B.int (by decide +kernel) (pa_cons (pv 3) pa_nil))) pa_nil)) pe_int))
        (pss_one (ps_expr (pe_bm PySem.F.plainAttrs_list PySem.F.slot_list_append PySem.F.type_list_append mt_append (pv 2) (pa_cons (pe_callB call_abs (by rfl) B.abs (by decide +kernel) (pa_cons (pe_callTy call_intI (by rfl) B.int (by decide +kernel) (pa_cons (pv 3) pa_nil)) pa_nil)) pa_nil))))))
      (pss_one (ps_ret (pe_lst (pa_cons (pv 2) (pa_cons pe_int (pa_cons pe_int (pa_cons (pv 1) pa_nil)))))))))), ?_⟩
    refine ⟨.ref a, rfl, a, _, rfl, .inl (sql_mono gh hs), _, _, rfl, rfl, Nat.zero_le _, fun p hp => ?_⟩
    have X := (Ext.refl (M := M0) gh).al (o := .lst []) hp
    refine ⟨.ref a, rfl, a, rfl, ⟨_, sql_mono X.gh hs⟩, ?_⟩
    refine for_it (walk_list (xs := ns.map V.int)) (fun i σ H' => ∃ (t : Int) (y3 : Option V) (cs : List Int), σ = [some (.ref a), some (.int t), some (.ref p), y3] ∧ Ext M0 G H G H' ∧ H' p = some (.lst (cs.map V.int)) ∧ cs.length = i)
      ⟨_, none, [], rfl, X, upd_same, rfl⟩ (fun i σ H' _ hP => ?_) (fun i x σ H' H2 hi hP hY => ?_) (fun σ H' hP => ?_)
    · obtain ⟨_, _, _, _, X, _⟩ := hP
      exact sql_mono X.gh hs
    · obtain ⟨t, y3, cs, rfl, X, ep, hl⟩ := hP
      obtain ⟨rfl, ex⟩ := hY
      have hin : i < ns.length := by rw [List.length_map] at hi; exact hi
      rw [List.getElem?_map, List.getElem?_eq_getElem hin] at ex
      obtain rfl : V.int ns[i] = x := Option.some.inj ex
      refine ⟨_, rfl, t, 1709, rfl, rfl, .inr (by omega), _, rfl, ns[i], rfl, _, _, rfl, rfl, _, rfl, _, _, rfl, rfl, show (0 : Int) < 2147483549 by decide, ?_⟩
      refine ⟨.ref p, rfl, .inl ⟨rfl, _, .inl (.inl ep)⟩, _, rfl, ns[i], rfl, _, rfl, p, _, _, rfl, rfl, ep, small1000 (by rw [List.length_map]; omega), ?_⟩
      refine ⟨_, _, cs ++ [if ns[i] < 0 then -ns[i] else ns[i]], rfl, X.wr (.inl hp) (gh.free hp), ?_, by rw [List.length_append, hl]; rfl⟩
      rw [upd_same, List.map_append]
      rfl
    · obtain ⟨t, y3, cs, rfl, X, ep, hl⟩ := hP
      refine ⟨.ref p, rfl, _, rfl, by show 4 ≤ sizeLine; decide, fun r hr' => ?_⟩
      have X2 := (X.fz hp ep (gh.free hp)).al (o := .lst [.ref p, .int 0, .int 0, .int t]) hr'
      have nrp : r ≠ p := fun z => by rw [z, ep] at hr'; cases hr'
      refine q _ _ r X2 ⟨p, cs, 0, 0, t, ?_, upd_same, SqL.of upd_same⟩ (X.free hr')
      rw [upd_ne nrp]
      exact X.gh.free hr'

abbrev s_law_mixed : Stmt := topS 36
theorem sc_law_mixed : FnScope ["_law_number_here", "_law_turn", "_law_once", "_law_twice"] ["_law_number_here", "_law_turn"] (defScope s_law_mixed) := ⟨rfl, rfl, rfl, by decide +kernel, rfl, by decide +kernel, by decide +kernel⟩
def spMixed : Sp := fun vs H Q _ => ∃ a b : Int, vs = [.int a, .int b] ∧ ∀ r : Int, Q (.int r) H
theorem ok_law_mixed {f : Addr} {fd : FuncData} (F : Fun K "_law_mixed" "_law_mixed" s_law_mixed f fd) (B : Bi mg) : FnOk P w K mg base CX0 1 f fd ["_law_number_here", "_law_turn"] spMixed := by
  refine F.ok sc_law_mixed (fun vs H Q E h => ?_) (fun cdv A outer s H vs Q E hr h => ?_)
  · obtain ⟨_, _, rfl, _⟩ := h
    rfl
  · obtain ⟨a, b, rfl, q⟩ := h
    refine ⟨_, (pss_cons (ps_set (i := 2) sc_law_mixed.nd rfl (.inl rfl) (pe_op op_mod (pe_callTy call_intI (by rfl) B.int (by decide +kernel) (pa_cons (pe_op op_add (pe_op op_add (pe_op op_mul (pv 0) pe_int) (pe_op op_mul (pv 1) pe_int)) pe_int) pa_nil)) pe_int))
      (pss_cons (ps_set (i := 3) sc_law_mixed.nd rfl (.inl rfl) (pe_op op_mod (pe_callTy call_intI (by rfl) B.int (by decide +kernel) (pa_cons (pe_op op_add (pe_op op_add (pe_op op_mul (pv 2) (pv 2)) (pe_op op_mul (pv 1) pe_int)) (pe_op op_fdiv (pv 2) pe_int)) pa_nil)) pe_int))
      (pss_one (ps_ret (pe_op op_fdiv (pe_callTy call_intI (by rfl) B.int (by decide +kernel) (pa_cons (pe_op op_mod (pe_callTy call_intI (by rfl) B.int (by decide +kernel) (pa_cons (pe_op op_add (pe_op op_mul (pv 3) pe_int) (pe_op op_fdiv (pv 2) pe_int)) pa_nil)) pe_int) pa_nil)) pe_int))))), ?_⟩
    refine ⟨_, rfl, a, 48271, rfl, rfl, .inr (by omega), _, rfl, b, 7919, rfl, rfl, .inr (by omega), _, _, rfl, rfl, _, _, rfl, rfl, _, rfl, _, _, rfl, rfl, show (0 : Int) < 2147483399 by decide, ?_⟩
    refine ⟨_, rfl, _, rfl, _, _, rfl, rfl, .inr ⟨by omega, by omega⟩, _, rfl, b, 92821, rfl, rfl, .inr (by omega), _, _, rfl, rfl, _, rfl, _, 131, rfl, rfl, ⟨by decide, by decide⟩, _, _, rfl, rfl, _, rfl, _, _, rfl, rfl, show (0 : Int) < 2147483629 by decide, ?_⟩
    refine ⟨_, rfl, _, 69621, rfl, rfl, .inr (by omega), _, rfl, _, 13, rfl, rfl, ⟨by decide, by decide⟩, _, _, rfl, rfl, _, rfl, _, _, rfl, rfl, show (0 : Int) < 2147483587 by decide, _, rfl, _, _, rfl, rfl, ⟨show (0 : Int) < 32 by decide, show (32 : Int) < 1073741824 by decide⟩, ?_⟩
    exact q _

/-- behind the first if of _law_take -/
def TakeTail (h c : Addr) (many : Nat) : TS := fun D σ H' => ∃ (i' : Nat) (rest' tot : Int) (y2 y3 : Option V), σ = [some (.ref h), some (.int (many : Nat)), y2, y3] ∧ H' h = some (.lst [.ref c, .int (i' : Nat), .int rest', .int tot]) ∧ 0 < many ∧ many < 2 ^ 40 ∧
  ∀ (rest2 tot2 z : Int), D.rt (.int (z % (many : Nat))) (upd H' h (.lst [.ref c, .int (i' : Nat), .int rest2, .int tot2]))
abbrev s_law_take : Stmt := topS 37
theorem sc_law_take : FnScope ["_law_hand_here", "_law_many_here", "_law_cell", "_law_rest"] ["_law_hand_here", "_law_many_here"] (defScope s_law_take) := ⟨rfl, rfl, rfl, by decide +kernel, rfl, by decide +kernel, by decide +kernel⟩
def spTake (K : PySem.W.Frag) : Sp := fun vs H Q _ => ∃ (G : Hp) (h : Addr) (many : Nat), vs = [.ref h, .int (many : Nat)] ∧ Same G H ∧ HandOk K G H h ∧ 0 < many ∧ many < 2 ^ 40 ∧
  ∀ (H' : Hp) (r : Nat), Ext (M1 h) G H G H' → HandOk K G H' h → r < many → Q (.int (r : Nat)) H'
theorem ok_law_take {f : Addr} {fd : FuncData} (F : Fun K "_law_take" "_law_take" s_law_take f fd) (B : Bi mg) (D_law_mixed : Dfn P w K mg base CX0 1 "_law_mixed" ["_law_number_here", "_law_turn"] [] spMixed) :
    FnOk P w K mg base CX0 2 f fd ["_law_hand_here", "_law_many_here"] (spTake K) := by
  refine F.ok sc_law_take (fun vs H Q E h => ?_) (fun cdv A outer s H vs Q E hr h => ?_)
  · obtain ⟨_, _, _, rfl, _⟩ := h
    rfl
  · obtain ⟨G, h, many, rfl, gh, ⟨c, cs, i, rest, tot, gp, hp, hc⟩, m0, m1, q⟩ := h
    refine ⟨_, (pss_cons (ps_if (PW.pt (pw_and (pt_cmpR op_eq (pe_ix ix_list (pv 0) pe_int (fun _ _ => rfl)) pe_int (nomark _)) (pw_and1 (pt_cmpR op_lt (pe_ix ix_list (pv 0) pe_int (fun _ _ => rfl)) (pe_callB call_len_seq (by rfl) B.len (by decide +kernel) (pa_cons (pe_ix ix_list (pv 0) pe_int (fun _ _ => rfl)) pa_nil)) (nomark _)))))
        (pss_cons (ps_set (i := 2) sc_law_take.nd rfl (.inl rfl) (pe_ix ix_list (pe_ix ix_list (pv 0) pe_int (fun _ _ => rfl)) (pe_ix ix_list (pv 0) pe_int (fun _ _ => rfl)) (fun _ _ => rfl)))
        (pss_cons (ps_asg (pe_op op_add (pe_ix ix_list (pv 0) pe_int (fun _ _ => rfl)) pe_int) (pg_sub (pv 0) pe_int set_list))
        (pss_cons (ps_if (pt_cmpR op_lt (pv 2) (pe_op op_pow pe_int pe_int) (nomark _))
          (pss_one (ps_ret (pe_op op_mod (pe_callTy call_intI (by rfl) B.int (by decide +kernel) (pa_cons (pe_dfn D_law_mixed (hr.mono (by decide)) (by rfl) pass0 (pa_cons (pe_op op_mod (pe_callTy call_intI (by rfl) B.int (by decide +kernel) (pa_cons (pv 2) pa_nil)) pe_int) (pa_cons (pe_ix ix_list (pv 0) pe_int (fun _ _ => rfl)) pa_nil))) pa_nil)) (pv 1))))
          pss_nil)
        (pss_one (ps_asg (pv 2) (pg_sub (pv 0) pe_int set_list))))))
        pss_nil)
      (pss_imp (t' := TakeTail h c many) (pss_cons (ps_if (pt_cmpR op_gt (pe_ix ix_list (pv 0) pe_int (fun _ _ => rfl)) pe_int (nomark _))
        (pss_cons (ps_set (i := 3) sc_law_take.nd rfl (.inl rfl) (pe_ix ix_list (pv 0) pe_int (fun _ _ => rfl)))
        (pss_cons (ps_asg (pe_op op_fdivW (pe_callTy call_intI (by rfl) B.int (by decide +kernel) (pa_cons (pv 3) pa_nil)) (pv 1)) (pg_sub (pv 0) pe_int set_list))
        (pss_one (ps_ret (pe_op op_mod (pe_callTy call_intI (by rfl) B.int (by decide +kernel) (pa_cons (pv 3) pa_nil)) (pv 1))))))
        pss_nil)
      (pss_cons (ps_asg (pe_op op_mod (pe_callTy call_intI (by rfl) B.int (by decide +kernel) (pa_cons (pe_op op_add (pe_ix ix_list (pv 0) pe_int (fun _ _ => rfl)) pe_int) pa_nil)) pe_int) (pg_sub (pv 0) pe_int set_list))
      (pss_one (ps_ret (pe_op op_mod (pe_callTy call_intI (by rfl) B.int (by decide +kernel) (pa_cons (pe_dfn D_law_mixed (hr.mono (by decide)) (by rfl) pass0 (pa_cons (pe_ix ix_list (pv 0) pe_int (fun _ _ => rfl)) (pa_cons (pe_ix ix_list (pv 0) pe_int (fun _ _ => rfl)) pa_nil))) pa_nil)) (pv 1)))))) fun D σ H' hq => by
        obtain ⟨i', rest', tot, y2, y3, rfl, e, m0, m1, q⟩ := hq
        have mp : (0 : Int) < (many : Nat) := by omega
        refine ⟨.ref h, rfl, h, _, 2, _, rfl, rfl, .inl (.inl e), atI_nat (j := 2) rfl, rest', 0, rfl, rfl, _, rfl, ?_⟩
        by_cases hr0 : 0 < rest'
        · refine ibT (decide_eq_true hr0) ⟨.ref h, rfl, h, _, 2, _, rfl, rfl, .inl (.inl e), atI_nat (j := 2) rfl, ?_⟩
          refine ⟨_, rfl, _, rfl, _, rfl, rest', _, rfl, rfl, wide_div (b := 40) mp (by rw [Int.natAbs_natCast]; exact m1) (by decide) (by decide), _, rfl, h, _, 2, 2, rfl, rfl, e, rfl, ?_⟩
          exact ⟨_, rfl, _, rfl, _, rfl, rest', _, rfl, rfl, mp, q _ _ _⟩
        · refine ibF (decide_eq_false hr0) ⟨.ref h, rfl, h, _, 3, _, rfl, rfl, .inl (.inl e), atI_nat (j := 3) rfl, tot, 1, rfl, rfl, _, rfl, _, _, rfl, rfl, show (0 : Int) < 2147483549 by decide, _, rfl, h, _, 3, 3, rfl, rfl, e, rfl, ?_⟩
          refine ⟨.ref h, rfl, h, _, 3, _, rfl, rfl, .inl (.inl upd_same), atI_nat (j := 3) rfl, .ref h, rfl, h, _, 1, _, rfl, rfl, .inl (.inl upd_same), atI_nat (j := 1) rfl, _, _, rfl, fun r => ?_⟩
          exact ⟨_, rfl, _, rfl, r, _, rfl, rfl, mp, q _ _ _⟩)), ?_⟩
    have mp : (0 : Int) < (many : Nat) := by omega
    have mw : CDivW 0 (many : Nat) := wide_div (i := 0) (b := 40) mp (by show ((many : Nat) : Int).natAbs < 2 ^ 40; rw [Int.natAbs_natCast]; exact m1) (by decide) (by decide)
    -- what is given
    have give : ∀ (H' : Hp) (z : Int) (i' : Nat) (rest' tot' : Int), Ext (M1 h) G H G H' → H' h = some (.lst [.ref c, .int (i' : Nat), .int rest', .int tot']) → Q (.int (z % (many : Nat))) H' := fun H' z i' rest' tot' X e => by
      have z1 := Int.emod_nonneg z (show ((many : Nat) : Int) ≠ 0 by omega)
      have z2 := Int.emod_lt_of_pos z mp
      obtain ⟨r, hr'⟩ := Int.eq_ofNat_of_zero_le z1
      rw [hr'] at z2 ⊢
      exact q H' r X ⟨c, cs, i', rest', tot', gp, e, hc⟩ (by omega)
    have X0 : Ext (M1 h) G H G H := Ext.refl gh
    have i0 := atI_nat (xs := [V.ref c, V.int (i : Nat), V.int rest, V.int tot]) (j := 0) rfl
    have i1 := atI_nat (xs := [V.ref c, V.int (i : Nat), V.int rest, V.int tot]) (j := 1) rfl
    have tl : ∀ (H' : Hp) (i' : Nat) (rest' : Int) (y2 y3 : Option V) , Ext (M1 h) G H G H' → H' h = some (.lst [.ref c, .int (i' : Nat), .int rest', .int tot]) → TakeTail h c many { nx := fun _ H' => Q .non H', rt := Q } [some (.ref h), some (.int (many : Nat)), y2, y3] H' := fun H' i' rest' y2 y3 X e =>
      ⟨i', rest', tot, y2, y3, rfl, e, m0, m1, fun rest2 tot2 z => give _ z i' rest2 tot2 (X.wr (.inr rfl) gp) upd_same⟩
    refine ⟨.ref h, rfl, h, _, 2, _, rfl, rfl, .inl (.inl hp), atI_nat (j := 2) rfl, rfl, _, rfl, ?_⟩
    by_cases hr0 : rest = 0
    · subst hr0
      refine iteT ⟨.ref h, rfl, h, _, 1, _, rfl, rfl, .inl (.inl hp), i1, .ref h, rfl, h, _, 0, _, rfl, rfl, .inl (.inl hp), i0, c, _, rfl, .inl (sql_mono gh hc), _, _, rfl, rfl, _, rfl, ?_⟩
      rw [List.length_map]
      by_cases hi : i < cs.length
      · refine ibT (decide_eq_true (by omega)) ?_
        refine ⟨.ref h, rfl, h, _, 0, _, rfl, rfl, .inl (.inl hp), i0, .ref h, rfl, h, _, 1, _, rfl, rfl, .inl (.inl hp), i1, c, _, (i : Nat), .int cs[i], rfl, rfl, sql_mono gh hc, atI_nat (by rw [List.getElem?_map, List.getElem?_eq_getElem hi]; rfl), ?_⟩
        refine ⟨.ref h, rfl, h, _, 1, _, rfl, rfl, .inl (.inl hp), i1, (i : Nat), 1, rfl, rfl, _, rfl, h, _, 1, 1, rfl, rfl, hp, rfl, ?_⟩
        have X1 := X0.wr (p := h) (o := .lst [.ref c, .int ((i : Nat) + 1), .int 0, .int tot]) (.inr rfl) gp
        refine ⟨_, rfl, 10, 18, rfl, rfl, ⟨by decide, by decide, by decide⟩, cs[i], _, rfl, rfl, _, rfl, ?_⟩
        refine ib2 (fun _ => ?_) (fun _ => ?_)
        · refine ⟨_, rfl, cs[i], rfl, cs[i], _, rfl, rfl, show (0 : Int) < 2147483399 by decide, .ref h, rfl, h, _, 1, _, rfl, rfl, .inl (.inl upd_same), atI_nat (j := 1) rfl, _, _, rfl, fun r => ?_⟩
          exact ⟨_, rfl, _, rfl, r, _, rfl, rfl, mp, give _ _ (i + 1) 0 tot X1 upd_same⟩
        · refine ⟨_, rfl, _, rfl, h, _, 2, 2, rfl, rfl, upd_same, rfl, ?_⟩
          rw [upd_upd]
          exact tl _ (i + 1) cs[i] _ _ (X0.wr (.inr rfl) gp) upd_same
      · refine ibF (decide_eq_false (by omega)) ?_
        exact tl H i 0 none none X0 hp
    · refine ibF ?_ ?_
      · rw [decide_eq_false fun z => hr0 (V.int.inj z)]
      · exact tl H i rest none none X0 hp
end
end K36
end

section
set_option pp.maxSteps 400
set_option pp.deepTerms false
set_option Elab.async false
set_option linter.all false
set_option maxRecDepth 100000
set_option maxHeartbeats 4000000
/-! K36, the law's draws: sizes, cells, letters. -/
namespace K36
open PySem PySem.Spec PyProof.Rows L2

theorem pick {ns : List Int} {r : Nat} (hr : r < ns.length) : (ns.map V.int)[r]? = some (.int ns[r]) := by rw [List.getElem?_map, List.getElem?_eq_getElem hr]; rfl
theorem HandOk.ne {K : PySem.W.Frag} {G H : Hp} {h p : Addr} (k : HandOk K G H h) (e : H p = none) : p ≠ h := fun z => by
  obtain ⟨_, _, _, _, _, _, h2, _⟩ := k
  rw [z, h2] at e
  cases e
theorem Ext.at1 {G H G' H' : Hp} {h p : Addr} {o : HO} (X : Ext (M1 h) G H G' H') (ne : p ≠ h) (e : H p = some o) : H' p = some o := X.hh p o ne e
theorem HandOk.of {K : PySem.W.Frag} {G H : Hp} {h : Addr} (k : HandOk K G H h) : ∃ xs, H h = some (.lst xs) ∧ xs.length = 4 ∧ G h = none := by
  obtain ⟨_, _, _, _, _, h1, h2, _⟩ := k
  exact ⟨_, h2, rfl, h1⟩
theorem HandOk.wr {K : PySem.W.Frag} {G H : Hp} {h p : Addr} {o : HO} (k : HandOk K G H h) (ne : p ≠ h) : HandOk K G (upd H p o) h := by
  obtain ⟨c, cs, i, rest, tot, h1, h2, h3⟩ := k
  exact ⟨c, cs, i, rest, tot, h1, by rw [upd_ne (Ne.symm ne)]; exact h2, h3⟩
theorem HandOk.fin {K : PySem.W.Frag} {G H : Hp} {h p : Addr} {o : HO} (k : HandOk K G H h) (gp : G p = none) (ne : p ≠ h) : HandOk K (upd G p o) H h := by
  obtain ⟨c, cs, i, rest, tot, h1, h2, h3⟩ := k
  exact ⟨c, cs, i, rest, tot, by rw [upd_ne (Ne.symm ne)]; exact h1, h2, sql_mono (same_upd gp) h3⟩
section
variable {P : Program} {w : World} {K : PySem.W.Frag} {mg : Str → Option Value} {base : Heap}
/-- (n, ..)[_law_take(hand, many)] -/
theorem draw {h p : Addr} {G H : Hp} {ns : List Int} {many : Nat} {Q : VK} (gh : Same G H) (hk : HandOk K G H h) (hn : ns.length = many) (hm : 0 < many) (hm2 : many < 2 ^ 40) (hp : H p = none)
    (q : ∀ H' r, Ext (M1 h) G H G H' → HandOk K G H' h → (e : r < ns.length) → Q (.int ns[r]) H') :
    spTake K [.ref h, .int (many : Nat)] (upd H p (.tup (ns.map V.int))) (fun y H2 => rIxT K (.ref p) y H2 Q) E0 := by
  have X1 := (Ext.refl (M := M0) gh).al (o := .tup (ns.map V.int)) hp
  have np := hk.ne hp
  refine ⟨G, h, many, rfl, X1.gh, hk.ext X1, hm, hm2, fun H' r X2 hk2 hr => ?_⟩
  have hrn : r < ns.length := by omega
  exact ⟨p, ns.map V.int, (r : Nat), .int ns[r], rfl, rfl, .inl (.inl (X2.at1 np upd_same)), atI_nat (pick hrn), q H' r (X1.up.trans X2) hk2 hrn⟩

abbrev s_law_size : Stmt := topS 38
theorem sc_law_size : FnScope ["_law_hand_here"] ["_law_hand_here"] (defScope s_law_size) := ⟨rfl, rfl, rfl, by decide +kernel, rfl, by decide +kernel, by decide +kernel⟩
def spSize (K : PySem.W.Frag) : Sp := fun vs H Q _ => ∃ (G : Hp) (h : Addr), vs = [.ref h] ∧ Same G H ∧ HandOk K G H h ∧ ∀ (H' : Hp) (n : Nat), Ext (M1 h) G H G H' → HandOk K G H' h → 1 ≤ n → n ≤ 6 → Q (.int (n : Nat)) H'
theorem ok_law_size {f : Addr} {fd : FuncData} (F : Fun K "_law_size" "_law_size" s_law_size f fd) (D_law_take : Dfn P w K mg base CX0 2 "_law_take" ["_law_hand_here", "_law_many_here"] [] (spTake K)) :
    FnOk P w K mg base CX0 3 f fd ["_law_hand_here"] (spSize K) := by
  refine F.ok sc_law_size (fun vs H Q E h => ?_) (fun cdv A outer s H vs Q E hr h => ?_)
  · obtain ⟨_, _, rfl, _⟩ := h
    rfl
  · obtain ⟨G, h, rfl, gh, hk, q⟩ := h
    refine ⟨_, (pss_one (ps_ret (pe_ix ix_tup (pe_tup (pa_cons pe_int (pa_cons pe_int (pa_cons pe_int (pa_cons pe_int (pa_cons pe_int (pa_cons pe_int (pa_cons pe_int (pa_cons pe_int pa_nil))))))))) (pe_dfn D_law_take (hr.mono (by decide)) (by rfl) pass0 (pa_cons (pv 0) (pa_cons pe_int pa_nil))) (fun _ _ => rfl)))), ?_⟩
    refine ⟨by show 8 ≤ sizeLine; decide, fun p hp => ⟨.ref h, rfl, draw (ns := [2, 3, 3, 4, 2, 1, 3, 6]) (many := 8) gh hk rfl (by decide) (by decide) hp fun H' r X hk' hr' => ?_⟩⟩
    have b := (by decide : ∀ x ∈ ([2, 3, 3, 4, 2, 1, 3, 6] : List Int), 1 ≤ x ∧ x ≤ 6) _ (List.getElem_mem hr')
    obtain ⟨n, hn⟩ := Int.eq_ofNat_of_zero_le (show 0 ≤ ([2, 3, 3, 4, 2, 1, 3, 6] : List Int)[r] by omega)
    rw [hn] at b ⊢
    exact q H' n X hk' (by omega) (by omega)

abbrev s_law_wide : Stmt := topS 56
theorem sc_law_wide : FnScope ["_law_hand_here"] ["_law_hand_here"] (defScope s_law_wide) := ⟨rfl, rfl, rfl, by decide +kernel, rfl, by decide +kernel, by decide +kernel⟩
theorem ok_law_wide {f : Addr} {fd : FuncData} (F : Fun K "_law_wide" "_law_wide" s_law_wide f fd) (D_law_take : Dfn P w K mg base CX0 2 "_law_take" ["_law_hand_here", "_law_many_here"] [] (spTake K))
    (D_law_size : Dfn P w K mg base CX0 3 "_law_size" ["_law_hand_here"] [] (spSize K)) : FnOk P w K mg base CX0 4 f fd ["_law_hand_here"] (spSize K) := by
  refine F.ok sc_law_wide (fun vs H Q E h => ?_) (fun cdv A outer s H vs Q E hr h => ?_)
  · obtain ⟨_, _, rfl, _⟩ := h
    rfl
  · obtain ⟨G, h, rfl, gh, hk, q⟩ := h
    refine ⟨_, (pss_one (ps_ret (pe_ifExp (pt_truth (pe_dfn D_law_take (hr.mono (by decide)) (by rfl) pass0 (pa_cons (pv 0) (pa_cons pe_int pa_nil))) (by intro _; rfl)) (pe_op op_add pe_int (pe_dfn D_law_take (hr.mono (by decide)) (by rfl) pass0 (pa_cons (pv 0) (pa_cons pe_int pa_nil)))) (pe_dfn D_law_size (hr.mono (by decide)) (by rfl) pass0 (pa_cons (pv 0) pa_nil))))), ?_⟩
    refine ⟨.ref h, rfl, G, h, 2, rfl, gh, hk, by decide, by decide, fun H1 r X1 hk1 hr1 => ⟨_, rfl, ?_⟩⟩
    refine ib2 (fun _ => ?_) (fun _ => ?_)
    · refine ⟨.ref h, rfl, G, h, 6, rfl, X1.gh, hk1, by decide, by decide, fun H2 r2 X2 hk2 hr2 => ⟨_, _, rfl, rfl, ?_⟩⟩
      have e : (1 : Int) + (r2 : Nat) = ((1 + r2 : Nat) : Int) := by omega
      show Q (.int (1 + (r2 : Nat))) H2
      rw [e]
      exact q H2 (1 + r2) (X1.trans X2) hk2 (by omega) (by omega)
    · exact ⟨.ref h, rfl, G, h, rfl, X1.gh, hk1, fun H2 n X2 hk2 h1 h6 => q H2 n (X1.trans X2) hk2 h1 h6⟩

/-! ### pairs -/
def pairsN (w : Nat) : Nat → List (Nat × Nat)
  | 0 => []
  | r + 1 => pairsN w r ++ (List.range w).map fun c => (r, c)
theorem pairsN_in {w : Nat} : ∀ {h : Nat} {x : Nat × Nat}, x ∈ pairsN w h → x.1 < h ∧ x.2 < w
  | r + 1, x, hx => by
    rcases List.mem_append.mp hx with q | q
    · have := pairsN_in q
      omega
    · obtain ⟨c, hc, rfl⟩ := List.mem_map.mp q
      exact ⟨Nat.lt_succ_self _, List.mem_range.mp hc⟩
theorem pairsN_len (w : Nat) : ∀ h, (pairsN w h).length = h * w
  | 0 => by simp [pairsN]
  | r + 1 => by
    show (pairsN w r ++ _).length = _
    rw [List.length_append, pairsN_len w r, List.length_map, List.length_range, Nat.succ_mul]
theorem pairsN_asc (w : Nat) : ∀ h, (pairsN w h).Pairwise ltC
  | 0 => List.Pairwise.nil
  | r + 1 => by
    show (pairsN w r ++ _).Pairwise ltC
    rw [List.pairwise_append]
    refine ⟨pairsN_asc w r, ?_, fun a ha b hb => ?_⟩
    · rw [List.pairwise_map]
      exact List.pairwise_lt_range.imp fun h => .inr ⟨rfl, h⟩
    · have h1 := pairsN_in ha
      obtain ⟨c, _, rfl⟩ := List.mem_map.mp hb
      exact .inl h1.1
abbrev s_law_pairs : Stmt := topS 40
theorem sc_law_pairs : FnScope ["_law_height", "_law_width", "_law_pairs_here", "_law_row", "_law_column"] ["_law_height", "_law_width"] (defScope s_law_pairs) := ⟨rfl, rfl, rfl, by decide +kernel, rfl, by decide +kernel, by decide +kernel⟩
def spPairs (K : PySem.W.Frag) : Sp := fun vs H Q _ => ∃ (G : Hp) (h w : Nat), vs = [.int (h : Nat), .int (w : Nat)] ∧ Same G H ∧ h ≤ 6 ∧ w ≤ 6 ∧ ∀ G' H' a, Ext M0 G H G' H' → Dp K G' (.ref a) (.list (cellsD (pairsN w h))) → Q (.ref a) H'
theorem ok_law_pairs {f : Addr} {fd : FuncData} (F : Fun K "_law_pairs" "_law_pairs" s_law_pairs f fd) (B : Bi mg) : FnOk P w K mg base CX0 1 f fd ["_law_height", "_law_width"] (spPairs K) := by
  refine F.ok sc_law_pairs (fun vs H Q E h => ?_) (fun cdv A outer s H vs Q E hr h => ?_)
  · obtain ⟨_, _, _, rfl, _⟩ := h
    rfl
  · obtain ⟨G, h, w, rfl, gh, hh, hw, q⟩ := h
    refine ⟨_, (pss_cons (ps_set (i := 2) sc_law_pairs.nd rfl (.inl rfl) (pe_lst pa_nil))
      (pss_cons (ps_for PassesOwn.never rfl (pi_range1 (by rfl) B.range (pa_cons (pv 0) pa_nil)) (pg_name (i := 3) sc_law_pairs.nd rfl (.inl rfl))
        (pss_one (ps_for PassesOwn.never rfl (pi_range1 (by rfl) B.range (pa_cons (pv 1) pa_nil)) (pg_name (i := 4) sc_law_pairs.nd rfl (.inl rfl))
          (pss_one (ps_expr (pe_bm PySem.F.plainAttrs_list PySem.F.slot_list_append PySem.F.type_list_append mt_append (pv 2) (pa_cons (pe_tup (pa_cons (pv 3) (pa_cons (pv 4) pa_nil))) pa_nil)))))))
      (pss_one (ps_ret (pv 2))))), ?_⟩
    refine ⟨Nat.zero_le _, fun p hp => ⟨_, rfl, _, rfl, by omega, by omega, ?_⟩⟩
    have big : ∀ {i : Nat}, i ≤ h → (pairsN w i).length ≤ 36 := fun {i} hi => by
      rw [pairsN_len]
      exact Nat.mul_le_mul (Nat.le_trans hi hh) hw
    refine for_it walk_range (fun i σ H' => ∃ y3 y4 G' ys, σ = [some (.int (h : Nat)), some (.int (w : Nat)), some (.ref p), y3, y4] ∧ Ext M0 G H G' H' ∧ H' p = some (.lst ys) ∧ G' p = none ∧ DpAll K G' ys (cellsD (pairsN w i)))
      ⟨none, none, G, [], rfl, (Ext.refl gh).al hp, upd_same, gh.free hp, .nil⟩ (fun _ _ _ _ _ => trivial) (fun i x σ H' H2 hi hP hY => ?_) (fun σ H' hP => ?_)
    · obtain ⟨y3, y4, G', ys, rfl, X, ep, gp, hy⟩ := hP
      obtain ⟨eH, rfl⟩ := hY
      subst eH
      have hih : i < h := by simpa using hi
      refine ⟨_, rfl, _, rfl, by omega, by omega, ?_⟩
      refine for_it walk_range (fun j σ H' => ∃ y4 G' ys, σ = [some (.int (h : Nat)), some (.int (w : Nat)), some (.ref p), some (.int (0 + (i : Nat))), y4] ∧ Ext M0 G H G' H' ∧ H' p = some (.lst ys) ∧ G' p = none ∧ DpAll K G' ys (cellsD (pairsN w i ++ (List.range j).map fun c => (i, c))))
        ⟨y4, G', ys, rfl, X, ep, gp, by simpa using hy⟩ (fun _ _ _ _ _ => trivial) (fun j x σ H3 H4 hj hP hY => ?_) (fun σ H3 hP => ?_)
      · obtain ⟨y4, G3, ys3, rfl, X3, ep3, gp3, hy3⟩ := hP
        obtain ⟨eH, rfl⟩ := hY
        subst eH
        have hjw : j < w := by simpa using hj
        refine ⟨.ref p, rfl, .inl ⟨rfl, _, .inl (.inl ep3)⟩, _, rfl, _, rfl, by show 2 ≤ sizeLine; decide, fun t ht => ?_⟩
        have X4 := X3.fin (o := .tup [.int (0 + (i : Nat)), .int (0 + (j : Nat))]) ht
        have ntp : t ≠ p := fun z => by rw [z, ep3] at ht; cases ht
        have lys : ys3.length ≤ 72 := by
          rw [dpAll_len hy3, List.length_map, List.length_append, List.length_map, List.length_range]
          have := big (Nat.le_of_lt hih)
          omega
        have gp4 : upd G3 t (.tup [.int (0 + (i : Nat)), .int (0 + (j : Nat))]) p = none := by rw [upd_ne (Ne.symm ntp)]; exact gp3
        refine ⟨p, ys3, _, rfl, rfl, by rw [upd_ne (Ne.symm ntp)]; exact ep3, small1000 (by omega), _, _, ys3 ++ [.ref t], rfl, X4.wr (.inl hp) gp4, upd_same, gp4, ?_⟩
        have e : cellsD (pairsN w i ++ (List.range (j + 1)).map fun c => (i, c)) = cellsD (pairsN w i ++ (List.range j).map fun c => (i, c)) ++ [cellD (i, j)] := by
          rw [range_snoc]
          simp [cellsD]
        rw [e]
        refine dpAll_app (dpAll_mono (same_upd (X3.gh.free ht)) hy3) (dpAll_one (dp_of_tup upd_same ?_))
        have e0 : (0 : Int) + (i : Nat) = (i : Nat) := by omega
        have e1 : (0 : Int) + (j : Nat) = (j : Nat) := by omega
        rw [e0, e1]
        exact dpAll_of_ints [(i : Int), (j : Int)]
      · obtain ⟨y4, G3, ys3, rfl, X3, ep3, gp3, hy3⟩ := hP
        rw [Int.toNat_natCast] at hy3
        exact ⟨_, _, G3, ys3, rfl, X3, ep3, gp3, hy3⟩
    · obtain ⟨y3, y4, G', ys, rfl, X, ep, gp, hy⟩ := hP
      rw [Int.toNat_natCast] at hy
      refine ⟨.ref p, rfl, q _ _ p (X.fz hp ep gp) (dp_of_lst upd_same (dpAll_mono (same_upd gp) hy))⟩
end
end K36
end

section
set_option pp.maxSteps 400
set_option pp.deepTerms false
set_option Elab.async false
set_option linter.all false
set_option maxRecDepth 100000
set_option maxHeartbeats 4000000
/-! K36, the law's draws: cells, letters, numbers, asks, books. -/
namespace K36
open PySem PySem.Spec PyProof.Rows L2

theorem LettersOk.snoc {ls : List Nat} {l : Nat} (h : LettersOk ls) (hl : l ≤ fresh ls) : LettersOk (ls ++ [l]) := by
  intro i hi
  rw [List.length_append, List.length_singleton] at hi
  by_cases hlt : i < ls.length
  · rw [List.getElem_append_left hlt, List.take_append_of_le_length (Nat.le_of_lt hlt)]
    exact h i hlt
  · have e : i = ls.length := by omega
    subst e
    rw [List.getElem_append_right (Nat.le_refl _), List.take_append_of_le_length (Nat.le_refl _), List.take_length]
    simpa using hl
section
variable {P : Program} {w : World} {K : PySem.W.Frag} {mg : Str → Option Value} {base : Heap}

abbrev s_law_cells : Stmt := topS 39
abbrev N_law_cells : List Str := ["_law_hand_here", "_law_height", "_law_width", "_law_part", "_law_row", "_law_column"]
theorem sc_law_cells : FnScope ["_law_hand_here", "_law_height", "_law_width", "_law_part", "_law_row", "_law_column"] ["_law_hand_here", "_law_height", "_law_width"] (defScope s_law_cells) := ⟨rfl, rfl, rfl, by decide +kernel, rfl, by decide +kernel, by decide +kernel⟩
def spLCells (K : PySem.W.Frag) : Sp := fun vs H Q _ => ∃ (G : Hp) (h : Addr) (ht wd : Nat), vs = [.ref h, .int (ht : Nat), .int (wd : Nat)] ∧ Same G H ∧ HandOk K G H h ∧ ht ≤ 6 ∧ wd ≤ 6 ∧
  ∀ G' H' a cs, Ext (M1 h) G H G' H' → HandOk K G' H' h → cs.Sublist (pairsN wd ht) → Dp K G' (.ref a) (.list (cellsD cs)) → Q (.ref a) H'
theorem ok_law_cells {f : Addr} {fd : FuncData} (F : Fun K "_law_cells" "_law_cells" s_law_cells f fd) (D_law_take : Dfn P w K mg base CX0 2 "_law_take" ["_law_hand_here", "_law_many_here"] [] (spTake K))
    (D_law_pairs : Dfn P w K mg base CX0 1 "_law_pairs" ["_law_height", "_law_width"] [] (spPairs K)) : FnOk P w K mg base CX0 3 f fd ["_law_hand_here", "_law_height", "_law_width"] (spLCells K) := by
  refine F.ok sc_law_cells (fun vs H Q E h => ?_) (fun cdv A outer s H vs Q E hr h => ?_)
  · obtain ⟨_, _, _, _, rfl, _⟩ := h
    rfl
  · obtain ⟨G, h, ht, wd, rfl, gh, hk, hh, hw, q⟩ := h
    refine ⟨_, (pss_cons (ps_set (i := 3) sc_law_cells.nd rfl (.inr rfl) (pe_ix ix_tup (pe_tup (pa_cons pe_int (pa_cons pe_int (pa_cons pe_int (pa_cons pe_int (pa_cons pe_int (pa_cons pe_int pa_nil))))))) (pe_dfn D_law_take (hr.mono (by decide)) (by rfl) pass0 (pa_cons (pv 0) (pa_cons pe_int pa_nil))) (fun _ _ => rfl)))
      (pss_one (ps_ret (pe_lc (own := [("_law_row", 4), ("_law_column", 5)]) (g := gTup K 2 (gCons (gName 4) (gCons (gName 5) (gNil)))) (tt := _) rfl sc_law_cells.nd (pi_list (pe_dfn D_law_pairs (hr.mono (by decide)) (by rfl) pass0 (pa_cons (pv 1) (pa_cons (pv 2) pa_nil)))) (blkOk_by (own := [("_law_row", 4), ("_law_column", 5)]) (N := N_law_cells) (sc := defScope s_law_cells) (by decide +kernel)) (fun _ _ _ _ _ => (pg_tup rfl (pgs_cons (pg_name (i := 4) sc_law_cells.nd rfl (.inl rfl)) (pgs_cons (pg_name (i := 5) sc_law_cells.nd rfl (.inl rfl)) pgs_nil)))) (fun _ _ _ _ _ => pts_one (pt_cmpR op_lt (pe_dfn D_law_take (hr.mono (by decide)) (by rfl) pass0 (pa_cons (pv 0) (pa_cons pe_int pa_nil))) (pv 3) (nomark _))) (fun _ _ _ _ _ => (pe_tup (pa_cons (pv 4) (pa_cons (pv 5) pa_nil)))))))), ?_⟩
    refine ⟨by show 6 ≤ sizeLine; decide, fun p hp => ⟨.ref h, rfl, draw (ns := [2, 2, 3, 1, 2, 4]) (many := 6) gh hk rfl (by decide) (by decide) hp fun H1 r X1 hk1 hr1 => ?_⟩⟩
    generalize hpart : ([2, 2, 3, 1, 2, 4] : List Int)[r] = part
    refine ⟨_, rfl, _, rfl, G, ht, wd, rfl, X1.gh, hh, hw, fun G2 H2 pa X2 d2 => ?_⟩
    have hk2 := hk1.ext X2
    have X12 := X1.trans X2.up
    obtain ⟨pa', xs, ea, hs, hx⟩ := dp_list d2
    obtain rfl : pa = pa' := V.ref.inj ea
    have lx : xs.length = (pairsN wd ht).length := by rw [dpAll_len hx, List.length_map]
    have l36 : (pairsN wd ht).length ≤ 36 := by rw [pairsN_len]; exact Nat.mul_le_mul hh hw
    refine ⟨pa, rfl, ⟨_, sql_mono X12.gh hs⟩, fun D hD => ?_⟩
    have nD := hk2.ne hD
    refine lc_it (walk_list (xs := xs)) (fun n H' => ∃ G' cs ys, Ext (M1 h) G H G' H' ∧ Same G2 G' ∧ HandOk K G' H' h ∧ H' D = some (.lst ys) ∧ G' D = none ∧ ys.length ≤ n ∧ cs.Sublist ((pairsN wd ht).take n) ∧ DpAll K G' ys (cellsD cs))
      ⟨G2, [], [], X12.al hD, Same.refl _, hk2.wr nD, upd_same, X12.gh.free hD, Nat.le_refl _, List.nil_sublist _, .nil⟩ (fun n H' _ hP => ?_) (fun n x H3 H4 hn hP hY => ?_) (fun H3 hP => ?_)
    · obtain ⟨G', _, _, X, sg, _⟩ := hP
      exact sql_mono (sg.trans X.gh) hs
    · obtain ⟨G', cs, ys, X, sg, hk3, eD, gD, hly, hsub, hy⟩ := hP
      obtain ⟨rfl, ex⟩ := hY
      have hnp : n < (pairsN wd ht).length := by rw [← lx]; exact hn
      obtain ⟨d0, hdi, hdz⟩ := dpAll_at hx ex
      rw [List.getElem?_map, List.getElem?_eq_getElem hnp] at hdi
      have hdi : cellD (pairsN wd ht)[n] = d0 := Option.some.inj hdi
      subst hdi
      generalize hcl : (pairsN wd ht)[n] = cl at hdz
      obtain ⟨a, rfl, ha⟩ := dp_intsT (ns := [(cl.1 : Int), (cl.2 : Int)]) hdz
      refine ⟨a, _, rfl, sqt_mono (sg.trans X.gh) ha, rfl, _, _, rfl, _, _, rfl, rfl, rfl, ?_⟩
      refine ⟨.ref h, rfl, G', h, 4, rfl, X.gh, hk3, by decide, by decide, fun H5 r5 X5 hk5 hr5 => ⟨_, rfl, _, _, rfl, rfl, _, rfl, ?_⟩⟩
      have X6 := X.trans X5
      have eD5 := X5.at1 nD eD
      have hsub1 : (pairsN wd ht).take (n + 1) = (pairsN wd ht).take n ++ [cl] := by rw [List.take_add_one, List.getElem?_eq_getElem hnp, hcl]; rfl
      refine ib2 (fun _ => ?_) (fun _ => ?_)
      · refine ⟨_, rfl, _, rfl, by show 2 ≤ sizeLine; decide, fun t ht' => ?_⟩
        have X7 := X6.fin (o := .tup [.int (cl.1 : Nat), .int (cl.2 : Nat)]) ht'
        have ntD : t ≠ D := fun z => by rw [z, eD5] at ht'; cases ht'
        have nth := hk5.ne ht'
        have gt := X5.gh.free ht'
        have gD7 : upd G' t (.tup [.int (cl.1 : Nat), .int (cl.2 : Nat)]) D = none := by rw [upd_ne (Ne.symm ntD)]; exact gD
        refine ⟨ys, by rw [upd_ne (Ne.symm ntD)]; exact eD5, Nat.lt_of_lt_of_le (show ys.length < 1000 by omega) (by decide), _, cs ++ [cl], ys ++ [.ref t], X7.wr (.inl (X1.free (X2.free hD))) gD7, sg.trans (same_upd gt), ((hk5.wr nth).fin gt nth).wr nD, upd_same, gD7, by rw [List.length_append]; exact Nat.succ_le_succ hly, ?_, ?_⟩
        · rw [hsub1]
          exact hsub.append (List.Sublist.refl _)
        · show DpAll K _ _ ((cs ++ [cl]).map cellD)
          rw [List.map_append]
          exact dpAll_app (dpAll_mono (same_upd gt) hy) (dpAll_one (dp_of_tup upd_same (dpAll_of_ints [(cl.1 : Int), (cl.2 : Int)])))
      · refine ⟨G', cs, ys, X6, sg, hk5, eD5, gD, Nat.le_succ_of_le hly, ?_, hy⟩
        rw [hsub1]
        exact hsub.trans (List.sublist_append_left _ _)
    · obtain ⟨G', cs, ys, X, sg, hk3, eD, gD, hly, hsub, hy⟩ := hP
      rw [lx, List.take_of_length_le (Nat.le_refl _)] at hsub
      exact q _ _ D cs (X.fz (X1.free (X2.free hD)) eD gD) (hk3.fin gD nD) hsub (dp_of_lst upd_same (dpAll_mono (same_upd gD) hy))
end
end K36
end

section
set_option pp.maxSteps 400
set_option pp.deepTerms false
set_option Elab.async false
set_option linter.all false
set_option maxRecDepth 100000
set_option maxHeartbeats 4000000
/-! K36, the law's draws: letters, numbers, asks, books. -/
namespace K36
open PySem PySem.Spec PyProof.Rows L2
section
variable {P : Program} {w : World} {K : PySem.W.Frag} {mg : Str → Option Value} {base : Heap}

abbrev s_law_letters : Stmt := topS 41
theorem sc_law_letters : FnScope ["_law_hand_here", "_law_many_here", "_law_shared", "_law_letters_here", "_law_fresh", "_law_at"] ["_law_hand_here", "_law_many_here"] (defScope s_law_letters) := ⟨rfl, rfl, rfl, by decide +kernel, rfl, by decide +kernel, by decide +kernel⟩
def spLLetters (K : PySem.W.Frag) : Sp := fun vs H Q _ => ∃ (G : Hp) (h : Addr) (many : Nat), vs = [.ref h, .int (many : Nat)] ∧ Same G H ∧ HandOk K G H h ∧ many ≤ 36 ∧
  ∀ G' H' a ls, Ext (M1 h) G H G' H' → HandOk K G' H' h → ls.length = many → LettersOk ls → Dp K G' (.ref a) (.list (natsD ls)) → Q (.ref a) H'
theorem ok_law_letters {f : Addr} {fd : FuncData} (F : Fun K "_law_letters" "_law_letters" s_law_letters f fd) (B : Bi mg) (D_law_take : Dfn P w K mg base CX0 2 "_law_take" ["_law_hand_here", "_law_many_here"] [] (spTake K)) :
    FnOk P w K mg base CX0 3 f fd ["_law_hand_here", "_law_many_here"] (spLLetters K) := by
  refine F.ok sc_law_letters (fun vs H Q E h => ?_) (fun cdv A outer s H vs Q E hr h => ?_)
  · obtain ⟨_, _, _, rfl, _⟩ := h
    rfl
  · obtain ⟨G, h, many, rfl, gh, hk, hm, q⟩ := h
    refine ⟨_, (pss_cons (ps_set (i := 2) sc_law_letters.nd rfl (.inl rfl) (pe_cmpR op_eq (pe_dfn D_law_take (hr.mono (by decide)) (by rfl) pass0 (pa_cons (pv 0) (pa_cons pe_int pa_nil))) pe_int (nomark _)))
      (pss_cons (ps_set (i := 3) sc_law_letters.nd rfl (.inl rfl) (pe_lst pa_nil))
      (pss_cons (ps_set (i := 4) sc_law_letters.nd rfl (.inl rfl) pe_int)
      (pss_cons (ps_for PassesOwn.never rfl (pi_range1 (by rfl) B.range (pa_cons (pv 1) pa_nil)) (pg_name (i := 5) sc_law_letters.nd rfl (.inl rfl))
        (pss_one (ps_if (PW.pt (pw_and (pt_truth (pv 2) (by intro _; rfl)) (pw_and (pt_cmpR op_gt (pv 4) pe_int (nomark _)) (pw_and1 (pt_cmpR op_eq (pe_dfn D_law_take (hr.mono (by decide)) (by rfl) pass0 (pa_cons (pv 0) (pa_cons pe_int pa_nil))) pe_int (nomark _))))))
          (pss_one (ps_expr (pe_bm PySem.F.plainAttrs_list PySem.F.slot_list_append PySem.F.type_list_append mt_append (pv 3) (pa_cons (pe_dfn D_law_take (hr.mono (by decide)) (by rfl) pass0 (pa_cons (pv 0) (pa_cons (pv 4) pa_nil))) pa_nil))))
          (pss_cons (ps_expr (pe_bm PySem.F.plainAttrs_list PySem.F.slot_list_append PySem.F.type_list_append mt_append (pv 3) (pa_cons (pv 4) pa_nil)))
          (pss_one (ps_set (i := 4) sc_law_letters.nd rfl (.inl rfl) (pe_op op_add (pv 4) pe_int)))))))
      (pss_one (ps_ret (pv 3))))))), ?_⟩
    refine ⟨.ref h, rfl, G, h, 3, rfl, gh, hk, by decide, by decide, fun H1 r1 X1 hk1 hr1 => ⟨rfl, Nat.zero_le _, fun p hp => ⟨_, rfl, _, rfl, by omega, by omega, ?_⟩⟩⟩
    have np := hk1.ne hp
    generalize hb0 : decide (V.int (r1 : Nat) = V.int 0) = b0
    have hp0 : H p = none := X1.free hp
    refine for_it walk_range (fun i σ H' => ∃ (y5 : Option V) (ls : List Nat), σ = [some (.ref h), some (.int (many : Nat)), some (.bl b0), some (.ref p), some (.int (fresh ls : Nat)), y5] ∧ Ext (M1 h) G H G H' ∧ HandOk K G H' h ∧ H' p = some (.lst ((ls.map fun n : Nat => (n : Int)).map V.int)) ∧ ls.length = i ∧ LettersOk ls)
      ⟨none, [], by rw [← hb0]; rfl, X1.al hp, hk1.wr np, upd_same, rfl, fun i h => nomatch h⟩ (fun _ _ _ _ _ => trivial) (fun i x σ H' H2 hi hP hY => ?_) (fun σ H' hP => ?_)
    · obtain ⟨y5, ls, rfl, X, hk2, ep, hl, hok⟩ := hP
      obtain ⟨eH, rfl⟩ := hY
      subst eH
      have him : i < many := by simpa using hi
      have f36 : fresh ls ≤ 36 := by
        have := fresh_len hok ls.length (Nat.le_refl _)
        rw [List.take_length] at this
        omega
      -- the other way
      have other : ∀ H3, Ext (M1 h) G H G H3 → HandOk K G H3 h → H3 p = some (.lst ((ls.map fun n : Nat => (n : Int)).map V.int)) →
          (fun σ H' => ∃ (y5 : Option V) (ls : List Nat), σ = [some (.ref h), some (.int (many : Nat)), some (.bl b0), some (.ref p), some (.int (fresh ls : Nat)), y5] ∧ Ext (M1 h) G H G H' ∧ HandOk K G H' h ∧ H' p = some (.lst ((ls.map fun n : Nat => (n : Int)).map V.int)) ∧ ls.length = i + 1 ∧ LettersOk ls)
            [some (.ref h), some (.int (many : Nat)), some (.bl b0), some (.ref p), some (.int ((fresh ls : Nat) + 1)), some (.int (0 + (i : Nat)))] (upd H3 p (.lst ((ls.map fun n : Nat => (n : Int)).map V.int ++ [.int (fresh ls : Nat)]))) := fun H3 X3 hk3 ep3 => by
        refine ⟨some (.int (0 + (i : Nat))), ls ++ [fresh ls], ?_, X3.wr (.inl hp0) (gh.free hp0), hk3.wr np, ?_, by rw [List.length_append, hl]; rfl, hok.snoc (Nat.le_refl _)⟩
        · have e : ((fresh ls : Nat) : Int) + 1 = (fresh (ls ++ [fresh ls]) : Nat) := by rw [fresh_snoc]; omega
          rw [e]
        · rw [upd_same, List.map_append, List.map_append]
          rfl
      have elseT : ∀ H3, Ext (M1 h) G H G H3 → HandOk K G H3 h → H3 p = some (.lst ((ls.map fun n : Nat => (n : Int)).map V.int)) → ((ls.map fun n : Nat => (n : Int)).map V.int).length < sizeLine := fun H3 _ _ _ => small1000 (by rw [List.length_map, List.length_map]; omega)
      refine ⟨_, rfl, b0, rfl, ?_⟩
      cases b0 with
      | false =>
        refine iteF (iteF ⟨.ref p, rfl, .inl ⟨rfl, _, .inl (.inl ep)⟩, _, rfl, p, _, _, rfl, rfl, ep, elseT _ X hk2 ep, ⟨_, rfl, _, _, rfl, rfl, other _ X hk2 ep⟩⟩)
      | true =>
        refine iteT ⟨_, rfl, (fresh ls : Nat), 0, rfl, rfl, _, rfl, ?_⟩
        by_cases hf : 0 < fresh ls
        · refine ibT (decide_eq_true (by omega)) ⟨.ref h, rfl, G, h, 3, rfl, X.gh, hk2, by decide, by decide, fun H3 r3 X3 hk3 hr3 => ⟨rfl, _, rfl, ?_⟩⟩
          have X13 := X.trans X3
          have ep3 := X3.at1 np ep
          refine ib2 (fun _ => ?_) (fun _ => ?_)
          · refine ⟨.ref p, rfl, .inl ⟨rfl, _, .inl (.inl ep3)⟩, .ref h, rfl, _, rfl, G, h, fresh ls, rfl, X13.gh, hk3, hf, by omega, fun H4 r4 X4 hk4 hr4 => ?_⟩
            have ep4 := X4.at1 np ep3
            refine ⟨p, _, _, rfl, rfl, ep4, elseT _ (X13.trans X4) hk4 ep4, some (.int (0 + (i : Nat))), ls ++ [r4], ?_, (X13.trans X4).wr (.inl hp0) (gh.free hp0), hk4.wr np, ?_, by rw [List.length_append, hl]; rfl, hok.snoc (Nat.le_of_lt hr4)⟩
            · have e : fresh (ls ++ [r4]) = fresh ls := by rw [fresh_snoc]; omega
              rw [e]
              rfl
            · rw [upd_same, List.map_append, List.map_append]
              rfl
          · exact ⟨.ref p, rfl, .inl ⟨rfl, _, .inl (.inl ep3)⟩, _, rfl, p, _, _, rfl, rfl, ep3, elseT _ X13 hk3 ep3, ⟨_, rfl, _, _, rfl, rfl, other _ X13 hk3 ep3⟩⟩
        · refine ibF (decide_eq_false (by omega)) ?_
          exact ⟨.ref p, rfl, .inl ⟨rfl, _, .inl (.inl ep)⟩, _, rfl, p, _, _, rfl, rfl, ep, elseT _ X hk2 ep, ⟨_, rfl, _, _, rfl, rfl, other _ X hk2 ep⟩⟩
    · obtain ⟨y5, ls, rfl, X, hk2, ep, hl, hok⟩ := hP
      rw [Int.toNat_natCast] at hl
      refine ⟨.ref p, rfl, q _ _ p ls (X.fz hp0 ep (gh.free hp0)) (hk2.fin (gh.free hp0) np) hl hok ?_⟩
      rw [natsD_ints]
      exact dp_of_lst upd_same (dpAll_of_ints _)

abbrev s_law_many : Stmt := topS 42
theorem sc_law_many : FnScope ["_law_letters_here"] ["_law_letters_here"] (defScope s_law_many) := ⟨rfl, rfl, rfl, by decide +kernel, rfl, by decide +kernel, by decide +kernel⟩
def spLMany (K : PySem.W.Frag) : Sp := fun vs H Q _ => ∃ (v : V) (ls : List Nat), vs = [v] ∧ Dp K H v (.list (natsD ls)) ∧ Q (.int (fresh ls : Nat)) H
theorem ok_law_many {f : Addr} {fd : FuncData} (F : Fun K "_law_many" "_law_many" s_law_many f fd) (B : Bi mg) : FnOk P w K mg base CX0 1 f fd ["_law_letters_here"] (spLMany K) := by
  refine F.ok sc_law_many (fun vs H Q E h => ?_) (fun cdv A outer s H vs Q E hr h => ?_)
  · obtain ⟨_, _, rfl, _⟩ := h
    rfl
  · obtain ⟨v, ls, rfl, hd, q⟩ := h
    refine ⟨_, (pss_one (ps_ret (pe_ifExp (pt_truth (pv 0) (by intro _; rfl)) (pe_op op_add (pe_callB (cr_max rfl) (by rfl) B.max (by decide +kernel) (pa_cons (pv 0) pa_nil)) pe_int) pe_int))), ?_⟩
    rw [natsD_ints] at hd
    obtain ⟨a, rfl, hs⟩ := dp_ints hd
    refine ⟨.ref a, rfl, _, .inl ⟨_, hs, rfl⟩, ?_⟩
    cases ls with
    | nil => exact iteF q
    | cons l ls =>
      refine iteT ⟨.ref a, rfl, a, _, rfl, hs, by simp, fun m hm hall => ⟨_, _, rfl, rfl, ?_⟩⟩
      obtain ⟨n, hn, rfl⟩ := List.mem_map.mp hm
      have e : fresh (l :: ls) = n + 1 := fresh_of_max hn fun y hy => by
        have := hall (y : Int) (List.mem_map.mpr ⟨y, hy, rfl⟩)
        omega
      rw [e] at q
      exact q
end
end K36
end

section
set_option pp.maxSteps 400
set_option pp.deepTerms false
set_option Elab.async false
set_option linter.all false
set_option maxRecDepth 100000
set_option maxHeartbeats 4000000
/-! K36, the law's draws: numbers, asks, books. -/
namespace K36
open PySem PySem.Spec PyProof.Rows L2
/-- asks of a book as it is drawn -/
structure AskOk (h w : Nat) (a : Ask) : Prop where
  len : a.2.length = sideOf h w a.1
  nums : ∀ n ∈ a.2, -10 ^ 9 ≤ n ∧ n ≤ 10 ^ 9
section
variable {P : Program} {w : World} {K : PySem.W.Frag} {mg : Str → Option Value} {base : Heap}
abbrev s_law_number : Stmt := topS 43
theorem sc_law_number : FnScope ["_law_hand_here", "_law_kind"] ["_law_hand_here"] (defScope s_law_number) := ⟨rfl, rfl, rfl, by decide +kernel, rfl, by decide +kernel, by decide +kernel⟩
def spLNumber (K : PySem.W.Frag) : Sp := fun vs H Q _ => ∃ (G : Hp) (h : Addr), vs = [.ref h] ∧ Same G H ∧ HandOk K G H h ∧ ∀ (H' : Hp) (n : Int), Ext (M1 h) G H G H' → HandOk K G H' h → -10 ^ 9 ≤ n → n ≤ 10 ^ 9 → Q (.int n) H'
theorem ok_law_number {f : Addr} {fd : FuncData} (F : Fun K "_law_number" "_law_number" s_law_number f fd) (D_law_take : Dfn P w K mg base CX0 2 "_law_take" ["_law_hand_here", "_law_many_here"] [] (spTake K)) :
    FnOk P w K mg base CX0 3 f fd ["_law_hand_here"] (spLNumber K) := by
  refine F.ok sc_law_number (fun vs H Q E h => ?_) (fun cdv A outer s H vs Q E hr h => ?_)
  · obtain ⟨_, _, rfl, _⟩ := h
    rfl
  · obtain ⟨G, h, rfl, gh, hk, q⟩ := h
    refine ⟨_, (pss_cons (ps_set (i := 1) sc_law_number.nd rfl (.inl rfl) (pe_dfn D_law_take (hr.mono (by decide)) (by rfl) pass0 (pa_cons (pv 0) (pa_cons pe_int pa_nil))))
      (pss_cons (ps_if (pt_cmpR op_lt (pv 1) pe_int (nomark _))
        (pss_one (ps_ret (pe_ix ix_tup (pe_tup (pa_cons pe_int (pa_cons pe_int (pa_cons pe_int (pa_cons pe_int (pa_cons (pe_un un_neg pe_int) (pa_cons pe_int (pa_cons pe_int (pa_cons (pe_un un_neg pe_int) pa_nil))))))))) (pv 1) (fun _ _ => rfl))))
        pss_nil)
      (pss_cons (ps_if (pt_cmpR op_lt (pv 1) pe_int (nomark _))
        (pss_one (ps_ret (pe_op op_sub (pe_dfn D_law_take (hr.mono (by decide)) (by rfl) pass0 (pa_cons (pv 0) (pa_cons pe_int pa_nil))) pe_int)))
        pss_nil)
      (pss_one (ps_ret (pe_op op_sub (pe_dfn D_law_take (hr.mono (by decide)) (by rfl) pass0 (pa_cons (pv 0) (pa_cons (pe_op op_add (pe_op op_mul pe_int (pe_op op_pow pe_int pe_int)) pe_int) pa_nil))) (pe_op op_pow pe_int pe_int))))))), ?_⟩
    refine ⟨.ref h, rfl, G, h, 12, rfl, gh, hk, by decide, by decide, fun H1 r X1 hk1 hr1 => ⟨_, rfl, (r : Nat), 8, rfl, rfl, _, rfl, ?_⟩⟩
    by_cases h8 : r < 8
    · refine ibT (decide_eq_true (by omega)) ⟨1, rfl, 2, rfl, by show 8 ≤ sizeLine; decide, fun p hp => ?_⟩
      have X2 := X1.al (o := .tup (([0, 1, 1, 0, -1, 2, 3, -2] : List Int).map V.int)) hp
      have b := (by decide : ∀ x ∈ ([0, 1, 1, 0, -1, 2, 3, -2] : List Int), -2 ≤ x ∧ x ≤ 3) _ (List.getElem_mem (l := ([0, 1, 1, 0, -1, 2, 3, -2] : List Int)) h8)
      exact ⟨_, rfl, p, ([0, 1, 1, 0, -1, 2, 3, -2] : List Int).map V.int, (r : Nat), _, rfl, rfl, .inl (.inl upd_same), atI_nat (pick h8), q _ _ X2 (hk1.wr (hk1.ne hp)) (by omega) (by omega)⟩
    · refine ibF (decide_eq_false (by omega)) ⟨_, rfl, (r : Nat), 11, rfl, rfl, _, rfl, ?_⟩
      by_cases h11 : r < 11
      · refine ibT (decide_eq_true (by omega)) ⟨.ref h, rfl, G, h, 15, rfl, X1.gh, hk1, by decide, by decide, fun H2 r2 X2 hk2 hr2 => ⟨_, _, rfl, rfl, q _ _ (X1.trans X2) hk2 (by omega) (by omega)⟩⟩
      · refine ibF (decide_eq_false (by omega)) ⟨.ref h, rfl, 10, 9, rfl, rfl, ⟨by decide, by decide, by decide⟩, 2, _, rfl, rfl, .inl ⟨by decide, by decide⟩, _, _, rfl, rfl, G, h, 2000000001, rfl, X1.gh, hk1, by decide, by decide, fun H2 r2 X2 hk2 hr2 => ?_⟩
        refine ⟨10, 9, rfl, rfl, ⟨by decide, by decide, by decide⟩, (r2 : Nat), 1000000000, rfl, rfl, q _ _ (X1.trans X2) hk2 (by omega) (by omega)⟩

abbrev s_law_ask : Stmt := topS 44
abbrev N_law_ask : List Str := ["_law_hand_here", "_law_height", "_law_width", "_law_kind", "_law_length", "_law_step"]
theorem sc_law_ask : FnScope ["_law_hand_here", "_law_height", "_law_width", "_law_kind", "_law_length", "_law_step"] ["_law_hand_here", "_law_height", "_law_width"] (defScope s_law_ask) := ⟨rfl, rfl, rfl, by decide +kernel, rfl, by decide +kernel, by decide +kernel⟩
def spLAsk (K : PySem.W.Frag) : Sp := fun vs H Q _ => ∃ (G : Hp) (h : Addr) (ht wd : Nat), vs = [.ref h, .int (ht : Nat), .int (wd : Nat)] ∧ Same G H ∧ HandOk K G H h ∧ ht ≤ 6 ∧ wd ≤ 6 ∧
  ∀ (G' H' : Hp) (p : Addr) (a : Ask), Ext (M1 h) G H G' H' → HandOk K G' H' h → AskOk ht wd a → Dp K G' (.ref p) (askD a) → Q (.ref p) H'
theorem ok_law_ask {f : Addr} {fd : FuncData} (F : Fun K "_law_ask" "_law_ask" s_law_ask f fd) (B : Bi mg) (D_law_take : Dfn P w K mg base CX0 2 "_law_take" ["_law_hand_here", "_law_many_here"] [] (spTake K))
    (D_law_number : Dfn P w K mg base CX0 3 "_law_number" ["_law_hand_here"] [] (spLNumber K)) : FnOk P w K mg base CX0 4 f fd ["_law_hand_here", "_law_height", "_law_width"] (spLAsk K) := by
  refine F.ok sc_law_ask (fun vs H Q E h => ?_) (fun cdv A outer s H vs Q E hr h => ?_)
  · obtain ⟨_, _, _, _, rfl, _⟩ := h
    rfl
  · obtain ⟨G, h, ht, wd, rfl, gh, hk, hh, hw, q⟩ := h
    refine ⟨_, (pss_cons (ps_set (i := 3) sc_law_ask.nd rfl (.inl rfl) (pe_ix ix_tup (pe_tup (pa_cons pe_str (pa_cons pe_str (pa_cons pe_str pa_nil)))) (pe_dfn D_law_take (hr.mono (by decide)) (by rfl) pass0 (pa_cons (pv 0) (pa_cons pe_int pa_nil))) (fun _ _ => rfl)))
      (pss_cons (ps_set (i := 4) sc_law_ask.nd rfl (.inl rfl) (pe_ifExp (pt_cmpR op_eq (pv 3) pe_str (nomark _)) (pv 2) (pv 1)))
      (pss_one (ps_ret (pe_tup (pa_cons (pv 3) (pa_cons (pe_callTy call_tuple_of (by rfl) B.tuple (by decide +kernel) (pa_cons (pe_lc (own := [("_law_step", 5)]) (g := gName 5) (tt := tYes) rfl sc_law_ask.nd (pi_range1 (by rfl) B.range (pa_cons (pv 4) pa_nil)) (blkOk_by (own := [("_law_step", 5)]) (N := N_law_ask) (sc := defScope s_law_ask) (by decide +kernel)) (fun _ _ _ _ _ => (pg_name (i := 5) sc_law_ask.nd rfl (.inl rfl))) (fun _ _ _ _ _ => pts_nil) (fun _ _ _ _ _ => (pe_dfn D_law_number (hr.mono (by decide)) (by rfl) pass0 (pa_cons (pv 0) pa_nil)))) pa_nil)) pa_nil))))))), ?_⟩
    refine ⟨by show 3 ≤ sizeLine; decide, fun p hp => ?_⟩
    have X0 := (Ext.refl (M := M0) gh).al (o := .tup [.str "column", .str "column", .str "row"]) hp
    have np := hk.ne hp
    refine ⟨.ref h, rfl, G, h, 3, rfl, X0.gh, hk.ext X0, by decide, by decide, fun H1 r X1' hk1 hr1 => ?_⟩
    have X1 := X0.up.trans X1'
    have hc : ∃ c : Bool, ([.str "column", .str "column", .str "row"] : List V)[r]? = some (.str (kindStr c)) := by
      match r, hr1 with
      | 0, _ => exact ⟨true, rfl⟩
      | 1, _ => exact ⟨true, rfl⟩
      | 2, _ => exact ⟨false, rfl⟩
    obtain ⟨c, hc⟩ := hc
    refine ⟨p, _, (r : Nat), _, rfl, rfl, .inl (.inl (X1'.at1 np upd_same)), atI_nat hc, ?_⟩
    refine ⟨_, rfl, rfl, _, rfl, ?_⟩
    have side : ∀ (b : Bool) (σ : L2.St) (H' : Hp) (Q2 : VK), b = c → σ[1]? = some (some (.int (ht : Nat))) → σ[2]? = some (some (.int (wd : Nat))) → Q2 (.int (sideOf ht wd c : Nat)) H' → (if b = true then tVar 2 σ H' Q2 else tVar 1 σ H' Q2) := fun b σ H' Q2 e e1 e2 q2 => by
      subst e
      cases b with
      | true => exact iteT ⟨_, e2, q2⟩
      | false => exact iteF ⟨_, e1, q2⟩
    refine side _ _ _ _ (isCol c) rfl rfl ?_
    have sl : sideOf ht wd c ≤ 6 := by unfold sideOf; split <;> omega
    refine ⟨_, rfl, _, rfl, _, rfl, by omega, by omega, fun D hD => ?_⟩
    have nD := hk1.ne hD
    refine lc_it walk_range (fun n H' => ∃ ns : List Int, Ext (M1 h) G H G H' ∧ HandOk K G H' h ∧ H' D = some (.lst (ns.map V.int)) ∧ ns.length = n ∧ ∀ x ∈ ns, -10 ^ 9 ≤ x ∧ x ≤ 10 ^ 9)
      ⟨[], X1.al hD, hk1.wr nD, upd_same, rfl, fun x hx => nomatch hx⟩ (fun _ _ _ _ => trivial) (fun n x H2 H3 hn hP hY => ?_) (fun H2 hP => ?_)
    · obtain ⟨ns, X, hk2, eD, hl, hb⟩ := hP
      obtain ⟨eH, rfl⟩ := hY
      subst eH
      refine ⟨rfl, yesT ⟨.ref h, rfl, G, h, rfl, X.gh, hk2, fun H4 x X4 hk4 h1 h2 => ?_⟩⟩
      refine ⟨_, X4.at1 nD eD, Nat.lt_of_lt_of_le (show (ns.map V.int).length < 1000 by rw [List.length_map]; simp at hn; omega) (by decide), ns ++ [x], (X.trans X4).wr (.inl (X1.free hD)) (gh.free (X1.free hD)), hk4.wr nD, ?_, by rw [List.length_append, hl]; rfl, fun y hy => ?_⟩
      · rw [upd_same, List.map_append]
        rfl
      · rcases List.mem_append.mp hy with z | z
        · exact hb y z
        · rw [List.mem_singleton.mp z]
          exact ⟨h1, h2⟩
    · obtain ⟨ns, X, hk2, eD, hl, hb⟩ := hP
      rw [Int.toNat_natCast] at hl
      refine ⟨D, _, rfl, .inl ⟨.inl (.inl eD), fun t ht' => ⟨by show 2 ≤ sizeLine; decide, fun u hu => ?_⟩⟩⟩
      have nt := hk2.ne ht'
      have X5 := X.fin (o := .tup (ns.map V.int)) ht'
      have hk5 := (hk2.wr (o := .tup (ns.map V.int)) nt).fin (o := .tup (ns.map V.int)) (X.gh.free ht') nt
      have nu := hk5.ne hu
      have gu := X5.gh.free hu
      refine q _ _ u (c, ns) (X5.fin hu) ((hk5.wr nu).fin gu nu) ⟨hl, hb⟩ ?_
      exact dp_of_tup upd_same (.cons (.str _) (.cons (dp_mono (same_upd gu) (dp_of_tup upd_same (dpAll_of_ints ns))) .nil))

abbrev s_law_book : Stmt := topS 45
abbrev N_law_book : List Str := ["_law_hand_here", "_law_height", "_law_width", "_law_most", "_law_step"]
theorem sc_law_book : FnScope ["_law_hand_here", "_law_height", "_law_width", "_law_most", "_law_step"] ["_law_hand_here", "_law_height", "_law_width", "_law_most"] (defScope s_law_book) := ⟨rfl, rfl, rfl, by decide +kernel, rfl, by decide +kernel, by decide +kernel⟩
def spLBook (K : PySem.W.Frag) : Sp := fun vs H Q _ => ∃ (G : Hp) (h : Addr) (ht wd most : Nat), vs = [.ref h, .int (ht : Nat), .int (wd : Nat), .int (most : Nat)] ∧ Same G H ∧ HandOk K G H h ∧ ht ≤ 6 ∧ wd ≤ 6 ∧ most ≤ 8 ∧
  ∀ (G' H' : Hp) (p : Addr) (asks : List Ask), Ext (M1 h) G H G' H' → HandOk K G' H' h → asks.length ≤ most → (∀ a ∈ asks, AskOk ht wd a) → Dp K G' (.ref p) (.list (asks.map askD)) → Q (.ref p) H'
theorem ok_law_book {f : Addr} {fd : FuncData} (F : Fun K "_law_book" "_law_book" s_law_book f fd) (B : Bi mg) (D_law_take : Dfn P w K mg base CX0 2 "_law_take" ["_law_hand_here", "_law_many_here"] [] (spTake K))
    (D_law_ask : Dfn P w K mg base CX0 4 "_law_ask" ["_law_hand_here", "_law_height", "_law_width"] [] (spLAsk K)) : FnOk P w K mg base CX0 5 f fd ["_law_hand_here", "_law_height", "_law_width", "_law_most"] (spLBook K) := by
  refine F.ok sc_law_book (fun vs H Q E h => ?_) (fun cdv A outer s H vs Q E hr h => ?_)
  · obtain ⟨_, _, _, _, _, rfl, _⟩ := h
    rfl
  · obtain ⟨G, h, ht, wd, most, rfl, gh, hk, hh, hw, hm, q⟩ := h
    refine ⟨_, (pss_one (ps_ret (pe_lc (own := [("_law_step", 4)]) (g := gName 4) (tt := tYes) rfl sc_law_book.nd (pi_range1 (by rfl) B.range (pa_cons (pe_dfn D_law_take (hr.mono (by decide)) (by rfl) pass0 (pa_cons (pv 0) (pa_cons (pe_op op_add (pv 3) pe_int) pa_nil))) pa_nil)) (blkOk_by (own := [("_law_step", 4)]) (N := N_law_book) (sc := defScope s_law_book) (by decide +kernel)) (fun _ _ _ _ _ => (pg_name (i := 4) sc_law_book.nd rfl (.inl rfl))) (fun _ _ _ _ _ => pts_nil) (fun _ _ _ _ _ => (pe_dfn D_law_ask (hr.mono (by decide)) (by rfl) pass0 (pa_cons (pv 0) (pa_cons (pv 1) (pa_cons (pv 2) pa_nil)))))))), ?_⟩
    refine ⟨.ref h, rfl, _, rfl, _, _, rfl, rfl, G, h, most + 1, rfl, gh, hk, by omega, by omega, fun H1 r X1 hk1 hr1 => ⟨_, rfl, by omega, by omega, fun D hD => ?_⟩⟩
    have nD := hk1.ne hD
    refine lc_it walk_range (fun n H' => ∃ (G' : Hp) (ys : List V) (asks : List Ask), Ext (M1 h) G H G' H' ∧ HandOk K G' H' h ∧ H' D = some (.lst ys) ∧ G' D = none ∧ asks.length = n ∧ (∀ a ∈ asks, AskOk ht wd a) ∧ DpAll K G' ys (asks.map askD))
      ⟨G, [], [], X1.al hD, hk1.wr nD, upd_same, X1.gh.free hD, rfl, (fun a ha => nomatch ha), .nil⟩ (fun _ _ _ _ => trivial) (fun n x H2 H3 hn hP hY => ?_) (fun H2 hP => ?_)
    · obtain ⟨G', ys, asks, X, hk2, eD, gD, hl, ha, hy⟩ := hP
      obtain ⟨eH, rfl⟩ := hY
      subst eH
      refine ⟨rfl, yesT ⟨.ref h, rfl, _, rfl, _, rfl, G', h, ht, wd, rfl, X.gh, hk2, hh, hw, fun G4 H4 p a X4 hk4 ok4 d4 => ?_⟩⟩
      have gD4 := X4.out gD eD
      refine ⟨ys, X4.at1 nD eD, Nat.lt_of_lt_of_le (show ys.length < 1000 by rw [dpAll_len hy, List.length_map]; simp at hn; omega) (by decide), G4, ys ++ [.ref p], asks ++ [a], (X.trans X4).wr (.inl (X1.free hD)) gD4, hk4.wr nD, upd_same, gD4, by rw [List.length_append, hl]; rfl, fun b hb => ?_, ?_⟩
      · rcases List.mem_append.mp hb with z | z
        · exact ha b z
        · rw [List.mem_singleton.mp z]
          exact ok4
      · rw [List.map_append]
        exact dpAll_app (dpAll_mono X4.gg hy) (dpAll_one d4)
    · obtain ⟨G', ys, asks, X, hk2, eD, gD, hl, ha, hy⟩ := hP
      rw [Int.toNat_natCast] at hl
      exact q _ _ D asks (X.fz (X1.free hD) eD gD) (hk2.fin gD nD) (by omega) ha (dp_of_lst upd_same (dpAll_mono (same_upd gD) hy))
end
end K36
end

section
set_option pp.maxSteps 400
set_option pp.deepTerms false
set_option Elab.async false
set_option linter.all false
set_option maxRecDepth 100000
set_option maxHeartbeats 4000000
/-! K36, the law's ratios and sums. -/
namespace K36
open PySem PySem.Spec PyProof.Rows L2

/-! ### plain -/
theorem D6_of {d : Int} (h0 : 0 < d) (h : d ∣ 6) : D6 d := by
  have h6 := Int.le_of_dvd (by decide) h
  have h1 : d = 1 ∨ d = 2 ∨ d = 3 ∨ d = 4 ∨ d = 5 ∨ d = 6 := by omega
  rcases h1 with rfl | rfl | rfl | rfl | rfl | rfl
  · exact .inl rfl
  · exact .inr (.inl rfl)
  · exact .inr (.inr (.inl rfl))
  · exact absurd h (by decide)
  · exact absurd h (by decide)
  · exact .inr (.inr (.inr rfl))
theorem D6.dvd {d : Int} (h : D6 d) : d ∣ 6 := by rcases h with rfl | rfl | rfl | rfl <;> decide
theorem norm_mul (t b : Int) : (norm t b).1 * (Int.gcd t b : Int) = t ∧ (norm t b).2 * (Int.gcd t b : Int) = b :=
  ⟨Int.ediv_mul_cancel (Int.gcd_dvd_left t b), Int.ediv_mul_cancel (Int.gcd_dvd_right t b)⟩
theorem norm_pos {t b : Int} (hb : 0 < b) : 0 < (norm t b).2 := by
  have h := (norm_mul t b).2
  have g := gcd_pos (t := t) hb
  rcases Int.lt_or_le 0 (norm t b).2 with q | q
  · exact q
  · have : (norm t b).2 * (Int.gcd t b : Int) ≤ 0 := Int.mul_nonpos_of_nonpos_of_nonneg q (Int.le_of_lt g)
    omega
theorem norm_D6 {t b : Int} (hb : D6 b) : D6 (norm t b).2 := by
  refine D6_of (norm_pos hb.pos.1) (Int.dvd_trans ⟨(Int.gcd t b : Int), ?_⟩ hb.dvd)
  exact (norm_mul t b).2.symm
theorem norm_cop {t b : Int} (hb : 0 < b) : Int.gcd (norm t b).1 (norm t b).2 = 1 := by
  have g := gcd_pos (t := t) hb
  exact Int.gcd_ediv_gcd_ediv_gcd (by omega)
theorem norm_isRat {t b : Int} (hb : 0 < b) : IsRat (norm t b) := ⟨norm_pos hb, norm_cop hb⟩
theorem norm_top {t b : Int} (hb : 0 < b) : (norm t b).1.natAbs ≤ t.natAbs := by
  have h := (norm_mul t b).1
  have g := gcd_pos (t := t) hb
  have e : (norm t b).1.natAbs * Int.gcd t b = t.natAbs := by
    have := congrArg Int.natAbs h
    rw [Int.natAbs_mul, Int.natAbs_natCast] at this
    exact this
  have : 1 ≤ Int.gcd t b := by omega
  calc (norm t b).1.natAbs = (norm t b).1.natAbs * 1 := (Nat.mul_one _).symm
    _ ≤ (norm t b).1.natAbs * Int.gcd t b := Nat.mul_le_mul_left _ this
    _ = t.natAbs := e
/-- a ratio as the law draws or sums it -/
structure RatOk (r : Rt) : Prop where
  rat : IsRat r
  d6 : D6 r.2
  sm : Sm r.1 60
def sumN (ps : List Rt) : Rt := ps.foldl (fun s p => (s.1 * p.2 + p.1 * s.2, s.2 * p.2)) (0, 1)
def lsum (ps : List Rt) : Rt := norm (sumN ps).1 (sumN ps).2
theorem sumN_take {ps : List Rt} {i : Nat} (h : i < ps.length) : sumN (ps.take (i + 1)) = ((sumN (ps.take i)).1 * ps[i].2 + ps[i].1 * (sumN (ps.take i)).2, (sumN (ps.take i)).2 * ps[i].2) := by
  unfold sumN
  rw [List.take_add_one, List.getElem?_eq_getElem h, Option.toList_some, List.foldl_append]
  rfl
theorem sumN_bot {ps : List Rt} (h : ∀ p ∈ ps, D6 p.2) : ∀ i, i ≤ ps.length → 0 < (sumN (ps.take i)).2 ∧ (sumN (ps.take i)).2.natAbs < 2 ^ (3 * i + 1)
  | 0, _ => by
    rw [List.take_zero]
    exact ⟨show (0 : Int) < 1 by decide, show (1 : Int).natAbs < 2 ^ 1 by decide⟩
  | i + 1, hi => by
    have ih := sumN_bot h i (by omega)
    have hd := (h _ (List.getElem_mem (show i < ps.length by omega))).pos
    rw [sumN_take (by omega)]
    refine ⟨Int.mul_pos ih.1 hd.1, ?_⟩
    show ((sumN (ps.take i)).2 * ps[i].2).natAbs < _
    rw [Int.natAbs_mul, show 3 * (i + 1) + 1 = (3 * i + 1) + 3 by omega, Nat.pow_add]
    exact Nat.mul_lt_mul'' ih.2 (show ps[i].2.natAbs < 2 ^ 3 by omega)

section
variable {P : Program} {w : World} {K : PySem.W.Frag} {mg : Str → Option Value} {base : Heap}
abbrev s_law_ratio : Stmt := topS 46
theorem sc_law_ratio : FnScope ["_law_top", "_law_bottom", "_law_one", "_law_other"] ["_law_top", "_law_bottom"] (defScope s_law_ratio) := ⟨rfl, rfl, rfl, by decide +kernel, rfl, by decide +kernel, by decide +kernel⟩
theorem ok_law_ratio {f : Addr} {fd : FuncData} (F : Fun K "_law_ratio" "_law_ratio" s_law_ratio f fd) (B : Bi mg) : FnOk P w K mg base CX0 1 f fd ["_law_top", "_law_bottom"] spMake := by
  refine F.ok sc_law_ratio (fun vs H Q E h => ?_) (fun cdv A outer s H vs Q E hr h => ?_)
  · obtain ⟨_, _, rfl, _⟩ := h
    rfl
  · obtain ⟨t, b, rfl, hb, hz, q⟩ := h
    refine ⟨_, (pss_cons (ps_set (i := 2) sc_law_ratio.nd rfl (.inl rfl) (pe_callB call_abs (by rfl) B.abs (by decide +kernel) (pa_cons (pv 0) pa_nil)))
      (pss_cons (ps_set (i := 3) sc_law_ratio.nd rfl (.inl rfl) (pv 1))
      (pss_cons (ps_while PassesOwn.never (pt_cmpR op_ne (pv 3) pe_int (nomark _)) (pss_one (ps_par (i := 2) (j := 3) rfl sc_law_ratio.nd rfl rfl (by decide) rfl rfl (pa_cons (pv 3) (pa_cons (pe_op op_mod (pv 2) (pv 3)) pa_nil)) (by rfl))))
      (pss_one (ps_ret (pe_tup (pa_cons (pe_op op_fdivW (pv 0) (pv 2)) (pa_cons (pe_op op_fdivW (pv 1) (pv 2)) pa_nil)))))))), ?_⟩
    refine ⟨_, rfl, t, rfl, _, rfl, ?_⟩
    have ea : (if t < 0 then -t else t) = (t.natAbs : Int) := by split <;> omega
    rw [ea]
    refine euclid (mk := fun x y => [some (.int t), some (.int b), some (.int x), some (.int y)]) (x := (t.natAbs : Int)) (y := b) (by omega) (by omega) _ (fun x y Q _ _ q' => ?_) (fun x y N hx hy n => ?_) ?_
    · refine ⟨_, rfl, rfl, _, rfl, ?_⟩
      have e : (!decide (V.int y = V.int 0)) = (!decide (y = 0)) := by
        by_cases h : y = 0
        · subst h; rfl
        · rw [decide_eq_false h, decide_eq_false fun z => h (V.int.inj z)]
      rw [e]
      exact q'
    · exact ⟨_, rfl, _, rfl, _, rfl, x, y, rfl, rfl, hy, _, _, rfl, n⟩
    · have e : Int.gcd (t.natAbs : Int) b = Int.gcd t b := by unfold Int.gcd; simp
      rw [e]
      exact ⟨_, rfl, _, rfl, t, _, rfl, rfl, gcd_div hb hz, _, rfl, _, rfl, b, _, rfl, rfl, gcd_div hb hz, by show 2 ≤ sizeLine; decide, q⟩

abbrev s_law_filling : Stmt := topS 47
theorem sc_law_filling : FnScope ["_law_hand_here", "_law_many_here", "_law_numbers", "_law_at", "_law_top"] ["_law_hand_here", "_law_many_here"] (defScope s_law_filling) := ⟨rfl, rfl, rfl, by decide +kernel, rfl, by decide +kernel, by decide +kernel⟩
def spFilling (K : PySem.W.Frag) : Sp := fun vs H Q _ => ∃ (G : Hp) (h : Addr) (many : Nat), vs = [.ref h, .int (many : Nat)] ∧ Same G H ∧ HandOk K G H h ∧ many ≤ 36 ∧
  ∀ (G' H' : Hp) (p : Addr) (rs : List Rt), Ext (M1 h) G H G' H' → HandOk K G' H' h → rs.length = many → (∀ r ∈ rs, IsRat r ∧ D6 r.2 ∧ r.1.natAbs ≤ 10 ^ 12) → Dp K G' (.ref p) (.list (ratsD rs)) → Q (.ref p) H'
theorem ok_law_filling {f : Addr} {fd : FuncData} (F : Fun K "_law_filling" "_law_filling" s_law_filling f fd) (B : Bi mg) (D_law_take : Dfn P w K mg base CX0 2 "_law_take" ["_law_hand_here", "_law_many_here"] [] (spTake K))
    (D_law_ratio : Dfn P w K mg base CX0 1 "_law_ratio" ["_law_top", "_law_bottom"] [] spMake) : FnOk P w K mg base CX0 3 f fd ["_law_hand_here", "_law_many_here"] (spFilling K) := by
  refine F.ok sc_law_filling (fun vs H Q E h => ?_) (fun cdv A outer s H vs Q E hr h => ?_)
  · obtain ⟨_, _, _, rfl, _⟩ := h
    rfl
  · obtain ⟨G, h, many, rfl, gh, hk, hm, q⟩ := h
    refine ⟨_, (pss_cons (ps_set (i := 2) sc_law_filling.nd rfl (.inl rfl) (pe_lst pa_nil))
      (pss_cons (ps_for PassesOwn.never rfl (pi_range1 (by rfl) B.range (pa_cons (pv 1) pa_nil)) (pg_name (i := 3) sc_law_filling.nd rfl (.inl rfl))
        (pss_cons (ps_set (i := 4) sc_law_filling.nd rfl (.inl rfl) (pe_ix ix_tup (pe_tup (pa_cons pe_int (pa_cons pe_int (pa_cons (pe_un un_neg pe_int) (pa_cons pe_int (pa_cons pe_int (pa_cons (pe_un un_neg pe_int) (pa_cons (pe_op op_pow pe_int pe_int) (pa_cons (pe_dfn D_law_take (hr.mono (by decide)) (by rfl) pass0 (pa_cons (pv 0) (pa_cons (pe_op op_pow pe_int pe_int) pa_nil))) pa_nil))))))))) (pe_dfn D_law_take (hr.mono (by decide)) (by rfl) pass0 (pa_cons (pv 0) (pa_cons pe_int pa_nil))) (fun _ _ => rfl)))
        (pss_one (ps_expr (pe_bm PySem.F.plainAttrs_list PySem.F.slot_list_append PySem.F.type_list_append mt_append (pv 2) (pa_cons (pe_dfn D_law_ratio (hr.mono (by decide)) (by rfl) pass0 (pa_cons (pv 4) (pa_cons (pe_ix ix_tup (pe_tup (pa_cons pe_int (pa_cons pe_int (pa_cons pe_int (pa_cons pe_int (pa_cons pe_int (pa_cons pe_int pa_nil))))))) (pe_dfn D_law_take (hr.mono (by decide)) (by rfl) pass0 (pa_cons (pv 0) (pa_cons pe_int pa_nil))) (fun _ _ => rfl)) pa_nil))) pa_nil))))))
      (pss_one (ps_ret (pv 2))))), ?_⟩
    refine ⟨Nat.zero_le _, fun p hp => ⟨_, rfl, _, rfl, by omega, by omega, ?_⟩⟩
    have np := hk.ne hp
    have gp : G p = none := gh.free hp
    refine for_it walk_range (fun i σ H' => ∃ (y3 y4 : Option V) (G' : Hp) (ys : List V) (rs : List Rt), σ = [some (.ref h), some (.int (many : Nat)), some (.ref p), y3, y4] ∧ Ext (M1 h) G H G' H' ∧ HandOk K G' H' h ∧ H' p = some (.lst ys) ∧ G' p = none ∧ rs.length = i ∧ (∀ r ∈ rs, IsRat r ∧ D6 r.2 ∧ r.1.natAbs ≤ 10 ^ 12) ∧ DpAll K G' ys (ratsD rs))
      ⟨none, none, G, [], [], rfl, (Ext.refl gh).al hp, hk.wr np, upd_same, gp, rfl, (fun r hr => nomatch hr), .nil⟩ (fun _ _ _ _ _ => trivial) (fun i x σ H' H2 hi hP hY => ?_) (fun σ H' hP => ?_)
    · obtain ⟨y3, y4, G', ys, rs, rfl, X, hk1, ep, gp1, hl, hok, hy⟩ := hP
      obtain ⟨eH, rfl⟩ := hY
      subst eH
      refine ⟨1, rfl, 3, rfl, 10, 12, rfl, rfl, ⟨by decide, by decide, by decide⟩, .ref h, rfl, 10, 6, rfl, rfl, ⟨by decide, by decide, by decide⟩, G', h, 1000000, rfl, X.gh, hk1, by decide, by decide, fun H3 r3 X3 hk3 hr3 => ⟨by show 8 ≤ sizeLine; decide, fun t ht => ?_⟩⟩
      refine ⟨.ref h, rfl, draw (ns := [0, 1, -1, 2, 5, -3, 10 ^ 12, (r3 : Nat)]) (many := 8) X3.gh hk3 rfl (by decide) (by decide) ht fun H4 r4 X4 hk4 hr4 => ?_⟩
      have top : ([0, 1, -1, 2, 5, -3, 10 ^ 12, (r3 : Nat)] : List Int)[r4].natAbs ≤ 10 ^ 12 := by
        have : ∀ x ∈ ([0, 1, -1, 2, 5, -3, 10 ^ 12, (r3 : Nat)] : List Int), x.natAbs ≤ 10 ^ 12 := fun x hx => by
          simp only [List.mem_cons, List.not_mem_nil, or_false] at hx
          rcases hx with z | z | z | z | z | z | z | z <;> subst z <;> omega
        exact this _ (List.getElem_mem hr4)
      generalize ([0, 1, -1, 2, 5, -3, 10 ^ 12, (r3 : Nat)] : List Int)[r4] = tp at top
      have X34 := X3.trans X4
      have ep4 := X34.at1 np ep
      refine ⟨.ref p, rfl, .inl ⟨rfl, _, .inl (.inl ep4)⟩, _, rfl, by show 6 ≤ sizeLine; decide, fun t2 ht2 => ?_⟩
      refine ⟨.ref h, rfl, draw (ns := [1, 1, 1, 2, 3, 6]) (many := 6) X34.gh hk4 rfl (by decide) (by decide) ht2 fun H5 r5 X5 hk5 hr5 => ?_⟩
      have bt : D6 ([1, 1, 1, 2, 3, 6] : List Int)[r5] := by
        have : ∀ x ∈ ([1, 1, 1, 2, 3, 6] : List Int), x = 1 ∨ x = 2 ∨ x = 3 ∨ x = 6 := by decide
        exact this _ (List.getElem_mem hr5)
      generalize ([1, 1, 1, 2, 3, 6] : List Int)[r5] = bo at bt
      have bp := bt.pos
      refine ⟨tp, bo, rfl, bp.1, sm6 (by omega), fun t3 ht3 => ?_⟩
      have X35 := X34.trans X5
      have ep5 := X5.at1 np ep4
      have nt3 := hk5.ne ht3
      have n3p : t3 ≠ p := fun z => by rw [z, ep5] at ht3; cases ht3
      have g3 := X35.gh.free ht3
      have X6 := (X.trans X35).fin (o := .tup [.int (norm tp bo).1, .int (norm tp bo).2]) ht3
      have gp6 : upd G' t3 (.tup [.int (norm tp bo).1, .int (norm tp bo).2]) p = none := by rw [upd_ne (Ne.symm n3p)]; exact gp1
      refine ⟨p, ys, _, rfl, rfl, by rw [upd_ne (Ne.symm n3p)]; exact ep5, small1000 (by rw [dpAll_len hy, List.length_map]; simp at hi; omega), some (.int (0 + (i : Nat))), some (.int tp), _, ys ++ [.ref t3], rs ++ [norm tp bo], rfl, X6.wr (.inl hp) gp6, ((hk5.wr nt3).fin g3 nt3).wr np, upd_same, gp6, by rw [List.length_append, hl]; rfl, fun r hr' => ?_, ?_⟩
      · rcases List.mem_append.mp hr' with z | z
        · exact hok r z
        · rw [List.mem_singleton.mp z]
          exact ⟨norm_isRat bp.1, norm_D6 bt, Nat.le_trans (norm_top bp.1) top⟩
      · show DpAll K _ _ ((rs ++ [norm tp bo]).map ratD)
        rw [List.map_append]
        exact dpAll_app (dpAll_mono (same_upd g3) hy) (dpAll_one (dp_of_tup upd_same (dpAll_of_ints [(norm tp bo).1, (norm tp bo).2])))
    · obtain ⟨y3, y4, G', ys, rs, rfl, X, hk1, ep, gp1, hl, hok, hy⟩ := hP
      rw [Int.toNat_natCast] at hl
      exact ⟨.ref p, rfl, q _ _ p rs (X.fz hp ep gp1) (hk1.fin gp1 np) hl hok (dp_of_lst upd_same (dpAll_mono (same_upd gp1) hy))⟩

abbrev s_law_sum : Stmt := topS 49
theorem sc_law_sum : FnScope ["_law_pairs_here", "_law_top", "_law_bottom", "_law_one", "_law_other"] ["_law_pairs_here"] (defScope s_law_sum) := ⟨rfl, rfl, rfl, by decide +kernel, rfl, by decide +kernel, by decide +kernel⟩
def spLSum (K : PySem.W.Frag) : Sp := fun vs H Q _ => ∃ (v : V) (ps : List Rt), vs = [v] ∧ Dp K H v (.list (ratsD ps)) ∧ ps.length ≤ 40 ∧ (∀ p ∈ ps, D6 p.2 ∧ Sm p.1 300) ∧ ∀ p, H p = none → Q (.ref p) (upd H p (.tup [.int (lsum ps).1, .int (lsum ps).2]))
theorem rat_at {G : Hp} {xs : List V} {rs : List Rt} (hx : DpAll K G xs (ratsD rs)) {i : Nat} {x : V} (e : xs[i]? = some x) : ∃ (h : i < rs.length) (a : Addr), x = .ref a ∧ SqT K G a [.int rs[i].1, .int rs[i].2] := by
  have hi : i < rs.length := by
    have := (List.getElem?_eq_some_iff.mp e).1
    rw [dpAll_len hx, List.length_map] at this
    exact this
  obtain ⟨d, hd, hz⟩ := dpAll_at hx e
  rw [List.getElem?_map, List.getElem?_eq_getElem hi] at hd
  have hd : ratD rs[i] = d := Option.some.inj hd
  subst hd
  obtain ⟨a, rfl, hs⟩ := dp_intsT (ns := [rs[i].1, rs[i].2]) hz
  exact ⟨hi, a, rfl, hs⟩
theorem sm_mulW {i j : Int} {a b : Nat} (hi : i.natAbs < 2 ^ a) (hj : j.natAbs < 2 ^ b) (ha : 0 < a) (hb : 0 < b) (h : a + b < 1000000) : CMulW i j := by
  have h1 := PySem.Flt.log2_lt_of ha hi
  have h2 := PySem.Flt.log2_lt_of hb hj
  show _ + _ < _
  omega
theorem ok_law_sum {f : Addr} {fd : FuncData} (F : Fun K "_law_sum" "_law_sum" s_law_sum f fd) (D_law_ratio : Dfn P w K mg base CX0 1 "_law_ratio" ["_law_top", "_law_bottom"] [] spMake) : FnOk P w K mg base CX0 2 f fd ["_law_pairs_here"] (spLSum K) := by
  refine F.ok sc_law_sum (fun vs H Q E h => ?_) (fun cdv A outer s H vs Q E hr h => ?_)
  · obtain ⟨_, _, rfl, _⟩ := h
    rfl
  · obtain ⟨v, ps, rfl, hd, hl, hp, q⟩ := h
    refine ⟨_, (pss_cons (ps_set (i := 1) sc_law_sum.nd rfl (.inl rfl) pe_int)
      (pss_cons (ps_set (i := 2) sc_law_sum.nd rfl (.inl rfl) pe_int)
      (pss_cons (ps_for PassesOwn.never rfl (pi_list (pv 0)) (pg_tup rfl (pgs_cons (pg_name (i := 3) sc_law_sum.nd rfl (.inl rfl)) (pgs_cons (pg_name (i := 4) sc_law_sum.nd rfl (.inl rfl)) pgs_nil)))
        (pss_cons (ps_set (i := 1) sc_law_sum.nd rfl (.inl rfl) (pe_op op_add (pe_op op_mul (pv 1) (pv 4)) (pe_op op_mulW (pv 3) (pv 2))))
        (pss_one (ps_set (i := 2) sc_law_sum.nd rfl (.inl rfl) (pe_op op_mul (pv 2) (pv 4))))))
      (pss_one (ps_ret (pe_dfn D_law_ratio (hr.mono (by decide)) (by rfl) pass0 (pa_cons (pv 1) (pa_cons (pv 2) pa_nil)))))))), ?_⟩
    obtain ⟨a, xs, rfl, hs, hx⟩ := dp_list hd
    have lx : xs.length = ps.length := by rw [dpAll_len hx, List.length_map]
    have hd6 : ∀ p ∈ ps, D6 p.2 := fun p h => (hp p h).1
    refine ⟨.ref a, rfl, a, rfl, ⟨_, hs⟩, ?_⟩
    refine for_it (walk_list (xs := xs)) (fun i σ H' => (∃ y3 y4, σ = [some (.ref a), some (.int (sumN (ps.take i)).1), some (.int (sumN (ps.take i)).2), y3, y4]) ∧ H' = H)
      ⟨⟨none, none, rfl⟩, rfl⟩ (fun i σ H' _ hP => by rw [hP.2]; exact hs) (fun i x σ H' H2 hi hP hY => ?_) (fun σ H' hP => ?_)
    · obtain ⟨⟨y3, y4, rfl⟩, rfl⟩ := hP
      obtain ⟨rfl, ex⟩ := hY
      obtain ⟨hi', b, rfl, hb⟩ := rat_at hx ex
      have hh := hp _ (List.getElem_mem hi')
      have dp := hh.1.pos
      have bt := sumN_bot hd6 i (by omega)
      refine ⟨b, _, rfl, hb, rfl, _, _, rfl, _, _, rfl, rfl, ?_⟩
      refine ⟨_, rfl, _, rfl, _, _, rfl, rfl, .inr (by omega), _, rfl, _, rfl, _, _, rfl, rfl, sm_mulW hh.2 bt.2 (by decide) (by omega) (by omega), _, _, rfl, rfl, _, rfl, _, rfl, _, _, rfl, rfl, .inr (by omega), ?_⟩
      refine ⟨⟨some (.int ps[i].1), some (.int ps[i].2), ?_⟩, rfl⟩
      rw [sumN_take hi']
      rfl
    · obtain ⟨⟨y3, y4, rfl⟩, rfl⟩ := hP
      rw [lx, List.take_of_length_le (Nat.le_refl _)]
      have bt := sumN_bot hd6 ps.length (Nat.le_refl _)
      rw [List.take_of_length_le (Nat.le_refl _)] at bt
      exact ⟨_, rfl, _, rfl, _, _, rfl, bt.1, Nat.lt_of_lt_of_le bt.2 (Nat.pow_le_pow_right (by decide) (by omega)), q⟩
end
end K36
end

section
set_option pp.maxSteps 400
set_option pp.deepTerms false
set_option Elab.async false
set_option linter.all false
set_option maxRecDepth 100000
set_option maxHeartbeats 4000000
/-! K36, the law's own span rows. -/
namespace K36
open PySem PySem.Spec PyProof.Rows L2

/-! ### plain -/
def rowN (M : Mo) (a : Ask) (line : Nat) : Nat → List Int
  | 0 => List.replicate M.many 0
  | i + 1 => if hereOf a.1 (M.cells.getD i (0, 0)) = line then (rowN M a line i).set (M.letters.getD i 0) ((rowN M a line i).getD (M.letters.getD i 0) 0 + a.2.getD (thereOf a.1 (M.cells.getD i (0, 0))) 0) else rowN M a line i
theorem rowN_len (M : Mo) (a : Ask) (line : Nat) : ∀ i, (rowN M a line i).length = M.many
  | 0 => List.length_replicate
  | i + 1 => by
    show (if _ then _ else _ : List Int).length = _
    split
    · rw [List.length_set]; exact rowN_len M a line i
    · exact rowN_len M a line i
theorem spanN_rowN (M : Mo) (a : Ask) (line : Nat) (hl : line < linesOf M a.1) : ∀ i, (spanN M a i)[line]? = some (rowN M a line i)
  | 0 => by
    show (List.replicate _ _)[line]? = _
    rw [List.getElem?_replicate, if_pos hl]
    rfl
  | i + 1 => by
    have ih := spanN_rowN M a line hl i
    have hlt : line < (spanN M a i).length := by rw [spanN_len]; exact hl
    show ((spanN M a i).set (hereOf a.1 (M.cells.getD i (0, 0))) (((spanN M a i).getD (hereOf a.1 (M.cells.getD i (0, 0))) []).set (M.letters.getD i 0)
      (((spanN M a i).getD (hereOf a.1 (M.cells.getD i (0, 0))) []).getD (M.letters.getD i 0) 0 + a.2.getD (thereOf a.1 (M.cells.getD i (0, 0))) 0)))[line]? = some (if _ then _ else _)
    by_cases he : hereOf a.1 (M.cells.getD i (0, 0)) = line
    · rw [if_pos he, he, List.getElem?_set_self hlt]
      have e : (spanN M a i).getD line [] = rowN M a line i := by rw [List.getD_eq_getElem?_getD, ih]; rfl
      rw [e]
    · rw [if_neg he, List.getElem?_set_ne he]
      exact ih
def rowsN (M : Mo) (a : Ask) (n : Nat) : List (List Int) := (List.range n).map fun l => rowN M a l M.cells.length
theorem rowsN_span (M : Mo) (a : Ask) : rowsN M a (linesOf M a.1) = spanAsk M a := by
  apply List.ext_getElem?
  intro i
  unfold rowsN
  rw [List.getElem?_map]
  by_cases hi : i < linesOf M a.1
  · rw [List.getElem?_range hi]
    unfold spanAsk
    rw [spanN_rowN M a i hi]
    rfl
  · rw [List.getElem?_eq_none (by rw [List.length_range]; omega), List.getElem?_eq_none (by unfold spanAsk; rw [spanN_len]; omega)]
    rfl
abbrev rowsL (t : List (List Int)) : List PyData := t.map fun r => PyData.list (intsD r)
/-- «here, there = cells[at] if kind == 'column' else (cells[at][1], cells[at][0])» -/
def PairT (K : PySem.W.Frag) : TS := fun D σ H' => ∃ (c : Bool) (ca cb : Addr) (cxs : List V) (i : Int) (x : Nat × Nat), σ[2]? = some (some (.ref ca)) ∧ σ[7]? = some (some (.str (kindStr c))) ∧ σ[11]? = some (some (.int i)) ∧ SqL K H' ca cxs ∧ atI cxs i = some (.ref cb) ∧
  SqT K H' cb [.int (x.1 : Nat), .int (x.2 : Nat)] ∧ ∀ H8, (H8 = H' ∨ ∃ T o, H' T = none ∧ H8 = upd H' T o) → D.nx ((σ.set 12 (some (.int (hereOf c x : Nat)))).set 13 (some (.int (thereOf c x : Nat)))) H8
section
variable {P : Program} {w : World} {K : PySem.W.Frag} {mg : Str → Option Value} {base : Heap}
abbrev s_law_span : Stmt := topS 48
theorem sc_law_span : FnScope ["_law_height", "_law_width", "_law_cells_here", "_law_letters_here", "_law_book_here", "_law_many_here", "_law_rows", "_law_kind", "_law_numbers", "_law_line", "_law_row", "_law_at", "_law_here", "_law_there"] ["_law_height", "_law_width", "_law_cells_here", "_law_letters_here", "_law_book_here"] (defScope s_law_span) := ⟨rfl, rfl, rfl, by decide +kernel, rfl, by decide +kernel, by decide +kernel⟩
def spLSpan (K : PySem.W.Frag) : Sp := fun vs H Q _ => ∃ (G : Hp) (M : Mo) (cv lv bv : V) (asks : List Ask), vs = [.int (M.h : Nat), .int (M.w : Nat), cv, lv, bv] ∧ Same G H ∧ M.Ok ∧ Dp K G cv (.list (cellsD M.cells)) ∧ Dp K G lv (.list (natsD M.letters)) ∧ Dp K G bv (.list (asks.map askD)) ∧
  asks.length ≤ 8 ∧ (∀ a ∈ asks, a.2.length = sideOf M.h M.w a.1) ∧ ∀ (G' H' : Hp) (p : Addr), Ext M0 G H G' H' → Dp K G' (.ref p) (.list (rowsL (spanRows M asks))) → Q (.ref p) H'
theorem ok_law_span {f : Addr} {fd : FuncData} (F : Fun K "_law_span" "_law_span" s_law_span f fd) (B : Bi mg) (D_law_many : Dfn P w K mg base CX0 1 "_law_many" ["_law_letters_here"] [] (spLMany K)) :
    FnOk P w K mg base CX0 2 f fd ["_law_height", "_law_width", "_law_cells_here", "_law_letters_here", "_law_book_here"] (spLSpan K) := by
  refine F.ok sc_law_span (fun vs H Q E h => ?_) (fun cdv A outer s H vs Q E hr h => ?_)
  · obtain ⟨_, _, _, _, _, _, rfl, _⟩ := h
    rfl
  · obtain ⟨G, M, cv, lv, bv, asks, rfl, gh, ok, hc, hl, hb, h8, hlens, q⟩ := h
    refine ⟨_, (pss_cons (ps_set (i := 5) sc_law_span.nd rfl (.inl rfl) (pe_dfn D_law_many (hr.mono (by decide)) (by rfl) pass0 (pa_cons (pv 3) pa_nil)))
      (pss_cons (ps_set (i := 6) sc_law_span.nd rfl (.inl rfl) (pe_lst pa_nil))
      (pss_cons (ps_for PassesOwn.never rfl (pi_list (pv 4)) (pg_tup rfl (pgs_cons (pg_name (i := 7) sc_law_span.nd rfl (.inl rfl)) (pgs_cons (pg_name (i := 8) sc_law_span.nd rfl (.inl rfl)) pgs_nil)))
        (pss_one (ps_for PassesOwn.never rfl (pi_range1 (by rfl) B.range (pa_cons (pe_ifExp (pt_cmpR op_eq (pv 7) pe_str (nomark _)) (pv 0) (pv 1)) pa_nil)) (pg_name (i := 9) sc_law_span.nd rfl (.inl rfl))
          (pss_cons (ps_set (i := 10) sc_law_span.nd rfl (.inl rfl) (pe_op op_rep (pe_lst (pa_cons pe_int pa_nil)) (pv 5)))
          (pss_cons (ps_for PassesOwn.never rfl (pi_range1 (by rfl) B.range (pa_cons (pe_callB call_len_seq (by rfl) B.len (by decide +kernel) (pa_cons (pv 2) pa_nil)) pa_nil)) (pg_name (i := 11) sc_law_span.nd rfl (.inl rfl))
            (pss_cons (ps_imp (t' := PairT K) (ps_asg (pe_ifExp (pt_cmpR op_eq (pv 7) pe_str (nomark _)) (pe_ix ix_list (pv 2) (pv 11) (fun _ _ => rfl)) (pe_tup (pa_cons (pe_ix ix_tup (pe_ix ix_list (pv 2) (pv 11) (fun _ _ => rfl)) pe_int (fun _ _ => rfl)) (pa_cons (pe_ix ix_tup (pe_ix ix_list (pv 2) (pv 11) (fun _ _ => rfl)) pe_int (fun _ _ => rfl)) pa_nil)))) (pg_tup rfl (pgs_cons (pg_name (i := 12) sc_law_span.nd rfl (.inl rfl)) (pgs_cons (pg_name (i := 13) sc_law_span.nd rfl (.inl rfl)) pgs_nil)))) fun D σ H' hq => by
              obtain ⟨c, ca, cb, cxs, i, x, h2, h7, h11, hl, hi, ht, q⟩ := hq
              refine ⟨_, h7, rfl, _, rfl, ?_⟩
              cases c with
              | true =>
                refine ibT (isCol true) ⟨_, h2, _, h11, ca, cxs, i, _, rfl, rfl, hl, hi, ?_⟩
                exact ⟨cb, _, rfl, ht, rfl, _, _, rfl, _, _, rfl, rfl, q H' (.inl rfl)⟩
              | false =>
                refine ibF (isCol false) ⟨_, h2, _, h11, ca, cxs, i, _, rfl, rfl, hl, hi, cb, _, 1, _, rfl, rfl, ht, atI_nat (j := 1) rfl, _, h2, _, h11, ca, cxs, i, _, rfl, rfl, hl, hi, cb, _, 0, _, rfl, rfl, ht, atI_nat (j := 0) rfl, by show 2 ≤ sizeLine; decide, fun T hT => ?_⟩
                exact ⟨T, _, rfl, .inl (.inl upd_same), rfl, _, _, rfl, _, _, rfl, rfl, q _ (.inr ⟨T, _, hT, rfl⟩)⟩)
            (pss_one (ps_if (pt_cmpR op_eq (pv 12) (pv 9) (nomark _))
              (pss_one (ps_asg (pe_op op_add (pe_ix ix_list (pv 10) (pe_ix ix_list (pv 3) (pv 11) (fun _ _ => rfl)) (fun _ _ => rfl)) (pe_ix ix_tup (pv 8) (pv 13) (fun _ _ => rfl))) (pg_sub (pv 10) (pe_ix ix_list (pv 3) (pv 11) (fun _ _ => rfl)) set_list)))
              pss_nil))))
          (pss_one (ps_expr (pe_bm PySem.F.plainAttrs_list PySem.F.slot_list_append PySem.F.type_list_append mt_append (pv 6) (pa_cons (pv 10) pa_nil)))))))))
      (pss_one (ps_ret (pv 6)))))), ?_⟩
    refine ⟨lv, rfl, lv, M.letters, rfl, dp_mono gh hl, Nat.zero_le _, fun R hR => ?_⟩
    have gR : G R = none := gh.free hR
    obtain ⟨ca, cxs, rfl, hcs, hcx⟩ := dp_list hc
    obtain ⟨la, lxs, rfl, hls, hlx⟩ := dp_list hl
    obtain ⟨ba, xs, rfl, hs, hx⟩ := dp_list hb
    have lc : cxs.length = M.cells.length := by rw [dpAll_len hcx, List.length_map]
    have ll : lxs.length = M.letters.length := by rw [dpAll_len hlx, List.length_map]
    have lx : xs.length = asks.length := by rw [dpAll_len hx, List.length_map]
    have m36 := many_le ok
    have ok6 := ok.h6
    have okw := ok.w6
    have few := ok.few
    have X0 : Ext M0 G H G (upd H R (.lst [])) := (Ext.refl gh).al hR
    refine ⟨.ref ba, rfl, ba, rfl, ⟨_, sql_mono X0.gh hs⟩, ?_⟩
    refine for_it (walk_list (xs := xs)) (fun i σ H' => ∃ y7 y8 y9 y10 y11 y12 y13 G' ys, σ = [some (.int (M.h : Nat)), some (.int (M.w : Nat)), some (.ref ca), some (.ref la), some (.ref ba), some (.int (M.many : Nat)), some (.ref R), y7, y8, y9, y10, y11, y12, y13] ∧ Ext M0 G H G' H' ∧
        H' R = some (.lst ys) ∧ G' R = none ∧ DpAll K G' ys (rowsL (spanRows M (asks.take i))))
      ⟨none, none, none, none, none, none, none, G, [], rfl, X0, upd_same, gR, .nil⟩ (fun i σ H' _ hP => ?_) (fun i x σ H' H2 hi hP hY => ?_) (fun σ H' hP => ?_)
    · obtain ⟨_, _, _, _, _, _, _, G', _, _, X, _⟩ := hP
      exact sql_mono (X.gg.trans X.gh) hs
    · obtain ⟨y7, y8, y9, y10, y11, y12, y13, G', ys, rfl, X, eR, gR', hy⟩ := hP
      obtain ⟨rfl, ex⟩ := hY
      have hia : i < asks.length := by omega
      obtain ⟨a, b, rfl, ha, hb'⟩ := ask_at hx ex hia
      have hal := hlens _ (List.getElem_mem hia)
      have lyR2 := spanRows_len M ok6 okw (asks.take i)
      have ltk : (asks.take i).length ≤ 8 := by rw [List.length_take]; omega
      have lyR : ys.length = (spanRows M (asks.take i)).length := by rw [dpAll_len hy, List.length_map]
      generalize hav : asks[i] = av at ha hb' hal
      obtain ⟨c, ns⟩ := av
      have linesLe : linesOf M c ≤ 6 := by unfold linesOf; split <;> omega
      refine ⟨a, _, rfl, sqt_mono (X.gg.trans X.gh) ha, rfl, _, _, rfl, _, _, rfl, rfl, ?_⟩
      have side : ∀ (b' : Bool) (σ : L2.St) (H' : Hp) (Q2 : VK), b' = c → σ[0]? = some (some (.int (M.h : Nat))) → σ[1]? = some (some (.int (M.w : Nat))) → Q2 (.int (linesOf M c : Nat)) H' → (if b' = true then tVar 0 σ H' Q2 else tVar 1 σ H' Q2) := fun b' σ H' Q2 e e1 e2 q2 => by
        subst e
        cases b' with
        | true => exact iteT ⟨_, e1, q2⟩
        | false => exact iteF ⟨_, e2, q2⟩
      refine ⟨_, rfl, rfl, _, rfl, side _ _ _ _ (isCol c) rfl rfl ⟨_, rfl, by omega, by omega, ?_⟩⟩
      -- the lines
      refine for_it walk_range (fun l σ H' => ∃ y9 y10 y11 y12 y13 G' ys, σ = [some (.int (M.h : Nat)), some (.int (M.w : Nat)), some (.ref ca), some (.ref la), some (.ref ba), some (.int (M.many : Nat)), some (.ref R), some (.str (kindStr c)), some (.ref b), y9, y10, y11, y12, y13] ∧ Ext M0 G H G' H' ∧
          H' R = some (.lst ys) ∧ G' R = none ∧ DpAll K G' ys (rowsL (spanRows M (asks.take i) ++ rowsN M (c, ns) l)))
        ⟨y9, y10, y11, y12, y13, G', ys, rfl, X, eR, gR', by simpa [rowsN] using hy⟩ (fun _ _ _ _ _ => trivial) (fun l x σ H3 H4 hlt hP hY => ?_) (fun σ H3 hP => ?_)
      · obtain ⟨y9, y10, y11, y12, y13, G3, ys3, rfl, X3, eR3, gR3, hy3⟩ := hP
        obtain ⟨eH, rfl⟩ := hY
        subst eH
        have hll : l < linesOf M c := by simpa using hlt
        have lys3 : ys3.length ≤ 60 := by
          rw [dpAll_len hy3, List.length_map, List.length_append]
          unfold rowsN
          rw [List.length_map, List.length_range]
          omega
        -- row = [0] * many
        refine ⟨by show 1 ≤ sizeLine; decide, fun p hp => ?_⟩
        have X4 := X3.al (o := .lst [.int 0]) hp
        refine ⟨_, rfl, p, (M.many : Nat), [.int 0], rfl, rfl, upd_same, by omega, by omega, ?_, fun r hr' => ?_⟩
        · show 1 * ((M.many : Nat) : Int).toNat ≤ sizeLine
          rw [Int.toNat_natCast]
          exact Nat.le_trans (show 1 * M.many ≤ 1000 by omega) (by decide)
        have e : (List.replicate ((M.many : Nat) : Int).toNat [V.int 0]).flatten = List.replicate M.many (.int 0) := by rw [Int.toNat_natCast, rep_flat]
        rw [e]
        have X5 := X4.al (o := .lst (List.replicate M.many (.int 0))) hr'
        have eR4 : upd H4 p (.lst [.int 0]) R = some (.lst ys3) := by rw [upd_ne (ne_of_none eR3 hp)]; exact eR3
        have nrR : r ≠ R := fun z => by rw [z, eR4] at hr'; cases hr'
        have eR5 : upd (upd H4 p (.lst [.int 0])) r (.lst (List.replicate M.many (.int 0))) R = some (.lst ys3) := by rw [upd_ne (Ne.symm nrR)]; exact eR4
        have hr0 : H r = none := X4.free hr'
        have gr : G3 r = none := X4.gh.free hr'
        have e0 : List.replicate M.many (V.int 0) = (rowN M (c, ns) l 0).map V.int := by
          show _ = (List.replicate M.many (0 : Int)).map V.int
          rw [List.map_replicate]
        have gc := X5.gg.trans X5.gh
        refine ⟨.ref ca, rfl, ca, _, rfl, .inl (sql_mono gc hcs), _, rfl, by omega, by omega, ?_⟩
        refine for_it walk_range (fun j σ H' => (∃ y11 y12 y13, σ = [some (.int (M.h : Nat)), some (.int (M.w : Nat)), some (.ref ca), some (.ref la), some (.ref ba), some (.int (M.many : Nat)), some (.ref R), some (.str (kindStr c)), some (.ref b), some (.int (0 + (l : Nat))), some (.ref r), y11, y12, y13]) ∧ Ext M0 G H G3 H' ∧
            H' R = some (.lst ys3) ∧ H' r = some (.lst ((rowN M (c, ns) l j).map V.int)))
          ⟨⟨y11, y12, y13, rfl⟩, X5, eR5, by rw [upd_same, e0]⟩ (fun _ _ _ _ _ => trivial) (fun j x σ H6 H7 hj hP hY => ?_) (fun σ H6 hP => ?_)
        · obtain ⟨⟨y11, y12, y13, rfl⟩, X6, eR6, er6⟩ := hP
          obtain ⟨eH, rfl⟩ := hY
          subst eH
          have hic : j < M.cells.length := by simp at hj; omega
          have hil : j < M.letters.length := by rw [ok.len]; exact hic
          have gc6 := X6.gg.trans X6.gh
          obtain ⟨z1, ez1, hz1⟩ := dpAll_get hcx (i := j) (d := cellD M.cells[j]) (by rw [List.getElem?_map, List.getElem?_eq_getElem hic]; rfl)
          obtain ⟨z2, ez2, hz2⟩ := dpAll_get hlx (i := j) (d := natD M.letters[j]) (by rw [List.getElem?_map, List.getElem?_eq_getElem hil]; rfl)
          obtain rfl := dp_int hz2
          obtain ⟨cb, rfl, hsb⟩ := dp_intsT (ns := [(M.cells[j].1 : Int), (M.cells[j].2 : Int)]) hz1
          have ij : atI cxs ((0 : Int) + (j : Nat)) = some (.ref cb) := by rw [Int.zero_add]; exact atI_nat ez1
          have il : atI lxs ((0 : Int) + (j : Nat)) = some (.int (M.letters[j] : Nat)) := by rw [Int.zero_add]; exact atI_nat ez2
          have hin := ok.inn _ (List.getElem_mem hic)
          have hthere : thereOf c M.cells[j] < ns.length := by
            have e : ns.length = sideOf M.h M.w c := hal
            rw [e]
            cases c with
            | true => exact hin.2
            | false => exact hin.1
          have hlm := mem_lt_many hil
          have hrl : (rowN M (c, ns) l j).length = M.many := rowN_len M (c, ns) l j
          refine ⟨c, ca, cb, cxs, _, M.cells[j], rfl, rfl, rfl, sql_mono gc6 hcs, ij, sqt_mono gc6 hsb, fun H8 h8 => ?_⟩
          have X8 : Ext M0 G H G3 H8 ∧ H8 R = some (.lst ys3) ∧ H8 r = some (.lst ((rowN M (c, ns) l j).map V.int)) := by
            rcases h8 with rfl | ⟨T, o, hT, rfl⟩
            · exact ⟨X6, eR6, er6⟩
            · exact ⟨X6.al hT, by rw [upd_ne (ne_of_none eR6 hT)]; exact eR6, by rw [upd_ne (ne_of_none er6 hT)]; exact er6⟩
          obtain ⟨X8, eR8, er8⟩ := X8
          have gc8 := X8.gg.trans X8.gh
          have rowS : rowN M (c, ns) l (j + 1) = if hereOf c M.cells[j] = l then (rowN M (c, ns) l j).set M.letters[j] ((rowN M (c, ns) l j)[M.letters[j]]'(by omega) + ns[thereOf c M.cells[j]]) else rowN M (c, ns) l j := by
            show (if hereOf c (M.cells.getD j (0, 0)) = l then _ else _) = _
            rw [getD_of hic, getD_of hil, getD_of (show M.letters[j] < (rowN M (c, ns) l j).length by omega), getD_of hthere]
          refine ⟨_, rfl, _, rfl, rfl, _, rfl, ?_⟩
          by_cases hh : hereOf c M.cells[j] = l
          · rw [if_pos hh] at rowS
            refine ibT ?_ ?_
            · rw [hh, Int.zero_add]
              exact decide_eq_true rfl
            · refine ⟨_, rfl, _, rfl, _, rfl, la, lxs, _, _, rfl, rfl, sql_mono gc8 hls, il, r, _, (M.letters[j] : Nat), .int ((rowN M (c, ns) l j)[M.letters[j]]'(by omega)), rfl, rfl, .inl (.inl er8), atI_nat (pick (by omega)), ?_⟩
              refine ⟨_, rfl, _, rfl, b, _, (thereOf c M.cells[j] : Nat), .int ns[thereOf c M.cells[j]], rfl, rfl, sqt_mono gc8 hb', atI_nat (pick hthere), _, _, rfl, rfl, ?_⟩
              refine ⟨_, rfl, _, rfl, _, rfl, la, lxs, _, _, rfl, rfl, sql_mono gc8 hls, il, r, _, (M.letters[j] : Nat), M.letters[j], rfl, rfl, er8, ?_, ?_⟩
              · rw [List.length_map, hrl]
                exact ixN_n hlm
              · refine ⟨⟨_, _, _, rfl⟩, X8.wr (.inl hr0) gr, by rw [upd_ne (Ne.symm nrR)]; exact eR8, ?_⟩
                rw [upd_same, rowS, List.map_set]
          · rw [if_neg hh] at rowS
            refine ibF ?_ ⟨⟨_, _, _, rfl⟩, X8, eR8, by rw [rowS]; exact er8⟩
            rw [decide_eq_false]
            intro z
            have := V.int.inj z
            omega
        · obtain ⟨⟨y11, y12, y13, rfl⟩, X6, eR6, er6⟩ := hP
          rw [Int.toNat_natCast, lc] at er6
          have X7 := X6.fz hr0 er6 gr
          have gR7 : upd G3 r (.lst ((rowN M (c, ns) l M.cells.length).map V.int)) R = none := by rw [upd_ne (Ne.symm nrR)]; exact gR3
          refine ⟨.ref R, rfl, .inl ⟨rfl, _, .inl (.inl eR6)⟩, _, rfl, R, ys3, _, rfl, rfl, eR6, small1000 (by omega), ?_⟩
          refine ⟨_, _, _, _, _, _, ys3 ++ [.ref r], rfl, X7.wr (.inl hR) gR7, upd_same, gR7, ?_⟩
          have e2 : rowsL (spanRows M (asks.take i) ++ rowsN M (c, ns) (l + 1)) = rowsL (spanRows M (asks.take i) ++ rowsN M (c, ns) l) ++ [.list (intsD (rowN M (c, ns) l M.cells.length))] := by
            unfold rowsN
            rw [range_snoc]
            simp [rowsL]
          rw [e2]
          exact dpAll_app (dpAll_mono (same_upd gr) hy3) (dpAll_one (dp_of_lst upd_same (dpAll_of_ints _)))
      · obtain ⟨y9, y10, y11, y12, y13, G3, ys3, rfl, X3, eR3, gR3, hy3⟩ := hP
        refine ⟨_, _, _, _, _, _, _, G3, ys3, rfl, X3, eR3, gR3, ?_⟩
        rw [spanRows_take hia, hav, ← rowsN_span]
        rw [Int.toNat_natCast] at hy3
        exact hy3
    · obtain ⟨y7, y8, y9, y10, y11, y12, y13, G', ys, rfl, X, eR, gR', hy⟩ := hP
      rw [lx, List.take_of_length_le (Nat.le_refl _)] at hy
      exact ⟨.ref R, rfl, q _ _ R (X.fz hR eR gR') (dp_of_lst upd_same (dpAll_mono (same_upd gR') hy))⟩
end
end K36
end

section
set_option pp.maxSteps 400
set_option pp.deepTerms false
set_option Elab.async false
set_option linter.all false
set_option maxRecDepth 100000
set_option maxHeartbeats 4000000
/-! K36, the law's answers and products. -/
namespace K36
open PySem PySem.Spec PyProof.Rows L2

def pairN (row : List Int) (rs : List Rt) : List Rt := List.zipWith (fun o r => (o * r.1, r.2)) row rs
def lansN (rs : List Rt) (row : List Int) : Rt := lsum (pairN row rs)
theorem zipWith_take {α β γ : Type} (f : α → β → γ) {xs : List α} {ys : List β} {i : Nat} (hx : i < xs.length) (hy : i < ys.length) : List.zipWith f (xs.take (i + 1)) (ys.take (i + 1)) = List.zipWith f (xs.take i) (ys.take i) ++ [f xs[i] ys[i]] := by
  rw [List.take_add_one, List.take_add_one, List.getElem?_eq_getElem hx, List.getElem?_eq_getElem hy, Option.toList_some, Option.toList_some]
  rw [List.zipWith_append (by rw [List.length_take, List.length_take]; omega)]
  rfl
/-- the entry of the table that stands against number j of line l -/
def entry (t : List (List Rt)) (c : Bool) (l j : Nat) : Rt := if c = true then (t.getD l []).getD j (0, 1) else (t.getD j []).getD l (0, 1)
def prodPairs (t : List (List Rt)) (c : Bool) (ns : List Int) (l n : Nat) : List Rt := (List.range n).map fun j => ((entry t c l j).1 * ns.getD j 0, (entry t c l j).2)
def prodsN (t : List (List Rt)) (M : Mo) (a : Ask) (n : Nat) : List Rt := (List.range n).map fun l => lsum (prodPairs t a.1 a.2 l (sideOf M.h M.w a.1))
def productsN (t : List (List Rt)) (M : Mo) (asks : List Ask) : List Rt := (asks.map fun a => prodsN t M a (linesOf M a.1)).flatten
abbrev rowsLR (t : List (List Rt)) : List PyData := t.map fun r => PyData.list (ratsD r)
section
variable {P : Program} {w : World} {K : PySem.W.Frag} {mg : Str → Option Value} {base : Heap}
abbrev s_law_answers : Stmt := topS 50
abbrev N_law_answers : List Str := ["_law_rows", "_law_numbers", "_law_row", "_law_often", "_law_number_here"]
theorem sc_law_answers : FnScope ["_law_rows", "_law_numbers", "_law_row", "_law_often", "_law_number_here"] ["_law_rows", "_law_numbers"] (defScope s_law_answers) := ⟨rfl, rfl, rfl, by decide +kernel, rfl, by decide +kernel, by decide +kernel⟩
theorem blk_lanswers2 : BlkOk N_law_answers { kind := .function, names := [(".0", .local), ("_law_row", .local), ("_law_sum", .globalImplicit), ("zip", .globalImplicit), ("_law_numbers", .cell)], isGenerator := false, isCoroutine := false }
    { kind := .function, names := [(".0", .local), ("_law_often", .local), ("_law_number_here", .local)], isGenerator := false, isCoroutine := false } [("_law_often", 3), ("_law_number_here", 4)] := blkOk_by (by decide +kernel)
def spLAnswers (K : PySem.W.Frag) : Sp := fun vs H Q _ => ∃ (G : Hp) (rv nv : V) (rows : List (List Int)) (rs : List Rt), vs = [rv, nv] ∧ Same G H ∧ Dp K G rv (.list (rowsL rows)) ∧ Dp K G nv (.list (ratsD rs)) ∧ rows.length ≤ 100 ∧ rs.length ≤ 36 ∧ (∀ r ∈ rs, D6 r.2 ∧ Sm r.1 100) ∧
  (∀ row ∈ rows, row.length = rs.length ∧ ∀ x ∈ row, -(2 ^ 63) < x ∧ x < 2 ^ 63) ∧ ∀ (G' H' : Hp) (p : Addr), Ext M0 G H G' H' → Dp K G' (.ref p) (.tuple (ratsD (rows.map (lansN rs)))) → Q (.ref p) H'
theorem sm_mul {i j : Int} (hi : -(2 ^ 63) < i ∧ i < 2 ^ 63) (hj : Sm j 100) : Sm (i * j) 300 := by
  have h1 : i.natAbs < 2 ^ 63 := by omega
  have := wide_lt h1 hj
  exact Nat.lt_of_lt_of_le this (Nat.pow_le_pow_right (by decide) (by decide))
theorem ok_law_answers {f : Addr} {fd : FuncData} (F : Fun K "_law_answers" "_law_answers" s_law_answers f fd) (B : Bi mg) (D_law_sum : Dfn P w K mg base CX0 2 "_law_sum" ["_law_pairs_here"] [] (spLSum K)) :
    FnOk P w K mg base CX0 3 f fd ["_law_rows", "_law_numbers"] (spLAnswers K) := by
  refine F.ok sc_law_answers (fun vs H Q E h => ?_) (fun cdv A outer s H vs Q E hr h => ?_)
  · obtain ⟨_, _, _, _, _, rfl, _⟩ := h
    rfl
  · obtain ⟨G, rv, nv, rows, rs, rfl, gh, hrd, hnd, hrl, hsl, hrs, hrow, q⟩ := h
    refine ⟨_, (pss_one (ps_ret (pe_callTy call_tuple_of (by rfl) B.tuple (by decide +kernel) (pa_cons (pe_lc (own := [("_law_row", 2)]) (g := gName 2) (tt := tYes)
      (te := tCall (spLSum K) [] E0 (tCons (tLc (RZ.iZipA K (tCons (tVar 2) (tCons (tVar 1) tNil))) (gTup K 2 (gCons (gName 3) (gCons (gName 4) gNil))) tYes (tTup (tCons (tOp (rI CMul fun i j => .int (i * j)) (tVar 3) (tOp (rIxT K) (tVar 4) (tC (.int 0)))) (tCons (tOp (rIxT K) (tVar 4) (tC (.int 1))) tNil))) [3, 4]) tNil))
      rfl sc_law_answers.nd (pi_list (pv 0)) (blkOk_by (own := [("_law_row", 2)]) (N := N_law_answers) (sc := defScope s_law_answers) (by decide +kernel)) (fun _ _ _ _ _ => (pg_name (i := 2) sc_law_answers.nd rfl (.inl rfl))) (fun _ _ _ _ _ => pts_nil)
      (fun _ _ _ _ _ => (pe_dfn D_law_sum (hr.mono (by decide)) (by rfl) pass0 (pa_cons (pe_lc (own := [("_law_often", 3), ("_law_number_here", 4)]) (g := gTup K 2 (gCons (gName 3) (gCons (gName 4) (gNil)))) (tt := tYes)
        (te := tTup (tCons (tOp (rI CMul fun i j => .int (i * j)) (tVar 3) (tOp (rIxT K) (tVar 4) (tC (.int 0)))) (tCons (tOp (rIxT K) (tVar 4) (tC (.int 1))) tNil)))
        rfl sc_law_answers.nd (RZ.pi_zipA (by rfl) B.zip (pa_cons (pv 2) (pa_cons (pv 1) pa_nil))) blk_lanswers2 (fun _ _ _ _ _ => (pg_tup rfl (pgs_cons (pg_name (i := 3) sc_law_answers.nd rfl (.inl rfl)) (pgs_cons (pg_name (i := 4) sc_law_answers.nd rfl (.inl rfl)) pgs_nil)))) (fun _ _ _ _ _ => pts_nil) (fun _ _ _ _ _ => (pe_tup (pa_cons (pe_op op_mul (pv 3) (pe_ix ix_tup (pv 4) pe_int (fun _ _ => rfl))) (pa_cons (pe_ix ix_tup (pv 4) pe_int (fun _ _ => rfl)) pa_nil))))) pa_nil)))) pa_nil)))), ?_⟩
    obtain ⟨ra, xs, rfl, hs, hx⟩ := dp_list hrd
    obtain ⟨na, zs, rfl, hz, hzx⟩ := dp_list hnd
    have lx : xs.length = rows.length := by rw [dpAll_len hx, List.length_map]
    have lz : zs.length = rs.length := by rw [dpAll_len hzx, List.length_map]
    refine ⟨.ref ra, rfl, ra, rfl, ⟨_, sql_mono gh hs⟩, fun p hp => ?_⟩
    have gp : G p = none := gh.free hp
    refine lc_it (walk_list (xs := xs)) (fun n H' => ∃ G' ys, Ext M0 G H G' H' ∧ H' p = some (.lst ys) ∧ G' p = none ∧ ys.length = n ∧ DpAll K G' ys (ratsD ((rows.take n).map (lansN rs))))
      ⟨G, [], (Ext.refl gh).al hp, upd_same, gp, rfl, .nil⟩ (fun i H' _ hP => ?_) (fun n x H2 H3 hn hP hY => ?_) (fun H2 hP => ?_)
    · obtain ⟨G', _, X, _⟩ := hP
      exact sql_mono (X.gg.trans X.gh) hs
    · obtain ⟨G', ys, X, ep, gp', hly, hy⟩ := hP
      obtain ⟨rfl, ex⟩ := hY
      have hnr : n < rows.length := by rw [← lx]; exact hn
      obtain ⟨d0, hdi, hdz⟩ := dpAll_at hx ex
      rw [List.getElem?_map, List.getElem?_eq_getElem hnr] at hdi
      have hdi : PyData.list (intsD rows[n]) = d0 := Option.some.inj hdi
      subst hdi
      obtain ⟨rowa, rfl, hrowS⟩ := dp_ints hdz
      obtain ⟨lrow, brow⟩ := hrow _ (List.getElem_mem hnr)
      generalize hrown : rows[n] = row at hrowS lrow brow
      have gc := X.gg.trans X.gh
      refine ⟨rfl, yesT ⟨.ref rowa, rfl, .ref na, rfl, rowa, na, _, _, rfl, .inl ⟨sql_mono gc hrowS, sql_mono gc hz, fun Z hZ => ?_⟩⟩⟩
      have nZp : Z ≠ p := fun z => by rw [z, ep] at hZ; cases hZ
      refine lc_it (walk_zip (xs := row.map V.int) (ys := zs) (n := row.length) (by rw [List.length_map]; omega))
        (fun m H' => ∃ G5 ws, Ext M0 G H G5 H' ∧ Same G' G5 ∧ G5 p = none ∧ G5 Z = none ∧ H' p = some (.lst ys) ∧ H' Z = some (.lst ws) ∧ ws.length = m ∧ DpAll K G5 ws (ratsD (pairN (row.take m) (rs.take m))))
        ⟨G', [], X.al hZ, Same.refl _, gp', X.gh.free hZ, by rw [upd_ne (Ne.symm nZp)]; exact ep, upd_same, rfl, .nil⟩ (fun m H' _ hP => ?_) (fun m x H5 H6 hm hP hY => ?_) (fun H5 hP => ?_)
      · obtain ⟨G5, _, X5, _⟩ := hP
        exact ⟨sql_mono (X5.gg.trans X5.gh) hrowS, sql_mono (X5.gg.trans X5.gh) hz⟩
      · obtain ⟨G5, ws, X5, sg, gp5, gZ5, ep5, eZ5, hlw, hw⟩ := hP
        obtain ⟨T, z1, z2, rfl, nT, rfl, e1, e2⟩ := hY
        have hmr : m < row.length := hm
        have e1 : (row.map V.int)[m]? = some z1 := e1
        have e2 : zs[m]? = some z2 := e2
        rw [List.getElem?_map, List.getElem?_eq_getElem hmr] at e1
        obtain rfl : V.int row[m] = z1 := Option.some.inj e1
        obtain ⟨hmrs, b, rfl, hb⟩ := rat_at hzx e2
        have X6 := X5.al (o := .tup [.int row[m], .ref b]) nT
        have nTZ : T ≠ Z := fun z => by rw [z, eZ5] at nT; cases nT
        have nTp : T ≠ p := fun z => by rw [z, ep5] at nT; cases nT
        have eZ6 : upd H5 T (.tup [.int row[m], .ref b]) Z = some (.lst ws) := by rw [upd_ne (Ne.symm nTZ)]; exact eZ5
        have ep6 : upd H5 T (.tup [.int row[m], .ref b]) p = some (.lst ys) := by rw [upd_ne (Ne.symm nTp)]; exact ep5
        have hb6 := sqt_mono (X6.gg.trans X6.gh) hb
        have bm := brow _ (List.getElem_mem hmr)
        refine ⟨T, _, rfl, .inl (.inl upd_same), rfl, _, _, rfl, _, _, rfl, rfl, rfl, yesT ?_⟩
        refine ⟨_, rfl, .ref b, rfl, b, _, 0, _, rfl, rfl, hb6, atI_nat (j := 0) rfl, _, _, rfl, rfl, .inl (by omega), .ref b, rfl, b, _, 1, _, rfl, rfl, hb6, atI_nat (j := 1) rfl, by show 2 ≤ sizeLine; decide, fun t ht => ?_⟩
        have X7 := X6.fin (o := .tup [.int (row[m] * rs[m].1), .int rs[m].2]) ht
        have ntZ : t ≠ Z := fun z => by rw [z, eZ6] at ht; cases ht
        have ntp : t ≠ p := fun z => by rw [z, ep6] at ht; cases ht
        have gZ7 : upd G5 t (.tup [.int (row[m] * rs[m].1), .int rs[m].2]) Z = none := by rw [upd_ne (Ne.symm ntZ)]; exact gZ5
        have gt := X6.gh.free ht
        refine ⟨ws, by rw [upd_ne (Ne.symm ntZ)]; exact eZ6, Nat.lt_of_lt_of_le (show ws.length < 1000 by omega) (by decide), _, ws ++ [.ref t], X7.wr (.inl (X.free hZ)) gZ7, sg.trans (same_upd gt), by rw [upd_ne (Ne.symm ntp)]; exact gp5, gZ7, ?_, upd_same, by rw [List.length_append, hlw]; rfl, ?_⟩
        · rw [upd_ne (Ne.symm nZp), upd_ne (Ne.symm ntp)]
          exact ep6
        · have e : ratsD (pairN (row.take (m + 1)) (rs.take (m + 1))) = ratsD (pairN (row.take m) (rs.take m)) ++ [ratD (row[m] * rs[m].1, rs[m].2)] := by
            unfold pairN
            rw [zipWith_take _ hmr hmrs]
            simp [ratsD]
          rw [e]
          exact dpAll_app (dpAll_mono (same_upd gt) hw) (dpAll_one (dp_of_tup upd_same (dpAll_of_ints [row[m] * rs[m].1, rs[m].2])))
      · obtain ⟨G5, ws, X5, sg, gp5, gZ5, ep5, eZ5, hlw, hw⟩ := hP
        rw [List.take_of_length_le (Nat.le_refl _), List.take_of_length_le (by omega)] at hw
        refine ⟨.ref Z, pairN row rs, rfl, .lst (.inl (.inl eZ5)) (dpAll_mono X5.gh hw), ?_, fun pr hpr => ?_, fun t ht => ?_⟩
        · unfold pairN
          rw [List.length_zipWith]
          omega
        · unfold pairN at hpr
          obtain ⟨i, hi, rfl⟩ := List.getElem_of_mem hpr
          rw [List.length_zipWith] at hi
          rw [List.getElem_zipWith]
          have h1 := hrs _ (List.getElem_mem (show i < rs.length by omega))
          exact ⟨h1.1, sm_mul (brow _ (List.getElem_mem (show i < row.length by omega))) h1.2⟩
        · have X6 := X5.fin (o := .tup [.int (lsum (pairN row rs)).1, .int (lsum (pairN row rs)).2]) ht
          have ntp : t ≠ p := fun z => by rw [z, ep5] at ht; cases ht
          have gt := X5.gh.free ht
          have gp6 : upd G5 t (.tup [.int (lsum (pairN row rs)).1, .int (lsum (pairN row rs)).2]) p = none := by rw [upd_ne (Ne.symm ntp)]; exact gp5
          refine ⟨ys, by rw [upd_ne (Ne.symm ntp)]; exact ep5, Nat.lt_of_lt_of_le (show ys.length < 1000 by omega) (by decide), _, ys ++ [.ref t], X6.wr (.inl hp) gp6, upd_same, gp6, by rw [List.length_append, hly]; rfl, ?_⟩
          rw [List.take_add_one, List.getElem?_eq_getElem hnr, Option.toList_some, List.map_append]
          simp only [ratsD, List.map_append, List.map_cons, List.map_nil, hrown]
          exact dpAll_app (dpAll_mono (sg.trans (same_upd gt)) hy) (dpAll_one (dp_of_tup upd_same (dpAll_of_ints [(lansN rs row).1, (lansN rs row).2])))
    · obtain ⟨G', ys, X, ep, gp', hly, hy⟩ := hP
      rw [lx, List.take_of_length_le (Nat.le_refl _)] at hy
      refine ⟨p, ys, rfl, .inl ⟨.inl (.inl ep), fun t ht => ?_⟩⟩
      exact q _ _ t (X.fin ht) (dp_of_tup upd_same (dpAll_mono (same_upd (X.gh.free ht)) hy))
end
end K36
end

section
set_option pp.maxSteps 400
set_option pp.deepTerms false
set_option Elab.async false
set_option linter.all false
set_option maxRecDepth 100000
set_option maxHeartbeats 4000000
/-! K36, the law's products of a table and a book. -/
namespace K36
open PySem PySem.Spec PyProof.Rows L2

theorem prodPairs_len (t : List (List Rt)) (c : Bool) (ns : List Int) (l n : Nat) : (prodPairs t c ns l n).length = n := by unfold prodPairs; rw [List.length_map, List.length_range]
theorem productsN_take {t : List (List Rt)} {M : Mo} {asks : List Ask} {i : Nat} (h : i < asks.length) : productsN t M (asks.take (i + 1)) = productsN t M (asks.take i) ++ prodsN t M asks[i] (linesOf M asks[i].1) := by
  unfold productsN
  rw [List.take_add_one, List.getElem?_eq_getElem h, Option.toList_some, List.map_append, List.flatten_append]
  simp
theorem prodsN_len (t : List (List Rt)) (M : Mo) (a : Ask) (n : Nat) : (prodsN t M a n).length = n := by unfold prodsN; rw [List.length_map, List.length_range]
theorem productsN_len (t : List (List Rt)) (M : Mo) (hb : M.h ≤ 6) (wb : M.w ≤ 6) : ∀ asks : List Ask, (productsN t M asks).length ≤ 6 * asks.length
  | [] => Nat.zero_le _
  | a :: as => by
    have ih := productsN_len t M hb wb as
    have e : productsN t M (a :: as) = prodsN t M a (linesOf M a.1) ++ productsN t M as := rfl
    rw [e, List.length_append, List.length_cons, prodsN_len]
    have e3 : linesOf M a.1 ≤ 6 := by unfold linesOf; split <;> omega
    omega
/-- a table as it stands -/
structure TabOk (t : List (List Rt)) (M : Mo) : Prop where
  len : t.length = M.h
  row : ∀ r ∈ t, r.length = M.w
  rat : ∀ r ∈ t, ∀ x ∈ r, D6 x.2 ∧ Sm x.1 100
theorem TabOk.at_ {t : List (List Rt)} {M : Mo} (T : TabOk t M) {i j : Nat} (hi : i < M.h) (hj : j < M.w) : ∃ (h1 : i < t.length) (h2 : j < t[i].length), (t.getD i []).getD j (0, 1) = t[i][j] ∧ D6 t[i][j].2 ∧ Sm t[i][j].1 100 := by
  have h1 : i < t.length := by rw [T.len]; exact hi
  have h2 : j < t[i].length := by rw [T.row _ (List.getElem_mem h1)]; exact hj
  refine ⟨h1, h2, ?_, T.rat _ (List.getElem_mem h1) _ (List.getElem_mem h2)⟩
  rw [getD_of h1, getD_of h2]
/-- an entry, read -/
theorem tab_at {K : PySem.W.Frag} {G : Hp} {t : List (List Rt)} {xs : List V} (hx : DpAll K G xs (rowsLR t)) {i j : Nat} (h1 : i < t.length) (h2 : j < t[i].length) :
    ∃ (a : Addr) (ys : List V) (b : Addr), xs[i]? = some (.ref a) ∧ SqL K G a ys ∧ ys[j]? = some (.ref b) ∧ SqT K G b [.int t[i][j].1, .int t[i][j].2] := by
  obtain ⟨z, ez, hz⟩ := dpAll_get hx (i := i) (d := .list (ratsD t[i])) (by rw [List.getElem?_map, List.getElem?_eq_getElem h1]; rfl)
  obtain ⟨a, ys, rfl, hs, hy⟩ := dp_list hz
  obtain ⟨z2, ez2, hz2⟩ := dpAll_get hy (i := j) (d := ratD t[i][j]) (by rw [List.getElem?_map, List.getElem?_eq_getElem h2]; rfl)
  obtain ⟨b, rfl, hb⟩ := dp_intsT (ns := [t[i][j].1, t[i][j].2]) hz2
  exact ⟨a, ys, b, ez, hs, ez2, hb⟩
theorem at0 {xs : List V} {n : Nat} {v : V} (h : xs[n]? = some v) : atI xs ((0 : Int) + (n : Nat)) = some v := by rw [Int.zero_add]; exact atI_nat h
theorem sm_mul9 {i j : Int} (hj : -10 ^ 9 ≤ j ∧ j ≤ 10 ^ 9) (hi : Sm i 100) : Sm (i * j) 300 := by
  have h1 : j.natAbs < 2 ^ 63 := by omega
  have := wide_lt hi h1
  exact Nat.lt_of_lt_of_le this (Nat.pow_le_pow_right (by decide) (by decide))
section
variable {P : Program} {w : World} {K : PySem.W.Frag} {mg : Str → Option Value} {base : Heap}
abbrev s_law_products : Stmt := topS 63
abbrev N_law_products : List Str := ["_law_table", "_law_height", "_law_width", "_law_book_here", "_law_told", "_law_kind", "_law_numbers", "_law_row", "_law_column", "_law_at"]
theorem sc_law_products : FnScope ["_law_table", "_law_height", "_law_width", "_law_book_here", "_law_told", "_law_kind", "_law_numbers", "_law_row", "_law_column", "_law_at"] ["_law_table", "_law_height", "_law_width", "_law_book_here"] (defScope s_law_products) := ⟨rfl, rfl, rfl, by decide +kernel, rfl, by decide +kernel, by decide +kernel⟩
def spLProducts (K : PySem.W.Frag) : Sp := fun vs H Q _ => ∃ (G : Hp) (M : Mo) (tv bv : V) (t : List (List Rt)) (asks : List Ask), vs = [tv, .int (M.h : Nat), .int (M.w : Nat), bv] ∧ Same G H ∧ M.h ≤ 6 ∧ M.w ≤ 6 ∧ Dp K G tv (.list (rowsLR t)) ∧ TabOk t M ∧ Dp K G bv (.list (asks.map askD)) ∧
  asks.length ≤ 8 ∧ (∀ a ∈ asks, AskOk M.h M.w a) ∧ ∀ (G' H' : Hp) (p : Addr), Ext M0 G H G' H' → Dp K G' (.ref p) (.tuple (ratsD (productsN t M asks))) → Q (.ref p) H'
abbrev teT (K : PySem.W.Frag) : TE := tTup (tCons (tOp (rI CMul fun i j => .int (i * j)) (tOp (rIxT K) (tOp (rIxL K) (tOp (rIxL K) (tVar 0) (tVar 7)) (tVar 9)) (tC (.int 0))) (tOp (rIxT K) (tVar 6) (tVar 9))) (tCons (tOp (rIxT K) (tOp (rIxL K) (tOp (rIxL K) (tVar 0) (tVar 7)) (tVar 9)) (tC (.int 1))) tNil))
abbrev teF (K : PySem.W.Frag) : TE := tTup (tCons (tOp (rI CMul fun i j => .int (i * j)) (tOp (rIxT K) (tOp (rIxL K) (tOp (rIxL K) (tVar 0) (tVar 9)) (tVar 8)) (tC (.int 0))) (tOp (rIxT K) (tVar 6) (tVar 9))) (tCons (tOp (rIxT K) (tOp (rIxL K) (tOp (rIxL K) (tVar 0) (tVar 9)) (tVar 8)) (tC (.int 1))) tNil))
theorem ok_law_products {f : Addr} {fd : FuncData} (F : Fun K "_law_products" "_law_products" s_law_products f fd) (B : Bi mg) (D_law_sum : Dfn P w K mg base CX0 2 "_law_sum" ["_law_pairs_here"] [] (spLSum K)) :
    FnOk P w K mg base CX0 3 f fd ["_law_table", "_law_height", "_law_width", "_law_book_here"] (spLProducts K) := by
  refine F.ok sc_law_products (fun vs H Q E h => ?_) (fun cdv A outer s H vs Q E hr h => ?_)
  · obtain ⟨_, _, _, _, _, _, rfl, _⟩ := h
    rfl
  · obtain ⟨G, M, tv, bv, t, asks, rfl, gh, hh, hw, htd, tok, hbd, h8, hasks, q⟩ := h
    refine ⟨_, (pss_cons (ps_set (i := 4) sc_law_products.nd rfl (.inl rfl) (pe_lst pa_nil))
      (pss_cons (ps_for PassesOwn.never rfl (pi_list (pv 3)) (pg_tup rfl (pgs_cons (pg_name (i := 5) sc_law_products.nd rfl (.inl rfl)) (pgs_cons (pg_name (i := 6) sc_law_products.nd rfl (.inr rfl)) pgs_nil)))
        (pss_one (ps_if (pt_cmpR op_eq (pv 5) pe_str (nomark _))
          (pss_one (ps_for PassesOwn.never rfl (pi_range1 (by rfl) B.range (pa_cons (pv 1) pa_nil)) (pg_name (i := 7) sc_law_products.nd rfl (.inr rfl))
            (pss_one (ps_expr (pe_bm PySem.F.plainAttrs_list PySem.F.slot_list_append PySem.F.type_list_append mt_append (pv 4) (pa_cons (pe_dfn D_law_sum (hr.mono (by decide)) (by rfl) pass0 (pa_cons (pe_lc (own := [("_law_at", 9)]) (g := gName 9) (tt := tYes) (te := teT K) rfl sc_law_products.nd (pi_range1 (by rfl) B.range (pa_cons (pv 2) pa_nil)) (blkOk_by (own := [("_law_at", 9)]) (N := N_law_products) (sc := defScope s_law_products) (by decide +kernel)) (fun _ _ _ _ _ => (pg_name (i := 9) sc_law_products.nd rfl (.inl rfl))) (fun _ _ _ _ _ => pts_nil) (fun _ _ _ _ _ => (pe_tup (pa_cons (pe_op op_mul (pe_ix ix_tup (pe_ix ix_list (pe_ix ix_list (pv 0) (pv 7) (fun _ _ => rfl)) (pv 9) (fun _ _ => rfl)) pe_int (fun _ _ => rfl)) (pe_ix ix_tup (pv 6) (pv 9) (fun _ _ => rfl))) (pa_cons (pe_ix ix_tup (pe_ix ix_list (pe_ix ix_list (pv 0) (pv 7) (fun _ _ => rfl)) (pv 9) (fun _ _ => rfl)) pe_int (fun _ _ => rfl)) pa_nil))))) pa_nil)) pa_nil))))))
          (pss_one (ps_for PassesOwn.never rfl (pi_range1 (by rfl) B.range (pa_cons (pv 2) pa_nil)) (pg_name (i := 8) sc_law_products.nd rfl (.inr rfl))
            (pss_one (ps_expr (pe_bm PySem.F.plainAttrs_list PySem.F.slot_list_append PySem.F.type_list_append mt_append (pv 4) (pa_cons (pe_dfn D_law_sum (hr.mono (by decide)) (by rfl) pass0 (pa_cons (pe_lc (own := [("_law_at", 9)]) (g := gName 9) (tt := tYes) (te := teF K) rfl sc_law_products.nd (pi_range1 (by rfl) B.range (pa_cons (pv 1) pa_nil)) (blkOk_by (own := [("_law_at", 9)]) (N := N_law_products) (sc := defScope s_law_products) (by decide +kernel)) (fun _ _ _ _ _ => (pg_name (i := 9) sc_law_products.nd rfl (.inl rfl))) (fun _ _ _ _ _ => pts_nil) (fun _ _ _ _ _ => (pe_tup (pa_cons (pe_op op_mul (pe_ix ix_tup (pe_ix ix_list (pe_ix ix_list (pv 0) (pv 9) (fun _ _ => rfl)) (pv 8) (fun _ _ => rfl)) pe_int (fun _ _ => rfl)) (pe_ix ix_tup (pv 6) (pv 9) (fun _ _ => rfl))) (pa_cons (pe_ix ix_tup (pe_ix ix_list (pe_ix ix_list (pv 0) (pv 9) (fun _ _ => rfl)) (pv 8) (fun _ _ => rfl)) pe_int (fun _ _ => rfl)) pa_nil))))) pa_nil)) pa_nil)))))))))
      (pss_one (ps_ret (pe_callTy call_tuple_of (by rfl) B.tuple (by decide +kernel) (pa_cons (pv 4) pa_nil)))))), ?_⟩
    obtain ⟨ta, txs, rfl, hts, htx⟩ := dp_list htd
    obtain ⟨ba, xs, rfl, hs, hx⟩ := dp_list hbd
    have lx : xs.length = asks.length := by rw [dpAll_len hx, List.length_map]
    refine ⟨Nat.zero_le _, fun R hR => ⟨.ref ba, rfl, ba, rfl, ⟨_, sql_mono (gh.trans (same_upd hR)) hs⟩, ?_⟩⟩
    refine for_it (walk_list (xs := xs)) (fun i σ H' => ∃ y5 y6 y7 y8 G' ys, σ = [some (.ref ta), some (.int (M.h : Nat)), some (.int (M.w : Nat)), some (.ref ba), some (.ref R), y5, y6, y7, y8, none] ∧ Ext M0 G H G' H' ∧
        H' R = some (.lst ys) ∧ G' R = none ∧ DpAll K G' ys (ratsD (productsN t M (asks.take i))))
      ⟨none, none, none, none, G, [], rfl, (Ext.refl gh).al hR, upd_same, gh.free hR, .nil⟩ (fun i σ H' _ hP => ?_) (fun i x σ H' H2 hi hP hY => ?_) (fun σ H' hP => ?_)
    · obtain ⟨_, _, _, _, G', _, _, X, _⟩ := hP
      exact sql_mono (X.gg.trans X.gh) hs
    · obtain ⟨y5, y6, y7, y8, G', ys, rfl, X, eR, gR', hy⟩ := hP
      obtain ⟨rfl, ex⟩ := hY
      have hia : i < asks.length := by omega
      obtain ⟨a, b, rfl, ha, hb'⟩ := ask_at hx ex hia
      have hal := hasks _ (List.getElem_mem hia)
      have ltk : (asks.take i).length ≤ 8 := by rw [List.length_take]; omega
      have lpr := productsN_len t M hh hw (asks.take i)
      have ptk := productsN_take (t := t) (M := M) hia
      generalize asks[i] = av at ha hb' hal ptk
      obtain ⟨c, ns⟩ := av
      have lns : ns.length = sideOf M.h M.w c := hal.len
      have bns : ∀ n ∈ ns, -10 ^ 9 ≤ n ∧ n ≤ 10 ^ 9 := hal.nums
      refine ⟨a, _, rfl, sqt_mono (X.gg.trans X.gh) ha, rfl, _, _, rfl, _, _, rfl, rfl, ?_⟩
      refine ⟨_, rfl, rfl, _, rfl, ?_⟩
      cases c with
      | true =>
        refine ibT (isCol true) ⟨_, rfl, _, rfl, by omega, by omega, ?_⟩
        refine for_it walk_range (fun l σ H' => ∃ y7 y8 G' ys, σ = [some (.ref ta), some (.int (M.h : Nat)), some (.int (M.w : Nat)), some (.ref ba), some (.ref R), some (.str (kindStr true)), some (.ref b), y7, y8, none] ∧ Ext M0 G H G' H' ∧
            H' R = some (.lst ys) ∧ G' R = none ∧ DpAll K G' ys (ratsD (productsN t M (asks.take i) ++ prodsN t M (true, ns) l)))
          ⟨y7, y8, G', ys, rfl, X, eR, gR', by simpa [prodsN] using hy⟩ (fun _ _ _ _ _ => trivial) (fun l x σ H3 H4 hlt hP hY => ?_) (fun σ H3 hP => ?_)
        · obtain ⟨y7, y8, G3, ys3, rfl, X3, eR3, gR3, hy3⟩ := hP
          obtain ⟨eH, rfl⟩ := hY
          subst eH
          have hll : l < M.h := by simpa using hlt
          have lys3 : ys3.length ≤ 60 := by
            rw [dpAll_len hy3, List.length_map, List.length_append, prodsN_len]
            omega
          refine ⟨.ref R, rfl, .inl ⟨rfl, _, .inl (.inl eR3)⟩, _, rfl, _, rfl, by omega, by omega, fun Z hZ => ?_⟩
          have nZR : Z ≠ R := fun z => by rw [z, eR3] at hZ; cases hZ
          refine lc_it walk_range (fun m H' => ∃ G5 ws, Ext M0 G H G5 H' ∧ Same G3 G5 ∧ G5 R = none ∧ G5 Z = none ∧ H' R = some (.lst ys3) ∧ H' Z = some (.lst ws) ∧ ws.length = m ∧ DpAll K G5 ws (ratsD (prodPairs t true ns l m)))
            ⟨G3, [], X3.al hZ, Same.refl _, gR3, X3.gh.free hZ, by rw [upd_ne (Ne.symm nZR)]; exact eR3, upd_same, rfl, .nil⟩ (fun _ _ _ _ => trivial) (fun m x H5 H6 hm hP hY => ?_) (fun H5 hP => ?_)
          · obtain ⟨G5, ws, X5, sg, gp5, gZ5, ep5, eZ5, hlw, hw5⟩ := hP
            obtain ⟨eH, rfl⟩ := hY
            subst eH
            have hmm : m < M.w := by simpa using hm
            obtain ⟨h1, h2, eent, hD6, hSm⟩ := tok.at_ (i := l) (j := m) (by omega) (by omega)
            obtain ⟨a1, ys1, b1, ex1, hs1, ey1, hb1⟩ := tab_at htx h1 h2
            have gc := X5.gg.trans X5.gh
            have hmn : m < ns.length := by rw [lns]; exact hmm
            have bm := bns _ (List.getElem_mem hmn)
            have hent : entry t true l m = t[l][m] := eent
            refine ⟨rfl, yesT ?_⟩
            refine ⟨.ref ta, rfl, _, rfl, ta, txs, _, _, rfl, rfl, sql_mono gc hts, at0 ex1, _, rfl, a1, ys1, _, _, rfl, rfl, sql_mono gc hs1, at0 ey1, b1, _, 0, _, rfl, rfl, sqt_mono gc hb1, atI_nat (j := 0) rfl, ?_⟩
            refine ⟨.ref b, rfl, _, rfl, b, _, _, .int ns[m], rfl, rfl, sqt_mono gc hb', at0 (pick hmn), _, _, rfl, rfl, .inr (by omega), ?_⟩
            refine ⟨.ref ta, rfl, _, rfl, ta, txs, _, _, rfl, rfl, sql_mono gc hts, at0 ex1, _, rfl, a1, ys1, _, _, rfl, rfl, sql_mono gc hs1, at0 ey1, b1, _, 1, _, rfl, rfl, sqt_mono gc hb1, atI_nat (j := 1) rfl, by show 2 ≤ sizeLine; decide, fun u hu => ?_⟩
            have X7 := X5.fin (o := .tup [.int (t[l][m].1 * ns[m]), .int t[l][m].2]) hu
            have nuZ : u ≠ Z := fun z => by rw [z, eZ5] at hu; cases hu
            have nuR : u ≠ R := fun z => by rw [z, ep5] at hu; cases hu
            have gZ7 : upd G5 u (.tup [.int (t[l][m].1 * ns[m]), .int t[l][m].2]) Z = none := by rw [upd_ne (Ne.symm nuZ)]; exact gZ5
            have gu := X5.gh.free hu
            refine ⟨ws, by rw [upd_ne (Ne.symm nuZ)]; exact eZ5, Nat.lt_of_lt_of_le (show ws.length < 1000 by omega) (by decide), _, ws ++ [.ref u], X7.wr (.inl (X3.free hZ)) gZ7, sg.trans (same_upd gu), by rw [upd_ne (Ne.symm nuR)]; exact gp5, gZ7, ?_, upd_same, by rw [List.length_append, hlw]; rfl, ?_⟩
            · rw [upd_ne (Ne.symm nZR), upd_ne (Ne.symm nuR)]
              exact ep5
            · have e : ratsD (prodPairs t true ns l (m + 1)) = ratsD (prodPairs t true ns l m) ++ [ratD (t[l][m].1 * ns[m], t[l][m].2)] := by
                unfold prodPairs
                rw [range_snoc, List.map_append, ← hent, ← getD_of (d := 0) hmn]
                simp [ratsD]
              rw [e]
              exact dpAll_app (dpAll_mono (same_upd gu) hw5) (dpAll_one (dp_of_tup upd_same (dpAll_of_ints [t[l][m].1 * ns[m], t[l][m].2])))
          · obtain ⟨G5, ws, X5, sg, gp5, gZ5, ep5, eZ5, hlw, hw5⟩ := hP
            rw [Int.toNat_natCast] at hw5
            refine ⟨.ref Z, prodPairs t true ns l M.w, rfl, .lst (.inl (.inl eZ5)) (dpAll_mono X5.gh hw5), by rw [prodPairs_len]; omega, fun pr hpr => ?_, fun u hu => ?_⟩
            · unfold prodPairs at hpr
              obtain ⟨m, hm, rfl⟩ := List.mem_map.mp hpr
              have hmm : m < M.w := List.mem_range.mp hm
              obtain ⟨h1, h2, eent, hD6, hSm⟩ := tok.at_ (i := l) (j := m) (by omega) (by omega)
              have hent : entry t true l m = t[l][m] := eent
              have hmn : m < ns.length := by rw [lns]; exact hmm
              rw [hent, getD_of hmn]
              exact ⟨hD6, sm_mul9 (bns _ (List.getElem_mem hmn)) hSm⟩
            · have X6 := X5.fin (o := .tup [.int (lsum (prodPairs t true ns l M.w)).1, .int (lsum (prodPairs t true ns l M.w)).2]) hu
              have nuR : u ≠ R := fun z => by rw [z, ep5] at hu; cases hu
              have gu := X5.gh.free hu
              have gR6 : upd G5 u (.tup [.int (lsum (prodPairs t true ns l M.w)).1, .int (lsum (prodPairs t true ns l M.w)).2]) R = none := by rw [upd_ne (Ne.symm nuR)]; exact gp5
              refine ⟨R, ys3, _, rfl, rfl, by rw [upd_ne (Ne.symm nuR)]; exact ep5, small1000 (by omega), _, _, _, ys3 ++ [.ref u], rfl, X6.wr (.inl hR) gR6, upd_same, gR6, ?_⟩
              have e : ratsD (productsN t M (asks.take i) ++ prodsN t M (true, ns) (l + 1)) = ratsD (productsN t M (asks.take i) ++ prodsN t M (true, ns) l) ++ [ratD (lsum (prodPairs t true ns l M.w))] := by
                unfold prodsN
                rw [range_snoc]
                simp [ratsD, sideOf]
              rw [e]
              exact dpAll_app (dpAll_mono (sg.trans (same_upd gu)) hy3) (dpAll_one (dp_of_tup upd_same (dpAll_of_ints [_, _])))
        · obtain ⟨y7, y8, G3, ys3, rfl, X3, eR3, gR3, hy3⟩ := hP
          rw [Int.toNat_natCast] at hy3
          refine ⟨_, _, _, _, G3, ys3, rfl, X3, eR3, gR3, ?_⟩
          rw [ptk]
          exact hy3
      | false =>
        refine ibF (isCol false) ⟨_, rfl, _, rfl, by omega, by omega, ?_⟩
        refine for_it walk_range (fun l σ H' => ∃ y7 y8 G' ys, σ = [some (.ref ta), some (.int (M.h : Nat)), some (.int (M.w : Nat)), some (.ref ba), some (.ref R), some (.str (kindStr false)), some (.ref b), y7, y8, none] ∧ Ext M0 G H G' H' ∧
            H' R = some (.lst ys) ∧ G' R = none ∧ DpAll K G' ys (ratsD (productsN t M (asks.take i) ++ prodsN t M (false, ns) l)))
          ⟨y7, y8, G', ys, rfl, X, eR, gR', by simpa [prodsN] using hy⟩ (fun _ _ _ _ _ => trivial) (fun l x σ H3 H4 hlt hP hY => ?_) (fun σ H3 hP => ?_)
        · obtain ⟨y7, y8, G3, ys3, rfl, X3, eR3, gR3, hy3⟩ := hP
          obtain ⟨eH, rfl⟩ := hY
          subst eH
          have hll : l < M.w := by simpa using hlt
          have lys3 : ys3.length ≤ 60 := by
            rw [dpAll_len hy3, List.length_map, List.length_append, prodsN_len]
            omega
          refine ⟨.ref R, rfl, .inl ⟨rfl, _, .inl (.inl eR3)⟩, _, rfl, _, rfl, by omega, by omega, fun Z hZ => ?_⟩
          have nZR : Z ≠ R := fun z => by rw [z, eR3] at hZ; cases hZ
          refine lc_it walk_range (fun m H' => ∃ G5 ws, Ext M0 G H G5 H' ∧ Same G3 G5 ∧ G5 R = none ∧ G5 Z = none ∧ H' R = some (.lst ys3) ∧ H' Z = some (.lst ws) ∧ ws.length = m ∧ DpAll K G5 ws (ratsD (prodPairs t false ns l m)))
            ⟨G3, [], X3.al hZ, Same.refl _, gR3, X3.gh.free hZ, by rw [upd_ne (Ne.symm nZR)]; exact eR3, upd_same, rfl, .nil⟩ (fun _ _ _ _ => trivial) (fun m x H5 H6 hm hP hY => ?_) (fun H5 hP => ?_)
          · obtain ⟨G5, ws, X5, sg, gp5, gZ5, ep5, eZ5, hlw, hw5⟩ := hP
            obtain ⟨eH, rfl⟩ := hY
            subst eH
            have hmm : m < M.h := by simpa using hm
            obtain ⟨h1, h2, eent, hD6, hSm⟩ := tok.at_ (i := m) (j := l) (by omega) (by omega)
            obtain ⟨a1, ys1, b1, ex1, hs1, ey1, hb1⟩ := tab_at htx h1 h2
            have gc := X5.gg.trans X5.gh
            have hmn : m < ns.length := by rw [lns]; exact hmm
            have bm := bns _ (List.getElem_mem hmn)
            have hent : entry t false l m = t[m][l] := eent
            refine ⟨rfl, yesT ?_⟩
            refine ⟨.ref ta, rfl, _, rfl, ta, txs, _, _, rfl, rfl, sql_mono gc hts, at0 ex1, _, rfl, a1, ys1, _, _, rfl, rfl, sql_mono gc hs1, at0 ey1, b1, _, 0, _, rfl, rfl, sqt_mono gc hb1, atI_nat (j := 0) rfl, ?_⟩
            refine ⟨.ref b, rfl, _, rfl, b, _, _, .int ns[m], rfl, rfl, sqt_mono gc hb', at0 (pick hmn), _, _, rfl, rfl, .inr (by omega), ?_⟩
            refine ⟨.ref ta, rfl, _, rfl, ta, txs, _, _, rfl, rfl, sql_mono gc hts, at0 ex1, _, rfl, a1, ys1, _, _, rfl, rfl, sql_mono gc hs1, at0 ey1, b1, _, 1, _, rfl, rfl, sqt_mono gc hb1, atI_nat (j := 1) rfl, by show 2 ≤ sizeLine; decide, fun u hu => ?_⟩
            have X7 := X5.fin (o := .tup [.int (t[m][l].1 * ns[m]), .int t[m][l].2]) hu
            have nuZ : u ≠ Z := fun z => by rw [z, eZ5] at hu; cases hu
            have nuR : u ≠ R := fun z => by rw [z, ep5] at hu; cases hu
            have gZ7 : upd G5 u (.tup [.int (t[m][l].1 * ns[m]), .int t[m][l].2]) Z = none := by rw [upd_ne (Ne.symm nuZ)]; exact gZ5
            have gu := X5.gh.free hu
            refine ⟨ws, by rw [upd_ne (Ne.symm nuZ)]; exact eZ5, Nat.lt_of_lt_of_le (show ws.length < 1000 by omega) (by decide), _, ws ++ [.ref u], X7.wr (.inl (X3.free hZ)) gZ7, sg.trans (same_upd gu), by rw [upd_ne (Ne.symm nuR)]; exact gp5, gZ7, ?_, upd_same, by rw [List.length_append, hlw]; rfl, ?_⟩
            · rw [upd_ne (Ne.symm nZR), upd_ne (Ne.symm nuR)]
              exact ep5
            · have e : ratsD (prodPairs t false ns l (m + 1)) = ratsD (prodPairs t false ns l m) ++ [ratD (t[m][l].1 * ns[m], t[m][l].2)] := by
                unfold prodPairs
                rw [range_snoc, List.map_append, ← hent, ← getD_of (d := 0) hmn]
                simp [ratsD]
              rw [e]
              exact dpAll_app (dpAll_mono (same_upd gu) hw5) (dpAll_one (dp_of_tup upd_same (dpAll_of_ints [t[m][l].1 * ns[m], t[m][l].2])))
          · obtain ⟨G5, ws, X5, sg, gp5, gZ5, ep5, eZ5, hlw, hw5⟩ := hP
            rw [Int.toNat_natCast] at hw5
            refine ⟨.ref Z, prodPairs t false ns l M.h, rfl, .lst (.inl (.inl eZ5)) (dpAll_mono X5.gh hw5), by rw [prodPairs_len]; omega, fun pr hpr => ?_, fun u hu => ?_⟩
            · unfold prodPairs at hpr
              obtain ⟨m, hm, rfl⟩ := List.mem_map.mp hpr
              have hmm : m < M.h := List.mem_range.mp hm
              obtain ⟨h1, h2, eent, hD6, hSm⟩ := tok.at_ (i := m) (j := l) (by omega) (by omega)
              have hent : entry t false l m = t[m][l] := eent
              have hmn : m < ns.length := by rw [lns]; exact hmm
              rw [hent, getD_of hmn]
              exact ⟨hD6, sm_mul9 (bns _ (List.getElem_mem hmn)) hSm⟩
            · have X6 := X5.fin (o := .tup [.int (lsum (prodPairs t false ns l M.h)).1, .int (lsum (prodPairs t false ns l M.h)).2]) hu
              have nuR : u ≠ R := fun z => by rw [z, ep5] at hu; cases hu
              have gu := X5.gh.free hu
              have gR6 : upd G5 u (.tup [.int (lsum (prodPairs t false ns l M.h)).1, .int (lsum (prodPairs t false ns l M.h)).2]) R = none := by rw [upd_ne (Ne.symm nuR)]; exact gp5
              refine ⟨R, ys3, _, rfl, rfl, by rw [upd_ne (Ne.symm nuR)]; exact ep5, small1000 (by omega), _, _, _, ys3 ++ [.ref u], rfl, X6.wr (.inl hR) gR6, upd_same, gR6, ?_⟩
              have e : ratsD (productsN t M (asks.take i) ++ prodsN t M (false, ns) (l + 1)) = ratsD (productsN t M (asks.take i) ++ prodsN t M (false, ns) l) ++ [ratD (lsum (prodPairs t false ns l M.h))] := by
                unfold prodsN
                rw [range_snoc]
                simp [ratsD, sideOf]
              rw [e]
              exact dpAll_app (dpAll_mono (sg.trans (same_upd gu)) hy3) (dpAll_one (dp_of_tup upd_same (dpAll_of_ints [_, _])))
        · obtain ⟨y7, y8, G3, ys3, rfl, X3, eR3, gR3, hy3⟩ := hP
          rw [Int.toNat_natCast] at hy3
          refine ⟨_, _, _, _, G3, ys3, rfl, X3, eR3, gR3, ?_⟩
          rw [ptk]
          exact hy3
    · obtain ⟨y5, y6, y7, y8, G', ys, rfl, X, eR, gR', hy⟩ := hP
      rw [lx, List.take_of_length_le (Nat.le_refl _)] at hy
      refine ⟨.ref R, rfl, R, ys, rfl, .inl ⟨.inl (.inl eR), fun u hu => ?_⟩⟩
      exact q _ _ u (X.fin hu) (dp_of_tup upd_same (dpAll_mono (same_upd (X.gh.free hu)) hy))
end
end K36
end

section
set_option pp.maxSteps 400
set_option pp.deepTerms false
set_option Elab.async false
set_option linter.all false
set_option maxRecDepth 100000
set_option maxHeartbeats 4000000
/-! K36, what the law awaits of odd asks and books. -/
namespace K36
open PySem PySem.Spec PyProof.Rows L2

def badD (i : Int) (x : Str) : PyData := .list [.int i, .str x]
def askDue (h w : Nat) (d : PyData) (i : Int) : PyData :=
  match askBad h w d with
  | none => askRes d
  | some x => badD i x
def bookDue (h w : Nat) (d : PyData) : PyData :=
  match bookBad h w d with
  | none => bookRes d
  | some (i, x) => badD i x
theorem rIx_of0 {K : PySem.W.Frag} {H : Hp} {a : Addr} {xs : List V} {i : Nat} {v : V} {Q : VK} (h : Sq K H a xs) (e : xs[i]? = some v) (q : Q v H) : rIx K (.ref a) (.int (0 + (i : Nat))) H Q := by
  rw [Int.zero_add]
  exact rIx_of h e q
/-- a new finished list or tuple of two leaves -/
theorem dp_bad {K : PySem.W.Frag} {G : Hp} {p : Addr} {i : Int} {x : Str} : Dp K (upd G p (.lst [.int i, .str x])) (.ref p) (badD i x) := dp_of_lst upd_same (.cons (.int _) (.cons (.str _) .nil))
theorem kind_of_notStr {k : PyData} (h : isD k "str" = false) : kindB k = none := by
  cases k with
  | str s => simp [isS, tyN] at h
  | _ => rfl
theorem askRes_tuple {h w : Nat} {d : PyData} (e : askBad h w d = none) : ∃ k ns, seqOf d = some [k, ns] ∧ askRes d = .tuple [k, .tuple ((seqOf ns).getD [])] := by
  unfold askBad at e
  split at e
  · rename_i k ns hs
    refine ⟨k, ns, hs, ?_⟩
    unfold askRes
    rw [hs]
  · cases e
section
variable {P : Program} {w : World} {K : PySem.W.Frag} {mg : Str → Option Value} {base : Heap}
abbrev s_law_seq : Stmt := topS 52
theorem sc_law_seq : FnScope ["_law_thing"] ["_law_thing"] (defScope s_law_seq) := ⟨rfl, rfl, rfl, by decide +kernel, rfl, by decide +kernel, by decide +kernel⟩
def spLSeq (K : PySem.W.Frag) : Sp := fun vs H Q _ => ∃ v d, vs = [v] ∧ Da K H v d ∧ Q (.bl (isSeqD d)) H
theorem ok_law_seq {f : Addr} {fd : FuncData} (F : Fun K "_law_seq" "_law_seq" s_law_seq f fd) (B : Bi mg) : FnOk P w K mg base CX0 1 f fd ["_law_thing"] (spLSeq K) := by
  refine F.ok sc_law_seq (fun vs H Q E h => ?_) (fun cdv A outer s H vs Q E hr h => ?_)
  · obtain ⟨_, _, rfl, _⟩ := h
    rfl
  · obtain ⟨v, d, rfl, hd, q⟩ := h
    refine ⟨_, (pss_one (ps_ret (pe_or (pe_callB call_isN (by rfl) B.isinstance (by decide +kernel) (pa_cons (pv 0) (pa_cons (pe_bltn (v := .ty "list") (by rfl) B.list (by decide +kernel) rfl) pa_nil))) (pe_one (pe_callB call_isN (by rfl) B.isinstance (by decide +kernel) (pa_cons (pv 0) (pa_cons (pe_bltn (v := .ty "tuple") (by rfl) B.tuple (by decide +kernel) rfl) pa_nil))))))), ?_⟩
    have e : isSeqD d = (isD d "list" || isD d "tuple") := by cases d <;> simp [isSeqD, isS, tyN]
    rw [e] at q
    refine ⟨v, rfl, v, "list", d, _, rfl, hd, kit_list d, _, rfl, ?_⟩
    cases h1 : isD d "list" with
    | true =>
      rw [h1] at q
      exact iteT q
    | false =>
      rw [h1] at q
      exact iteF ⟨v, rfl, v, "tuple", d, _, rfl, hd, kit_tuple d, q⟩

abbrev s_law_int : Stmt := topS 53
theorem sc_law_int : FnScope ["_law_thing"] ["_law_thing"] (defScope s_law_int) := ⟨rfl, rfl, rfl, by decide +kernel, rfl, by decide +kernel, by decide +kernel⟩
def isIntD : PyData → Bool
  | .int _ => true
  | _ => false
def spLInt (K : PySem.W.Frag) : Sp := fun vs H Q _ => ∃ v d, vs = [v] ∧ Dp K H v d ∧ Q (.bl (isIntD d)) H
theorem ok_law_int {f : Addr} {fd : FuncData} (F : Fun K "_law_int" "_law_int" s_law_int f fd) (B : Bi mg) : FnOk P w K mg base CX0 1 f fd ["_law_thing"] (spLInt K) := by
  refine F.ok sc_law_int (fun vs H Q E h => ?_) (fun cdv A outer s H vs Q E hr h => ?_)
  · obtain ⟨_, _, rfl, _⟩ := h
    rfl
  · obtain ⟨v, d, rfl, hd, q⟩ := h
    refine ⟨_, (pss_one (ps_ret (pe_and (pe_callB call_isN (by rfl) B.isinstance (by decide +kernel) (pa_cons (pv 0) (pa_cons (pe_bltn (v := .ty "int") (by rfl) B.int (by decide +kernel) rfl) pa_nil))) (pe_one (pe_not (pe_callB call_isN (by rfl) B.isinstance (by decide +kernel) (pa_cons (pv 0) (pa_cons (pe_bltn (v := .ty "bool") (by rfl) B.bool (by decide +kernel) rfl) pa_nil)))))))), ?_⟩
    have e : isIntD d = (isD d "int" && !isD d "bool") := by cases d <;> simp [isIntD, isS, tyN]
    rw [e] at q
    refine ⟨v, rfl, v, "int", d, _, rfl, .inl hd, kit_int d, _, rfl, ?_⟩
    cases h1 : isD d "int" with
    | true =>
      rw [h1] at q
      exact iteT ⟨v, rfl, v, "bool", d, _, rfl, .inl hd, kit_bool d, _, rfl, q⟩
    | false =>
      rw [h1] at q
      exact iteF q

abbrev s_law_within : Stmt := topS 54
theorem sc_law_within : FnScope ["_law_thing", "_law_low", "_law_high"] ["_law_thing", "_law_low", "_law_high"] (defScope s_law_within) := ⟨rfl, rfl, rfl, by decide +kernel, rfl, by decide +kernel, by decide +kernel⟩
def spWithin (K : PySem.W.Frag) : Sp := fun vs H Q _ => ∃ v d lo hi, vs = [v, .int lo, .int hi] ∧ Dp K H v d ∧ Q (.bl (isWhole d (some lo) (some hi))) H
theorem ok_law_within {f : Addr} {fd : FuncData} (F : Fun K "_law_within" "_law_within" s_law_within f fd) (D_law_int : Dfn P w K mg base CX0 1 "_law_int" ["_law_thing"] [] (spLInt K)) : FnOk P w K mg base CX0 2 f fd ["_law_thing", "_law_low", "_law_high"] (spWithin K) := by
  refine F.ok sc_law_within (fun vs H Q E h => ?_) (fun cdv A outer s H vs Q E hr h => ?_)
  · obtain ⟨_, _, _, _, rfl, _⟩ := h
    rfl
  · obtain ⟨v, d, lo, hi, rfl, hd, q⟩ := h
    refine ⟨_, (pss_one (ps_ret (pe_and (pe_dfn D_law_int (hr.mono (by decide)) (by rfl) pass0 (pa_cons (pv 0) pa_nil)) (pe_one (pe_chain op_le op_le (pv 1) (pv 0) (pv 2)))))), ?_⟩
    refine ⟨v, rfl, v, d, rfl, hd, _, rfl, ?_⟩
    cases d with
    | int i =>
      obtain rfl := dp_int hd
      refine iteT ⟨_, rfl, _, rfl, lo, i, rfl, rfl, _, rfl, ?_⟩
      by_cases h1 : lo ≤ i
      · refine ibT (decide_eq_true h1) ⟨_, rfl, i, hi, rfl, rfl, ?_⟩
        have e : isWhole (.int i) (some lo) (some hi) = decide (i ≤ hi) := by
          show (decide (lo ≤ i) && decide (i ≤ hi)) = _
          rw [decide_eq_true h1, Bool.true_and]
        rw [e] at q
        exact q
      · refine ibF (decide_eq_false h1) ?_
        have e : isWhole (.int i) (some lo) (some hi) = false := by
          show (decide (lo ≤ i) && decide (i ≤ hi)) = _
          rw [decide_eq_false h1, Bool.false_and]
        rw [e] at q
        exact q
    | none => exact iteF q
    | bool b => exact iteF q
    | str b => exact iteF q
    | list b => exact iteF q
    | tuple b => exact iteF q
    | dict b => exact iteF q

abbrev s_law_ask_due : Stmt := topS 61
theorem sc_law_ask_due : FnScope ["_law_height", "_law_width", "_law_ask_here", "_law_index", "_law_length", "_law_number_here"] ["_law_height", "_law_width", "_law_ask_here", "_law_index"] (defScope s_law_ask_due) := ⟨rfl, rfl, rfl, by decide +kernel, rfl, by decide +kernel, by decide +kernel⟩
def spAskDue (K : PySem.W.Frag) : Sp := fun vs H Q _ => ∃ (G : Hp) (ht wd : Nat) (av : V) (d : PyData) (i : Int), vs = [.int (ht : Nat), .int (wd : Nat), av, .int i] ∧ Same G H ∧ Dp K G av d ∧ AskShape d ∧
  ∀ (G' H' : Hp) (p : Addr), Ext M0 G H G' H' → Dp K G' (.ref p) (askDue ht wd d i) → Q (.ref p) H'
theorem ok_law_ask_due {f : Addr} {fd : FuncData} (F : Fun K "_law_ask_due" "_law_ask_due" s_law_ask_due f fd) (B : Bi mg) (D_law_seq : Dfn P w K mg base CX0 1 "_law_seq" ["_law_thing"] [] (spLSeq K))
    (D_law_within : Dfn P w K mg base CX0 2 "_law_within" ["_law_thing", "_law_low", "_law_high"] [] (spWithin K)) : FnOk P w K mg base CX0 3 f fd ["_law_height", "_law_width", "_law_ask_here", "_law_index"] (spAskDue K) := by
  refine F.ok sc_law_ask_due (fun vs H Q E h => ?_) (fun cdv A outer s H vs Q E hr h => ?_)
  · obtain ⟨_, _, _, _, _, _, rfl, _⟩ := h
    rfl
  · obtain ⟨G, ht, wd, av, d, i, rfl, gh, hd, hsh, q⟩ := h
    refine ⟨_, (pss_cons (ps_if (PW.pt (pw_or (pt_not (pt_val (pe_dfn D_law_seq (hr.mono (by decide)) (by rfl) pass0 (pa_cons (pv 2) pa_nil)))) (pw_or (pt_cmpR op_ne (pe_callB call_len_seq (by rfl) B.len (by decide +kernel) (pa_cons (pv 2) pa_nil)) pe_int (nomark _)) (pw_or (pt_not (pt_val (pe_callB call_isN (by rfl) B.isinstance (by decide +kernel) (pa_cons (pe_ix ix_seq (pv 2) pe_int (fun _ _ => rfl)) (pa_cons (pe_bltn (v := .ty "str") (by rfl) B.str (by decide +kernel) rfl) pa_nil))))) (pw_or1 (pt_cmpR (op_notInT (units65 hr)) (pe_ix ix_seq (pv 2) pe_int (fun _ _ => rfl)) (pe_tup (pa_cons pe_str (pa_cons pe_str pa_nil))) (by with_unfolding_all rfl)))))))
        (pss_one (ps_ret (pe_lst (pa_cons (pv 3) (pa_cons pe_str pa_nil)))))
        pss_nil)
      (pss_cons (ps_set (i := 4) sc_law_ask_due.nd rfl (.inl rfl) (pe_ifExp (pt_cmpR op_eq (pe_ix ix_seq (pv 2) pe_int (fun _ _ => rfl)) pe_str (nomark _)) (pv 1) (pv 0)))
      (pss_cons (ps_if (PW.pt (pw_or (pt_not (pt_val (pe_dfn D_law_seq (hr.mono (by decide)) (by rfl) pass0 (pa_cons (pe_ix ix_seq (pv 2) pe_int (fun _ _ => rfl)) pa_nil)))) (pw_or1 (pt_cmpR op_ne (pe_callB call_len_seq (by rfl) B.len (by decide +kernel) (pa_cons (pe_ix ix_seq (pv 2) pe_int (fun _ _ => rfl)) pa_nil)) (pv 4) (nomark _)))))
        (pss_one (ps_ret (pe_lst (pa_cons (pv 3) (pa_cons pe_str pa_nil)))))
        pss_nil)
      (pss_cons (ps_for PassesOwn.never rfl (pi_seq (pe_ix ix_seq (pv 2) pe_int (fun _ _ => rfl))) (pg_name (i := 5) sc_law_ask_due.nd rfl (.inl rfl))
        (pss_one (ps_if (pt_not (pt_val (pe_dfn D_law_within (hr.mono (by decide)) (by rfl) pass0 (pa_cons (pv 5) (pa_cons (pe_un un_neg (pe_op op_pow pe_int pe_int)) (pa_cons (pe_op op_pow pe_int pe_int) pa_nil))))))
          (pss_one (ps_ret (pe_lst (pa_cons (pv 3) (pa_cons pe_str pa_nil)))))
          pss_nil)))
      (pss_one (ps_ret (pe_tup (pa_cons (pe_ix ix_seq (pv 2) pe_int (fun _ _ => rfl)) (pa_cons (pe_callTy call_tuple_of (by rfl) B.tuple (by decide +kernel) (pa_cons (pe_ix ix_seq (pv 2) pe_int (fun _ _ => rfl)) pa_nil)) pa_nil))))))))), ?_⟩
    have bad : ∀ (x : Str) (H' : Hp), Ext M0 G H G H' → askBad ht wd d = some x → ∀ p, H' p = none → Q (.ref p) (upd H' p (.lst [.int i, .str x])) := fun x H' X e p hp => by
      refine q _ _ p (X.fin hp) ?_
      unfold askDue
      rw [e]
      exact dp_bad
    have hdH := dp_mono gh hd
    refine ⟨_, rfl, _, _, rfl, .inl hdH, _, rfl, ?_⟩
    have X1 : Ext M0 G H G H := Ext.refl gh
    cases hsq : seqOf d with
    | none =>
      refine ibT (by rw [isSeqD_of, hsq]; rfl) (iteT ⟨_, rfl, by show 2 ≤ sizeLine; decide, ?_⟩)
      exact bad "kind" H X1 (by unfold askBad; rw [hsq])
    | some l =>
      refine ibF (by rw [isSeqD_of, hsq]; rfl) ?_
      obtain ⟨a, xs, rfl, hs, hx⟩ := dp_seq hd hsq
      refine ⟨.ref a, rfl, a, xs, rfl, hs.mono X1.gh, rfl, _, rfl, ?_⟩
      have lx : xs.length = l.length := dpAll_len hx
      by_cases h2 : l.length = 2
      · refine ibF (by rw [lx, h2]; rfl) ?_
        obtain ⟨k, ns, rfl⟩ : ∃ k ns, l = [k, ns] := by
          match l, h2 with
          | [k, ns], _ => exact ⟨k, ns, rfl⟩
        obtain ⟨x0, x1, rfl, hk, hn⟩ := dpAll_two hx
        have ask1 : ∀ {y : Option Str}, (match kindB k with | none => some ("kind" : Str) | some c => match seqOf ns with | none => some "length" | some l => if l.length = sideOf ht wd c then (if l.all okNum = true then none else some "number") else some "length") = y → askBad ht wd d = y := fun {y} e => by
          rw [← e]
          unfold askBad
          rw [hsq]
          try rfl
        refine ⟨.ref a, rfl, rIx_of (i := 0) (hs.mono X1.gh) rfl ⟨x0, "str", k, _, rfl, .inl (dp_mono X1.gh hk), kit_str k, _, rfl, ?_⟩⟩
        cases hstr : isD k "str" with
        | false =>
          refine iteT (iteT ⟨_, rfl, by show 2 ≤ sizeLine; decide, ?_⟩)
          exact bad "kind" _ X1 (ask1 (by rw [kind_of_notStr hstr]))
        | true =>
        refine iteF ⟨.ref a, rfl, rIx_of (i := 0) (hs.mono X1.gh) rfl ⟨by show 2 ≤ sizeLine; decide, fun p hp => ?_⟩⟩
        have X2 := X1.al (o := .tup [.str "column", .str "row"]) hp
        refine ⟨k, [.str "column", .str "row"], dp_mono X2.gh hk, dp_of_tup upd_same (.cons (.str _) (.cons (.str _) .nil)), hsh k ns hsq, by decide +kernel, _, rfl, ?_⟩
        rw [kindB_in]
        cases hkb : kindB k with
        | none =>
          refine iteT ⟨_, rfl, by show 2 ≤ sizeLine; decide, ?_⟩
          exact bad "kind" _ X2 (ask1 (by rw [hkb]))
        | some c =>
          refine iteF ?_
          obtain rfl := kindB_str hkb
          obtain rfl := dp_str hk
          -- the length
          refine ⟨.ref a, rfl, rIx_of (i := 0) (hs.mono X2.gh) rfl ⟨rfl, _, rfl, ?_⟩⟩
          have ask2 : ∀ {y : Option Str}, (match seqOf ns with | none => some ("length" : Str) | some l => if l.length = sideOf ht wd c then (if l.all okNum = true then none else some "number") else some "length") = y → askBad ht wd d = y := fun {y} e => ask1 (by rw [hkb]; exact e)
          have side : ∀ (b' : Bool) (σ : L2.St) (H' : Hp) (Q2 : VK), b' = c → σ[0]? = some (some (.int (ht : Nat))) → σ[1]? = some (some (.int (wd : Nat))) → Q2 (.int (sideOf ht wd c : Nat)) H' → (if b' = true then tVar 1 σ H' Q2 else tVar 0 σ H' Q2) := fun b' σ H' Q2 e e1 e2 q2 => by
            subst e
            cases b' with
            | true => exact iteT ⟨_, e2, q2⟩
            | false => exact iteF ⟨_, e1, q2⟩
          refine side _ _ _ _ (isCol c) rfl rfl ?_
          -- the numbers
          refine ⟨.ref a, rfl, rIx_of (i := 1) (hs.mono X2.gh) rfl ⟨x1, ns, rfl, .inl (dp_mono X2.gh hn), _, rfl, ?_⟩⟩
          have X3 := X2
          cases hnq : seqOf ns with
          | none =>
            refine ibT (by rw [isSeqD_of, hnq]; rfl) (iteT ⟨_, rfl, by show 2 ≤ sizeLine; decide, ?_⟩)
            exact bad "length" _ X3 (ask2 (by rw [hnq]))
          | some l =>
            refine ibF (by rw [isSeqD_of, hnq]; rfl) ?_
            obtain ⟨b, ys, rfl, hys, hy⟩ := dp_seq hn hnq
            have ly : ys.length = l.length := dpAll_len hy
            refine ⟨.ref a, rfl, rIx_of (i := 1) (hs.mono X3.gh) rfl ⟨b, ys, rfl, hys.mono X3.gh, _, rfl, rfl, _, rfl, ?_⟩⟩
            by_cases hle : l.length = sideOf ht wd c
            · refine ibF (by rw [ly, hle]; simp) ?_
              have ask3 : ∀ {y : Option Str}, (if l.all okNum = true then none else some ("number" : Str)) = y → askBad ht wd d = y := fun {y} e => ask2 (by rw [hnq]; show (if l.length = _ then _ else _) = y; rw [if_pos hle]; exact e)
              have mem : ∀ (n : Nat) (x : V), ys[n]? = some x → ∃ e, l[n]? = some e ∧ Dp K G x e := fun n x e => dpAll_at hy e
              have resE : askRes d = .tuple [.str (if c = true then "column" else "row"), .tuple l] := by
                unfold askRes
                rw [hsq]
                show PyData.tuple [_, .tuple ((seqOf ns).getD [])] = _
                rw [hnq]
                rfl
              have dueE : l.all okNum = true → askDue ht wd d i = .tuple [.str (if c = true then "column" else "row"), .tuple l] := fun e => by
                unfold askDue
                rw [ask3 (by rw [if_pos e]), ← resE]
              rcases hys with hL | hT
              · refine .inl ⟨.ref a, rfl, rIx_of (i := 1) (hs.mono X3.gh) rfl ⟨b, rfl, ⟨_, sql_mono X3.gh hL⟩, ?_⟩⟩
                refine for_it ((walk_list (K := K) (a := b) (xs := ys)).mono (G' := fun H' => Same G H') (fun H' e => sql_mono e hL) (fun _ _ _ _ _ _ y => y))
                  (fun n σ H' => (∃ y5, σ = [some (.int (ht : Nat)), some (.int (wd : Nat)), some (.ref a), some (.int i), some (.int (sideOf ht wd c : Nat)), y5]) ∧ Ext M0 G H G H' ∧ (l.take n).all okNum = true)
                  ⟨⟨none, rfl⟩, X3, rfl⟩ (fun n σ H' _ hP => hP.2.1.gh) (fun n x σ H' H2 hn' hP hY => ?_) (fun σ H' hP => ?_)
                · obtain ⟨⟨y5, rfl⟩, X, hall⟩ := hP
                  obtain ⟨rfl, ex⟩ := hY
                  obtain ⟨e, he, hde⟩ := mem n x ex
                  refine ⟨_, rfl, 10, 9, rfl, rfl, ⟨by decide, by decide, by decide⟩, _, rfl, 10, 9, rfl, rfl, ⟨by decide, by decide, by decide⟩, ?_⟩
                  refine ⟨x, e, -(10 ^ 9), 10 ^ 9, rfl, dp_mono X.gh hde, _, rfl, ?_⟩
                  have hnl : n < l.length := by rw [← ly]; exact hn'
                  have ee : l[n] = e := by rw [List.getElem?_eq_getElem hnl] at he; exact Option.some.inj he
                  cases hok : isWhole e (some (-(10 ^ 9))) (some (10 ^ 9)) with
                  | true =>
                    refine iteF ⟨⟨_, rfl⟩, X, ?_⟩
                    rw [List.take_add_one, he, Option.toList_some, List.all_append, hall]
                    show (okNum e && true) = true
                    rw [show okNum e = true from hok]
                    rfl
                  | false =>
                    refine iteT ⟨_, rfl, by show 2 ≤ sizeLine; decide, ?_⟩
                    refine bad "number" _ X (ask3 ?_)
                    rw [if_neg]
                    intro hh
                    have := List.all_eq_true.mp hh l[n] (List.getElem_mem hnl)
                    rw [ee, show okNum e = false from hok] at this
                    cases this
                · obtain ⟨⟨y5, rfl⟩, X, hall⟩ := hP
                  rw [ly, List.take_of_length_le (Nat.le_refl _)] at hall
                  refine ⟨.ref a, rfl, rIx_of (i := 0) (hs.mono X.gh) rfl ⟨.ref a, rfl, rIx_of (i := 1) (hs.mono X.gh) rfl ?_⟩⟩
                  refine ⟨b, ys, rfl, .inl ⟨sql_mono X.gh hL, fun t ht' => ⟨by show 2 ≤ sizeLine; decide, fun p5 hp5 => ?_⟩⟩⟩
                  have X5 := X.fin (o := .tup ys) ht'
                  refine q _ _ p5 (X5.fin hp5) ?_
                  rw [dueE hall]
                  exact dp_of_tup upd_same (.cons (.str _) (.cons (dp_mono (same_upd (X5.gh.free hp5)) (dp_of_tup upd_same (dpAll_mono (same_upd (X.gh.free ht')) hy))) .nil))
              · refine .inr ⟨.ref a, rfl, rIx_of (i := 1) (hs.mono X3.gh) rfl ⟨b, rfl, ⟨_, sqt_mono X3.gh hT⟩, ?_⟩⟩
                refine for_it ((walk_tup (K := K) (a := b) (xs := ys)).mono (G' := fun H' => Same G H') (fun H' e => sqt_mono e hT) (fun _ _ _ _ _ _ y => y))
                  (fun n σ H' => (∃ y5, σ = [some (.int (ht : Nat)), some (.int (wd : Nat)), some (.ref a), some (.int i), some (.int (sideOf ht wd c : Nat)), y5]) ∧ Ext M0 G H G H' ∧ (l.take n).all okNum = true)
                  ⟨⟨none, rfl⟩, X3, rfl⟩ (fun n σ H' _ hP => hP.2.1.gh) (fun n x σ H' H2 hn' hP hY => ?_) (fun σ H' hP => ?_)
                · obtain ⟨⟨y5, rfl⟩, X, hall⟩ := hP
                  obtain ⟨rfl, ex⟩ := hY
                  obtain ⟨e, he, hde⟩ := mem n x ex
                  refine ⟨_, rfl, 10, 9, rfl, rfl, ⟨by decide, by decide, by decide⟩, _, rfl, 10, 9, rfl, rfl, ⟨by decide, by decide, by decide⟩, ?_⟩
                  refine ⟨x, e, -(10 ^ 9), 10 ^ 9, rfl, dp_mono X.gh hde, _, rfl, ?_⟩
                  have hnl : n < l.length := by rw [← ly]; exact hn'
                  have ee : l[n] = e := by rw [List.getElem?_eq_getElem hnl] at he; exact Option.some.inj he
                  cases hok : isWhole e (some (-(10 ^ 9))) (some (10 ^ 9)) with
                  | true =>
                    refine iteF ⟨⟨_, rfl⟩, X, ?_⟩
                    rw [List.take_add_one, he, Option.toList_some, List.all_append, hall]
                    show (okNum e && true) = true
                    rw [show okNum e = true from hok]
                    rfl
                  | false =>
                    refine iteT ⟨_, rfl, by show 2 ≤ sizeLine; decide, ?_⟩
                    refine bad "number" _ X (ask3 ?_)
                    rw [if_neg]
                    intro hh
                    have := List.all_eq_true.mp hh l[n] (List.getElem_mem hnl)
                    rw [ee, show okNum e = false from hok] at this
                    cases this
                · obtain ⟨⟨y5, rfl⟩, X, hall⟩ := hP
                  rw [ly, List.take_of_length_le (Nat.le_refl _)] at hall
                  refine ⟨.ref a, rfl, rIx_of (i := 0) (hs.mono X.gh) rfl ⟨.ref a, rfl, rIx_of (i := 1) (hs.mono X.gh) rfl ?_⟩⟩
                  refine ⟨b, ys, rfl, .inr ⟨sqt_mono X.gh hT, ⟨by show 2 ≤ sizeLine; decide, fun p5 hp5 => ?_⟩⟩⟩
                  refine q _ _ p5 (X.fin hp5) ?_
                  rw [dueE hall]
                  exact dp_of_tup upd_same (.cons (.str _) (.cons (dp_mono (same_upd (X.gh.free hp5)) (.tup hT hy)) .nil))
            · refine ibT (by rw [ly]; simpa using fun z => hle (by omega)) ⟨_, rfl, by show 2 ≤ sizeLine; decide, ?_⟩
              exact bad "length" _ X3 (ask2 (by rw [hnq]; show (if l.length = _ then _ else _) = _; rw [if_neg hle]))
      · refine ibT (by rw [lx]; simp; omega) (iteT ⟨_, rfl, by show 2 ≤ sizeLine; decide, ?_⟩)
        refine bad "kind" H X1 ?_
        unfold askBad
        rw [hsq]
        match l, h2 with
        | [], _ => rfl
        | [_], _ => rfl
        | _ :: _ :: _ :: _, _ => rfl
        | [_, _], h => exact absurd rfl h

abbrev s_law_book_due : Stmt := topS 62
theorem sc_law_book_due : FnScope ["_law_height", "_law_width", "_law_book_here", "_law_asks", "_law_at", "_law_due"] ["_law_height", "_law_width", "_law_book_here"] (defScope s_law_book_due) := ⟨rfl, rfl, rfl, by decide +kernel, rfl, by decide +kernel, by decide +kernel⟩
def spBookDue (K : PySem.W.Frag) : Sp := fun vs H Q _ => ∃ (G : Hp) (ht wd : Nat) (bv : V) (d : PyData), vs = [.int (ht : Nat), .int (wd : Nat), bv] ∧ Same G H ∧ Da K G bv d ∧ BookShape d ∧
  ∀ (G' H' : Hp) (p : Addr), Ext M0 G H G' H' → Dp K G' (.ref p) (bookDue ht wd d) → Q (.ref p) H'
theorem ok_law_book_due {f : Addr} {fd : FuncData} (F : Fun K "_law_book_due" "_law_book_due" s_law_book_due f fd) (B : Bi mg) (D_law_seq : Dfn P w K mg base CX0 1 "_law_seq" ["_law_thing"] [] (spLSeq K))
    (D_law_ask_due : Dfn P w K mg base CX0 3 "_law_ask_due" ["_law_height", "_law_width", "_law_ask_here", "_law_index"] [] (spAskDue K)) : FnOk P w K mg base CX0 4 f fd ["_law_height", "_law_width", "_law_book_here"] (spBookDue K) := by
  refine F.ok sc_law_book_due (fun vs H Q E h => ?_) (fun cdv A outer s H vs Q E hr h => ?_)
  · obtain ⟨_, _, _, _, _, rfl, _⟩ := h
    rfl
  · obtain ⟨G, ht, wd, bv, d, rfl, gh, hd, hsh, q⟩ := h
    refine ⟨_, (pss_cons (ps_if (PW.pt (pw_or (pt_not (pt_val (pe_dfn D_law_seq (hr.mono (by decide)) (by rfl) pass0 (pa_cons (pv 2) pa_nil)))) (pw_or1 (pt_cmpR op_gt (pe_callB call_len_seq (by rfl) B.len (by decide +kernel) (pa_cons (pv 2) pa_nil)) pe_int (nomark _)))))
        (pss_one (ps_ret (pe_lst (pa_cons pe_int (pa_cons pe_str pa_nil)))))
        pss_nil)
      (pss_cons (ps_set (i := 3) sc_law_book_due.nd rfl (.inl rfl) (pe_lst pa_nil))
      (pss_cons (ps_for PassesOwn.never rfl (pi_range1 (by rfl) B.range (pa_cons (pe_callB call_len_seq (by rfl) B.len (by decide +kernel) (pa_cons (pv 2) pa_nil)) pa_nil)) (pg_name (i := 4) sc_law_book_due.nd rfl (.inl rfl))
        (pss_cons (ps_set (i := 5) sc_law_book_due.nd rfl (.inl rfl) (pe_dfn D_law_ask_due (hr.mono (by decide)) (by rfl) pass0 (pa_cons (pv 0) (pa_cons (pv 1) (pa_cons (pe_ix ix_seq (pv 2) (pv 4) (fun _ _ => rfl)) (pa_cons (pv 4) pa_nil))))))
        (pss_cons (ps_if (pt_val (pe_callB call_isN (by rfl) B.isinstance (by decide +kernel) (pa_cons (pv 5) (pa_cons (pe_bltn (v := .ty "list") (by rfl) B.list (by decide +kernel) rfl) pa_nil))))
          (pss_one (ps_ret (pv 5)))
          pss_nil)
        (pss_one (ps_expr (pe_bm PySem.F.plainAttrs_list PySem.F.slot_list_append PySem.F.type_list_append mt_append (pv 3) (pa_cons (pv 5) pa_nil)))))))
      (pss_one (ps_ret (pe_callTy call_tuple_of (by rfl) B.tuple (by decide +kernel) (pa_cons (pv 3) pa_nil))))))), ?_⟩
    have X1 : Ext M0 G H G H := Ext.refl gh
    have many : bookBad ht wd d = some ((0 : Int), ("many" : Str)) → ∀ p, H p = none → Q (.ref p) (upd H p (.lst [.int 0, .str "many"])) := fun e p hp => by
      refine q _ _ p (X1.fin hp) ?_
      unfold bookDue
      rw [e]
      exact dp_bad
    refine ⟨_, rfl, _, _, rfl, da_mono gh hd, _, rfl, ?_⟩
    cases hsq : seqOf d with
    | none =>
      refine ibT (by rw [isSeqD_of, hsq]; rfl) (iteT ⟨by show 2 ≤ sizeLine; decide, ?_⟩)
      exact many (by unfold bookBad; rw [hsq])
    | some l =>
      refine ibF (by rw [isSeqD_of, hsq]; rfl) ?_
      obtain ⟨a, xs, rfl, hs, hx⟩ := dp_seq (da_seq hd hsq) hsq
      have lx : xs.length = l.length := dpAll_len hx
      refine ⟨.ref a, rfl, a, xs, rfl, hs.mono X1.gh, (xs.length : Nat), 8, rfl, rfl, _, rfl, ?_⟩
      by_cases h8 : 8 < l.length
      · refine ibT (decide_eq_true (by omega)) ⟨by show 2 ≤ sizeLine; decide, ?_⟩
        exact many (by unfold bookBad; rw [hsq]; show (if _ then _ else _) = _; rw [if_pos h8])
      · refine ibF (decide_eq_false (by omega)) ⟨Nat.zero_le _, fun p hp => ?_⟩
        have hb : ∀ {y}, firstBad ht wd 0 l = y → bookBad ht wd d = y := fun {y} e => by
          unfold bookBad
          rw [hsq]
          show (if _ then _ else _) = _
          rw [if_neg h8]
          exact e
        have hr' : bookRes d = .tuple (l.map askRes) := by unfold bookRes; rw [hsq]; rfl
        have gp : G p = none := gh.free hp
        have X2 := X1.al (o := .lst []) hp
        refine ⟨.ref a, rfl, a, xs, rfl, hs.mono X2.gh, _, rfl, by omega, by omega, ?_⟩
        refine for_it walk_range (fun n σ H' => ∃ (y4 y5 : Option V) (G' : Hp) (ys : List V), σ = [some (.int (ht : Nat)), some (.int (wd : Nat)), some (.ref a), some (.ref p), y4, y5] ∧ Ext M0 G H G' H' ∧ H' p = some (.lst ys) ∧ G' p = none ∧ DpAll K G' ys ((l.take n).map askRes) ∧ ys.length = n ∧
            firstBad ht wd 0 l = firstBad ht wd n (l.drop n))
          ⟨none, none, G, [], rfl, X2, upd_same, gp, .nil, rfl, rfl⟩ (fun _ _ _ _ _ => trivial) (fun n x σ H' H2 hn' hP hY => ?_) (fun σ H' hP => ?_)
        · obtain ⟨y4, y5, G', ys, rfl, X, ep, gp', hy, hl, hf⟩ := hP
          obtain ⟨eH, rfl⟩ := hY
          subst eH
          have hnl : n < l.length := by simp at hn'; omega
          obtain ⟨z, ez, hz⟩ := dpAll_get hx (List.getElem?_eq_getElem hnl)
          have hd' : l.drop n = l[n] :: l.drop (n + 1) := List.drop_eq_getElem_cons hnl
          have e0 : (0 : Int) + (n : Nat) = (n : Nat) := Int.zero_add _
          refine ⟨_, rfl, _, rfl, .ref a, rfl, _, rfl, rIx_of0 (hs.mono (X.gg.trans X.gh)) ez ⟨_, rfl, G', ht, wd, z, l[n], _, rfl, X.gh, dp_mono X.gg hz, hsh l hsq _ (List.getElem_mem hnl), fun G3 H3 b Y3 d3 => ?_⟩⟩
          have X3 := X.trans Y3
          refine ⟨_, rfl, .ref b, "list", _, _, rfl, .inl (dp_mono Y3.gh d3), kit_list _, _, rfl, ?_⟩
          cases hab : askBad ht wd l[n] with
          | some x =>
            have eD : askDue ht wd l[n] (0 + (n : Nat)) = badD (n : Nat) x := by unfold askDue; rw [hab, e0]
            rw [eD] at d3
            refine ibT (by rw [eD]; rfl) ⟨_, rfl, q _ _ b X3 ?_⟩
            have : bookDue ht wd d = badD (n : Nat) x := by
              unfold bookDue
              have h3 : bookBad ht wd d = some ((n : Int), x) := hb (by
                rw [hf, hd']
                show (match askBad ht wd l[n] with | some x => _ | none => _) = _
                rw [hab])
              rw [h3]
            rw [this]
            exact d3
          | none =>
            have eD : askDue ht wd l[n] (0 + (n : Nat)) = askRes l[n] := by unfold askDue; rw [hab]
            obtain ⟨k, ns, _, hres⟩ := askRes_tuple hab
            rw [eD] at d3
            refine ibF (by rw [eD, hres]; rfl) ?_
            have ep3 : H3 p = some (.lst ys) := Y3.sm _ _ ep
            have gp3 : G3 p = none := Y3.out gp' ep
            refine ⟨.ref p, rfl, .inl ⟨rfl, _, .inl (.inl ep3)⟩, _, rfl, p, ys, _, rfl, rfl, ep3, small1000 (by omega), ?_⟩
            refine ⟨_, _, G3, ys ++ [.ref b], rfl, X3.wr (.inl hp) gp3, upd_same, gp3, ?_, by rw [List.length_append, hl]; rfl, ?_⟩
            · rw [List.take_add_one, List.getElem?_eq_getElem hnl, Option.toList_some, List.map_append]
              exact dpAll_app (dpAll_mono Y3.gg hy) (dpAll_one d3)
            · rw [hf, hd']
              show (match askBad ht wd l[n] with | some x => _ | none => _) = _
              rw [hab]
        · obtain ⟨y4, y5, G', ys, rfl, X, ep, gp', hy, hl, hf⟩ := hP
          rw [Int.toNat_natCast, lx, List.take_of_length_le (Nat.le_refl _)] at hy
          rw [Int.toNat_natCast, lx, List.drop_length] at hf
          refine ⟨.ref p, rfl, p, ys, rfl, .inl ⟨.inl (.inl ep), fun t ht' => ?_⟩⟩
          refine q _ _ t (X.fin ht') ?_
          have : bookDue ht wd d = .tuple (l.map askRes) := by
            unfold bookDue
            have h3 : bookBad ht wd d = none := hb hf
            rw [h3, ← hr']
          rw [this]
          exact dp_of_tup upd_same (dpAll_mono (same_upd (X.gh.free ht')) hy)
end
end K36
end

section
set_option pp.maxSteps 400
set_option pp.deepTerms false
set_option Elab.async false
set_option linter.all false
set_option maxRecDepth 100000
set_option maxHeartbeats 4000000
/-! K36, the law's odd things: rid, loose. -/
namespace K36
open PySem PySem.Spec PyProof.Rows L2

/-- (v, ..)[_law_take(hand, many)] -/
theorem drawV {K : PySem.W.Frag} {h p : Addr} {G H : Hp} {xs : List V} {many : Nat} {Q : VK} (gh : Same G H) (hk : HandOk K G H h) (hn : xs.length = many) (hm : 0 < many) (hm2 : many < 2 ^ 40) (hp : H p = none)
    (q : ∀ (H' : Hp) (r : Nat) (v : V), Ext (M1 h) G H G H' → HandOk K G H' h → xs[r]? = some v → Q v H') :
    spTake K [.ref h, .int (many : Nat)] (upd H p (.tup xs)) (fun y H2 => rIxT K (.ref p) y H2 Q) E0 := by
  have X1 := (Ext.refl (M := M0) gh).al (o := .tup xs) hp
  have np := hk.ne hp
  refine ⟨G, h, many, rfl, X1.gh, hk.ext X1, hm, hm2, fun H' r X2 hk2 hr => ?_⟩
  have hrn : r < xs.length := by omega
  exact ⟨p, xs, (r : Nat), xs[r], rfl, rfl, .inl (.inl (X2.at1 np upd_same)), atI_nat (List.getElem?_eq_getElem hrn), q H' r _ (X1.up.trans X2) hk2 (List.getElem?_eq_getElem hrn)⟩
theorem drawL {K : PySem.W.Frag} {h p : Addr} {G H : Hp} {xs : List V} {many : Nat} {Q : VK} (gh : Same G H) (hk : HandOk K G H h) (hn : xs.length = many) (hm : 0 < many) (hm2 : many < 2 ^ 40) (ep : H p = some (.lst xs)) (np : p ≠ h)
    (q : ∀ (H' : Hp) (r : Nat) (v : V), Ext (M1 h) G H G H' → HandOk K G H' h → xs[r]? = some v → Q v H') :
    spTake K [.ref h, .int (many : Nat)] H (fun y H2 => rIxL K (.ref p) y H2 Q) E0 := by
  refine ⟨G, h, many, rfl, gh, hk, hm, hm2, fun H' r X2 hk2 hr => ?_⟩
  have hrn : r < xs.length := by omega
  exact ⟨p, xs, (r : Nat), xs[r], rfl, rfl, .inl (.inl (X2.at1 np ep)), atI_nat (List.getElem?_eq_getElem hrn), q H' r _ X2 hk2 (List.getElem?_eq_getElem hrn)⟩

/-! ### loosened data -/
def Lo : Nat → PyData → PyData → Prop
  | 0, d, d' => seqOf d = none ∧ d' = d
  | n + 1, d, d' => (seqOf d = none ∧ d' = d) ∨ ∃ l l', seqOf d = some l ∧ seqOf d' = some l' ∧ l.length = l'.length ∧ ∀ (i : Nat) (a b : PyData), l[i]? = some a → l'[i]? = some b → Lo n a b
def Dep : Nat → PyData → Prop
  | 0, d => seqOf d = none
  | n + 1, d => ∀ l, seqOf d = some l → l.length ≤ 100 ∧ ∀ a ∈ l, Dep n a
section
variable {P : Program} {w : World} {K : PySem.W.Frag} {mg : Str → Option Value} {base : Heap}
abbrev s_law_rid : Stmt := topS 51
theorem sc_law_rid : FnScope ["_law_hand_here"] ["_law_hand_here"] (defScope s_law_rid) := ⟨rfl, rfl, rfl, by decide +kernel, rfl, by decide +kernel, by decide +kernel⟩
def spRid (K : PySem.W.Frag) : Sp := fun vs H Q _ => ∃ (G : Hp) (h : Addr), vs = [.ref h] ∧ Same G H ∧ HandOk K G H h ∧
  ∀ (G' H' : Hp) (v : V) (d : PyData), Ext (M1 h) G H G' H' → HandOk K G' H' h → Da K G' v d → seqOf d = none ∨ seqOf d = some [.int 1] → Q v H'
theorem ok_law_rid {f : Addr} {fd : FuncData} (F : Fun K "_law_rid" "_law_rid" s_law_rid f fd) (D_law_take : Dfn P w K mg base CX0 2 "_law_take" ["_law_hand_here", "_law_many_here"] [] (spTake K)) : FnOk P w K mg base CX0 3 f fd ["_law_hand_here"] (spRid K) := by
  refine F.ok sc_law_rid (fun vs H Q E h => ?_) (fun cdv A outer s H vs Q E hr h => ?_)
  · obtain ⟨_, _, rfl, _⟩ := h
    rfl
  · obtain ⟨G, h, rfl, gh, hk, q⟩ := h
    refine ⟨_, (pss_one (ps_ret (pe_ix ix_tup (pe_tup (pa_cons pe_non (pa_cons pe_str (pa_cons pe_bl (pa_cons (pe_disp (pps_cons pe_int pe_int pps_nil) rfl rfl (by decide) (by decide)) (pa_cons (pe_tup (pa_cons pe_int pa_nil)) (pa_cons pe_bl pa_nil)))))))
      (pe_dfn D_law_take (hr.mono (by decide)) (by rfl) pass0 (pa_cons (pv 0) (pa_cons pe_int pa_nil))) (fun _ _ => rfl)))), ?_⟩
    refine fun D hD => ⟨upd_same, [(.inl 0, .int 1)], rfl, by decide, by show 1 ≤ sizeLine; decide, fun t ht => ⟨by show 6 ≤ sizeLine; decide, fun p hp => ?_⟩⟩
    rw [upd_upd] at ht hp ⊢
    have nD := hk.ne hD
    have X1 := (Ext.refl (M := M0) gh).fin (o := .dK (mergeK [] [(.inl 0, .int 1)])) hD
    have hk1 := (hk.wr (o := .dK (mergeK [] [(.inl 0, .int 1)])) nD).fin (o := .dK (mergeK [] [(.inl 0, .int 1)])) (gh.free hD) nD
    have X2 := X1.fin (o := .tup [.int 1]) ht
    have nt := hk1.ne ht
    have hk2 := (hk1.wr (o := .tup [.int 1]) nt).fin (o := .tup [.int 1]) (X1.gh.free ht) nt
    have ntD : t ≠ D := fun z => by rw [z, upd_same] at ht; cases ht
    refine ⟨.ref h, rfl, drawV (many := 6) X2.gh hk2 rfl (by decide) (by decide) hp fun H' r v X hk' hv => ?_⟩
    have X3 := X2.up.trans X
    have gD : (upd (upd G D (.dK (mergeK [] [(.inl 0, .int 1)]))) t (.tup [.int 1])) D = some (.dK (mergeK [] [(.inl 0, .int 1)])) := by rw [upd_ne (Ne.symm ntD), upd_same]
    match r, hv with
    | 0, hv => cases hv; exact q _ _ _ .none X3 hk' (.inl .non) (.inl rfl)
    | 1, hv => cases hv; exact q _ _ _ (.str "ab") X3 hk' (.inl (.str _)) (.inl rfl)
    | 2, hv => cases hv; exact q _ _ _ (.bool true) X3 hk' (.inl (.bl _)) (.inl rfl)
    | 3, hv => cases hv; exact q _ _ _ (.dict []) X3 hk' (.inr ⟨rfl, D, _, rfl, gD⟩) (.inl rfl)
    | 4, hv => cases hv; exact q _ _ _ (.tuple [.int 1]) X3 hk' (.inl (dp_of_tup upd_same (dpAll_of_ints [1]))) (.inr rfl)
    | 5, hv => cases hv; exact q _ _ _ (.bool false) X3 hk' (.inl (.bl _)) (.inl rfl)
    | n + 6, hv => cases hv

abbrev s_law_loose : Stmt := topS 55
abbrev N_law_loose : List Str := ["_law_hand_here", "_law_thing", "_law_items", "_law_item"]
theorem sc_law_loose : FnScope ["_law_hand_here", "_law_thing", "_law_items", "_law_item"] ["_law_hand_here", "_law_thing"] (defScope s_law_loose) := ⟨rfl, rfl, rfl, by decide +kernel, rfl, by decide +kernel, by decide +kernel⟩
def spLoose (K : PySem.W.Frag) (n : Nat) : Sp := fun vs H Q _ => ∃ (G : Hp) (h : Addr) (v : V) (d : PyData), vs = [.ref h, v] ∧ Same G H ∧ HandOk K G H h ∧ Dp K G v d ∧ Dep n d ∧
  ∀ (G' H' : Hp) (v' : V) (d' : PyData), Ext (M1 h) G H G' H' → HandOk K G' H' h → Dp K G' v' d' → Lo n d d' → Q v' H'
theorem ok_law_loose0 {f : Addr} {fd : FuncData} (F : Fun K "_law_loose" "_law_loose" s_law_loose f fd) (D_law_seq : Dfn P w K mg base CX0 1 "_law_seq" ["_law_thing"] [] (spLSeq K)) : FnOk P w K mg base CX0 3 f fd ["_law_hand_here", "_law_thing"] (spLoose K 0) := by
  refine F.ok sc_law_loose (fun vs H Q E h => ?_) (fun cdv A outer s H vs Q E hr h => ?_)
  · obtain ⟨_, _, _, _, rfl, _⟩ := h
    rfl
  · obtain ⟨G, h, v, d, rfl, gh, hk, hd, hdep, q⟩ := h
    refine ⟨_, (pss_cons (ps_if (pt_val (pe_dfn D_law_seq (hr.mono (by decide)) (by rfl) pass0 (pa_cons (pv 1) pa_nil))) (pss_cons ps_never (pss_one ps_never)) pss_nil) (pss_one (ps_ret (pv 1)))), ?_⟩
    have hn : seqOf d = none := hdep
    refine ⟨v, rfl, v, d, rfl, .inl (dp_mono gh hd), _, rfl, ibF (by rw [isSeqD_of, hn]; rfl) ⟨v, rfl, q _ _ v d (Ext.refl gh) hk hd ⟨hn, rfl⟩⟩⟩
theorem ok_law_loose {n k : Nat} {f : Addr} {fd : FuncData} (F : Fun K "_law_loose" "_law_loose" s_law_loose f fd) (B : Bi mg) (D_law_seq : Dfn P w K mg base CX0 1 "_law_seq" ["_law_thing"] [] (spLSeq K)) (D_law_take : Dfn P w K mg base CX0 2 "_law_take" ["_law_hand_here", "_law_many_here"] [] (spTake K))
    (D_law_loose : Dfn P w K mg base CX0 (k + 3) "_law_loose" ["_law_hand_here", "_law_thing"] [] (spLoose K n)) : FnOk P w K mg base CX0 (k + 4) f fd ["_law_hand_here", "_law_thing"] (spLoose K (n + 1)) := by
  refine F.ok sc_law_loose (fun vs H Q E h => ?_) (fun cdv A outer s H vs Q E hr h => ?_)
  · obtain ⟨_, _, _, _, rfl, _⟩ := h
    rfl
  · obtain ⟨G, h, v, d, rfl, gh, hk, hd, hdep, q⟩ := h
    refine ⟨_, (pss_cons (ps_if (pt_val (pe_dfn D_law_seq (hr.mono (by omega)) (by rfl) pass0 (pa_cons (pv 1) pa_nil)))
        (pss_cons (ps_setLc (i := 2) (own := [("_law_item", 3)]) (g := gName 3) (tt := tYes) (te := tCall (spLoose K n) [] E0 (tCons (tVar 0) (tCons (tVar 3) tNil))) rfl sc_law_loose.nd rfl rfl (sw_true rfl rfl rfl (by decide +kernel)) (pi_seq (pv 1)) (blkOk_by (own := [("_law_item", 3)]) (N := N_law_loose) (sc := defScope s_law_loose) (by decide +kernel)) (fun _ _ _ _ _ => (pg_name (i := 3) sc_law_loose.nd rfl (.inl rfl))) (fun _ _ _ _ _ => pts_nil) (fun _ _ _ _ _ => (pe_dfn D_law_loose hr (by rfl) pass0 (pa_cons (pv 0) (pa_cons (pv 3) pa_nil)))))
        (pss_one (ps_ret (pe_ifExp (pt_truth (pe_dfn D_law_take (hr.mono (by omega)) (by rfl) pass0 (pa_cons (pv 0) (pa_cons pe_int pa_nil))) (by intro _; rfl)) (pv 2) (pe_callTy call_tuple_of (by rfl) B.tuple (by decide +kernel) (pa_cons (pv 2) pa_nil))))))
        pss_nil)
      (pss_one (ps_ret (pv 1)))), ?_⟩
    refine ⟨v, rfl, v, d, rfl, .inl (dp_mono gh hd), _, rfl, ?_⟩
    cases hsq : seqOf d with
    | none => exact ibF (by rw [isSeqD_of, hsq]; rfl) ⟨v, rfl, q _ _ v d (Ext.refl gh) hk hd (.inl ⟨hsq, rfl⟩)⟩
    | some l =>
      refine ibT (by rw [isSeqD_of, hsq]; rfl) ?_
      obtain ⟨a, xs, rfl, hs, hx⟩ := dp_seq hd hsq
      obtain ⟨l100, hel⟩ := hdep l hsq
      have lx : xs.length = l.length := dpAll_len hx
      -- behind the items
      have behind : ∀ (D : Addr) (G' H' : Hp) (ys : List V) (l' : List PyData), H D = none → Ext (M1 h) G H G' H' → HandOk K G' H' h → H' D = some (.lst ys) → G' D = none → DpAll K G' ys l' → l.length = l'.length → (∀ (i : Nat) (x b : PyData), l[i]? = some x → l'[i]? = some b → Lo n x b) →
          (tRet (tIf (fun σ H Q => tCall (spTake K) [] E0 (tCons (tVar 0) (tCons (tC (.int 2)) tNil)) σ H fun x H' => ∃ k, TruV K x H' k ∧ Q k H') (tVar 2) (tCB (rTupOf K) (tCons (tVar 2) tNil)))) { nx := fun _ H' => Q .non H', rt := Q } [some (.ref h), some (.ref a), some (.ref D), none] H' := by
        intro D G' H' ys l' hD X hk' eD gD hy hl hlo
        have nD := hk.ne hD
        refine ⟨.ref h, rfl, G', h, 2, rfl, X.gh, hk', by decide, by decide, fun H2 r X2 hk2 hr2 => ⟨_, rfl, ?_⟩⟩
        have X3 := X.trans X2
        have eD2 := X2.at1 nD eD
        refine ib2 (fun _ => ⟨.ref D, rfl, ?_⟩) (fun _ => ⟨.ref D, rfl, D, ys, rfl, .inl ⟨.inl (.inl eD2), fun t ht => ?_⟩⟩)
        · exact q _ _ _ (.list l') (X3.fz hD eD2 gD) (hk2.fin gD nD) (dp_of_lst upd_same (dpAll_mono (same_upd gD) hy)) (.inr ⟨l, l', hsq, rfl, hl, hlo⟩)
        · have nt := hk2.ne ht
          have gt := X3.gh.free ht
          exact q _ _ _ (.tuple l') (X3.fin ht) ((hk2.wr nt).fin gt nt) (dp_of_tup upd_same (dpAll_mono (same_upd gt) hy)) (.inr ⟨l, l', hsq, rfl, hl, hlo⟩)
      have turn : ∀ (D : Addr) (Pv : Nat → Hp → Prop), H D = none → (Pv = fun m H' => ∃ G' ys l', Ext (M1 h) G H G' H' ∧ HandOk K G' H' h ∧ H' D = some (.lst ys) ∧ G' D = none ∧ DpAll K G' ys l' ∧ l'.length = m ∧ ∀ (i : Nat) (x b : PyData), (l.take m)[i]? = some x → l'[i]? = some b → Lo n x b) →
          ∀ m x H2, m < xs.length → Pv m H2 → xs[m]? = some x → spLoose K n [.ref h, x] H2 (fun y H4 => ∃ acc, H4 D = some (.lst acc) ∧ acc.length < sizeLine ∧ Pv (m + 1) (upd H4 D (.lst (acc ++ [y])))) E0 := by
        intro D Pv hD hPv m x H2 hm hP ex
        rw [hPv] at hP ⊢
        obtain ⟨G', ys, l', X, hk', eD, gD, hy, hl, hlo⟩ := hP
        have nD := hk.ne hD
        obtain ⟨e, he, hde⟩ := dpAll_at hx ex
        have hml : m < l.length := by rw [← lx]; exact hm
        have ee : l[m] = e := by rw [List.getElem?_eq_getElem hml] at he; exact Option.some.inj he
        refine ⟨G', h, x, e, rfl, X.gh, hk', dp_mono X.gg hde, hel e (ee ▸ List.getElem_mem hml), fun G5 H5 v' d' X5 hk5 d5 lo5 => ?_⟩
        have gD5 := X5.out gD eD
        refine ⟨ys, X5.at1 nD eD, Nat.lt_of_lt_of_le (show ys.length < 1000 by rw [dpAll_len hy]; omega) (by decide), G5, ys ++ [v'], l' ++ [d'], (X.trans X5).wr (.inl hD) gD5, hk5.wr nD, upd_same, gD5, dpAll_app (dpAll_mono X5.gg hy) (dpAll_one d5), by rw [List.length_append, hl]; rfl, fun i x2 b hx2 hb => ?_⟩
        by_cases hi : i < m
        · rw [List.getElem?_append_left (by omega)] at hb
          refine hlo i x2 b ?_ hb
          rw [List.getElem?_take] at hx2 ⊢
          rw [if_pos (by omega)] at hx2
          rw [if_pos hi]
          exact hx2
        · by_cases hi2 : i = m
          · subst hi2
            rw [List.getElem?_take, if_pos (by omega), he] at hx2
            rw [List.getElem?_append_right (by omega), hl, Nat.sub_self] at hb
            have hx2 := Option.some.inj hx2
            have hb : d' = b := Option.some.inj hb
            rw [← hx2, ← hb]
            exact lo5
          · rw [List.getElem?_take, if_neg (by omega)] at hx2
            cases hx2
      rcases hs with hL | hT
      · refine .inl ⟨.ref a, rfl, a, rfl, ⟨_, sql_mono gh hL⟩, fun D hD => ?_⟩
        have nD := hk.ne hD
        obtain ⟨Pv, hPv⟩ : ∃ Pv : Nat → Hp → Prop, Pv = fun m H' => ∃ G' ys l', Ext (M1 h) G H G' H' ∧ HandOk K G' H' h ∧ H' D = some (.lst ys) ∧ G' D = none ∧ DpAll K G' ys l' ∧ l'.length = m ∧ ∀ (i : Nat) (x b : PyData), (l.take m)[i]? = some x → l'[i]? = some b → Lo n x b := ⟨_, rfl⟩
        refine lc_it ((walk_list (K := K) (a := a) (xs := xs)).mono (G' := fun H' => Same G H') (fun H' e => sql_mono e hL) (fun _ _ _ _ _ _ y => y)) Pv
          (by rw [hPv]; exact ⟨G, [], [], (Ext.refl gh).al hD, hk.wr nD, upd_same, gh.free hD, .nil, rfl, fun i x b hx => by simp at hx⟩) (fun m H' _ hP => ?_) (fun m x H2 H3 hm hP hY => ?_) (fun H2 hP => ?_)
        · rw [hPv] at hP
          obtain ⟨_, _, _, X, _⟩ := hP
          exact X.gg.trans X.gh
        · obtain ⟨rfl, ex⟩ := hY
          exact ⟨rfl, yesT ⟨.ref h, rfl, x, rfl, turn D Pv hD hPv m x _ hm hP ex⟩⟩
        · rw [hPv] at hP
          obtain ⟨G', ys, l', X, hk', eD, gD, hy, hl, hlo⟩ := hP
          rw [lx, List.take_of_length_le (Nat.le_refl _)] at hlo
          exact behind D G' H2 ys l' hD X hk' eD gD hy (by omega) hlo
      · refine .inr ⟨.ref a, rfl, a, rfl, ⟨_, sqt_mono gh hT⟩, fun D hD => ?_⟩
        have nD := hk.ne hD
        obtain ⟨Pv, hPv⟩ : ∃ Pv : Nat → Hp → Prop, Pv = fun m H' => ∃ G' ys l', Ext (M1 h) G H G' H' ∧ HandOk K G' H' h ∧ H' D = some (.lst ys) ∧ G' D = none ∧ DpAll K G' ys l' ∧ l'.length = m ∧ ∀ (i : Nat) (x b : PyData), (l.take m)[i]? = some x → l'[i]? = some b → Lo n x b := ⟨_, rfl⟩
        refine lc_it ((walk_tup (K := K) (a := a) (xs := xs)).mono (G' := fun H' => Same G H') (fun H' e => sqt_mono e hT) (fun _ _ _ _ _ _ y => y)) Pv
          (by rw [hPv]; exact ⟨G, [], [], (Ext.refl gh).al hD, hk.wr nD, upd_same, gh.free hD, .nil, rfl, fun i x b hx => by simp at hx⟩) (fun m H' _ hP => ?_) (fun m x H2 H3 hm hP hY => ?_) (fun H2 hP => ?_)
        · rw [hPv] at hP
          obtain ⟨_, _, _, X, _⟩ := hP
          exact X.gg.trans X.gh
        · obtain ⟨rfl, ex⟩ := hY
          exact ⟨rfl, yesT ⟨.ref h, rfl, x, rfl, turn D Pv hD hPv m x _ hm hP ex⟩⟩
        · rw [hPv] at hP
          obtain ⟨G', ys, l', X, hk', eD, gD, hy, hl, hlo⟩ := hP
          rw [lx, List.take_of_length_le (Nat.le_refl _)] at hlo
          exact behind D G' H2 ys l' hD X hk' eD gD hy (by omega) hlo
end
end K36
end

section
set_option pp.maxSteps 400
set_option pp.deepTerms false
set_option Elab.async false
set_option linter.all false
set_option maxRecDepth 100000
set_option maxHeartbeats 4000000
/-! K36, the law's odd asks. -/
namespace K36
open PySem PySem.Spec PyProof.Rows L2

theorem askShape_of {d : PyData} (h : ∀ k ns, seqOf d = some [k, ns] → SeqAt.shaped k = true) : AskShape d := h
/-- data of things built in one go: finished objects, the hand kept -/
structure Bld (K : PySem.W.Frag) (h : Addr) (G H G' H' : Hp) : Prop where
  x : Ext (M1 h) G H G' H'
  hk : HandOk K G' H' h
section
variable {K : PySem.W.Frag} {h p : Addr} {G H G' H' G2 H2 : Hp} {o : HO}
theorem Bld.fin (b : Bld K h G H G' H') (hp : H' p = none) : Bld K h G H (upd G' p o) (upd H' p o) :=
  have np := b.hk.ne hp
  ⟨b.x.fin hp, (b.hk.wr np).fin (b.x.gh.free hp) np⟩
theorem Bld.al (b : Bld K h G H G' H') (hp : H' p = none) : Bld K h G H G' (upd H' p o) := ⟨b.x.al hp, b.hk.wr (b.hk.ne hp)⟩
theorem Bld.take (b : Bld K h G H G' H') (X : Ext (M1 h) G' H' G2 H2) (hk : HandOk K G2 H2 h) : Bld K h G H G2 H2 := ⟨b.x.trans X, hk⟩
theorem Bld.fin' (b : Bld K h G H G' H') (hp : H' p = none) : ∃ G2, Bld K h G H G2 (upd H' p o) ∧ Same G' G2 ∧ G2 p = some o := ⟨upd G' p o, b.fin hp, same_upd (b.x.gh.free hp), upd_same⟩
theorem Bld.gf (b : Bld K h G H G' H') (hp : H' p = none) : G' p = none := b.x.gh.free hp
end
theorem dpAll_app1 {K : PySem.W.Frag} {G : Hp} {xs : List V} {ds : List PyData} {x : V} {d : PyData} (h : DpAll K G xs ds) (e : Dp K G x d) : DpAll K G (x :: xs) (d :: ds) := .cons e h
section
variable {P : Program} {w : World} {K : PySem.W.Frag} {mg : Str → Option Value} {base : Heap}
abbrev s_law_odd_ask : Stmt := topS 64
theorem sc_law_odd_ask : FnScope ["_law_hand_here", "_law_height", "_law_width", "_law_number_here", "_law_numbers", "_law_kind", "_law_menu"] ["_law_hand_here", "_law_height", "_law_width"] (defScope s_law_odd_ask) := ⟨rfl, rfl, rfl, by decide +kernel, rfl, by decide +kernel, by decide +kernel⟩
def spOdd (K : PySem.W.Frag) : Sp := fun vs H Q _ => ∃ (G : Hp) (h : Addr) (ht wd : Nat), vs = [.ref h, .int (ht : Nat), .int (wd : Nat)] ∧ Same G H ∧ HandOk K G H h ∧ 1 ≤ ht ∧ ht ≤ 6 ∧ 1 ≤ wd ∧ wd ≤ 6 ∧
  ∀ (G' H' : Hp) (v : V) (d : PyData), Ext (M1 h) G H G' H' → HandOk K G' H' h → Dp K G' v d → AskShape d → Q v H'
theorem ok_law_odd_ask {f : Addr} {fd : FuncData} (F : Fun K "_law_odd_ask" "_law_odd_ask" s_law_odd_ask f fd) (B : Bi mg) (D_law_take : Dfn P w K mg base CX0 2 "_law_take" ["_law_hand_here", "_law_many_here"] [] (spTake K)) : FnOk P w K mg base CX0 3 f fd ["_law_hand_here", "_law_height", "_law_width"] (spOdd K) := by
  refine F.ok sc_law_odd_ask (fun vs H Q E h => ?_) (fun cdv A outer s H vs Q E hr h => ?_)
  · obtain ⟨_, _, _, _, rfl, _⟩ := h
    rfl
  · obtain ⟨G, h, ht, wd, rfl, gh, hk, h1, h6, w1, w6, q⟩ := h
    refine ⟨_, (pss_cons (ps_set (i := 3) sc_law_odd_ask.nd rfl (.inl rfl) (pe_ix ix_list (pe_lst (pa_cons (pe_op op_add (pe_op op_pow pe_int pe_int) pe_int) (pa_cons (pe_op op_sub (pe_un un_neg (pe_op op_pow pe_int pe_int)) pe_int) (pa_cons pe_bl (pa_cons pe_non (pa_cons pe_str (pa_cons (pe_tup (pa_cons pe_int (pa_cons pe_int pa_nil))) (pa_cons (pe_op op_pow pe_int pe_int) pa_nil)))))))) (pe_dfn D_law_take (hr.mono (by decide)) (by rfl) pass0 (pa_cons (pv 0) (pa_cons pe_int pa_nil))) (fun _ _ => rfl)))
      (pss_cons (ps_set (i := 4) sc_law_odd_ask.nd rfl (.inl rfl) (pe_op op_rep (pe_lst (pa_cons pe_int pa_nil)) (pv 2)))
      (pss_cons (ps_asg (pv 3) (pg_sub (pv 4) (pe_dfn D_law_take (hr.mono (by decide)) (by rfl) pass0 (pa_cons (pv 0) (pa_cons (pv 2) pa_nil))) set_list))
      (pss_cons (ps_set (i := 5) sc_law_odd_ask.nd rfl (.inl rfl) (pe_ix ix_tup (pe_tup (pa_cons pe_str (pa_cons pe_non (pa_cons pe_int (pa_cons pe_str (pa_cons pe_str (pa_cons pe_bl (pa_cons (pe_tup (pa_cons pe_str pa_nil)) pa_nil)))))))) (pe_dfn D_law_take (hr.mono (by decide)) (by rfl) pass0 (pa_cons (pv 0) (pa_cons pe_int pa_nil))) (fun _ _ => rfl)))
      (pss_cons (ps_set (i := 6) sc_law_odd_ask.nd rfl (.inl rfl) (pe_lst (pa_cons (pe_tup (pa_cons pe_str (pa_cons (pe_callTy call_tuple_of (by rfl) B.tuple (by decide +kernel) (pa_cons (pv 4) pa_nil)) pa_nil))) (pa_cons (pe_tup (pa_cons pe_str (pa_cons (pe_op op_rep (pe_lst (pa_cons pe_int pa_nil)) (pe_op op_add (pv 2) pe_int)) pa_nil))) (pa_cons (pe_tup (pa_cons pe_str (pa_cons (pe_op op_rep (pe_lst (pa_cons pe_int pa_nil)) (pe_op op_sub (pv 1) pe_int)) pa_nil))) (pa_cons (pe_tup (pa_cons pe_str (pa_cons pe_int pa_nil))) pa_nil))))))
      (pss_cons (ps_set (i := 6) sc_law_odd_ask.nd rfl (.inl rfl) (pe_op op_cat (pv 6) (pe_lst (pa_cons (pe_tup (pa_cons (pv 5) (pa_cons (pe_op op_rep (pe_lst (pa_cons pe_int pa_nil)) (pv 2)) pa_nil))) (pa_cons (pe_tup (pa_cons pe_str pa_nil)) (pa_cons pe_non pa_nil))))))
      (pss_one (ps_ret (pe_ix ix_list (pv 6) (pe_dfn D_law_take (hr.mono (by decide)) (by rfl) pass0 (pa_cons (pv 0) (pa_cons pe_int pa_nil))) (fun _ _ => rfl)))))))))), ?_⟩
    have b0 : Bld K h G H G H := ⟨Ext.refl gh, hk⟩
    -- the number
    refine ⟨10, 9, rfl, rfl, ⟨by decide, by decide, by decide⟩, _, _, rfl, rfl, 10, 9, rfl, rfl, ⟨by decide, by decide, by decide⟩, _, rfl, _, _, rfl, rfl, by show 2 ≤ sizeLine; decide, fun t1 ht1 => ⟨10, 30, rfl, rfl, ⟨by decide, by decide, by decide⟩, by show 7 ≤ sizeLine; decide, fun p hp => ?_⟩⟩
    have b1 := b0.fin (o := .tup [.int 1, .int 1]) ht1
    have np := b1.hk.ne hp
    have b2 := b1.al (o := .lst [.int (10 ^ 9 + 1), .int (-(10 ^ 9) - 1), .bl true, .non, .str "1", .ref t1, .int (10 ^ 30)]) hp
    have d1 : DpAll K (upd G t1 (.tup [.int 1, .int 1])) [.int (10 ^ 9 + 1), .int (-(10 ^ 9) - 1), .bl true, .non, .str "1", .ref t1, .int (10 ^ 30)] [.int (10 ^ 9 + 1), .int (-(10 ^ 9) - 1), .bool true, .none, .str "1", .tuple [.int 1, .int 1], .int (10 ^ 30)] :=
      .cons (.int _) (.cons (.int _) (.cons (.bl _) (.cons .non (.cons (.str _) (.cons (dp_of_tup upd_same (dpAll_of_ints [1, 1])) (.cons (.int _) .nil))))))
    refine ⟨.ref h, rfl, drawL (many := 7) b2.x.gh b2.hk rfl (by decide) (by decide) upd_same np fun H3 r3 nh X3 hk3 hv3 => ?_⟩
    have b3 := b2.take X3 hk3
    obtain ⟨nd, _, dn⟩ := dpAll_at d1 hv3
    -- numbers
    refine ⟨by show 1 ≤ sizeLine; decide, fun p2 hp2 => ⟨_, rfl, p2, (wd : Nat), [.int 0], rfl, rfl, upd_same, by omega, by omega, ?_, fun p3 hp3 => ?_⟩⟩
    · show 1 * ((wd : Nat) : Int).toNat ≤ sizeLine
      rw [Int.toNat_natCast]
      exact Nat.le_trans (show 1 * wd ≤ 1000 by omega) (by decide)
    have b4 := (b3.al (o := .lst [.int 0]) hp2)
    have e : (List.replicate ((wd : Nat) : Int).toNat [V.int 0]).flatten = List.replicate wd (.int 0) := by rw [Int.toNat_natCast, rep_flat]
    rw [e] 
    have np3 := b4.hk.ne hp3
    have hp30 := b4.x.free hp3
    have b5 := b4.al (o := .lst (List.replicate wd (.int 0))) hp3
    have gp3 := b4.gf hp3
    refine ⟨nh, rfl, .ref p3, rfl, .ref h, rfl, _, rfl, _, h, wd, rfl, b5.x.gh, b5.hk, by omega, by omega, fun H6 r6 X6 hk6 hr6 => ?_⟩
    have b6 := b5.take X6 hk6
    have ep3 := X6.at1 np3 upd_same
    refine ⟨p3, _, (r6 : Nat), r6, rfl, rfl, ep3, by rw [List.length_replicate]; exact ixN_n hr6, ?_⟩
    have b7 : Bld K h G H _ (upd H6 p3 (.lst ((List.replicate wd (V.int 0)).set r6 nh))) := ⟨b6.x.wr (.inl hp30) gp3, b6.hk.wr np3⟩
    have dnum : DpAll K (upd G t1 (.tup [.int 1, .int 1])) ((List.replicate wd (V.int 0)).set r6 nh) ((List.replicate wd (PyData.int 0)).set r6 nd) := dpAll_set (dpAll_rep (.int 0) wd) r6 dn
    -- the kind
    refine ⟨by show 1 ≤ sizeLine; decide, fun t2 ht2 => ⟨by show 7 ≤ sizeLine; decide, fun p4 hp4 => ?_⟩⟩
    have b8 := b7.fin (o := .tup [.str "column"]) ht2
    have g2 := b7.gf ht2
    have nt2p3 : t2 ≠ p3 := fun z => by rw [z, upd_same] at ht2; cases ht2
    have dk : DpAll K (upd (upd G t1 (.tup [.int 1, .int 1])) t2 (.tup [.str "column"])) [.str "columns", .non, .int 0, .str "c", .str "", .bl true, .ref t2] [.str "columns", .none, .int 0, .str "c", .str "", .bool true, .tuple [.str "column"]] :=
      .cons (.str _) (.cons .non (.cons (.int _) (.cons (.str _) (.cons (.str _) (.cons (.bl _) (.cons (dp_of_tup upd_same (.cons (.str _) .nil)) .nil))))))
    refine ⟨.ref h, rfl, drawV (many := 7) b8.x.gh b8.hk rfl (by decide) (by decide) hp4 fun H9 r9 kv X9 hk9 hv9 => ?_⟩
    have b9 := b8.take X9 hk9
    obtain ⟨kd, hkd, dkv⟩ := dpAll_at dk hv9
    have kshape : SeqAt.shaped kd = true := by
      have : ∀ x ∈ ([.str "columns", .none, .int 0, .str "c", .str "", .bool true, .tuple [.str "column"]] : List PyData), SeqAt.shaped x = true := by decide +kernel
      exact this _ (List.mem_of_getElem? hkd)
    have ep39 := X9.at1 np3 (show upd (upd H6 p3 (.lst ((List.replicate wd (V.int 0)).set r6 nh))) t2 (.tup [.str "column"]) p3 = _ by rw [upd_ne (Ne.symm nt2p3), upd_same])
    have dnum2 := dpAll_mono (same_upd (o := .tup [.str "column"]) g2) dnum
    have rep1 : ∀ (n : Nat) (x : V), (List.replicate ((n : Nat) : Int).toNat [x]).flatten = List.replicate n x := fun n x => by rw [Int.toNat_natCast, rep_flat]
    have z6 : ∀ {n : Nat}, n ≤ 7 → 1 * ((n : Nat) : Int).toNat ≤ sizeLine := fun {n} hn => by
      rw [Int.toNat_natCast]
      exact Nat.le_trans (show 1 * n ≤ 1000 by omega) (by decide)
    -- ('column', tuple(numbers))
    refine ⟨.ref p3, rfl, p3, _, rfl, .inl ⟨.inl (.inl ep39), fun a1 ha1 => ⟨by show 2 ≤ sizeLine; decide, fun a2 ha2 => ?_⟩⟩⟩
    obtain ⟨G10, b10, s10, e10⟩ := b9.fin' (o := .tup ((List.replicate wd (V.int 0)).set r6 nh)) ha1
    obtain ⟨G11, b11, s11, e11⟩ := b10.fin' (o := .tup [.str "column", .ref a1]) ha2
    have m1 : Dp K G11 (.ref a2) (.tuple [.str "column", .tuple ((List.replicate wd (PyData.int 0)).set r6 nd)]) := dp_of_tup e11 (.cons (.str _) (.cons (dp_mono s11 (dp_of_tup e10 (dpAll_mono s10 dnum2))) .nil))
    -- ('column', [1] * (width + 1))
    refine ⟨by show 1 ≤ sizeLine; decide, fun l1 hl1 => ⟨_, rfl, _, _, rfl, rfl, l1, ((wd + 1 : Nat) : Int), [.int 1], rfl, by show V.int ((wd : Nat) + 1) = _; rfl, upd_same, by omega, by omega, z6 (by omega), fun l2 hl2 => ⟨by show 2 ≤ sizeLine; decide, fun a3 ha3 => ?_⟩⟩⟩
    rw [rep1] at ha3 ⊢
    obtain ⟨G13, b13, s13, e13⟩ := (b11.al (o := .lst [.int 1]) hl1).fin' (o := .lst (List.replicate (wd + 1) (.int 1))) hl2
    obtain ⟨G14, b14, s14, e14⟩ := b13.fin' (o := .tup [.str "column", .ref l2]) ha3
    have m2 : Dp K G14 (.ref a3) (.tuple [.str "column", .list (List.replicate (wd + 1) (.int 1))]) := dp_of_tup e14 (.cons (.str _) (.cons (dp_mono s14 (dp_of_lst e13 (dpAll_rep (.int 1) _))) .nil))
    -- ('row', [1] * (height - 1))
    have hh1 : ((ht : Nat) : Int) - 1 = ((ht - 1 : Nat) : Int) := by omega
    refine ⟨by show 1 ≤ sizeLine; decide, fun l3 hl3 => ⟨_, rfl, _, _, rfl, rfl, l3, ((ht - 1 : Nat) : Int), [.int 1], rfl, by show V.int ((ht : Nat) - 1) = _; rw [hh1], upd_same, by omega, by omega, z6 (by omega), fun l4 hl4 => ⟨by show 2 ≤ sizeLine; decide, fun a4 ha4 => ?_⟩⟩⟩
    rw [rep1] at ha4 ⊢
    obtain ⟨G16, b16, s16, e16⟩ := (b14.al (o := .lst [.int 1]) hl3).fin' (o := .lst (List.replicate (ht - 1) (.int 1))) hl4
    obtain ⟨G17, b17, s17, e17⟩ := b16.fin' (o := .tup [.str "row", .ref l4]) ha4
    have m3 : Dp K G17 (.ref a4) (.tuple [.str "row", .list (List.replicate (ht - 1) (.int 1))]) := dp_of_tup e17 (.cons (.str _) (.cons (dp_mono s17 (dp_of_lst e16 (dpAll_rep (.int 1) _))) .nil))
    -- ('row', 5)
    refine ⟨by show 2 ≤ sizeLine; decide, fun a5 ha5 => ⟨by show 4 ≤ sizeLine; decide, fun mu hmu => ?_⟩⟩
    obtain ⟨G18, b18, s18, e18⟩ := b17.fin' (o := .tup [.str "row", .int 5]) ha5
    have m4 : Dp K G18 (.ref a5) (.tuple [.str "row", .int 5]) := dp_of_tup e18 (.cons (.str _) (.cons (.int _) .nil))
    have nmu := b18.hk.ne hmu
    have b19 := b18.al (o := .lst [.ref a2, .ref a3, .ref a4, .ref a5]) hmu
    -- the others
    refine ⟨_, rfl, _, rfl, by show 1 ≤ sizeLine; decide, fun l5 hl5 => ⟨_, rfl, l5, ((wd : Nat) : Int), [.int 0], rfl, rfl, upd_same, by omega, by omega, z6 (by omega), fun l6 hl6 => ⟨by show 2 ≤ sizeLine; decide, fun a6 ha6 => ?_⟩⟩⟩
    rw [rep1] at ha6 ⊢
    have n5 : l5 ≠ mu := fun z => by rw [z, upd_same] at hl5; cases hl5
    obtain ⟨G20, b20, s20, e20⟩ := (b19.al (o := .lst [.int 0]) hl5).fin' (o := .lst (List.replicate wd (.int 0))) hl6
    obtain ⟨G21, b21, s21, e21⟩ := b20.fin' (o := .tup [kv, .ref l6]) ha6
    have s8 := s10.trans (s11.trans (s13.trans (s14.trans (s16.trans (s17.trans (s18.trans s20))))))
    have m5 : Dp K G21 (.ref a6) (.tuple [kd, .list (List.replicate wd (.int 0))]) := dp_of_tup e21 (.cons (dp_mono (s8.trans s21) dkv) (.cons (dp_mono s21 (dp_of_lst e20 (dpAll_rep (.int 0) _))) .nil))
    refine ⟨by show 1 ≤ sizeLine; decide, fun a7 ha7 => ⟨by show 3 ≤ sizeLine; decide, fun l8 hl8 => ?_⟩⟩
    obtain ⟨G22, b22, s22, e22⟩ := b21.fin' (o := .tup [.str "row"]) ha7
    have m6 : Dp K G22 (.ref a7) (.tuple [.str "row"]) := dp_of_tup e22 (.cons (.str _) .nil)
    have b23 := b22.al (o := .lst [.ref a6, .ref a7, .non]) hl8
    have emu : ∀ {H' : Hp} {q : Addr} {o : HO}, H' mu = some (.lst [.ref a2, .ref a3, .ref a4, .ref a5]) → H' q = none → upd H' q o mu = some (.lst [.ref a2, .ref a3, .ref a4, .ref a5]) := fun {H' q o} e n => by rw [upd_ne (ne_of_none e n)]; exact e
    refine ⟨mu, l8, _, _, rfl, rfl, emu (emu (emu (emu (emu upd_same hl5) hl6) ha6) ha7) hl8, upd_same, by show 7 ≤ sizeLine; decide, fun m7 hm7 => ?_⟩
    have nm7 := b23.hk.ne hm7
    have b24 := b23.al (o := .lst ([.ref a2, .ref a3, .ref a4, .ref a5] ++ [.ref a6, .ref a7, .non])) hm7
    have q1 := s13.trans (s14.trans (s16.trans (s17.trans (s18.trans (s20.trans (s21.trans s22))))))
    have q2 := s16.trans (s17.trans (s18.trans (s20.trans (s21.trans s22))))
    have q3 := s18.trans (s20.trans (s21.trans s22))
    have q4 := s20.trans (s21.trans s22)
    have dm : DpAll K G22 ([.ref a2, .ref a3, .ref a4, .ref a5] ++ [.ref a6, .ref a7, .non]) [.tuple [.str "column", .tuple ((List.replicate wd (PyData.int 0)).set r6 nd)], .tuple [.str "column", .list (List.replicate (wd + 1) (.int 1))], .tuple [.str "row", .list (List.replicate (ht - 1) (.int 1))],
        .tuple [.str "row", .int 5], .tuple [kd, .list (List.replicate wd (.int 0))], .tuple [.str "row"], .none] :=
      .cons (dp_mono q1 m1) (.cons (dp_mono q2 m2) (.cons (dp_mono q3 m3) (.cons (dp_mono q4 m4) (.cons (dp_mono s22 m5) (.cons m6 (.cons .non .nil))))))
    refine ⟨_, rfl, .ref h, rfl, drawL (many := 7) b24.x.gh b24.hk rfl (by decide) (by decide) upd_same nm7 fun H25 r25 v X25 hk25 hv25 => ?_⟩
    obtain ⟨d, hd, dv⟩ := dpAll_at dm hv25
    refine q _ _ v d (b24.take X25 hk25).x hk25 dv ?_
    have sc : SeqAt.shaped (.str "column") = true := by decide +kernel
    have sr : SeqAt.shaped (.str "row") = true := by decide +kernel
    have two : ∀ {k ns : PyData}, SeqAt.shaped k = true → AskShape (.tuple [k, ns]) := fun {k ns} hk k' ns' e => by
      have e := Option.some.inj (show some [k, ns] = some [k', ns'] from e)
      cases e
      exact hk
    match r25, hd with
    | 0, hd => cases hd; exact two sc
    | 1, hd => cases hd; exact two sc
    | 2, hd => cases hd; exact two sr
    | 3, hd => cases hd; exact two sr
    | 4, hd => cases hd; exact two kshape
    | 5, hd => cases hd; exact fun k ns e => by cases (show some [PyData.str "row"] = some [k, ns] from e)
    | 6, hd => cases hd; exact fun k ns e => by cases (show none = some [k, ns] from e)
    | n + 7, hd => cases hd
end
end K36
end

section
set_option pp.maxSteps 400
set_option pp.deepTerms false
set_option Elab.async false
set_option linter.all false
set_option maxRecDepth 100000
set_option maxHeartbeats 4000000
/-! K36, the law's spoiled books. -/
namespace K36
open PySem PySem.Spec PyProof.Rows L2

theorem bookShape_rid {d : PyData} (h : seqOf d = none ∨ seqOf d = some [.int 1]) : BookShape d := by
  intro l e x hx
  rcases h with h | h
  · rw [h] at e; cases e
  · rw [h] at e
    have e := Option.some.inj e
    subst e
    rw [List.mem_singleton.mp hx]
    intro k ns z
    cases z
section
variable {P : Program} {w : World} {K : PySem.W.Frag} {mg : Str → Option Value} {base : Heap}
abbrev s_law_spoiled : Stmt := topS 57
theorem sc_law_spoiled : FnScope ["_law_hand_here", "_law_things", "_law_odd", "_law_kind", "_law_rows", "_law_at", "_law_other", "_law_kept"] ["_law_hand_here", "_law_things", "_law_odd"] (defScope s_law_spoiled) := ⟨rfl, rfl, rfl, by decide +kernel, rfl, by decide +kernel, by decide +kernel⟩
def spSpoiled (K : PySem.W.Frag) : Sp := fun vs H Q _ => ∃ (G : Hp) (h : Addr) (tv ov : V) (td od : PyData) (l : List PyData), vs = [.ref h, tv, ov] ∧ Same G H ∧ HandOk K G H h ∧ Dp K G tv td ∧ seqOf td = some l ∧ l.length ≤ 20 ∧ (∀ e ∈ l, AskShape e) ∧ Dp K G ov od ∧ AskShape od ∧
  ∀ (G' H' : Hp) (v : V) (d : PyData), Ext (M1 h) G H G' H' → HandOk K G' H' h → Da K G' v d → BookShape d → (∀ l', seqOf d = some l' → l'.length ≤ l.length + 1) → Q v H'
theorem ok_law_spoiled {f : Addr} {fd : FuncData} (F : Fun K "_law_spoiled" "_law_spoiled" s_law_spoiled f fd) (B : Bi mg) (D_law_take : Dfn P w K mg base CX0 2 "_law_take" ["_law_hand_here", "_law_many_here"] [] (spTake K))
    (D_law_rid : Dfn P w K mg base CX0 3 "_law_rid" ["_law_hand_here"] [] (spRid K)) : FnOk P w K mg base CX0 4 f fd ["_law_hand_here", "_law_things", "_law_odd"] (spSpoiled K) := by
  refine F.ok sc_law_spoiled (fun vs H Q E h => ?_) (fun cdv A outer s H vs Q E hr h => ?_)
  · obtain ⟨_, _, _, _, _, _, _, rfl, _⟩ := h
    rfl
  · obtain ⟨G, h, tv, ov, td, od, l, rfl, gh, hk, htd, hsq, l20, hel, hod, hos, q⟩ := h
    refine ⟨_, (pss_cons (ps_set (i := 3) sc_law_spoiled.nd rfl (.inl rfl) (pe_dfn D_law_take (hr.mono (by decide)) (by rfl) pass0 (pa_cons (pv 0) (pa_cons pe_int pa_nil))))
      (pss_cons (ps_set (i := 4) sc_law_spoiled.nd rfl (.inl rfl) (pe_callTy call_list_of (by rfl) B.list (by decide +kernel) (pa_cons (pv 1) pa_nil)))
      (pss_cons (ps_if (pt_cmpR op_eq (pv 3) pe_int (nomark _))
        (pss_one (ps_ret (pe_dfn D_law_rid (hr.mono (by decide)) (by rfl) pass0 (pa_cons (pv 0) pa_nil))))
        pss_nil)
      (pss_cons (ps_if (PW.pt (pw_or (pt_cmpR op_lt (pv 3) pe_int (nomark _)) (pw_or1 (pt_not (pt_truth (pv 4) (by intro _; rfl))))))
        (pss_cons (ps_expr (pe_bm PySem.F.plainAttrs_list PySem.F.slot_list_insert PySem.F.type_list_insert mt_insert (pv 4) (pa_cons (pe_dfn D_law_take (hr.mono (by decide)) (by rfl) pass0 (pa_cons (pv 0) (pa_cons (pe_op op_add (pe_callB call_len_seq (by rfl) B.len (by decide +kernel) (pa_cons (pv 4) pa_nil)) pe_int) pa_nil))) (pa_cons (pv 2) pa_nil))))
        (pss_one (ps_ret (pv 4))))
        pss_nil)
      (pss_cons (ps_set (i := 5) sc_law_spoiled.nd rfl (.inl rfl) (pe_dfn D_law_take (hr.mono (by decide)) (by rfl) pass0 (pa_cons (pv 0) (pa_cons (pe_callB call_len_seq (by rfl) B.len (by decide +kernel) (pa_cons (pv 4) pa_nil)) pa_nil))))
      (pss_cons (ps_if (pt_cmpR op_lt (pv 3) pe_int (nomark _))
        (pss_one (ps_asg (pv 2) (pg_sub (pv 4) (pv 5) set_list)))
        (pss_one (ps_if (pt_cmpR op_eq (pv 3) pe_int (nomark _))
          (pss_one (ps_expr (pe_bm PySem.F.plainAttrs_list PySem.F.slot_list_insert PySem.F.type_list_insert mt_insert (pv 4) (pa_cons (pv 5) (pa_cons (pe_ix ix_list (pv 4) (pv 5) (fun _ _ => rfl)) pa_nil)))))
          (pss_cons (ps_set (i := 6) sc_law_spoiled.nd rfl (.inl rfl) (pe_dfn D_law_take (hr.mono (by decide)) (by rfl) pass0 (pa_cons (pv 0) (pa_cons (pe_callB call_len_seq (by rfl) B.len (by decide +kernel) (pa_cons (pv 4) pa_nil)) pa_nil))))
          (pss_cons (ps_set (i := 7) sc_law_spoiled.nd rfl (.inl rfl) (pe_ix ix_list (pv 4) (pv 5) (fun _ _ => rfl)))
          (pss_cons (ps_asg (pe_ix ix_list (pv 4) (pv 6) (fun _ _ => rfl)) (pg_sub (pv 4) (pv 5) set_list))
          (pss_one (ps_asg (pv 7) (pg_sub (pv 4) (pv 6) set_list)))))))))
      (pss_one (ps_ret (pv 4))))))))), ?_⟩
    obtain ⟨a, xs, rfl, hs, hx⟩ := dp_seq htd hsq
    have lx : xs.length = l.length := dpAll_len hx
    refine ⟨.ref h, rfl, G, h, 7, rfl, gh, hk, by decide, by decide, fun H1 r1 X1 hk1 hr1 => ⟨.ref a, rfl, a, xs, rfl, hs.mono X1.gh, fun p hp => ?_⟩⟩
    have np := hk1.ne hp
    have hp0 : H p = none := X1.free hp
    have gp : G p = none := gh.free hp0
    have X2 := X1.al (o := .lst xs) hp
    have hk2 := hk1.wr (o := .lst xs) np
    have ret : ∀ (H' : Hp) (ys : List V) (ds : List PyData), Ext (M1 h) G H G H' → HandOk K G H' h → H' p = some (.lst ys) → DpAll K G ys ds → (∀ e ∈ ds, AskShape e) → ds.length ≤ l.length + 1 → Q (.ref p) H' := fun H' ys ds X hk' ep hy hds hl =>
      q _ _ _ (.list ds) (X.fz hp0 ep gp) (hk'.fin gp np) (.inl (dp_of_lst upd_same (dpAll_mono (same_upd gp) hy))) (fun l' e => by have e := Option.some.inj (show some ds = some l' from e); rw [← e]; exact hds) (fun l' e => by have e := Option.some.inj (show some ds = some l' from e); rw [← e]; exact hl)
    have ins : ∀ (j : Nat) (y : V) (yd : PyData), Dp K G y yd → AskShape yd → DpAll K G (xs.take j ++ [y] ++ xs.drop j) (l.take j ++ [yd] ++ l.drop j) ∧ (∀ e ∈ l.take j ++ [yd] ++ l.drop j, AskShape e) ∧ (l.take j ++ [yd] ++ l.drop j).length ≤ l.length + 1 := fun j y yd dy sy => by
      refine ⟨dpAll_app (dpAll_app (dpAll_take hx j) (dpAll_one dy)) (dpAll_drop hx j), fun e he => ?_, ?_⟩
      · rcases List.mem_append.mp he with z | z
        · rcases List.mem_append.mp z with z | z
          · exact hel e (List.mem_of_mem_take z)
          · rw [List.mem_singleton.mp z]; exact sy
        · exact hel e (List.mem_of_mem_drop z)
      · rw [List.length_append, List.length_append, List.length_take, List.length_drop, List.length_singleton]
        omega
    have set1 : ∀ (zs : List V) (ds : List PyData) (j : Nat) (y : V) (yd : PyData), DpAll K G zs ds → (∀ e ∈ ds, AskShape e) → Dp K G y yd → AskShape yd → DpAll K G (zs.set j y) (ds.set j yd) ∧ (∀ e ∈ ds.set j yd, AskShape e) := fun zs ds j y yd hz hds dy sy =>
      ⟨dpAll_set hz j dy, fun e he => by
        rcases List.mem_or_eq_of_mem_set he with z | z
        · exact hds e z
        · rw [z]; exact sy⟩
    refine ⟨_, rfl, rfl, _, rfl, ib2 (fun _ => ?_) (fun _ => ?_)⟩
    · exact ⟨.ref h, rfl, G, h, rfl, X2.gh, hk2, fun G' H' v d X hk' hd hrid => q G' H' v d (X2.trans X) hk' hd (bookShape_rid hrid) fun l' e => by
        rcases hrid with z | z
        · rw [z] at e; cases e
        · rw [z] at e
          have e := Option.some.inj e
          rw [← e]
          exact Nat.le_add_left _ _⟩
    have insT : ∀ (H' : Hp), Ext (M1 h) G H G H' → HandOk K G H' h → H' p = some (.lst xs) → ∀ j : Nat, j ≤ xs.length → ∀ (y : V) (yd : PyData), Dp K G y yd → AskShape yd → Q (.ref p) (upd H' p (.lst (xs.take j ++ [y] ++ xs.drop j))) := fun H' X hk' ep j hj y yd dy sy => by
      obtain ⟨i1, i2, i3⟩ := ins j y yd dy sy
      exact ret _ _ _ (X.wr (.inl hp0) gp) (hk'.wr np) upd_same i1 i2 i3
    have small : xs.length < sizeLine := small1000 (by omega)
    have goIns : ∀ σ : L2.St, σ = [some (.ref h), some (.ref a), some ov, some (.int (r1 : Nat)), some (.ref p), none, none, none] →
        (tDrop (tBM K "list" (fun x vs H Q => ∃ (l : Addr) (xs : List V) (i : Int) (y : V), x = .ref l ∧ vs = [.int i, y] ∧ H l = some (.lst xs) ∧ xs.length < sizeLine ∧ 0 ≤ i ∧ i < 2 ^ 63 ∧ Q .non (upd H l (.lst (xs.take i.toNat ++ [y] ++ xs.drop i.toNat))))
          (tVar 4) (tCons (tCall (spTake K) [] E0 (tCons (tVar 0) (tCons (tOp (rI0 fun i j => .int (i + j)) (tCB (fun xs H Q => ∃ p ys, xs = [.ref p] ∧ (SqL K H p ys ∨ SqT K H p ys) ∧ Q (.int ys.length) H) (tCons (tVar 4) tNil)) (tC (.int 1))) tNil))) (tCons (tVar 2) tNil))))
          { nx := fun σ H => (tRet (tVar 4)) { nx := fun _ H' => Q .non H', rt := Q } σ H, rt := Q } σ (upd H1 p (.lst xs)) := fun σ e => by
      subst e
      refine ⟨.ref p, rfl, .inl ⟨rfl, _, .inl (.inl upd_same)⟩, .ref h, rfl, .ref p, rfl, p, xs, rfl, .inl (.inl (.inl upd_same)), _, _, rfl, rfl, G, h, xs.length + 1, rfl, X2.gh, hk2, by omega, by omega, fun H3 r3 X3 hk3 hr3 => ⟨ov, rfl, ?_⟩⟩
      have ep3 := X3.at1 np upd_same
      exact ⟨p, xs, (r3 : Nat), ov, rfl, rfl, ep3, small, by omega, by omega, .ref p, rfl, insT H3 (X2.trans X3) hk3 ep3 r3 (by omega) ov od hod hos⟩
    refine ⟨_, rfl, (r1 : Nat), 3, rfl, rfl, _, rfl, ib2 (fun _ => iteT (goIns _ rfl)) (fun _ => ⟨.ref p, rfl, !xs.isEmpty, .inl ⟨_, .inl (.inl upd_same), rfl⟩, ?_⟩)⟩
    by_cases hemp : xs = []
    · refine ibT (by rw [hemp]; rfl) (goIns _ rfl)
    have hpos : 0 < xs.length := List.length_pos_iff.mpr hemp
    refine ibF (by cases xs with
      | nil => exact absurd rfl hemp
      | cons _ _ => rfl) ?_
    refine ⟨.ref h, rfl, .ref p, rfl, p, xs, rfl, .inl (.inl (.inl upd_same)), G, h, xs.length, rfl, X2.gh, hk2, hpos, by omega, fun H3 r3 X3 hk3 hr3 => ?_⟩
    have X23 := X2.trans X3
    have ep3 := X3.at1 np upd_same
    have hr3l : r3 < l.length := by omega
    obtain ⟨x3, ex3, dx3⟩ := dpAll_get hx (List.getElem?_eq_getElem hr3l)
    have sx3 := hel _ (List.getElem_mem hr3l)
    refine ⟨_, rfl, (r1 : Nat), 5, rfl, rfl, _, rfl, ib2 (fun _ => ?_) (fun _ => ⟨_, rfl, rfl, _, rfl, ib2 (fun _ => ?_) (fun _ => ?_)⟩)⟩
    · obtain ⟨i1, i2⟩ := set1 xs l r3 ov od hx hel hod hos
      exact ⟨ov, rfl, .ref p, rfl, _, rfl, p, xs, (r3 : Nat), r3, rfl, rfl, ep3, ixN_n hr3, .ref p, rfl, ret _ _ _ (X23.wr (.inl hp0) gp) (hk3.wr np) upd_same i1 i2 (by rw [List.length_set]; omega)⟩
    · exact ⟨.ref p, rfl, .inl ⟨rfl, _, .inl (.inl ep3)⟩, _, rfl, .ref p, rfl, _, rfl, p, xs, (r3 : Nat), x3, rfl, rfl, .inl (.inl ep3), atI_nat ex3, p, xs, (r3 : Nat), x3, rfl, rfl, ep3, small, by omega, by omega, .ref p, rfl, insT H3 X23 hk3 ep3 r3 (by omega) x3 _ dx3 sx3⟩
    · refine ⟨.ref h, rfl, .ref p, rfl, p, xs, rfl, .inl (.inl (.inl ep3)), G, h, xs.length, rfl, X23.gh, hk3, hpos, by omega, fun H4 r4 X4 hk4 hr4 => ?_⟩
      have X24 := X23.trans X4
      have ep4 := X4.at1 np ep3
      have hr4l : r4 < l.length := by omega
      obtain ⟨x4, ex4, dx4⟩ := dpAll_get hx (List.getElem?_eq_getElem hr4l)
      have sx4 := hel _ (List.getElem_mem hr4l)
      obtain ⟨i1, i2⟩ := set1 xs l r3 x4 _ hx hel dx4 sx4
      obtain ⟨j1, j2⟩ := set1 _ _ r4 x3 _ i1 i2 dx3 sx3
      refine ⟨.ref p, rfl, _, rfl, p, xs, (r3 : Nat), x3, rfl, rfl, .inl (.inl ep4), atI_nat ex3, .ref p, rfl, _, rfl, p, xs, (r4 : Nat), x4, rfl, rfl, .inl (.inl ep4), atI_nat ex4, .ref p, rfl, _, rfl, p, xs, (r3 : Nat), r3, rfl, rfl, ep4, ixN_n hr3, ?_⟩
      refine ⟨x3, rfl, .ref p, rfl, _, rfl, p, _, (r4 : Nat), r4, rfl, rfl, upd_same, by rw [List.length_set]; exact ixN_n hr4, .ref p, rfl, ?_⟩
      exact ret _ _ _ ((X24.wr (.inl hp0) gp).wr (.inl hp0) gp) ((hk4.wr np).wr np) upd_same j1 j2 (by rw [List.length_set, List.length_set]; omega)
end
end K36
end

section
set_option pp.maxSteps 400
set_option pp.deepTerms false
set_option Elab.async false
set_option linter.all false
set_option maxRecDepth 100000
set_option maxHeartbeats 4000000
/-! K36, the law's calls that may be refused. -/
namespace K36
open PySem PySem.Spec PyProof.Rows L2

/-! ### calls whose raising is caught -/
theorem pe_dfnS {X : Cx} {k : Nat} {x : Str} {ps : List Str} {sp : Sp} {dvs : List V} {W : WX} {p pos : Pos} {e : Expr} {es : List Expr} {t : TA} (D : Dfn X.prog X.w X.K X.mg X.base (L2.CX X.prog X.w) k x ps dvs sp) (hr : Room k X.A) (hg : Gl X x) (tk : Takes X W) (ha : PA X (e :: es) t) (hdb : (x == ("__debug__" : Str)) = false := by decide)
    (he : starEach (e :: es) X.env = (false, eval e X.env) :: starEach es X.env := by rfl) (hpl : (backTo pos (starEach es X.env)).any (·.1) = false := by rfl) : PE X (.Call (.Name x p) (e :: es) [] pos) (tCallSD sp dvs (WE W) t) := by
  obtain ⟨f, fd, ds, F, hm, hk, hb, hd⟩ := D.ex
  exact pe_callSD F hr hg hm hk hb hd (fun σ => passAt tk σ) ha hdb he hpl
structure DfnK (P : Program) (w : World) (K : PySem.W.Frag) (mg : Str → Option Value) (base : Heap) (CX : CXT) (k : Nat) (x : Str) (ps : List Str) (n : Nat) (ks : List Str) (gV : List V → List V → List V) (sp : Sp) : Prop where
  ex : ∃ (f : Addr) (fd : FuncData) (g : List Value → List Value → List Value), FnOk P w K mg base CX k f fd ps sp ∧ mg x = some (.ref f) ∧ PySem.W.keepIn K (.ref f) = true ∧ KBn K fd ps n ks g gV
def tCallNS (n m : Nat) (sp : Sp) (gV : List V → List V → List V) (E : L2.St → XK) (t tk : TA) : TE := fun σ H Q => t σ H fun vs H1 => tk σ H1 fun zs H2 => vs.length = n ∧ zs.length = m ∧ sp (gV vs zs) H2 Q (E σ)
theorem pe_dfnKS {X : Cx} {k n : Nat} {x : Str} {ps ks : List Str} {gV : List V → List V → List V} {sp : Sp} {W : WX} {p pos : Pos} {e : Expr} {es : List Expr} {kws : List Keyword} {t tk : TA} (D : DfnK X.prog X.w X.K X.mg X.base (L2.CX X.prog X.w) k x ps n ks gV sp) (hr : Room k X.A) (hg : Gl X x) (tkk : Takes X W)
    (ha : PA X (e :: es) t) (hkw : PK X kws tk) (hall : (backToKw pos (keywordEach kws X.env)).all (·.1.isSome) = true := by rfl) (hks : (backToKw pos (keywordEach kws X.env)).filterMap (·.1) = ks := by rfl)
    (hdb : (x == ("__debug__" : Str)) = false := by decide) (he : starEach (e :: es) X.env = (false, eval e X.env) :: starEach es X.env := by rfl)
    (hpl : ((backTo pos (starEach (e :: es) X.env)).any (·.1) || (backToKw pos (keywordEach kws X.env)).any (·.1.isNone)) = false := by rfl) :
    PE X (.Call (.Name x p) (e :: es) kws pos) (tCallNS n ks.length sp gV (WE W) t tk) := by
  obtain ⟨f, fd, g, F, hm, hk, hb⟩ := D.ex
  refine ⟨fun pins s σ H Q I h => ?_⟩
  refine wpAny_Call_Name_kw (ld_glob I hg hm ?_ hdb)
  refine PySem.W.callWith_KW (h₀ := X.base) I.ok.mod.kin hk hall (thn (ha.run pos pins s σ H _ I h) fun us s1 ⟨vs, H1, I1, r, q⟩ => ?_) hpl he
  refine thn (hkw.run pos pins s1 σ H1 _ I1 q) fun ws s2 ⟨zs, H2, I2, rz, l1, l2, q2⟩ => ⟨I2.kIn, ?_⟩
  rw [hks]
  have r2 := hb.rel r rz
  refine wpAny_call (codeAny_mono (F.run X.A X.stack s2 H2 ⟨us, ks.zip ws⟩ (g us ws) (gV vs zs) Q (WE W σ) hr I2.env0 (hb.to s2 us ws I2.kIn (r.length.symm.trans l1) (rz.length.symm.trans l2)) r2 q2) fun r s' hq => ?_)
  cases r with
  | error e => exact passAt tkk σ pins H2 s2 e s' I2 hq
  | ok fl =>
    cases fl with
    | ret u => exact I2.after hq
    | next => exact False.elim hq
    | brk => exact False.elim hq
    | cont => exact False.elim hq

/-- the reading of «try .. except x as n» under one name -/
def tTryAs (K : PySem.W.Frag) (c : Value) (i : Nat) (ts : Addr → Value → Option Addr → TS) (tb : WX → TS) : TS := fun D σ H => tb (wAs K c i ts (fun _ _ _ _ => False) D) D σ H
/-- the suite: [wrong.index, wrong.what] -/
abbrev teW (a : Addr) (cls : Value) (d : Option Addr) (C : Addr) (i : Nat) : TE := tLst (tCons (tXf a cls d C "index" (tVar i)) (tCons (tXf a cls d C "what" (tVar i)) tNil))
theorem wrong {a C dd p : Addr} {i : Nat} {n : Int} {x : Str} {σ : L2.St} {H : Hp} {Q : VK} (hs : σ[i]? = some (some (.ref a))) (he : H dd = some (.xd (badF n x))) (q : ∀ p, H p = none → Q (.ref p) (upd H p (.lst [.int n, .str x]))) :
    teW a (.ref C) (some dd) C i σ H Q :=
  ⟨.ref a, hs, rfl, rfl, dd, _, .int n, rfl, he, rfl, .ref a, hs, rfl, rfl, dd, _, .str x, rfl, he, rfl, by show 2 ≤ sizeLine; decide, q⟩
section
variable {P : Program} {w : World} {K : PySem.W.Frag} {mg : Str → Option Value} {base : Heap}
abbrev s_law_asked : Stmt := topS 58
theorem sc_law_asked : FnScope ["_law_mould", "_law_ask_here", "_law_index", "_law_told", "wrong"] ["_law_mould", "_law_ask_here", "_law_index"] (defScope s_law_asked) := ⟨rfl, rfl, rfl, by decide +kernel, rfl, by decide +kernel, by decide +kernel⟩
def gAsk : List V → List V → List V := fun us ws => us ++ [ws.getD 1 .non, ws.getD 0 .non]
def spAsked (K : PySem.W.Frag) (C : Addr) : Sp := fun vs H Q _ => ∃ (G : Hp) (v av : V) (M : Mo) (d : PyData) (i : Option Int), vs = [v, av, optV i] ∧ Same G H ∧ MouldAt K C G v M ∧ Dp K G av d ∧ AskShape d ∧
  ∀ (G' H' : Hp) (p : Addr), Ext M0 G H G' H' → Dp K G' (.ref p) (askDue M.h M.w d (i.getD 0)) → Q (.ref p) H'
theorem ok_law_asked {C CB : Addr} {f : Addr} {fd : FuncData} (F : Fun K "_law_asked" "_law_asked" s_law_asked f fd) (S : EC P w K mg base CB) (D_check_ask2 : Dfn P w K mg base (L2.CX P w) 3 "check_ask" ["mould", "ask", "index"] [.int 0] (spAsk K C CB))
    (D_check_askK : DfnK P w K mg base (L2.CX P w) 3 "check_ask" ["mould", "ask", "index"] 1 ["index", "ask"] gAsk (spAsk K C CB)) : FnOk P w K mg base CX0 4 f fd ["_law_mould", "_law_ask_here", "_law_index"] (spAsked K C) := by
  refine F.ok sc_law_asked (fun vs H Q E h => ?_) (fun cdv A outer s H vs Q E hr h => ?_)
  · obtain ⟨_, _, _, _, _, _, rfl, _⟩ := h
    rfl
  · obtain ⟨G, v, av, M, d, i, rfl, gh, hM, hd, hsh, q⟩ := h
    refine ⟨_, (pss_cons (ps_try_as (i := 4) (tb := fun W => tAsg (tIf (tTest (tOp (fun x y H Q => y = V.non ∧ Q (.bl (decide (x = .non))) H) (tVar 2) (tC .non))) (tCallSD (spAsk K C CB) [.int 0] (WE W) (tCons (tVar 0) (tCons (tVar 1) tNil))) (tCallNS 1 2 (spAsk K C CB) gAsk (WE W) (tCons (tVar 0) tNil) (tCons (tVar 2) (tCons (tVar 1) tNil)))) (gName 3))
          (ts := fun a cls d => tAsg (teW a cls d CB 4) (gName 3)) (Wout := fun _ _ _ _ => False) rfl rfl sc_law_asked.nd rfl rfl ⟨rfl, by decide, .inl S.gC⟩ takes0
        (fun W pn xe tk _ => (pss_one (ps_set (i := 3) sc_law_asked.nd rfl (.inl rfl) (pe_ifExp (pt_cmpR op_isN (pv 2) pe_non (nomark _)) (pe_dfnS D_check_ask2 (hr.mono (by decide)) (by rfl) tk (pa_cons (pv 0) (pa_cons (pv 1) pa_nil))) (pe_dfnKS D_check_askK (hr.mono (by decide)) (by rfl) tk (pa_cons (pv 0) pa_nil) (pk_cons (pv 2) (pk_cons (pv 1) pk_nil)))))))
        (fun a oe cls d pn hz hf => (pss_one (ps_set (i := 3) sc_law_asked.nd rfl (.inl rfl) (pe_lst (pa_cons (pe_xf S.X S.nI hz hf (pv 4)) (pa_cons (pe_xf S.X S.nW hz hf (pv 4)) pa_nil)))))))
      (pss_one (ps_ret (pv 3)))), ?_⟩
    have no : ∀ (i : Int) (G' H' : Hp) (p : Addr), Ext M0 G H G' H' → askBad M.h M.w d = none → Dp K G' (.ref p) (askRes d) → Dp K G' (.ref p) (askDue M.h M.w d i) := fun i G' H' p X e h => by
      unfold askDue
      rw [e]
      exact h
    have bad : ∀ (i : Int) (x : Str), askBad M.h M.w d = some x → askDue M.h M.w d i = badD i x := fun i x e => by
      unfold askDue
      rw [e]
    cases i with
    | none =>
      refine ⟨_, rfl, rfl, _, rfl, iteT ⟨v, rfl, av, rfl, G, v, M, av, d, 0, rfl, gh, hM, hd, hsh, fun e G' H' a X da => ?_, fun x hx H' dd X edd => ⟨true, S.te, fun _ a ha => ?_, fun z => by cases z⟩⟩⟩
      · exact ⟨_, rfl, q _ _ a X (no 0 _ _ a X e da)⟩
      · refine ⟨.ref a, rfl, rfl, rfl, dd, _, .int 0, rfl, edd, rfl, .ref a, rfl, rfl, rfl, dd, _, .str x, rfl, edd, rfl, by show 2 ≤ sizeLine; decide, fun p hp => ⟨_, rfl, q _ _ p (X.fin hp) ?_⟩⟩
        show Dp K _ _ (askDue M.h M.w d 0)
        rw [bad 0 x hx]
        exact dp_bad
    | some i =>
      refine ⟨_, rfl, rfl, _, rfl, iteF ⟨v, rfl, .int i, rfl, av, rfl, rfl, rfl, G, v, M, av, d, i, rfl, gh, hM, hd, hsh, fun e G' H' a X da => ?_, fun x hx H' dd X edd => ⟨true, S.te, fun _ a ha => ?_, fun z => by cases z⟩⟩⟩
      · exact ⟨_, rfl, q _ _ a X (no i _ _ a X e da)⟩
      · refine ⟨.ref a, rfl, rfl, rfl, dd, _, .int i, rfl, edd, rfl, .ref a, rfl, rfl, rfl, dd, _, .str x, rfl, edd, rfl, by show 2 ≤ sizeLine; decide, fun p hp => ⟨_, rfl, q _ _ p (X.fin hp) ?_⟩⟩
        show Dp K _ _ (askDue M.h M.w d i)
        rw [bad i x hx]
        exact dp_bad

abbrev s_law_booked : Stmt := topS 59
theorem sc_law_booked : FnScope ["_law_mould", "_law_book_here", "_law_told", "wrong"] ["_law_mould", "_law_book_here"] (defScope s_law_booked) := ⟨rfl, rfl, rfl, by decide +kernel, rfl, by decide +kernel, by decide +kernel⟩
def spBooked (K : PySem.W.Frag) (C : Addr) : Sp := fun vs H Q _ => ∃ (G : Hp) (v bv : V) (M : Mo) (d : PyData), vs = [v, bv] ∧ Same G H ∧ MouldAt K C G v M ∧ Da K G bv d ∧ BookShape d ∧
  ∀ (G' H' : Hp) (p : Addr), Ext M0 G H G' H' → Dp K G' (.ref p) (bookDue M.h M.w d) → Q (.ref p) H'
theorem bookDue_bad {h w : Nat} {d : PyData} {i : Int} {x : Str} (e : bookBad h w d = some (i, x)) : bookDue h w d = badD i x := by
  unfold bookDue
  rw [e]
theorem bookDue_ok {h w : Nat} {d : PyData} (e : bookBad h w d = none) : bookDue h w d = bookRes d := by
  unfold bookDue
  rw [e]
theorem ok_law_booked {C CB : Addr} {f : Addr} {fd : FuncData} (F : Fun K "_law_booked" "_law_booked" s_law_booked f fd) (S : EC P w K mg base CB) (D_check_book : Dfn P w K mg base (L2.CX P w) 4 "check_book" ["mould", "book"] [] (spBook K C CB)) :
    FnOk P w K mg base CX0 5 f fd ["_law_mould", "_law_book_here"] (spBooked K C) := by
  refine F.ok sc_law_booked (fun vs H Q E h => ?_) (fun cdv A outer s H vs Q E hr h => ?_)
  · obtain ⟨_, _, _, _, _, rfl, _⟩ := h
    rfl
  · obtain ⟨G, v, bv, M, d, rfl, gh, hM, hd, hsh, q⟩ := h
    refine ⟨_, (pss_cons (ps_try_as (i := 3) (tb := fun W => tAsg (tCallSD (spBook K C CB) [] (WE W) (tCons (tVar 0) (tCons (tVar 1) tNil))) (gName 2))
          (ts := fun a cls d => tAsg (teW a cls d CB 3) (gName 2)) (Wout := fun _ _ _ _ => False) rfl rfl sc_law_booked.nd rfl rfl ⟨rfl, by decide, .inl S.gC⟩ takes0
        (fun W pn xe tk _ => (pss_one (ps_set (i := 2) sc_law_booked.nd rfl (.inl rfl) (pe_dfnS D_check_book (hr.mono (by decide)) (by rfl) tk (pa_cons (pv 0) (pa_cons (pv 1) pa_nil))))))
        (fun a oe cls d pn hz hf => (pss_one (ps_set (i := 2) sc_law_booked.nd rfl (.inl rfl) (pe_lst (pa_cons (pe_xf S.X S.nI hz hf (pv 3)) (pa_cons (pe_xf S.X S.nW hz hf (pv 3)) pa_nil)))))))
      (pss_one (ps_ret (pv 2)))), ?_⟩
    refine ⟨v, rfl, bv, rfl, G, v, M, bv, d, rfl, gh, hM, hd, hsh, fun e G' H' a X da => ?_, fun i x hx H' dd X edd => ⟨true, S.te, fun _ a ha => ?_, fun z => by cases z⟩⟩
    · refine ⟨_, rfl, q _ _ a X ?_⟩
      rw [bookDue_ok e]
      exact da
    · refine ⟨.ref a, rfl, rfl, rfl, dd, _, .int i, rfl, edd, rfl, .ref a, rfl, rfl, rfl, dd, _, .str x, rfl, edd, rfl, by show 2 ≤ sizeLine; decide, fun p hp => ⟨_, rfl, q _ _ p (X.fin hp) ?_⟩⟩
      rw [bookDue_bad hx]
      exact dp_bad

abbrev s_law_spanned : Stmt := topS 60
theorem sc_law_spanned : FnScope ["_law_mould", "_law_book_here", "_law_told", "_law_which", "wrong"] ["_law_mould", "_law_book_here"] (defScope s_law_spanned) := ⟨rfl, rfl, rfl, by decide +kernel, rfl, by decide +kernel, by decide +kernel⟩
def spSpanned (K : PySem.W.Frag) (C : Addr) : Sp := fun vs H Q _ => ∃ (G : Hp) (v bv : V) (M : Mo) (d : PyData) (i : Int) (x : Str), vs = [v, bv] ∧ Same G H ∧ MouldAt K C G v M ∧ M.Ok ∧ Da K G bv d ∧ BookShape d ∧ bookBad M.h M.w d = some (i, x) ∧
  ∀ (G' H' : Hp) (p : Addr), Ext M0 G H G' H' → Dp K G' (.ref p) (.list [badD i x, badD i x, badD i x, badD i x]) → Q (.ref p) H'
theorem ok_law_spanned {C CB : Addr} {f : Addr} {fd : FuncData} (F : Fun K "_law_spanned" "_law_spanned" s_law_spanned f fd) (B : Bi mg) (S : EC P w K mg base CB) (D_span_rows : Dfn P w K mg base (L2.CX P w) 5 "span_rows" ["mould", "book"] [] (spSpan K C CB))
    (D_answers_many : Dfn P w K mg base (L2.CX P w) 5 "answers_many" ["mould", "book"] [] (spAnsMany K C CB)) (D_book_answers : Dfn P w K mg base (L2.CX P w) 6 "book_answers" ["mould", "book", "numbers"] [] (spAnswers K C CB))
    (D_book_text : Dfn P w K mg base (L2.CX P w) 5 "book_text" ["mould", "book"] [] (spText K C CB)) : FnOk P w K mg base CX0 7 f fd ["_law_mould", "_law_book_here"] (spSpanned K C) := by
  refine F.ok sc_law_spanned (fun vs H Q E h => ?_) (fun cdv A outer s H vs Q E hr h => ?_)
  · obtain ⟨_, _, _, _, _, _, _, rfl, _⟩ := h
    rfl
  · obtain ⟨G, v, bv, M, d, i, x, rfl, gh, hM, ok, hd, hsh, hbad, q⟩ := h
    refine ⟨_, (pss_cons (ps_set (i := 2) sc_law_spanned.nd rfl (.inl rfl) (pe_lst pa_nil))
      (pss_cons (ps_for PassesOwn.never rfl (pi_range1 (by rfl) B.range (pa_cons pe_int pa_nil)) (pg_name (i := 3) sc_law_spanned.nd rfl (.inl rfl))
        (pss_one (ps_imp (t' := tTryAs K (.ref CB) 4 (fun a cls d => tDrop (tBM K "list" rAppend (tVar 2) (tCons (teW a cls d CB 4) tNil))) (fun W => tIfS (tTest (tOp rEq (tVar 3) (tC (.int 0)))) (tDrop (tBM K "list" rAppend (tVar 2) (tCons (tCallSD (spSpan K C CB) [] (WE W) (tCons (tVar 0) (tCons (tVar 1) tNil))) tNil)))
            (tIfS (tTest (tOp rEq (tVar 3) (tC (.int 1)))) (tDrop (tBM K "list" rAppend (tVar 2) (tCons (tCallSD (spAnsMany K C CB) [] (WE W) (tCons (tVar 0) (tCons (tVar 1) tNil))) tNil)))
              (tIfS (tTest (tOp rEq (tVar 3) (tC (.int 2)))) (tDrop (tBM K "list" rAppend (tVar 2) (tCons (tCallSD (spAnswers K C CB) [] (WE W) (tCons (tVar 0) (tCons (tVar 1) (tCons (tC .non) tNil)))) tNil)))
                (tDrop (tBM K "list" rAppend (tVar 2) (tCons (tCallSD (spText K C CB) [] (WE W) (tCons (tVar 0) (tCons (tVar 1) tNil))) tNil))))))) (ps_try_as (i := 4)
          (tb := fun W => tIfS (tTest (tOp rEq (tVar 3) (tC (.int 0)))) (tDrop (tBM K "list" rAppend (tVar 2) (tCons (tCallSD (spSpan K C CB) [] (WE W) (tCons (tVar 0) (tCons (tVar 1) tNil))) tNil)))
            (tIfS (tTest (tOp rEq (tVar 3) (tC (.int 1)))) (tDrop (tBM K "list" rAppend (tVar 2) (tCons (tCallSD (spAnsMany K C CB) [] (WE W) (tCons (tVar 0) (tCons (tVar 1) tNil))) tNil)))
              (tIfS (tTest (tOp rEq (tVar 3) (tC (.int 2)))) (tDrop (tBM K "list" rAppend (tVar 2) (tCons (tCallSD (spAnswers K C CB) [] (WE W) (tCons (tVar 0) (tCons (tVar 1) (tCons (tC .non) tNil)))) tNil)))
                (tDrop (tBM K "list" rAppend (tVar 2) (tCons (tCallSD (spText K C CB) [] (WE W) (tCons (tVar 0) (tCons (tVar 1) tNil))) tNil))))))
          (ts := fun a cls d => tDrop (tBM K "list" rAppend (tVar 2) (tCons (teW a cls d CB 4) tNil))) (Wout := fun _ _ _ _ => False) rfl rfl sc_law_spanned.nd rfl rfl ⟨rfl, by decide, .inl S.gC⟩ takes0
          (fun W pn xe tk _ => (pss_one (ps_if (pt_cmpR op_eq (pv 3) pe_int (nomark _))
            (pss_one (ps_expr (pe_bm PySem.F.plainAttrs_list PySem.F.slot_list_append PySem.F.type_list_append mt_append (pv 2) (pa_cons (pe_dfnS D_span_rows (hr.mono (by decide)) (by rfl) tk (pa_cons (pv 0) (pa_cons (pv 1) pa_nil))) pa_nil))))
            (pss_one (ps_if (pt_cmpR op_eq (pv 3) pe_int (nomark _))
              (pss_one (ps_expr (pe_bm PySem.F.plainAttrs_list PySem.F.slot_list_append PySem.F.type_list_append mt_append (pv 2) (pa_cons (pe_dfnS D_answers_many (hr.mono (by decide)) (by rfl) tk (pa_cons (pv 0) (pa_cons (pv 1) pa_nil))) pa_nil))))
              (pss_one (ps_if (pt_cmpR op_eq (pv 3) pe_int (nomark _))
                (pss_one (ps_expr (pe_bm PySem.F.plainAttrs_list PySem.F.slot_list_append PySem.F.type_list_append mt_append (pv 2) (pa_cons (pe_dfnS D_book_answers (hr.mono (by decide)) (by rfl) tk (pa_cons (pv 0) (pa_cons (pv 1) (pa_cons pe_non pa_nil)))) pa_nil))))
                (pss_one (ps_expr (pe_bm PySem.F.plainAttrs_list PySem.F.slot_list_append PySem.F.type_list_append mt_append (pv 2) (pa_cons (pe_dfnS D_book_text (hr.mono (by decide)) (by rfl) tk (pa_cons (pv 0) (pa_cons (pv 1) pa_nil))) pa_nil)))))))))))
          (fun a oe cls d pn hz hf => (pss_one (ps_expr (pe_bm PySem.F.plainAttrs_list PySem.F.slot_list_append PySem.F.type_list_append mt_append (pv 2) (pa_cons (pe_lst (pa_cons (pe_xf S.X S.nI hz hf (pv 4)) (pa_cons (pe_xf S.X S.nW hz hf (pv 4)) pa_nil))) pa_nil)))))) (fun _ _ _ h => h))))
      (pss_one (ps_ret (pv 2))))), ?_⟩
    refine ⟨Nat.zero_le _, fun R hR => ⟨4, rfl, by decide, by decide, ?_⟩⟩
    have gR : G R = none := gh.free hR
    obtain ⟨Pv, hPv⟩ : ∃ Pv : Nat → L2.St → Hp → Prop, Pv = fun n σ H' => ∃ (y3 : Option V) (G' : Hp) (ys : List V), σ = [some v, some bv, some (.ref R), y3, none] ∧ Ext M0 G H G' H' ∧ H' R = some (.lst ys) ∧ G' R = none ∧ DpAll K G' ys (List.replicate n (badD i x)) := ⟨_, rfl⟩
    refine for_it walk_range Pv (by rw [hPv]; exact ⟨none, G, [], rfl, (Ext.refl gh).al hR, upd_same, gR, .nil⟩) (fun _ _ _ _ _ => trivial) (fun n z σ H' H2 hn hP hY => ?_) (fun σ H' hP => ?_)
    · rw [hPv] at hP
      obtain ⟨y3, G', ys, rfl, X, eR, gR', hy⟩ := hP
      obtain ⟨eH, rfl⟩ := hY
      subst eH
      have ly : ys.length = n := by rw [dpAll_len hy, List.length_replicate]
      have n4 : n < 4 := by simpa using hn
      -- the suite
      have suite : ∀ (H3 : Hp) (dd : Addr), Ext M0 G' H2 G' H3 → H3 dd = some (.xd (badF i x)) → ∀ a, (tDrop (tBM K "list" rAppend (tVar 2) (tCons (teW a (.ref CB) (some dd) CB 4) tNil))) { nx := fun σ' H' => Pv (n + 1) (σ'.set 4 none) H', rt := Q } [some v, some bv, some (.ref R), some (.int (0 + (n : Nat))), some (.ref a)] H3 := fun H3 dd X3 edd a => by
        have eR3 := X3.sm _ _ eR
        refine ⟨.ref R, rfl, .inl ⟨rfl, _, .inl (.inl eR3)⟩, .ref a, rfl, rfl, rfl, dd, _, .int i, rfl, edd, rfl, .ref a, rfl, rfl, rfl, dd, _, .str x, rfl, edd, rfl, by show 2 ≤ sizeLine; decide, fun p hp => ?_⟩
        have X4 := (X.trans X3).fin (o := .lst [.int i, .str x]) hp
        have npR : p ≠ R := fun z => by rw [z, eR3] at hp; cases hp
        have gR4 : upd G' p (.lst [.int i, .str x]) R = none := by rw [upd_ne (Ne.symm npR)]; exact gR'
        refine ⟨R, ys, _, rfl, rfl, by rw [upd_ne (Ne.symm npR)]; exact eR3, small1000 (by omega), ?_⟩
        rw [hPv]
        refine ⟨some (.int (0 + (n : Nat))), _, ys ++ [.ref p], rfl, X4.wr (.inl hR) gR4, upd_same, gR4, ?_⟩
        rw [replicate_snoc]
        exact dpAll_app (dpAll_mono (same_upd (X3.gh.free hp)) hy) (dpAll_one dp_bad)
      -- what is let out
      have out : ∀ W : WX, W = wAs K (.ref CB) 4 (fun a cls d => tDrop (tBM K "list" rAppend (tVar 2) (tCons (teW a cls d CB 4) tNil))) (fun _ _ _ _ => False) { nx := Pv (n + 1), rt := Q } → Bad CB i x G' H2 (WE W [some v, some bv, some (.ref R), some (.int (0 + (n : Nat))), none]) := fun W hW H3 dd X3 edd => by
        subst hW
        exact ⟨true, S.te, fun _ a ha => suite H3 dd X3 edd a, fun z => by cases z⟩
      have hbk : ∀ {α : Prop}, bookBad M.h M.w d = none → α := fun e => by rw [hbad] at e; cases e
      have outs : ∀ {j : Int} {y : Str}, bookBad M.h M.w d = some (j, y) → j = i ∧ y = x := fun e => by
        rw [hbad] at e
        cases e
        exact ⟨rfl, rfl⟩
      refine ⟨_, rfl, rfl, _, rfl, ib2 (fun _ => ?_) (fun _ => ⟨_, rfl, rfl, _, rfl, ib2 (fun _ => ?_) (fun _ => ⟨_, rfl, rfl, _, rfl, ib2 (fun _ => ?_) (fun _ => ?_)⟩)⟩)⟩
      · refine ⟨.ref R, rfl, .inl ⟨rfl, _, .inl (.inl eR)⟩, v, rfl, bv, rfl, G', v, M, bv, d, rfl, X.gh, hM.mono X.gg, ok, da_mono X.gg hd, hsh, hbk, fun j y e => ?_⟩
        obtain ⟨rfl, rfl⟩ := outs e
        exact out _ rfl
      · refine ⟨.ref R, rfl, .inl ⟨rfl, _, .inl (.inl eR)⟩, v, rfl, bv, rfl, G', v, M, bv, d, rfl, X.gh, hM.mono X.gg, da_mono X.gg hd, hsh, hbk, fun j y e => ?_⟩
        obtain ⟨rfl, rfl⟩ := outs e
        exact out _ rfl
      · refine ⟨.ref R, rfl, .inl ⟨rfl, _, .inl (.inl eR)⟩, v, rfl, bv, rfl, G', v, M, bv, d, .non, rfl, X.gh, hM.mono X.gg, ok, da_mono X.gg hd, hsh, hbk, fun j y e => ?_⟩
        obtain ⟨rfl, rfl⟩ := outs e
        exact out _ rfl
      · exact ⟨.ref R, rfl, .inl ⟨rfl, _, .inl (.inl eR)⟩, v, rfl, bv, rfl, G', v, M, bv, d, i, x, rfl, X.gh, hM.mono X.gg, da_mono X.gg hd, hsh, hbad, out _ rfl⟩
    · rw [hPv] at hP
      obtain ⟨y3, G', ys, rfl, X, eR, gR', hy⟩ := hP
      exact ⟨.ref R, rfl, q _ _ R (X.fz hR eR gR') (dp_of_lst upd_same (dpAll_mono (same_upd gR') hy))⟩
end
end K36
end

section
set_option pp.maxSteps 400
set_option pp.deepTerms false
set_option Elab.async false
set_option linter.all false
set_option maxRecDepth 100000
set_option maxHeartbeats 4000000
/-! K36, texts of data: small enough. -/
namespace K36
open PySem PySem.Spec PyProof.Rows L2

/-- a datum's text has at most n signs, its depth is at most k -/
structure Sh (n k : Nat) (d : PyData) : Prop where
  show_ : d.showable = true
  nodict : d.hasDict = false
  deep : d.depth ≤ k
  short : d.shown.length ≤ n
theorem Sh.shown {n k : Nat} {d : PyData} (h : Sh n k d) (hn : n ≤ 16000000) (hk : k ≤ 50) : Shown d :=
  ⟨h.show_, h.nodict, by have := h.deep; omega, by have := h.short; rw [sizeLine_eq]; omega⟩
theorem Sh.mono {n k n' k' : Nat} {d : PyData} (h : Sh n k d) (hn : n ≤ n') (hk : k ≤ k') : Sh n' k' d := ⟨h.show_, h.nodict, Nat.le_trans h.deep hk, Nat.le_trans h.short hn⟩
theorem sh_int {i : Int} (h : i.natAbs.log2 < 1920) : Sh 1921 0 (.int i) :=
  ⟨by simpa [PyData.showable] using h, by simp [PyData.hasDict], by simp [PyData.depth], by show (PyData.shown (.int i)).length ≤ 1921; simp only [PyData.shown]; exact int_text_len_1921 h⟩
theorem sh_all {n k : Nat} : ∀ {ds : List PyData}, (∀ d ∈ ds, Sh n k d) → PyData.showableAll ds = true ∧ PyData.hasDictAll ds = false ∧ PyData.depthAll ds ≤ k ∧ ((PyData.shownAll ds).map (·.length)).sum ≤ ds.length * n ∧ (PyData.shownAll ds).length = ds.length
  | [], _ => ⟨by simp [PyData.showableAll], by simp [PyData.hasDictAll], by simp [PyData.depthAll], by simp [PyData.shownAll], by simp [PyData.shownAll]⟩
  | d :: ds, h => by
    obtain ⟨h1, h2, h3, h4, h5⟩ := sh_all (ds := ds) fun e he => h e (List.mem_cons_of_mem _ he)
    have hd := h d List.mem_cons_self
    refine ⟨?_, ?_, ?_, ?_, ?_⟩
    · simp only [PyData.showableAll, hd.show_, h1, Bool.and_self]
    · simp only [PyData.hasDictAll, hd.nodict, h2, Bool.or_self]
    · simp only [PyData.depthAll]
      have := hd.deep
      omega
    · simp only [PyData.shownAll, List.map_cons, List.sum_cons, List.length_cons]
      have := hd.short
      rw [Nat.succ_mul]
      omega
    · simp only [PyData.shownAll, List.length_cons, h5]

theorem sh_list {n k m : Nat} {ds : List PyData} (h : ∀ d ∈ ds, Sh n k d) (hm : ds.length ≤ m) : Sh (m * (n + 2) + 3) (k + 1) (.list ds) := by
  obtain ⟨h1, h2, h3, h4, h5⟩ := sh_all h
  refine ⟨by simpa only [PyData.showable] using h1, by simpa only [PyData.hasDict] using h2, ?_, ?_⟩
  · simp only [PyData.depth]
    omega
  · simp only [PyData.shown]
    refine Nat.le_trans (listText_len_le _) ?_
    rw [h5]
    have a1 : ds.length * n ≤ m * n := Nat.mul_le_mul_right _ hm
    have a2 : m * (n + 2) = m * n + m * 2 := Nat.mul_add _ _ _
    omega
theorem sh_tup {n k m : Nat} {ds : List PyData} (h : ∀ d ∈ ds, Sh n k d) (hm : ds.length ≤ m) : Sh (m * (n + 2) + 3) (k + 1) (.tuple ds) := by
  obtain ⟨h1, h2, h3, h4, h5⟩ := sh_all h
  refine ⟨by simpa only [PyData.showable] using h1, by simpa only [PyData.hasDict] using h2, ?_, ?_⟩
  · simp only [PyData.depth]
    omega
  · simp only [PyData.shown]
    refine Nat.le_trans (tupleText_len_le _) ?_
    rw [h5]
    have a1 : ds.length * n ≤ m * n := Nat.mul_le_mul_right _ hm
    have a2 : m * (n + 2) = m * n + m * 2 := Nat.mul_add _ _ _
    omega
theorem log_of {i : Int} {k : Nat} (h : i.natAbs < 2 ^ k) (hk : 0 < k) (h2 : k ≤ 1920) : i.natAbs.log2 < 1920 := Nat.lt_of_lt_of_le (PySem.Flt.log2_lt_of hk h) h2
theorem log_small {i : Int} (h : i.natAbs ≤ 10 ^ 9) : i.natAbs.log2 < 1920 := log_of (k := 40) (Nat.lt_of_le_of_lt h (by decide)) (by decide) (by decide)
/-- texts that the law shows -/
def words : List Str := ["column", "row", "kind", "length", "number", "many"]
theorem sh_word {x : Str} (h : x ∈ words) : Sh 1921 0 (.str x) := by
  have : ∀ x ∈ words, (reprText x).length ≤ 1921 := by decide +kernel
  exact ⟨by simp [PyData.showable], by simp [PyData.hasDict], by simp [PyData.depth], by simp only [PyData.shown]; exact this x h⟩
theorem kindStr_word (c : Bool) : kindStr c ∈ words := by cases c <;> decide +kernel
theorem askBad_word {h w : Nat} {d : PyData} {x : Str} (e : askBad h w d = some x) : x ∈ words := by
  unfold askBad at e
  have hk : ("kind" : Str) ∈ words := by decide +kernel
  have hl : ("length" : Str) ∈ words := by decide +kernel
  have hn : ("number" : Str) ∈ words := by decide +kernel
  split at e
  · split at e
    · cases e; exact hk
    · split at e
      · cases e; exact hl
      · split at e
        · split at e
          · cases e
          · cases e; exact hn
        · cases e; exact hl
  · cases e; exact hk
theorem sh_bad {i : Int} {x : Str} (hi : i.natAbs ≤ 10 ^ 9) (hx : x ∈ words) : Sh 4000 1 (badD i x) :=
  (sh_list (n := 1921) (k := 0) (m := 2) (fun d hd => by
    rcases List.mem_cons.mp hd with e | hd
    · rw [e]; exact sh_int (log_small hi)
    · rw [List.mem_singleton.mp hd]; exact sh_word hx) (Nat.le_refl _)).mono (by decide) (Nat.le_refl _)
theorem okNum_int {d : PyData} (h : okNum d = true) : ∃ i : Int, d = .int i ∧ i.natAbs ≤ 10 ^ 9 := by
  cases d with
  | int i =>
    have h : (decide ((-10 ^ 9 : Int) ≤ i) && decide (i ≤ 10 ^ 9)) = true := h
    rw [Bool.and_eq_true, decide_eq_true_iff, decide_eq_true_iff] at h
    exact ⟨i, rfl, by omega⟩
  | _ => cases h
theorem askRes_sh {h w : Nat} (h6 : h ≤ 6) (w6 : w ≤ 6) {d : PyData} (e : askBad h w d = none) : Sh 24000 2 (askRes d) := by
  unfold askBad at e
  split at e
  · rename_i k ns hs
    split at e
    · cases e
    · rename_i c hk
      split at e
      · cases e
      · rename_i l hl
        split at e
        · rename_i hlen
          split at e
          · rename_i hall
            have er : askRes d = .tuple [.str (kindStr c), .tuple l] := by
              unfold askRes
              rw [hs]
              show PyData.tuple [k, .tuple ((seqOf ns).getD [])] = _
              rw [hl, kindB_str hk]
              rfl
            rw [er]
            have l6 : l.length ≤ 6 := by
              rw [hlen]
              unfold sideOf
              split <;> omega
            refine (sh_tup (n := 11600) (k := 1) (m := 2) (fun x hx => ?_) (Nat.le_refl _)).mono (show 2 * (11600 + 2) + 3 ≤ 24000 by decide) (Nat.le_refl _)
            rcases List.mem_cons.mp hx with e1 | hx
            · rw [e1]
              exact (sh_word (kindStr_word c)).mono (by decide) (by decide)
            · rw [List.mem_singleton.mp hx]
              refine (sh_tup (n := 1921) (k := 0) (m := 6) (fun y hy => ?_) l6).mono (show 6 * (1921 + 2) + 3 ≤ 11600 by decide) (Nat.le_refl _)
              obtain ⟨i, rfl, hi⟩ := okNum_int (List.all_eq_true.mp hall y hy)
              exact sh_int (log_small hi)
          · cases e
        · cases e
  · cases e
theorem askDue_sh {h w : Nat} (h6 : h ≤ 6) (w6 : w ≤ 6) {d : PyData} {i : Int} (hi : i.natAbs ≤ 10 ^ 9) : Sh 24000 2 (askDue h w d i) := by
  unfold askDue
  split
  · rename_i e
    exact askRes_sh h6 w6 e
  · rename_i x e
    exact (sh_bad hi (askBad_word e)).mono (by decide) (by decide)
theorem firstBad_word {h w : Nat} : ∀ {l : List PyData} {n : Nat} {i : Int} {x : Str}, firstBad h w n l = some (i, x) → x ∈ words ∧ 0 ≤ i ∧ i < n + l.length
  | [], n, i, x, e => by cases e
  | d :: ds, n, i, x, e => by
    unfold firstBad at e
    split at e
    · rename_i y hy
      cases e
      exact ⟨askBad_word hy, by omega, by rw [List.length_cons]; omega⟩
    · have := firstBad_word e
      rw [List.length_cons]
      refine ⟨this.1, this.2.1, ?_⟩
      have := this.2.2
      omega
theorem bookBad_word {h w : Nat} {d : PyData} {i : Int} {x : Str} (e : bookBad h w d = some (i, x)) : x ∈ words ∧ i.natAbs ≤ 10 ^ 9 := by
  have hm : ("many" : Str) ∈ words := by decide +kernel
  unfold bookBad at e
  split at e
  · cases e; exact ⟨hm, by decide⟩
  · split at e
    · cases e; exact ⟨hm, by decide⟩
    · have := firstBad_word e
      exact ⟨this.1, by omega⟩
theorem firstBad_none {h w : Nat} : ∀ {l : List PyData} {n : Nat}, firstBad h w n l = none → ∀ d ∈ l, askBad h w d = none
  | [], n, _, d, hd => nomatch hd
  | e :: ds, n, q, d, hd => by
    unfold firstBad at q
    split at q
    · cases q
    · rename_i he
      rcases List.mem_cons.mp hd with z | z
      · rw [z]; exact he
      · exact firstBad_none q d z
theorem bookRes_sh {h w : Nat} (h6 : h ≤ 6) (w6 : w ≤ 6) {d : PyData} (e : bookBad h w d = none) : Sh 200000 3 (bookRes d) := by
  unfold bookBad at e
  split at e
  · cases e
  · rename_i l hl
    split at e
    · cases e
    · rename_i h8
      have er : bookRes d = .tuple (l.map askRes) := by unfold bookRes; rw [hl]; rfl
      rw [er]
      refine (sh_tup (n := 24000) (k := 2) (m := 8) (fun x hx => ?_) (by rw [List.length_map]; omega)).mono (show 8 * (24000 + 2) + 3 ≤ 200000 by decide) (Nat.le_refl _)
      obtain ⟨a, ha, rfl⟩ := List.mem_map.mp hx
      exact askRes_sh h6 w6 (firstBad_none e a ha)
theorem bookDue_sh {h w : Nat} (h6 : h ≤ 6) (w6 : w ≤ 6) {d : PyData} : Sh 200000 3 (bookDue h w d) := by
  unfold bookDue
  split
  · rename_i e
    exact bookRes_sh h6 w6 e
  · rename_i i x e
    have := bookBad_word e
    exact (sh_bad this.2 this.1).mono (by decide) (by decide)
theorem due4_sh {i : Int} {x : Str} (hi : i.natAbs ≤ 10 ^ 9) (hx : x ∈ words) : Sh 20000 2 (.list [badD i x, badD i x, badD i x, badD i x]) :=
  (sh_list (n := 4000) (k := 1) (m := 4) (fun d hd => by
    have : d = badD i x := by
      simp only [List.mem_cons, List.not_mem_nil, or_false, or_self] at hd
      exact hd
    rw [this]
    exact sh_bad hi hx) (Nat.le_refl _)).mono (by decide) (Nat.le_refl _)
theorem sh_ints {ns : List Int} {m : Nat} (h : ∀ n ∈ ns, n.natAbs.log2 < 1920) (hm : ns.length ≤ m) : Sh (m * 1923 + 3) 1 (.tuple (intsD ns)) :=
  sh_tup (n := 1921) (k := 0) (fun d hd => by
    obtain ⟨n, hn, rfl⟩ := List.mem_map.mp hd
    exact sh_int (h n hn)) (by rw [List.length_map]; exact hm)
theorem sh_rat {r : Rt} (h1 : r.1.natAbs.log2 < 1920) (h2 : r.2.natAbs.log2 < 1920) : Sh 4000 1 (ratD r) :=
  (sh_ints (ns := [r.1, r.2]) (m := 2) (fun n hn => by
    rcases List.mem_cons.mp hn with e | hn
    · rw [e]; exact h1
    · rw [List.mem_singleton.mp hn]; exact h2) (Nat.le_refl _)).mono (by decide) (Nat.le_refl _)
theorem sh_rats {rs : List Rt} {m : Nat} (h : ∀ r ∈ rs, r.1.natAbs.log2 < 1920 ∧ r.2.natAbs.log2 < 1920) (hm : rs.length ≤ m) : Sh (m * 4002 + 3) 2 (.tuple (ratsD rs)) :=
  sh_tup (n := 4000) (k := 1) (fun d hd => by
    obtain ⟨n, hn, rfl⟩ := List.mem_map.mp hd
    exact sh_rat (h n hn).1 (h n hn).2) (by rw [List.length_map]; exact hm)
end K36
end

section
set_option pp.maxSteps 400
set_option pp.deepTerms false
set_option Elab.async false
set_option linter.all false
set_option maxRecDepth 100000
set_option maxHeartbeats 4000000
/-! K36, the law's refused books. -/
namespace K36
open PySem PySem.Spec PyProof.Rows L2

theorem askD_shape (a : Ask) : AskShape (askD a) := by
  intro k ns e
  have e := Option.some.inj (show some [PyData.str (kindStr a.1), .tuple (intsD a.2)] = some [k, ns] from e)
  cases e
  have h : ∀ c : Bool, SeqAt.shaped (.str (kindStr c)) = true := by decide +kernel
  exact h a.1
theorem ne_same (x : Str) : (!decide (V.str x = V.str x)) = false := by rw [decide_eq_true rfl]; rfl
/-- behind the choice of a spoiled book: all its checks agree -/
def RestT (K : PySem.W.Frag) (C : Addr) (bv : V) : TS := fun D σ H' => ∃ (G' : Hp) (M : Mo) (mv : V) (h : Addr) (v : V) (d : PyData) (y5 y7 y8 : Option V), σ = [some (.ref h), some mv, some (.int (M.h : Nat)), some (.int (M.w : Nat)), some bv, y5, some v, y7, y8, none] ∧ Same G' H' ∧ HandOk K G' H' h ∧ MouldAt K C G' mv M ∧ M.Ok ∧ Da K G' v d ∧ BookShape d ∧
  ∀ (G2 H2 : Hp) (y7 y8 : Option V), Ext (M1 h) G' H' G2 H2 → HandOk K G2 H2 h → D.nx [some (.ref h), some mv, some (.int (M.h : Nat)), some (.int (M.w : Nat)), some bv, y5, some v, y7, y8, none] H2
section
variable {P : Program} {w : World} {K : PySem.W.Frag} {mg : Str → Option Value} {base : Heap}
abbrev s_law_refused : Stmt := topS 65
theorem sc_law_refused : FnScope ["_law_hand_here", "_law_mould", "_law_height", "_law_width", "_law_book_here", "_law_step", "_law_asks", "_law_due", "_law_ask_here", "_law_nine"] ["_law_hand_here", "_law_mould", "_law_height", "_law_width", "_law_book_here"] (defScope s_law_refused) := ⟨rfl, rfl, rfl, by decide +kernel, rfl, by decide +kernel, by decide +kernel⟩
def spRefused (K : PySem.W.Frag) (C : Addr) : Sp := fun vs H Q _ => ∃ (G : Hp) (h : Addr) (mv bv : V) (M : Mo) (asks : List Ask), vs = [.ref h, mv, .int (M.h : Nat), .int (M.w : Nat), bv] ∧ Same G H ∧ HandOk K G H h ∧ MouldAt K C G mv M ∧ M.Ok ∧ Dp K G bv (.list (asks.map askD)) ∧ asks.length ≤ 8 ∧ ∀ H', Q (.bl true) H'
theorem ok_law_refused {C CB : Addr} {f : Addr} {fd : FuncData} (F : Fun K "_law_refused" "_law_refused" s_law_refused f fd) (B : Bi mg) (S : EC P w K mg base CB)
    (D_law_take : Dfn P w K mg base CX0 2 "_law_take" ["_law_hand_here", "_law_many_here"] [] (spTake K)) (D_law_seq : Dfn P w K mg base CX0 1 "_law_seq" ["_law_thing"] [] (spLSeq K))
    (D_law_odd_ask : Dfn P w K mg base CX0 3 "_law_odd_ask" ["_law_hand_here", "_law_height", "_law_width"] [] (spOdd K)) (D_law_spoiled : Dfn P w K mg base CX0 4 "_law_spoiled" ["_law_hand_here", "_law_things", "_law_odd"] [] (spSpoiled K))
    (D_law_ask_due : Dfn P w K mg base CX0 3 "_law_ask_due" ["_law_height", "_law_width", "_law_ask_here", "_law_index"] [] (spAskDue K)) (D_law_book_due : Dfn P w K mg base CX0 4 "_law_book_due" ["_law_height", "_law_width", "_law_book_here"] [] (spBookDue K))
    (D_law_asked : Dfn P w K mg base CX0 4 "_law_asked" ["_law_mould", "_law_ask_here", "_law_index"] [] (spAsked K C)) (D_law_booked : Dfn P w K mg base CX0 5 "_law_booked" ["_law_mould", "_law_book_here"] [] (spBooked K C))
    (D_law_spanned : Dfn P w K mg base CX0 7 "_law_spanned" ["_law_mould", "_law_book_here"] [] (spSpanned K C)) (D_check_book : Dfn P w K mg base (L2.CX P w) 4 "check_book" ["mould", "book"] [] (spBook K C CB)) :
    FnG P w K mg base 8 f fd ["_law_hand_here", "_law_mould", "_law_height", "_law_width", "_law_book_here"] (spRefused K C) := by
  refine okG F sc_law_refused (fun vs H Q E h => ?_) (fun cdv A outer s H vs Q E hgd hr h => ?_)
  · obtain ⟨_, _, _, _, _, _, rfl, _⟩ := h
    rfl
  · obtain ⟨G, h, mv, bv, M, asks, rfl, gh, hk, hM, ok, hbd, h8, q⟩ := h
    refine ⟨_, (pss_cons (ps_for PassesOwn.never rfl (pi_range1 (by rfl) B.range (pa_cons pe_int pa_nil)) (pg_name (i := 5) sc_law_refused.nd rfl (.inl rfl))
        (pss_cons (ps_set (i := 6) sc_law_refused.nd rfl (.inl rfl) (pe_dfn D_law_spoiled (hr.mono (by decide)) (by rfl) pass0 (pa_cons (pv 0) (pa_cons (pv 4) (pa_cons (pe_dfn D_law_odd_ask (hr.mono (by decide)) (by rfl) pass0 (pa_cons (pv 0) (pa_cons (pv 2) (pa_cons (pv 3) pa_nil)))) pa_nil)))))
        (pss_cons (ps_if (PW.pt (pw_and (pt_val (pe_dfn D_law_seq (hr.mono (by decide)) (by rfl) pass0 (pa_cons (pv 6) pa_nil))) (pw_and1 (pt_truth (pe_dfn D_law_take (hr.mono (by decide)) (by rfl) pass0 (pa_cons (pv 0) (pa_cons pe_int pa_nil))) (by intro _; rfl)))))
          (pss_one (ps_set (i := 6) sc_law_refused.nd rfl (.inl rfl) (pe_dfn D_law_spoiled (hr.mono (by decide)) (by rfl) pass0 (pa_cons (pv 0) (pa_cons (pv 6) (pa_cons (pe_dfn D_law_odd_ask (hr.mono (by decide)) (by rfl) pass0 (pa_cons (pv 0) (pa_cons (pv 2) (pa_cons (pv 3) pa_nil)))) pa_nil))))))
          pss_nil)
        (pss_imp (t' := RestT K C bv) (pss_cons (ps_set (i := 7) sc_law_refused.nd rfl (.inl rfl) (pe_dfn D_law_book_due (hr.mono (by decide)) (by rfl) pass0 (pa_cons (pv 2) (pa_cons (pv 3) (pa_cons (pv 6) pa_nil)))))
        (pss_cons (ps_if (pt_cmpR op_ne (pe_callB (call_reprD hgd (hr.units)) (by rfl) B.repr (by decide +kernel) (pa_cons (pe_dfn D_law_booked (hr.mono (by decide)) (by rfl) pass0 (pa_cons (pv 1) (pa_cons (pv 6) pa_nil))) pa_nil)) (pe_callB (call_reprD hgd (hr.units)) (by rfl) B.repr (by decide +kernel) (pa_cons (pv 7) pa_nil)) (nomark _))
          (pss_one (ps_ret pe_bl))
          pss_nil)
        (pss_cons (ps_if (PW.pt (pw_and (pt_val (pe_callB call_isN (by rfl) B.isinstance (by decide +kernel) (pa_cons (pv 7) (pa_cons (pe_bltn (v := .ty "list") (by rfl) B.list (by decide +kernel) rfl) pa_nil)))) (pw_and1 (pt_cmpR op_ne (pe_callB (call_reprD hgd (hr.units)) (by rfl) B.repr (by decide +kernel) (pa_cons (pe_dfn D_law_spanned (hr.mono (by decide)) (by rfl) pass0 (pa_cons (pv 1) (pa_cons (pv 6) pa_nil))) pa_nil)) (pe_callB (call_reprD hgd (hr.units)) (by rfl) B.repr (by decide +kernel) (pa_cons (pe_lst (pa_cons (pv 7) (pa_cons (pv 7) (pa_cons (pv 7) (pa_cons (pv 7) pa_nil))))) pa_nil)) (nomark _)))))
          (pss_one (ps_ret pe_bl))
          pss_nil)
        (pss_cons (ps_set (i := 8) sc_law_refused.nd rfl (.inl rfl) (pe_dfn D_law_odd_ask (hr.mono (by decide)) (by rfl) pass0 (pa_cons (pv 0) (pa_cons (pv 2) (pa_cons (pv 3) pa_nil)))))
        (pss_cons (ps_if (pt_cmpR op_ne (pe_callB (call_reprD hgd (hr.units)) (by rfl) B.repr (by decide +kernel) (pa_cons (pe_dfn D_law_asked (hr.mono (by decide)) (by rfl) pass0 (pa_cons (pv 1) (pa_cons (pv 8) (pa_cons pe_non pa_nil)))) pa_nil)) (pe_callB (call_reprD hgd (hr.units)) (by rfl) B.repr (by decide +kernel) (pa_cons (pe_dfn D_law_ask_due (hr.mono (by decide)) (by rfl) pass0 (pa_cons (pv 2) (pa_cons (pv 3) (pa_cons (pv 8) (pa_cons pe_int pa_nil))))) pa_nil)) (nomark _))
          (pss_one (ps_ret pe_bl))
          pss_nil)
        (pss_one (ps_if (pt_cmpR op_ne (pe_callB (call_reprD hgd (hr.units)) (by rfl) B.repr (by decide +kernel) (pa_cons (pe_dfn D_law_asked (hr.mono (by decide)) (by rfl) pass0 (pa_cons (pv 1) (pa_cons (pv 8) (pa_cons pe_int pa_nil)))) pa_nil)) (pe_callB (call_reprD hgd (hr.units)) (by rfl) B.repr (by decide +kernel) (pa_cons (pe_dfn D_law_ask_due (hr.mono (by decide)) (by rfl) pass0 (pa_cons (pv 2) (pa_cons (pv 3) (pa_cons (pv 8) (pa_cons pe_int pa_nil))))) pa_nil)) (nomark _))
          (pss_one (ps_ret pe_bl))
          pss_nil)))))))
          (fun D σ H' hq => by
            obtain ⟨G', M, mv, h, v, d, y5, y7, y8, rfl, gh, hk, hM, ok, hd, hsh, q⟩ := hq
            have h6 := ok.h6
            have w6 := ok.w6
            refine ⟨_, rfl, _, rfl, v, rfl, G', M.h, M.w, v, d, rfl, gh, hd, hsh, fun G1 H1 p1 X1 d1 => ?_⟩
            refine ⟨mv, rfl, v, rfl, G1, mv, v, M, d, rfl, X1.gh, hM.mono X1.gg, da_mono X1.gg hd, hsh, fun G2 H2 p2 X2 d2 => ?_⟩
            have sB := (bookDue_sh h6 w6 (d := d)).shown (by decide) (by decide)
            have X12 := X1.trans X2
            refine ⟨.ref p2, _, rfl, dp_mono X2.gh d2, sB, .inr ⟨p2, rfl⟩, .ref p1, rfl, .ref p1, _, rfl, dp_mono (X2.gg.trans X2.gh) d1, sB, .inr ⟨p1, rfl⟩, rfl, _, rfl, ibF (ne_same _) ?_⟩
            have hk2 := hk.ext X12
            -- behind the rows
            suffices odd : ∀ (G5 H5 : Hp), Ext M0 G' H' G5 H5 → (tSeq (tAsg (tCall (spOdd K) [] E0 (tCons (tVar 0) (tCons (tVar 2) (tCons (tVar 3) tNil)))) (gName 8)) (tSeq (tIfS (tTest (tOp rNe (tCB (fun xs H Q => ∃ (x : V) (d : PyData), xs = [x] ∧ Dp K H x d ∧ Shown d ∧ ((∃ i, x = .int i) ∨ ∃ a, x = .ref a) ∧ Q (.str d.shown) H) (tCons (tCall (spAsked K C) [] E0 (tCons (tVar 1) (tCons (tVar 8) (tCons (tC .non) tNil)))) tNil))
                (tCB (fun xs H Q => ∃ (x : V) (d : PyData), xs = [x] ∧ Dp K H x d ∧ Shown d ∧ ((∃ i, x = .int i) ∨ ∃ a, x = .ref a) ∧ Q (.str d.shown) H) (tCons (tCall (spAskDue K) [] E0 (tCons (tVar 2) (tCons (tVar 3) (tCons (tVar 8) (tCons (tC (.int 0)) tNil))))) tNil)))) (tRet (tC (.bl false))) tNext)
              (tIfS (tTest (tOp rNe (tCB (fun xs H Q => ∃ (x : V) (d : PyData), xs = [x] ∧ Dp K H x d ∧ Shown d ∧ ((∃ i, x = .int i) ∨ ∃ a, x = .ref a) ∧ Q (.str d.shown) H) (tCons (tCall (spAsked K C) [] E0 (tCons (tVar 1) (tCons (tVar 8) (tCons (tC (.int 5)) tNil)))) tNil))
                (tCB (fun xs H Q => ∃ (x : V) (d : PyData), xs = [x] ∧ Dp K H x d ∧ Shown d ∧ ((∃ i, x = .int i) ∨ ∃ a, x = .ref a) ∧ Q (.str d.shown) H) (tCons (tCall (spAskDue K) [] E0 (tCons (tVar 2) (tCons (tVar 3) (tCons (tVar 8) (tCons (tC (.int 5)) tNil))))) tNil)))) (tRet (tC (.bl false))) tNext)))
              D [some (.ref h), some mv, some (.int (M.h : Nat)), some (.int (M.w : Nat)), some bv, y5, some v, some (.ref p1), y8, none] H5 by
              have d1' := dp_mono (X2.gg.trans X2.gh) d1
              refine ⟨_, rfl, .ref p1, "list", _, _, rfl, .inl d1', kit_list _, _, rfl, ?_⟩
              cases hbb : bookBad M.h M.w d with
              | none =>
                rw [bookDue_ok hbb]
                exact ibF rfl (odd G2 H2 X12)
              | some ix =>
                obtain ⟨i, x⟩ := ix
                rw [bookDue_bad hbb] at d1 ⊢
                have bw := bookBad_word hbb
                have s4 := (due4_sh bw.2 bw.1).shown (by decide) (by decide)
                refine ibT rfl ⟨mv, rfl, v, rfl, G2, mv, v, M, d, i, x, rfl, X2.gh, hM.mono X12.gg, ok, da_mono X12.gg hd, hsh, hbb, fun G3 H3 p3 X3 d3 => ?_⟩
                have X13 := X12.trans X3
                refine ⟨.ref p3, _, rfl, dp_mono X3.gh d3, s4, .inr ⟨p3, rfl⟩, .ref p1, rfl, .ref p1, rfl, .ref p1, rfl, .ref p1, rfl, by show 4 ≤ sizeLine; decide, fun p4 hp4 => ?_⟩
                have X4 := X13.al (o := .lst [.ref p1, .ref p1, .ref p1, .ref p1]) hp4
                have d1'' := dp_mono (X2.gg.trans (X3.gg.trans X4.gh)) d1
                refine ⟨.ref p4, _, rfl, dp_of_lst upd_same (.cons d1'' (.cons d1'' (.cons d1'' (.cons d1'' .nil)))), s4, .inr ⟨p4, rfl⟩, rfl, _, rfl, ibF (ne_same _) (odd G3 _ X4)⟩
            intro G5 H5 X5
            have hk5 := hk.ext X5
            refine ⟨.ref h, rfl, _, rfl, _, rfl, G5, h, M.h, M.w, rfl, X5.gh, hk5, ok.h1, h6, ok.w1, w6, fun G6 H6 ov od X6 hk6 do6 os6 => ?_⟩
            have X56 := X5.up.trans X6
            have hM6 := hM.mono X56.gg
            refine ⟨mv, rfl, ov, rfl, G6, mv, ov, M, od, none, rfl, X6.gh, hM6, do6, os6, fun G7 H7 p7 X7 d7 => ?_⟩
            have s7 : ∀ i : Int, i.natAbs ≤ 10 ^ 9 → Shown (askDue M.h M.w od i) := fun i hi => (askDue_sh h6 w6 hi).shown (by decide) (by decide)
            refine ⟨.ref p7, _, rfl, dp_mono X7.gh d7, s7 0 (by decide), .inr ⟨p7, rfl⟩, _, rfl, _, rfl, ov, rfl, G7, M.h, M.w, ov, od, 0, rfl, X7.gh, dp_mono X7.gg do6, os6, fun G8 H8 p8 X8 d8 => ?_⟩
            refine ⟨.ref p8, _, rfl, dp_mono X8.gh d8, s7 0 (by decide), .inr ⟨p8, rfl⟩, rfl, _, rfl, ibF (ne_same _) ?_⟩
            have X78 := X7.trans X8
            refine ⟨mv, rfl, ov, rfl, G8, mv, ov, M, od, some 5, rfl, X8.gh, hM6.mono X78.gg, dp_mono X78.gg do6, os6, fun G9 H9 p9 X9 d9 => ?_⟩
            refine ⟨.ref p9, _, rfl, dp_mono X9.gh d9, s7 5 (by decide), .inr ⟨p9, rfl⟩, _, rfl, _, rfl, ov, rfl, G9, M.h, M.w, ov, od, 5, rfl, X9.gh, dp_mono (X78.gg.trans X9.gg) do6, os6, fun G10 H10 p10 X10 d10 => ?_⟩
            refine ⟨.ref p10, _, rfl, dp_mono X10.gh d10, s7 5 (by decide), .inr ⟨p10, rfl⟩, rfl, _, rfl, ibF (ne_same _) ?_⟩
            have X710 := X78.trans (X9.trans X10)
            exact q G10 H10 _ _ (X56.trans X710.up) (hk6.ext X710)))))
      ) (pss_cons (ps_set (i := 9) sc_law_refused.nd rfl (.inl rfl) (pe_op op_rep (pe_lst (pa_cons (pe_tup (pa_cons pe_str (pa_cons (pe_op op_rep (pe_lst (pa_cons pe_int pa_nil)) (pv 2)) pa_nil))) pa_nil)) pe_int))
      (pss_one (ps_ret (pe_and (pe_cmpR op_eq (pe_callB (call_reprD hgd (hr.units)) (by rfl) B.repr (by decide +kernel) (pa_cons (pe_dfn D_law_booked (hr.mono (by decide)) (by rfl) pass0 (pa_cons (pv 1) (pa_cons (pv 9) pa_nil))) pa_nil)) (pe_callB (call_reprD hgd (hr.units)) (by rfl) B.repr (by decide +kernel) (pa_cons (pe_lst (pa_cons pe_int (pa_cons pe_str pa_nil))) pa_nil)) (nomark _)) (pe_one (pe_cmpR op_eq (pe_callB call_len_seq (by rfl) B.len (by decide +kernel) (pa_cons (pe_dfn (CX := L2.CX P w) (E := E0) D_check_book (hr.mono (by decide)) (by rfl) passL (pa_cons (pv 1) (pa_cons (pe_slice sl_list (pv 9) po_none (po_some pe_int)) pa_nil))) pa_nil)) pe_int (nomark _)))))))), ?_⟩
    have h1 := ok.h1
    have h6 := ok.h6
    have w1 := ok.w1
    have w6 := ok.w6
    refine ⟨5, rfl, by decide, by decide, ?_⟩
    obtain ⟨Pv, hPv⟩ : ∃ Pv : Nat → L2.St → Hp → Prop, Pv = fun n σ H' => ∃ (y5 y6 y7 y8 : Option V) (G' : Hp), σ = [some (.ref h), some mv, some (.int (M.h : Nat)), some (.int (M.w : Nat)), some bv, y5, y6, y7, y8, none] ∧ Ext (M1 h) G H G' H' ∧ HandOk K G' H' h := ⟨_, rfl⟩
    refine for_it walk_range Pv (by rw [hPv]; exact ⟨none, none, none, none, G, rfl, Ext.refl gh, hk⟩) (fun _ _ _ _ _ => trivial) (fun n x σ H1 H1' hn hP hY => ?_) (fun σ H1 hP => ?_)
    · rw [hPv] at hP
      obtain ⟨y5, y6, y7, y8, G1, rfl, X1, hk1⟩ := hP
      obtain ⟨eH, rfl⟩ := hY
      subst eH
      refine ⟨.ref h, rfl, bv, rfl, .ref h, rfl, _, rfl, _, rfl, G1, h, M.h, M.w, rfl, X1.gh, hk1, h1, h6, w1, w6, fun G2 H2 ov od X2 hk2 do2 os2 => ?_⟩
      have X12 := X1.trans X2
      refine ⟨G2, h, bv, ov, .list (asks.map askD), od, asks.map askD, rfl, X2.gh, hk2, dp_mono X12.gg hbd, rfl, by rw [List.length_map]; omega, fun e he => ?_, do2, os2, fun G3 H3 v d X3 hk3 d3 sh3 len3 => ?_⟩
      · obtain ⟨a, _, rfl⟩ := List.mem_map.mp he
        exact askD_shape a
      have X13 := X12.trans X3
      have go : ∀ (G4 H4 : Hp) (v' : V) (d' : PyData), Ext (M1 h) G H G4 H4 → HandOk K G4 H4 h → Da K G4 v' d' → BookShape d' → RestT K C bv { nx := Pv (n + 1), rt := Q } [some (.ref h), some mv, some (.int (M.h : Nat)), some (.int (M.w : Nat)), some bv, some (.int (0 + (n : Nat))), some v', y7, y8, none] H4 := fun G4 H4 v' d' X4 hk4 d4 sh4 =>
        ⟨G4, M, mv, h, v', d', some (.int (0 + (n : Nat))), y7, y8, rfl, X4.gh, hk4, hM.mono X4.gg, ok, d4, sh4, fun G5 H5 z7 z8 X5 hk5 => by rw [hPv]; exact ⟨some (.int (0 + (n : Nat))), some v', z7, z8, G5, rfl, X4.trans X5, hk5⟩⟩
      refine ⟨v, rfl, v, d, rfl, da_mono X3.gh d3, _, rfl, ?_⟩
      cases hsq : seqOf d with
      | none => exact ibF (by rw [isSeqD_of, hsq]; rfl) (iteF (go G3 H3 v d X13 hk3 d3 sh3))
      | some l =>
        have l9 := len3 l hsq
        rw [List.length_map] at l9
        refine ibT (by rw [isSeqD_of, hsq]; rfl) ⟨.ref h, rfl, G3, h, 2, rfl, X3.gh, hk3, by decide, by decide, fun H4 r4 X4 hk4 hr4 => ⟨_, rfl, ?_⟩⟩
        have X14 := X13.trans X4
        refine ib2 (fun _ => ?_) (fun _ => go G3 H4 v d X14 hk4 d3 sh3)
        refine ⟨.ref h, rfl, v, rfl, .ref h, rfl, _, rfl, _, rfl, G3, h, M.h, M.w, rfl, X4.gh, hk4, h1, h6, w1, w6, fun G5 H5 ov2 od2 X5 hk5 do5 os5 => ?_⟩
        have X15 := X14.trans X5
        exact ⟨G5, h, v, ov2, d, od2, l, rfl, X5.gh, hk5, dp_mono X5.gg (da_seq d3 hsq), hsq, by omega, sh3 l hsq, do5, os5, fun G6 H6 v6 d6 X6 hk6 dd6 sh6 _ => go G6 H6 v6 d6 (X15.trans X6) hk6 dd6 sh6⟩
    · rw [hPv] at hP
      obtain ⟨y5, y6, y7, y8, G1, rfl, X1, hk1⟩ := hP
      have rep1 : ∀ (n : Nat) (x : V), (List.replicate ((n : Nat) : Int).toNat [x]).flatten = List.replicate n x := fun n x => by rw [Int.toNat_natCast, rep_flat]
      have b1 : Bld K h G H G1 H1 := ⟨X1, hk1⟩
      refine ⟨by show 1 ≤ sizeLine; decide, fun l1 hl1 => ⟨_, rfl, l1, ((M.h : Nat) : Int), [.int 0], rfl, rfl, upd_same, by omega, by omega, ?_, fun l2 hl2 => ⟨by show 2 ≤ sizeLine; decide, fun t1 ht1 => ⟨by show 1 ≤ sizeLine; decide, fun l3 hl3 => ?_⟩⟩⟩⟩
      · show 1 * ((M.h : Nat) : Int).toNat ≤ sizeLine
        rw [Int.toNat_natCast]
        exact Nat.le_trans (show 1 * M.h ≤ 1000 by omega) (by decide)
      rw [rep1] at ht1 hl3 ⊢
      obtain ⟨G2, b2, s2, e2⟩ := (b1.al (o := .lst [.int 0]) hl1).fin' (o := .lst (List.replicate M.h (.int 0))) hl2
      obtain ⟨G3, b3, s3, e3⟩ := b2.fin' (o := .tup [.str "row", .ref l2]) ht1
      have dr : Dp K G3 (.ref t1) (.tuple [.str "row", .list (List.replicate M.h (.int 0))]) := dp_of_tup e3 (.cons (.str _) (.cons (dp_mono s3 (dp_of_lst e2 (dpAll_rep (.int 0) _))) .nil))
      have b4 := b3.al (o := .lst [.ref t1]) hl3
      refine ⟨l3, 9, [.ref t1], rfl, rfl, upd_same, by decide, by decide, by show 1 * 9 ≤ sizeLine; decide, fun l4 hl4 => ?_⟩
      have e9 : (List.replicate (9 : Int).toNat [V.ref t1]).flatten = List.replicate 9 (.ref t1) := rfl
      rw [e9]
      obtain ⟨G5, b5, s5, e5⟩ := b4.fin' (o := .lst (List.replicate 9 (.ref t1))) hl4
      -- the asks of nine
      have bad1 : askBad M.h M.w (.tuple [.str "row", .list (List.replicate M.h (.int 0))]) = none := by
        show (match kindB (.str "row") with | none => some ("kind" : Str) | some c => (match seqOf (.list (List.replicate M.h (.int 0))) with | none => some ("length" : Str) | some l => if l.length = sideOf M.h M.w c then (if l.all okNum = true then none else some ("number" : Str)) else some ("length" : Str))) = none
        have ek : kindB (.str "row") = some false := by decide +kernel
        rw [ek]
        show (if (List.replicate M.h (PyData.int 0)).length = sideOf M.h M.w false then (if (List.replicate M.h (PyData.int 0)).all okNum = true then none else some ("number" : Str)) else some ("length" : Str)) = (none : Option Str)
        rw [if_pos (by rw [List.length_replicate]; rfl), if_pos]
        rw [List.all_eq_true]
        intro x hx
        rw [(List.mem_replicate.mp hx).2]
        decide +kernel
      have shape1 : AskShape (.tuple [.str "row", .list (List.replicate M.h (.int 0))]) := by
        intro k ns e
        have e := Option.some.inj (show some [PyData.str "row", .list (List.replicate M.h (.int 0))] = some [k, ns] from e)
        cases e
        decide +kernel
      have d9 : ∀ n, DpAll K G5 (List.replicate n (.ref t1)) (List.replicate n (.tuple [.str "row", .list (List.replicate M.h (.int 0))])) := fun n => dpAll_rep (dp_mono s5 dr) n
      have shapeN : ∀ n, BookShape (.list (List.replicate n (.tuple [.str "row", .list (List.replicate M.h (.int 0))]))) := fun n l e x hx => by
        have e := Option.some.inj e
        subst e
        rw [(List.mem_replicate.mp hx).2]
        exact shape1
      have bad9 : bookBad M.h M.w (.list (List.replicate 9 (.tuple [.str "row", .list (List.replicate M.h (.int 0))]))) = some ((0 : Int), ("many" : Str)) := rfl
      have first : ∀ (n i : Nat), firstBad M.h M.w i (List.replicate n (.tuple [.str "row", .list (List.replicate M.h (.int 0))])) = none := by
        intro n
        induction n with
        | zero => intro i; rfl
        | succ n ih =>
          intro i
          rw [List.replicate_succ]
          show (match askBad M.h M.w _ with | some x => _ | none => _) = none
          rw [bad1]
          exact ih (i + 1)
      have bad8 : bookBad M.h M.w (.list (List.replicate 8 (.tuple [.str "row", .list (List.replicate M.h (.int 0))]))) = none := by
        exact first 8 0
      have hM5 := hM.mono b5.x.gg
      have hmany : ("many" : Str) ∈ words := by decide +kernel
      have sm := (sh_bad (i := 0) (by decide) hmany).shown (by decide) (by decide)
      refine ⟨mv, rfl, .ref l4, rfl, G5, mv, .ref l4, M, .list (List.replicate 9 (.tuple [.str "row", .list (List.replicate M.h (.int 0))])), rfl, b5.x.gh, hM5, .inl (dp_of_lst e5 (d9 9)), shapeN 9, fun G6 H6 p6 X6 d6 => ?_⟩
      rw [bookDue_bad bad9] at d6
      refine ⟨.ref p6, _, rfl, dp_mono X6.gh d6, sm, .inr ⟨p6, rfl⟩, by show 2 ≤ sizeLine; decide, fun p7 hp7 => ?_⟩
      have X7 := X6.al (o := .lst [.int 0, .str "many"]) hp7
      refine ⟨.ref p7, _, rfl, dp_mono (fun a o e => e) (dp_of_lst (ds := [.int 0, .str "many"]) upd_same (.cons (.int _) (.cons (.str _) .nil))), sm, .inr ⟨p7, rfl⟩, rfl, _, rfl, ibT (by exact decide_eq_true rfl) ?_⟩
      -- the first eight
      refine ⟨mv, rfl, .ref l4, rfl, 8, rfl, l4, _, rfl, .inl (.inl (X7.gh _ _ (X6.gg _ _ e5))), fun p8 hp8 => ?_⟩
      have X8 := X7.al (o := .lst (cutV (List.replicate 9 (V.ref t1)) none (some 8))) hp8
      have ec : cutV (List.replicate 9 (V.ref t1)) none (some 8) = List.replicate 8 (.ref t1) := by rfl
      have X8' := X7.fin (o := .lst (cutV (List.replicate 9 (V.ref t1)) none (some 8))) hp8
      refine ⟨_, mv, M, .ref p8, .list (List.replicate 8 (.tuple [.str "row", .list (List.replicate M.h (.int 0))])), rfl, X8'.gh, hM5.mono X8'.gg, .inl (dp_of_lst upd_same (by rw [ec]; exact dpAll_mono X8'.gg (d9 8))), shapeN 8, fun _ G9 H9 a X9 d9' => ?_, fun i x e => by rw [bad8] at e; cases e⟩
      have eR : bookRes (.list (List.replicate 8 (.tuple [.str "row", .list (List.replicate M.h (.int 0))]))) = .tuple ((List.replicate 8 (PyData.tuple [.str "row", .list (List.replicate M.h (.int 0))])).map askRes) := rfl
      rw [eR] at d9'
      obtain ⟨a', ys, ea, hs, hy⟩ := dp_tup d9'
      obtain rfl : a = a' := V.ref.inj ea
      have ly : ys.length = 8 := by rw [dpAll_len hy, List.length_map, List.length_replicate]
      refine ⟨a, ys, rfl, .inr (sqt_mono X9.gh hs), rfl, ?_⟩
      rw [ly]
      exact q H9
end
end K36
end

section
set_option pp.maxSteps 400
set_option pp.deepTerms false
set_option Elab.async false
set_option linter.all false
set_option maxRecDepth 100000
set_option maxHeartbeats 4000000
/-! K36, the law's powers. -/
namespace K36
open PySem PySem.Spec PyProof.Rows L2

theorem pow_small {a p : Nat} (ha : a ≤ 6) (hp : p ≤ 7) : (((a : Nat) : Int) ^ p).natAbs ≤ 10 ^ 9 := by
  rw [Int.natAbs_pow, Int.natAbs_natCast]
  exact Nat.le_trans (Nat.pow_le_pow_left ha p) (Nat.le_trans (Nat.pow_le_pow_right (by decide) hp) (by decide))
theorem pows_sh {c : Bool} {len many : Nat} (hl : len ≤ 6) (hm : many ≤ 7) : Sh 200000 3 (.tuple (powsD (kindStr c) len many)) := by
  refine (sh_tup (n := 24000) (k := 2) (m := 8) (fun d hd => ?_) (by unfold powsD; rw [List.length_map, List.length_range]; omega)).mono (show 8 * (24000 + 2) + 3 ≤ 200000 by decide) (Nat.le_refl _)
  obtain ⟨p, hp, rfl⟩ := List.mem_map.mp hd
  have hp := List.mem_range.mp hp
  refine (sh_tup (n := 11600) (k := 1) (m := 2) (fun x hx => ?_) (Nat.le_refl _)).mono (show 2 * (11600 + 2) + 3 ≤ 24000 by decide) (Nat.le_refl _)
  rcases List.mem_cons.mp hx with e1 | hx
  · rw [e1]
    exact (sh_word (kindStr_word c)).mono (by decide) (by decide)
  · rw [List.mem_singleton.mp hx]
    refine (sh_ints (m := 6) (fun n hn => ?_) (by unfold powRow; rw [List.length_map, List.length_range]; exact hl)).mono (by decide) (Nat.le_refl _)
    obtain ⟨a, ha, rfl⟩ := List.mem_map.mp hn
    exact log_small (pow_small (by have := List.mem_range.mp ha; omega) (by omega))
section
variable {P : Program} {w : World} {K : PySem.W.Frag} {mg : Str → Option Value} {base : Heap}
abbrev s_law_powers : Stmt := topS 66
theorem sc_law_powers : FnScope ["_law_hand_here", "_law_length", "_law_many_here", "_law_kind", "_law_due", "_law_power", "_law_numbers", "_law_at", "_law_number_here", "_law_step"] ["_law_hand_here"] (defScope s_law_powers) := ⟨rfl, rfl, rfl, by decide +kernel, rfl, by decide +kernel, by decide +kernel⟩
def spPowers (K : PySem.W.Frag) : Sp := fun vs H Q _ => ∃ (G : Hp) (h : Addr), vs = [.ref h] ∧ Same G H ∧ HandOk K G H h ∧ ∀ G' H', Ext (M1 h) G H G' H' → HandOk K G' H' h → Q (.bl true) H'
theorem ok_law_powers {f : Addr} {fd : FuncData} (F : Fun K "_law_powers" "_law_powers" s_law_powers f fd) (B : Bi mg) (D_law_take : Dfn P w K mg base CX0 2 "_law_take" ["_law_hand_here", "_law_many_here"] [] (spTake K))
    (D_power_asks : Dfn P w K mg base CX0 1 "power_asks" ["kind", "length", "many"] [] (spPower K)) : FnG P w K mg base 3 f fd ["_law_hand_here"] (spPowers K) := by
  refine okG F sc_law_powers (fun vs H Q E h => ?_) (fun cdv A outer s H vs Q E hgd hr h => ?_)
  · obtain ⟨_, _, rfl, _⟩ := h
    rfl
  · obtain ⟨G0, h, rfl, gh0, hk0, q⟩ := h
    refine ⟨_, (pss_cons (ps_set (i := 1) sc_law_powers.nd rfl (.inl rfl) (pe_op op_add pe_int (pe_dfn D_law_take (hr.mono (by decide)) (by rfl) pass0 (pa_cons (pv 0) (pa_cons pe_int pa_nil)))))
      (pss_cons (ps_set (i := 2) sc_law_powers.nd rfl (.inl rfl) (pe_dfn D_law_take (hr.mono (by decide)) (by rfl) pass0 (pa_cons (pv 0) (pa_cons pe_int pa_nil))))
      (pss_cons (ps_set (i := 3) sc_law_powers.nd rfl (.inl rfl) (pe_ix ix_tup (pe_tup (pa_cons pe_str (pa_cons pe_str pa_nil))) (pe_dfn D_law_take (hr.mono (by decide)) (by rfl) pass0 (pa_cons (pv 0) (pa_cons pe_int pa_nil))) (fun _ _ => rfl)))
      (pss_cons (ps_set (i := 4) sc_law_powers.nd rfl (.inl rfl) (pe_lst pa_nil))
      (pss_cons (ps_for PassesOwn.never rfl (pi_range1 (by rfl) B.range (pa_cons (pv 2) pa_nil)) (pg_name (i := 5) sc_law_powers.nd rfl (.inl rfl))
        (pss_cons (ps_set (i := 6) sc_law_powers.nd rfl (.inl rfl) (pe_lst pa_nil))
        (pss_cons (ps_for PassesOwn.never rfl (pi_range1 (by rfl) B.range (pa_cons (pv 1) pa_nil)) (pg_name (i := 7) sc_law_powers.nd rfl (.inl rfl))
          (pss_cons (ps_set (i := 8) sc_law_powers.nd rfl (.inl rfl) pe_int)
          (pss_cons (ps_for PassesOwn.never rfl (pi_range1 (by rfl) B.range (pa_cons (pv 5) pa_nil)) (pg_name (i := 9) sc_law_powers.nd rfl (.inl rfl))
            (pss_one (ps_set (i := 8) sc_law_powers.nd rfl (.inl rfl) (pe_op op_mul (pv 8) (pv 7)))))
          (pss_one (ps_expr (pe_bm PySem.F.plainAttrs_list PySem.F.slot_list_append PySem.F.type_list_append mt_append (pv 6) (pa_cons (pv 8) pa_nil)))))))
        (pss_one (ps_expr (pe_bm PySem.F.plainAttrs_list PySem.F.slot_list_append PySem.F.type_list_append mt_append (pv 4) (pa_cons (pe_tup (pa_cons (pv 3) (pa_cons (pe_callTy call_tuple_of (by rfl) B.tuple (by decide +kernel) (pa_cons (pv 6) pa_nil)) pa_nil))) pa_nil)))))))
      (pss_one (ps_ret (pe_cmpR op_eq (pe_callB (call_reprD hgd (hr.units)) (by rfl) B.repr (by decide +kernel) (pa_cons (pe_dfn D_power_asks (hr.mono (by decide)) (by rfl) pass0 (pa_cons (pv 3) (pa_cons (pv 1) (pa_cons (pv 2) pa_nil)))) pa_nil)) (pe_callB (call_reprD hgd (hr.units)) (by rfl) B.repr (by decide +kernel) (pa_cons (pe_callTy call_tuple_of (by rfl) B.tuple (by decide +kernel) (pa_cons (pv 4) pa_nil)) pa_nil)) (nomark _))))))))), ?_⟩
    refine ⟨.ref h, rfl, G0, h, 6, rfl, gh0, hk0, by decide, by decide, fun H1 r1 X1 hk1 hr1 => ⟨1, _, rfl, rfl, ?_⟩⟩
    refine ⟨.ref h, rfl, G0, h, 8, rfl, X1.gh, hk1, by decide, by decide, fun H2 many X2 hk2 hm => ?_⟩
    have X12 := X1.trans X2
    refine ⟨by show 2 ≤ sizeLine; decide, fun pk hpk => ⟨.ref h, rfl, drawV (many := 2) X12.gh hk2 rfl (by decide) (by decide) hpk fun H r3 kv X3 hk hkv => ?_⟩⟩
    have X := X12.trans X3
    have hc : ∃ c : Bool, kv = .str (kindStr c) := by
      match r3, hkv with
      | 0, hkv => cases hkv; exact ⟨true, rfl⟩
      | 1, hkv => cases hkv; exact ⟨false, rfl⟩
      | n + 2, hkv => cases hkv
    obtain ⟨c, rfl⟩ := hc
    have e1 : (1 : Int) + (r1 : Nat) = ((1 + r1 : Nat) : Int) := by omega
    have hlen : ∃ len : Nat, len ≤ 6 ∧ (1 : Int) + (r1 : Nat) = (len : Nat) := ⟨1 + r1, by omega, e1⟩
    obtain ⟨len, hl, e1⟩ := hlen
    generalize hG : G0 = G at X hk
    have gh : Same G H := X.gh
    have tl : ((1 : Int) + (r1 : Nat)).toNat = len := by omega
    refine ⟨Nat.zero_le _, fun p hp => ?_⟩
    have gp : G p = none := gh.free hp
    refine ⟨_, rfl, _, rfl, by omega, by omega, ?_⟩
    refine for_it walk_range (fun i σ H' => ∃ y5 y6 y7 y8 y9 G' ys, σ = [some (.ref h), some (.int (1 + (r1 : Nat))), some (.int (many : Nat)), some (.str (kindStr c)), some (.ref p), y5, y6, y7, y8, y9] ∧ Ext M0 G H G' H' ∧ H' p = some (.lst ys) ∧ G' p = none ∧ ys.length = i ∧ DpAll K G' ys (powsD (kindStr c) len i))
      ⟨none, none, none, none, none, G, [], rfl, (Ext.refl gh).al hp, upd_same, gp, rfl, .nil⟩ (fun _ _ _ _ _ => trivial) (fun i x σ H' H2 hi hP hY => ?_) (fun σ H' hP => ?_)
    · obtain ⟨y4, y5, y6, y7, y8, G', ys, rfl, X, ep, gp', hly, hy⟩ := hP
      obtain ⟨eH, rfl⟩ := hY
      subst eH
      refine ⟨Nat.zero_le _, fun r hr' => ?_⟩
      have nrp : r ≠ p := fun z => by rw [z, ep] at hr'; cases hr'
      refine ⟨_, rfl, _, rfl, by omega, by omega, ?_⟩
      refine for_it walk_range (fun j σ H' => (∃ y6 y7 y8, σ = [some (.ref h), some (.int (1 + (r1 : Nat))), some (.int (many : Nat)), some (.str (kindStr c)), some (.ref p), some (.int (0 + (i : Nat))), some (.ref r), y6, y7, y8]) ∧ Ext M0 G H G' H' ∧ H' p = some (.lst ys) ∧ H' r = some (.lst ((powRow j i).map V.int)))
        ⟨⟨y6, y7, y8, rfl⟩, X.al hr', by rw [upd_ne (Ne.symm nrp)]; exact ep, upd_same⟩ (fun _ _ _ _ _ => trivial) (fun j x σ H3 H4 hj hP hY => ?_) (fun σ H3 hP => ?_)
      · obtain ⟨⟨y6, y7, y8, rfl⟩, X3, ep3, er3⟩ := hP
        obtain ⟨eH, rfl⟩ := hY
        subst eH
        refine ⟨_, rfl, _, rfl, by omega, by omega, ?_⟩
        refine for_it walk_range (fun m σ H' => (∃ y8, σ = [some (.ref h), some (.int (1 + (r1 : Nat))), some (.int (many : Nat)), some (.str (kindStr c)), some (.ref p), some (.int (0 + (i : Nat))), some (.ref r), some (.int (0 + (j : Nat))), some (.int (((j : Nat) : Int) ^ m)), y8]) ∧ H' = H4)
          ⟨⟨y8, rfl⟩, rfl⟩ (fun _ _ _ _ _ => trivial) (fun m x σ H5 H6 hm' hP hY => ?_) (fun σ H5 hP => ?_)
        · obtain ⟨⟨y8, rfl⟩, rfl⟩ := hP
          obtain ⟨eH, rfl⟩ := hY
          subst eH
          refine ⟨_, rfl, _, rfl, _, _, rfl, rfl, .inr (by simp at hj; omega), ⟨some (.int (0 + (m : Nat))), ?_⟩, rfl⟩
          have e : ((j : Nat) : Int) ^ m * (0 + (j : Nat)) = ((j : Nat) : Int) ^ (m + 1) := by rw [Int.zero_add, Int.pow_succ]
          show _ = [_, _, _, _, _, _, _, _, some (V.int (((j : Nat) : Int) ^ (m + 1))), _]
          rw [← e]
          rfl
        · obtain ⟨⟨y8, rfl⟩, rfl⟩ := hP
          have ei : ((0 : Int) + (i : Nat)).toNat = i := by omega
          rw [ei]
          have lp : (powRow j i).length = j := by unfold powRow; rw [List.length_map, List.length_range]
          refine ⟨.ref r, rfl, .inl ⟨rfl, _, .inl (.inl er3)⟩, _, rfl, r, _, _, rfl, rfl, er3, small1000 (by rw [List.length_map, lp]; simp at hj; omega), ⟨_, _, _, rfl⟩, X3.wr (.inl (X.free hr')) (X.gh.free hr'), ?_, ?_⟩
          · rw [upd_ne (Ne.symm nrp)]
            exact ep3
          · rw [upd_same]
            unfold powRow
            rw [range_snoc, List.map_append, List.map_append]
            rfl
      · obtain ⟨⟨y6, y7, y8, rfl⟩, X3, ep3, er3⟩ := hP
        rw [tl] at er3
        refine ⟨.ref p, rfl, .inl ⟨rfl, _, .inl (.inl ep3)⟩, _, rfl, .ref r, rfl, r, _, rfl, .inl ⟨.inl (.inl er3), fun t ht => ⟨by show 2 ≤ sizeLine; decide, fun u hu => ?_⟩⟩⟩
        have X4 := X3.fin (o := .tup ((powRow len i).map V.int)) ht
        have X5 := X4.fin (o := .tup [.str (kindStr c), .ref t]) hu
        have ntp : t ≠ p := fun z => by rw [z, ep3] at ht; cases ht
        have ep4 : upd H3 t (.tup ((powRow len i).map V.int)) p = some (.lst ys) := by rw [upd_ne (Ne.symm ntp)]; exact ep3
        have nup : u ≠ p := fun z => by rw [z, ep4] at hu; cases hu
        have gp5 : upd (upd G' t (.tup ((powRow len i).map V.int))) u (.tup [.str (kindStr c), .ref t]) p = none := by rw [upd_ne (Ne.symm nup), upd_ne (Ne.symm ntp)]; exact gp'
        refine ⟨p, ys, _, rfl, rfl, by rw [upd_ne (Ne.symm nup)]; exact ep4, small1000 (by simp at hi; omega), ?_⟩
        refine ⟨_, _, _, _, _, _, ys ++ [.ref u], rfl, X5.wr (.inl hp) gp5, upd_same, gp5, by rw [List.length_append, hly]; rfl, ?_⟩
        unfold powsD
        rw [range_snoc, List.map_append]
        have s1 := same_upd (o := .tup ((powRow len i).map V.int)) (X3.gh.free ht)
        have s2 := same_upd (o := .tup [.str (kindStr c), .ref t]) (X4.gh.free hu)
        exact dpAll_app (dpAll_mono (s1.trans s2) hy) (dpAll_one (dp_of_tup upd_same (.cons (.str _) (.cons (dp_mono s2 (dp_of_tup upd_same (dpAll_of_ints _))) .nil))))
    · obtain ⟨y4, y5, y6, y7, y8, G', ys, rfl, X5, ep, gp', hly, hy⟩ := hP
      rw [Int.toNat_natCast] at hy
      have sP : Shown (.tuple (powsD (kindStr c) len many)) := (pows_sh hl (by omega)).shown (by decide) (by decide)
      refine ⟨_, rfl, _, rfl, _, rfl, G', kindStr c, len, many, by rw [← e1]; rfl, X5.gh, by omega, by omega, fun G6 H6 a X6 d6 => ?_⟩
      refine ⟨.ref a, _, rfl, dp_mono X6.gh d6, sP, .inr ⟨a, rfl⟩, .ref p, rfl, p, ys, rfl, .inl ⟨.inl (.inl (X6.sm _ _ ep)), fun t ht => ?_⟩⟩
      have X56 := X5.trans X6
      have X7 := X56.al (o := .tup ys) ht
      refine ⟨.ref t, _, rfl, dp_of_tup upd_same (dpAll_mono (X6.gg.trans X7.gh) hy), sP, .inr ⟨t, rfl⟩, rfl, ?_⟩
      rw [decide_eq_true rfl]
      subst hG
      exact q _ _ (X.trans X7.up) (hk.ext X7)
end
end K36
end

section
set_option pp.maxSteps 400
set_option pp.deepTerms false
set_option Elab.async false
set_option linter.all false
set_option maxRecDepth 100000
set_option maxHeartbeats 4000000
/-! K36, the plain law: sums of ratios, span rows against tables. -/
namespace K36
open PySem PySem.Spec PyProof.Rows L2

/-! ### lowest terms are one -/
theorem cop_dvd {a b d : Int} (h : Int.gcd a b = 1) (q : b ∣ a * d) : b ∣ d := by
  have h1 : Nat.Coprime b.natAbs a.natAbs := by
    show Nat.gcd b.natAbs a.natAbs = 1
    rw [Nat.gcd_comm]
    exact h
  have h2 := Int.natAbs_dvd_natAbs.mpr q
  rw [Int.natAbs_mul] at h2
  exact Int.natAbs_dvd_natAbs.mp (h1.dvd_of_dvd_mul_left h2)
theorem norm_uniq {a b c d : Int} (hb : 0 < b) (hd : 0 < d) (h1 : Int.gcd a b = 1) (h2 : Int.gcd c d = 1) (h : a * d = c * b) : a = c ∧ b = d := by
  have e1 : b ∣ d := cop_dvd h1 ⟨c, by rw [h, Int.mul_comm]⟩
  have e2 : d ∣ b := cop_dvd h2 ⟨a, by rw [← h, Int.mul_comm]⟩
  have e : b = d := Int.dvd_antisymm (by omega) (by omega) e1 e2
  subst e
  exact ⟨Int.eq_of_mul_eq_mul_right (by omega) h, rfl⟩
theorem norm_eq {t b t' b' : Int} (hb : 0 < b) (hb' : 0 < b') (h : t * b' = t' * b) : norm t b = norm t' b' := by
  have m1 := norm_mul t b
  have m2 := norm_mul t' b'
  have g1 := gcd_pos (t := t) hb
  have g2 := gcd_pos (t := t') hb'
  obtain ⟨p, q⟩ := norm_uniq (norm_pos hb) (norm_pos hb') (norm_cop hb) (norm_cop hb') (by
    -- n1 * d2 * (g1 * g2) = n2 * d1 * (g1 * g2)
    have hne : ((Int.gcd t b : Int) * (Int.gcd t' b' : Int)) ≠ 0 := Int.mul_ne_zero (by omega) (by omega)
    apply Int.eq_of_mul_eq_mul_right hne
    calc (norm t b).1 * (norm t' b').2 * ((Int.gcd t b : Int) * (Int.gcd t' b' : Int))
        = ((norm t b).1 * (Int.gcd t b : Int)) * ((norm t' b').2 * (Int.gcd t' b' : Int)) := by
          simp only [Int.mul_assoc, Int.mul_comm, Int.mul_left_comm]
      _ = t * b' := by rw [m1.1, m2.2]
      _ = t' * b := h
      _ = ((norm t' b').1 * (Int.gcd t' b' : Int)) * ((norm t b).2 * (Int.gcd t b : Int)) := by rw [m2.1, m1.2]
      _ = (norm t' b').1 * (norm t b).2 * ((Int.gcd t b : Int) * (Int.gcd t' b' : Int)) := by
          simp only [Int.mul_assoc, Int.mul_comm, Int.mul_left_comm])
  exact Prod.ext p q
theorem norm_self {r : Rt} (h : IsRat r) : norm r.1 r.2 = r := by
  obtain ⟨h1, h2⟩ := h
  unfold norm
  rw [h2]
  simp

/-! ### six times a ratio -/
def six (r : Rt) : Int := r.1 * (6 / r.2)
theorem six_mul {r : Rt} (h : D6 r.2) : six r * r.2 = r.1 * 6 := by
  unfold six
  rw [Int.mul_assoc, Int.ediv_mul_cancel h.dvd]
theorem six_norm (n : Int) : six (norm n 6) = n := by
  have m := norm_mul n 6
  have d : D6 (norm n 6).2 := norm_D6 (.inr (.inr (.inr rfl)))
  have s := six_mul d
  have p := d.pos
  have g := gcd_pos (t := n) (b := 6) (by decide)
  -- six r * d = r.1 * 6 = r.1 * (d * g)
  have e : six (norm n 6) * (norm n 6).2 = n * (norm n 6).2 := by
    rw [s]
    calc (norm n 6).1 * 6 = (norm n 6).1 * ((norm n 6).2 * (Int.gcd n 6 : Int)) := by rw [m.2]
      _ = ((norm n 6).1 * (Int.gcd n 6 : Int)) * (norm n 6).2 := by simp only [Int.mul_assoc, Int.mul_comm, Int.mul_left_comm]
      _ = n * (norm n 6).2 := by rw [m.1]
  exact Int.eq_of_mul_eq_mul_right (by omega) e
theorem sumN_six : ∀ (ps : List Rt), (∀ p ∈ ps, D6 p.2) → ∀ (s : Rt) (n : Int), 0 < s.2 → s.1 * 6 = n * s.2 →
    0 < (ps.foldl (fun s p => (s.1 * p.2 + p.1 * s.2, s.2 * p.2)) s).2 ∧ (ps.foldl (fun s p => (s.1 * p.2 + p.1 * s.2, s.2 * p.2)) s).1 * 6 = (n + (ps.map six).sum) * (ps.foldl (fun s p => (s.1 * p.2 + p.1 * s.2, s.2 * p.2)) s).2
  | [], _, s, n, h0, h => ⟨h0, by simpa using h⟩
  | p :: ps, hp, s, n, h0, h => by
    have hd := hp p List.mem_cons_self
    have hpos := hd.pos
    have h6 := six_mul hd
    have step := sumN_six ps (fun q hq => hp q (List.mem_cons_of_mem _ hq)) (s.1 * p.2 + p.1 * s.2, s.2 * p.2) (n + six p) (Int.mul_pos h0 hpos.1) (by
      show (s.1 * p.2 + p.1 * s.2) * 6 = (n + six p) * (s.2 * p.2)
      calc (s.1 * p.2 + p.1 * s.2) * 6 = (s.1 * 6) * p.2 + (p.1 * 6) * s.2 := by
            rw [Int.add_mul]; simp only [Int.mul_assoc, Int.mul_comm, Int.mul_left_comm]
        _ = (n * s.2) * p.2 + (six p * p.2) * s.2 := by rw [h, h6]
        _ = (n + six p) * (s.2 * p.2) := by rw [Int.add_mul]; simp only [Int.mul_assoc, Int.mul_comm, Int.mul_left_comm])
    rw [List.foldl_cons, List.map_cons, List.sum_cons, ← Int.add_assoc]
    exact step
theorem lsum_six {ps : List Rt} (h : ∀ p ∈ ps, D6 p.2) : lsum ps = norm (ps.map six).sum 6 := by
  obtain ⟨h1, h2⟩ := sumN_six ps h (0, 1) 0 (by decide) (by simp)
  rw [Int.zero_add] at h2
  exact norm_eq h1 (by decide) h2
theorem lsum2 {a b : Rt} (ha : D6 a.2) (hb : D6 b.2) : lsum [a, b] = norm (six a + six b) 6 := by
  rw [lsum_six (fun p hp => by
    rcases List.mem_cons.mp hp with e | hp
    · rw [e]; exact ha
    · rw [List.mem_singleton.mp hp]; exact hb)]
  simp

/-! ### a row against numbers -/
/-- the product of a row with six times the numbers -/
def dot (row vs : List Int) : Int := (List.zipWith (· * ·) row vs).sum
def sixes (rs : List Rt) : List Int := rs.map six
theorem lans_six {rs : List Rt} {row : List Int} (h : ∀ r ∈ rs, D6 r.2) : lansN rs row = norm (dot row (sixes rs)) 6 := by
  unfold lansN
  rw [lsum_six]
  · congr 1
    unfold dot sixes pairN
    congr 1
    rw [List.map_zipWith, List.zipWith_map_right]
    congr 1
    funext o r
    show o * r.1 * (6 / r.2) = o * (r.1 * (6 / r.2))
    rw [Int.mul_assoc]
  · intro p hp
    unfold pairN at hp
    obtain ⟨i, hi, rfl⟩ := List.getElem_of_mem hp
    rw [List.length_zipWith] at hi
    rw [List.getElem_zipWith]
    show D6 (rs[i]'(by omega)).2
    exact h _ (List.getElem_mem _)
theorem dot_scale (k : Int) : ∀ (row vs : List Int), dot row (vs.map fun v => k * v) = k * dot row vs
  | [], vs => by simp [dot]
  | _ :: _, [] => by simp [dot]
  | x :: row, v :: vs => by
    have ih := dot_scale k row vs
    unfold dot at ih ⊢
    simp only [List.map_cons, List.zipWith_cons_cons, List.sum_cons, ih]
    rw [Int.mul_add]
    congr 1
    simp only [Int.mul_assoc, Int.mul_comm, Int.mul_left_comm]
theorem ans_six {rs : List Rt} {row : List Int} (h : ∀ r ∈ rs, D6 r.2) : ansN rs row = norm (dot row (sixes rs)) 6 := by
  have b := bottomN_D6 rs 1 (.inl rfl) h
  have hL : D6 (bottomN rs) := b.1
  have hp := hL.pos
  have hdv : ∀ r ∈ rs, r.2 ∣ bottomN rs := b.2.2
  unfold ansN
  refine norm_eq hp.1 (by decide) ?_
  show dot row (topsN rs) * 6 = dot row (sixes rs) * bottomN rs
  rw [Int.mul_comm, Int.mul_comm _ (bottomN rs), ← dot_scale, ← dot_scale]
  congr 1
  unfold topsN sixes
  rw [List.map_map, List.map_map]
  apply List.map_congr_left
  intro r hr
  have d := hdv r hr
  have p := (h r hr).pos
  have s := six_mul (h r hr)
  show 6 * (r.1 * (bottomN rs / r.2)) = bottomN rs * six r
  have e : (bottomN rs / r.2) * r.2 = bottomN rs := Int.ediv_mul_cancel d
  apply Int.eq_of_mul_eq_mul_right (show r.2 ≠ 0 by omega)
  calc 6 * (r.1 * (bottomN rs / r.2)) * r.2 = 6 * r.1 * ((bottomN rs / r.2) * r.2) := by simp only [Int.mul_assoc]
    _ = 6 * r.1 * bottomN rs := by rw [e]
    _ = bottomN rs * (r.1 * 6) := by simp only [Int.mul_assoc, Int.mul_comm, Int.mul_left_comm]
    _ = bottomN rs * six r * r.2 := by rw [← s, Int.mul_assoc]
theorem ans_is_lans {rs : List Rt} {row : List Int} (h : ∀ r ∈ rs, D6 r.2) : ansN rs row = lansN rs row := by rw [ans_six h, lans_six h]
theorem dot_add : ∀ (row vs us : List Int), vs.length = us.length → dot row (List.zipWith (· + ·) vs us) = dot row vs + dot row us
  | [], vs, us, _ => by simp [dot]
  | x :: row, [], [], _ => by simp [dot]
  | x :: row, v :: vs, u :: us, h => by
    have ih := dot_add row vs us (by simpa using h)
    unfold dot at ih ⊢
    simp only [List.zipWith_cons_cons, List.sum_cons, ih]
    rw [Int.mul_add]
    omega
/-- the sums of two fillings -/
def addR (a b : List Rt) : List Rt := List.zipWith (fun x y => lsum [x, y]) a b
theorem sixes_add : ∀ (a b : List Rt), (∀ r ∈ a, D6 r.2) → (∀ r ∈ b, D6 r.2) → sixes (addR a b) = List.zipWith (· + ·) (sixes a) (sixes b)
  | [], b, _, _ => by simp [sixes, addR]
  | x :: a, [], _, _ => by simp [sixes, addR]
  | x :: a, y :: b, ha, hb => by
    have ih := sixes_add a b (fun r hr => ha r (List.mem_cons_of_mem _ hr)) fun r hr => hb r (List.mem_cons_of_mem _ hr)
    unfold sixes addR at ih ⊢
    rw [List.zipWith_cons_cons, List.map_cons, ih, lsum2 (ha x List.mem_cons_self) (hb y List.mem_cons_self), six_norm]
    rfl
theorem addR_D6 {a b : List Rt} (ha : ∀ r ∈ a, D6 r.2) (hb : ∀ r ∈ b, D6 r.2) : (∀ r ∈ addR a b, IsRat r ∧ D6 r.2) ∧ sixes (addR a b) = List.zipWith (· + ·) (sixes a) (sixes b) := by
  refine ⟨fun r hr => ?_, ?_⟩
  · unfold addR at hr
    obtain ⟨i, hi, rfl⟩ := List.getElem_of_mem hr
    rw [List.length_zipWith] at hi
    rw [List.getElem_zipWith, lsum2 (ha _ (List.getElem_mem (by omega))) (hb _ (List.getElem_mem (by omega)))]
    exact ⟨norm_isRat (by decide), norm_D6 (.inr (.inr (.inr rfl)))⟩
  · exact sixes_add a b ha hb
theorem ans_add {a b : List Rt} {row : List Int} (ha : ∀ r ∈ a, D6 r.2) (hb : ∀ r ∈ b, D6 r.2) (hl : a.length = b.length) : ansN (addR a b) row = lsum [ansN a row, ansN b row] := by
  obtain ⟨h1, h2⟩ := addR_D6 ha hb
  rw [ans_six fun r hr => (h1 r hr).2, ans_six ha, ans_six hb, lsum2 (norm_D6 (.inr (.inr (.inr rfl)))) (norm_D6 (.inr (.inr (.inr rfl)))), six_norm, six_norm, h2, dot_add _ _ _ (by unfold sixes; simp [hl])]
end K36
end

section
set_option pp.maxSteps 400
set_option pp.deepTerms false
set_option Elab.async false
set_option linter.all false
set_option maxRecDepth 100000
set_option maxHeartbeats 4000000
/-! K36, the plain law: products of the table are answers of the span rows. -/
namespace K36
open PySem PySem.Spec PyProof.Rows L2

theorem sum_range_succ (f : Nat → Int) (n : Nat) : ((List.range (n + 1)).map f).sum = ((List.range n).map f).sum + f n := by
  rw [List.range_succ, List.map_append, List.sum_append]
  simp
theorem sum_same (f g : Nat → Int) : ∀ n : Nat, (∀ j, j < n → f j = g j) → ((List.range n).map f).sum = ((List.range n).map g).sum
  | 0, _ => rfl
  | n + 1, h => by rw [sum_range_succ, sum_range_succ, sum_same f g n fun j hj => h j (by omega), h n (by omega)]
theorem sum_upd (f g : Nat → Int) (k : Nat) : ∀ n : Nat, k < n → (∀ j, j < n → j ≠ k → f j = g j) → ((List.range n).map f).sum = ((List.range n).map g).sum + (f k - g k)
  | n + 1, hk, h => by
    rw [sum_range_succ, sum_range_succ]
    by_cases e : k = n
    · subst e
      rw [sum_same f g k fun j hj => h j (by omega) (by omega)]
      omega
    · rw [sum_upd f g k n (by omega) fun j hj ne => h j (by omega) ne, h n (by omega) (fun z => e z.symm)]
      omega
theorem dot_set : ∀ (row vs : List Int) (l : Nat) (h : l < row.length) (h2 : l < vs.length) (n : Int), dot (row.set l (row[l] + n)) vs = dot row vs + n * vs[l]
  | x :: row, v :: vs, 0, _, _, n => by
    unfold dot
    simp only [List.set_cons_zero, List.getElem_cons_zero, List.zipWith_cons_cons, List.sum_cons, Int.add_mul]
    omega
  | x :: row, v :: vs, l + 1, h, h2, n => by
    have ih := dot_set row vs l (by simpa using h) (by simpa using h2) n
    unfold dot at ih ⊢
    simp only [List.set_cons_succ, List.getElem_cons_succ, List.zipWith_cons_cons, List.sum_cons]
    omega
theorem dot_zero : ∀ (n : Nat) (vs : List Int), dot (List.replicate n 0) vs = 0
  | 0, vs => by simp [dot]
  | n + 1, [] => by simp [dot, List.replicate_succ]
  | n + 1, v :: vs => by
    have ih := dot_zero n vs
    unfold dot at ih ⊢
    rw [List.replicate_succ, List.zipWith_cons_cons, List.sum_cons, ih]
    omega
theorem cell_at {α : Type} {t : List (List α)} {c : Nat × Nat} {x d : α} {h w : Nat} (ht : t.length = h) (hr : ∀ r ∈ t, r.length = w) (c1 : c.1 < h) (c2 : c.2 < w) (r k : Nat) :
    ((setCell t c x).getD r []).getD k d = if r = c.1 ∧ k = c.2 then x else (t.getD r []).getD k d := by
  have h1 : c.1 < t.length := by omega
  have hrow : t[c.1].length = w := hr _ (List.getElem_mem h1)
  have e1 : t.getD c.1 [] = t[c.1] := getD_of h1
  by_cases e : r = c.1
  · subst e
    have e2 : (setCell t c x).getD c.1 [] = (t[c.1]).set c.2 x := by
      unfold setCell
      rw [e1, List.getD_eq_getElem?_getD, List.getElem?_set_self h1]
      rfl
    rw [e2, e1]
    by_cases e' : k = c.2
    · subst e'
      rw [if_pos ⟨rfl, rfl⟩, List.getD_eq_getElem?_getD, List.getElem?_set_self (by omega)]
      rfl
    · rw [if_neg fun z => e' z.2, List.getD_eq_getElem?_getD, List.getD_eq_getElem?_getD, List.getElem?_set_ne (Ne.symm e')]
  · rw [if_neg fun z => e z.1]
    have e2 : (setCell t c x).getD r [] = t.getD r [] := by
      unfold setCell
      rw [List.getD_eq_getElem?_getD, List.getElem?_set_ne (Ne.symm e)]
      exact List.getD_eq_getElem?_getD.symm
    rw [e2]
theorem ltC_ne {a b : Nat × Nat} (h : ltC a b) : a ≠ b := fun z => by
  subst z
  rcases h with h | h <;> omega
/-- a cell that is not written yet -/
theorem tabN_zero {M : Mo} (ok : M.Ok) (rs : List Rt) : ∀ (i : Nat), i ≤ M.cells.length → ∀ (r k : Nat), (∀ j (h : j < M.cells.length), j < i → M.cells[j] ≠ (r, k)) → ((tabN M rs i).getD r []).getD k (0, 1) = (0, 1)
  | 0, _, r, k, _ => by
    show ((List.replicate M.h (List.replicate M.w ((0, 1) : Rt))).getD r []).getD k (0, 1) = (0, 1)
    by_cases hr : r < M.h
    · have e : (List.replicate M.h (List.replicate M.w ((0, 1) : Rt))).getD r [] = List.replicate M.w (0, 1) := by
        rw [getD_of (by rw [List.length_replicate]; exact hr), List.getElem_replicate]
      rw [e]
      by_cases hk : k < M.w
      · rw [getD_of (by rw [List.length_replicate]; exact hk), List.getElem_replicate]
      · rw [List.getD_eq_getElem?_getD, List.getElem?_eq_none (by rw [List.length_replicate]; omega)]
        rfl
    · have e : (List.replicate M.h (List.replicate M.w ((0, 1) : Rt))).getD r [] = [] := by
        rw [List.getD_eq_getElem?_getD, List.getElem?_eq_none (by rw [List.length_replicate]; omega)]
        rfl
      rw [e]
      rfl
  | i + 1, hi, r, k, h => by
    have hic : i < M.cells.length := by omega
    have hin := ok.inn _ (List.getElem_mem hic)
    show ((setCell (tabN M rs i) (M.cells.getD i (0, 0)) (rs.getD (M.letters.getD i 0) (0, 1))).getD r []).getD k (0, 1) = (0, 1)
    rw [getD_of hic, cell_at (tabN_len M rs i) (tabN_row M rs i) hin.1 hin.2, if_neg]
    · exact tabN_zero ok rs i (by omega) r k fun j hj hlt => h j hj (by omega)
    · intro z
      exact h i hic (by omega) (Prod.ext z.1.symm z.2.symm)
theorem entry_of (t : List (List Rt)) (c : Bool) (x : Nat × Nat) : entry t c (hereOf c x) (thereOf c x) = (t.getD x.1 []).getD x.2 (0, 1) := by cases c <;> rfl
theorem here_there {c : Bool} {x : Nat × Nat} {l j : Nat} (h1 : hereOf c x = l) (h2 : thereOf c x = j) : (if c = true then (l, j) else (j, l)) = x := by
  subst h1 h2
  cases c <;> rfl
theorem entry_set {M : Mo} {t : List (List Rt)} {x : Rt} {c : Bool} {cl : Nat × Nat} (ht : t.length = M.h) (hr : ∀ r ∈ t, r.length = M.w) (c1 : cl.1 < M.h) (c2 : cl.2 < M.w) (l j : Nat) :
    entry (setCell t cl x) c l j = if hereOf c cl = l ∧ thereOf c cl = j then x else entry t c l j := by
  cases c with
  | true =>
    show ((setCell t cl x).getD l []).getD j (0, 1) = if cl.1 = l ∧ cl.2 = j then x else (t.getD l []).getD j (0, 1)
    rw [cell_at ht hr c1 c2]
    by_cases h : cl.1 = l ∧ cl.2 = j
    · rw [if_pos h, if_pos ⟨h.1.symm, h.2.symm⟩]
    · rw [if_neg h, if_neg fun z => h ⟨z.1.symm, z.2.symm⟩]
  | false =>
    show ((setCell t cl x).getD j []).getD l (0, 1) = if cl.2 = l ∧ cl.1 = j then x else (t.getD j []).getD l (0, 1)
    rw [cell_at ht hr c1 c2]
    by_cases h : cl.2 = l ∧ cl.1 = j
    · rw [if_pos h, if_pos ⟨h.2.symm, h.1.symm⟩]
    · rw [if_neg h, if_neg fun z => h ⟨z.2.symm, z.1.symm⟩]
theorem prod_row {M : Mo} (ok : M.Ok) {rs : List Rt} (hrs : rs.length = M.many) (a : Ask) (ha : a.2.length = sideOf M.h M.w a.1) (line : Nat) : ∀ i, i ≤ M.cells.length →
    ((List.range (sideOf M.h M.w a.1)).map fun j => six (entry (tabN M rs i) a.1 line j) * a.2.getD j 0).sum = dot (rowN M a line i) (sixes rs)
  | 0, _ => by
    have z : ∀ j, entry (tabN M rs 0) a.1 line j = (0, 1) := fun j => by
      unfold entry
      split
      · exact tabN_zero ok rs 0 (by omega) line j fun _ _ h => absurd h (by omega)
      · exact tabN_zero ok rs 0 (by omega) j line fun _ _ h => absurd h (by omega)
    rw [show rowN M a line 0 = List.replicate M.many 0 from rfl, dot_zero, sum_same _ (fun _ => 0) _ fun j _ => by rw [z j]; simp [six]]
    generalize sideOf M.h M.w a.1 = n
    induction n with
    | zero => rfl
    | succ n ih => rw [sum_range_succ, ih]; rfl
  | i + 1, hi => by
    have ih := prod_row ok hrs a ha line i (by omega)
    have hic : i < M.cells.length := by omega
    have hil : i < M.letters.length := by rw [ok.len]; exact hic
    have hin := ok.inn _ (List.getElem_mem hic)
    have hlm := mem_lt_many hil
    have hlr : M.letters[i] < rs.length := by omega
    have hthere : thereOf a.1 M.cells[i] < a.2.length := by
      rw [ha]
      cases a.1 with
      | true => exact hin.2
      | false => exact hin.1
    have eT : tabN M rs (i + 1) = setCell (tabN M rs i) M.cells[i] rs[M.letters[i]] := by
      show setCell (tabN M rs i) (M.cells.getD i (0, 0)) (rs.getD (M.letters.getD i 0) (0, 1)) = _
      rw [getD_of hic, getD_of hil, getD_of hlr]
    have eE : ∀ j, entry (tabN M rs (i + 1)) a.1 line j = if hereOf a.1 M.cells[i] = line ∧ thereOf a.1 M.cells[i] = j then rs[M.letters[i]] else entry (tabN M rs i) a.1 line j := fun j => by
      rw [eT]
      exact entry_set (tabN_len M rs i) (tabN_row M rs i) hin.1 hin.2 line j
    have eR : rowN M a line (i + 1) = if hereOf a.1 M.cells[i] = line then (rowN M a line i).set M.letters[i] ((rowN M a line i)[M.letters[i]]'(by rw [rowN_len]; exact hlm) + a.2[thereOf a.1 M.cells[i]]) else rowN M a line i := by
      show (if hereOf a.1 (M.cells.getD i (0, 0)) = line then _ else _) = _
      rw [getD_of hic, getD_of hil, getD_of (show M.letters[i] < (rowN M a line i).length by rw [rowN_len]; exact hlm), getD_of hthere]
    by_cases hh : hereOf a.1 M.cells[i] = line
    · rw [eR, if_pos hh, dot_set _ _ _ (by rw [rowN_len]; exact hlm) (by unfold sixes; rw [List.length_map]; exact hlr), ← ih]
      have hside : thereOf a.1 M.cells[i] < sideOf M.h M.w a.1 := by rw [← ha]; exact hthere
      rw [sum_upd _ (fun j => six (entry (tabN M rs i) a.1 line j) * a.2.getD j 0) (thereOf a.1 M.cells[i]) _ hside fun j _ ne => by
        show six (entry (tabN M rs (i + 1)) a.1 line j) * _ = _
        rw [eE, if_neg fun z => ne z.2.symm]]
      congr 1
      show six (entry (tabN M rs (i + 1)) a.1 line (thereOf a.1 M.cells[i])) * a.2.getD _ 0 - six (entry (tabN M rs i) a.1 line (thereOf a.1 M.cells[i])) * a.2.getD _ 0 = _
      have e0 : entry (tabN M rs i) a.1 line (thereOf a.1 M.cells[i]) = (0, 1) := by
        rw [← hh, entry_of]
        refine tabN_zero ok rs i (by omega) _ _ fun j hj hlt => ?_
        exact ltC_ne (List.pairwise_iff_getElem.mp ok.asc j i hj hic hlt)
      rw [eE, if_pos ⟨hh, rfl⟩, e0, getD_of hthere]
      have es : (sixes rs)[M.letters[i]]'(by unfold sixes; rw [List.length_map]; exact hlr) = six rs[M.letters[i]] := by unfold sixes; rw [List.getElem_map]
      rw [es]
      have z0 : six ((0, 1) : Rt) = 0 := by decide
      rw [z0, Int.zero_mul, Int.sub_zero, Int.mul_comm]
    · rw [eR, if_neg hh, ← ih]
      exact sum_same _ _ _ fun j _ => by rw [eE, if_neg fun z => hh z.1]
/-- entries of the table -/
theorem tabOf_D6 {M : Mo} {rs : List Rt} {p : Rt → Prop} (h0 : p (0, 1)) (h : ∀ r ∈ rs, p r) : ∀ i, ∀ row ∈ tabN M rs i, ∀ x ∈ row, p x
  | 0, row, hr, x, hx => by
    have hr : row = List.replicate M.w (0, 1) := (List.mem_replicate.mp hr).2
    subst hr
    rw [(List.mem_replicate.mp hx).2]
    exact h0
  | i + 1, row, hr, x, hx => by
    have ih := tabOf_D6 (M := M) h0 h i
    have hr' : row ∈ (tabN M rs i).set (M.cells.getD i (0, 0)).1 (((tabN M rs i).getD (M.cells.getD i (0, 0)).1 []).set (M.cells.getD i (0, 0)).2 (rs.getD (M.letters.getD i 0) (0, 1))) := hr
    rcases List.mem_or_eq_of_mem_set hr' with q | q
    · exact ih row q x hx
    · subst q
      rcases List.mem_or_eq_of_mem_set hx with q | q
      · rw [List.getD_eq_getElem?_getD] at q
        cases e : (tabN M rs i)[(M.cells.getD i (0, 0)).1]? with
        | none => rw [e] at q; cases q
        | some r' =>
          rw [e] at q
          exact ih r' (List.mem_of_getElem? e) x q
      · rw [q, List.getD_eq_getElem?_getD]
        cases e : rs[M.letters.getD i 0]? with
        | none => exact h0
        | some y => exact h y (List.mem_of_getElem? e)
theorem entry_p {t : List (List Rt)} {p : Rt → Prop} (h0 : p (0, 1)) (h : ∀ row ∈ t, ∀ x ∈ row, p x) (c : Bool) (l j : Nat) : p (entry t c l j) := by
  have g : ∀ a b, p ((t.getD a []).getD b (0, 1)) := fun a b => by
    rw [List.getD_eq_getElem?_getD]
    cases e : (t.getD a [])[b]? with
    | none => exact h0
    | some y =>
      rw [List.getD_eq_getElem?_getD] at e
      cases e2 : t[a]? with
      | none => rw [e2] at e; cases e
      | some r => rw [e2] at e; exact h r (List.mem_of_getElem? e2) y (List.mem_of_getElem? e)
  unfold entry
  split
  · exact g l j
  · exact g j l
theorem prod_ans {M : Mo} (ok : M.Ok) {rs : List Rt} (hrs : rs.length = M.many) (h6 : ∀ r ∈ rs, D6 r.2) {a : Ask} (ha : a.2.length = sideOf M.h M.w a.1) (line : Nat) :
    lsum (prodPairs (tabOf M rs) a.1 a.2 line (sideOf M.h M.w a.1)) = ansN rs (rowN M a line M.cells.length) := by
  have hp : ∀ p ∈ prodPairs (tabOf M rs) a.1 a.2 line (sideOf M.h M.w a.1), D6 p.2 := fun p hp => by
    obtain ⟨j, _, rfl⟩ := List.mem_map.mp hp
    exact entry_p (p := fun r => D6 r.2) (.inl rfl) (tabOf_D6 (.inl rfl) h6 _) a.1 line j
  rw [lsum_six hp, ans_six h6, ← prod_row ok hrs a ha line _ (Nat.le_refl _)]
  congr 2
  unfold prodPairs
  rw [List.map_map]
  apply List.map_congr_left
  intro j _
  show (entry (tabOf M rs) a.1 line j).1 * a.2.getD j 0 * (6 / (entry (tabOf M rs) a.1 line j).2) = (entry (tabOf M rs) a.1 line j).1 * (6 / (entry (tabOf M rs) a.1 line j).2) * a.2.getD j 0
  simp only [Int.mul_assoc, Int.mul_comm, Int.mul_left_comm]
/-- what the law asks of one filling -/
theorem products_are {M : Mo} (ok : M.Ok) {rs : List Rt} (hrs : rs.length = M.many) (h6 : ∀ r ∈ rs, D6 r.2) : ∀ {asks : List Ask}, (∀ a ∈ asks, a.2.length = sideOf M.h M.w a.1) → productsN (tabOf M rs) M asks = answersN M asks rs
  | [], _ => rfl
  | a :: as, h => by
    have ih := products_are ok hrs h6 (asks := as) fun b hb => h b (List.mem_cons_of_mem _ hb)
    have e1 : productsN (tabOf M rs) M (a :: as) = prodsN (tabOf M rs) M a (linesOf M a.1) ++ productsN (tabOf M rs) M as := rfl
    have e2 : answersN M (a :: as) rs = (spanAsk M a).map (ansN rs) ++ answersN M as rs := by
      unfold answersN
      rw [show spanRows M (a :: as) = spanAsk M a ++ spanRows M as from rfl, List.map_append]
    rw [e1, e2, ih]
    congr 1
    rw [← rowsN_span]
    unfold prodsN rowsN
    rw [List.map_map]
    apply List.map_congr_left
    intro l _
    exact prod_ans ok hrs h6 (h a List.mem_cons_self) l
theorem lanswers_are {M : Mo} {asks : List Ask} {rs : List Rt} (h6 : ∀ r ∈ rs, D6 r.2) : (spanRows M asks).map (lansN rs) = answersN M asks rs := by
  unfold answersN
  apply List.map_congr_left
  intro row _
  exact (ans_is_lans h6).symm
theorem many_is (M : Mo) : ∀ asks : List Ask, (spanRows M asks).length = manyOf M asks
  | [] => rfl
  | a :: as => by
    have ih := many_is M as
    rw [show spanRows M (a :: as) = spanAsk M a ++ spanRows M as from rfl, List.length_append, ih, show (spanAsk M a).length = linesOf M a.1 from spanN_len M a _]
    rfl
end K36
end

section
set_option pp.maxSteps 400
set_option pp.deepTerms false
set_option Elab.async false
set_option linter.all false
set_option maxRecDepth 100000
set_option maxHeartbeats 4000000
/-! K36, loosened books; texts of what the law shows. -/
namespace K36
open PySem PySem.Spec PyProof.Rows L2

theorem sh_seq {n k m : Nat} {d : PyData} {l : List PyData} (e : seqOf d = some l) (h : ∀ x ∈ l, Sh n k x) (hm : l.length ≤ m) : Sh (m * (n + 2) + 3) (k + 1) d := by
  cases d with
  | list ds =>
    obtain rfl : ds = l := Option.some.inj e
    exact sh_list h hm
  | tuple ds =>
    obtain rfl : ds = l := Option.some.inj e
    exact sh_tup h hm
  | _ => cases e
theorem kindB_kind (c : Bool) : kindB (.str (kindStr c)) = some c := by cases c <;> decide +kernel
theorem okNum_of {n : Int} (h : -10 ^ 9 ≤ n ∧ n ≤ 10 ^ 9) : okNum (.int n) = true := by
  show (decide ((-10 ^ 9 : Int) ≤ n) && decide (n ≤ 10 ^ 9)) = true
  rw [decide_eq_true h.1, decide_eq_true h.2]
  rfl
/-- an ask in other lists and tuples -/
structure LooseAsk (a : Ask) (b : PyData) : Prop where
  ex : ∃ y, seqOf b = some [.str (kindStr a.1), y] ∧ seqOf y = some (intsD a.2)
theorem lo0 {d d' : PyData} (h : Lo 0 d d') : d' = d := h.2
theorem lo_leaf {n : Nat} {d d' : PyData} (e : seqOf d = none) (h : Lo n d d') : d' = d := by
  cases n with
  | zero => exact h.2
  | succ n =>
    rcases h with h | ⟨l, l', h1, _⟩
    · exact h.2
    · rw [e] at h1; cases h1
theorem lo_ints {ns : List Int} {y : PyData} (h : Lo 1 (.tuple (intsD ns)) y) : seqOf y = some (intsD ns) := by
  rcases h with ⟨h, _⟩ | ⟨l, l', h1, h2, h3, h4⟩
  · cases h
  · have h1 := Option.some.inj (show some (intsD ns) = some l from h1)
    subst h1
    rw [h2]
    congr 1
    apply List.ext_getElem?
    intro i
    by_cases hi : i < l'.length
    · have hi2 : i < (intsD ns).length := by omega
      have e := lo0 (h4 i _ _ (List.getElem?_eq_getElem hi2) (List.getElem?_eq_getElem hi))
      rw [List.getElem?_eq_getElem hi, List.getElem?_eq_getElem hi2, e]
    · rw [List.getElem?_eq_none (by omega), List.getElem?_eq_none (by omega)]
theorem lo_ask {a : Ask} {b : PyData} (h : Lo 2 (askD a) b) : LooseAsk a b := by
  rcases h with ⟨h, _⟩ | ⟨l, l', h1, h2, h3, h4⟩
  · cases h
  · have h1 := Option.some.inj (show some [PyData.str (kindStr a.1), .tuple (intsD a.2)] = some l from h1)
    subst h1
    obtain ⟨x, y, rfl⟩ : ∃ x y, l' = [x, y] := by
      match l', h3 with
      | [x, y], _ => exact ⟨x, y, rfl⟩
    have e := lo_leaf rfl (h4 0 _ _ rfl rfl)
    subst e
    exact ⟨y, h2, lo_ints (h4 1 _ _ rfl rfl)⟩
section
variable {h w : Nat} {a : Ask} {b : PyData}
theorem loose_bad (L : LooseAsk a b) (ok : AskOk h w a) : askBad h w b = none := by
  obtain ⟨y, h1, h2⟩ := L.ex
  unfold askBad
  rw [h1]
  show (match kindB (.str (kindStr a.1)) with | none => some ("kind" : Str) | some c => (match seqOf y with | none => some ("length" : Str) | some l => if l.length = sideOf h w c then (if l.all okNum = true then none else some ("number" : Str)) else some ("length" : Str))) = none
  rw [kindB_kind, h2]
  show (if (intsD a.2).length = sideOf h w a.1 then (if (intsD a.2).all okNum = true then none else some ("number" : Str)) else some ("length" : Str)) = none
  rw [if_pos (by rw [List.length_map]; exact ok.len), if_pos]
  rw [List.all_eq_true]
  intro x hx
  obtain ⟨n, hn, rfl⟩ := List.mem_map.mp hx
  exact okNum_of (ok.nums n hn)
theorem loose_res (L : LooseAsk a b) : askRes b = askD a := by
  obtain ⟨y, h1, h2⟩ := L.ex
  unfold askRes
  rw [h1]
  show PyData.tuple [_, .tuple ((seqOf y).getD [])] = _
  rw [h2]
  rfl
theorem loose_shape (L : LooseAsk a b) : AskShape b := by
  obtain ⟨y, h1, h2⟩ := L.ex
  intro k ns e
  rw [h1] at e
  have e := Option.some.inj e
  cases e
  have q : ∀ c : Bool, SeqAt.shaped (.str (kindStr c)) = true := by decide +kernel
  exact q a.1
theorem loose_sh (L : LooseAsk a b) (h6 : h ≤ 6) (w6 : w ≤ 6) (ok : AskOk h w a) : Sh 24000 2 b := by
  obtain ⟨y, h1, h2⟩ := L.ex
  have l6 : (intsD a.2).length ≤ 6 := by
    rw [List.length_map, ok.len]
    unfold sideOf
    split <;> omega
  refine (sh_seq (n := 11600) (k := 1) (m := 2) h1 (fun x hx => ?_) (Nat.le_refl _)).mono (show 2 * (11600 + 2) + 3 ≤ 24000 by decide) (Nat.le_refl _)
  rcases List.mem_cons.mp hx with e1 | hx
  · rw [e1]
    exact (sh_word (kindStr_word a.1)).mono (by decide) (by decide)
  · rw [List.mem_singleton.mp hx]
    refine (sh_seq (n := 1921) (k := 0) (m := 6) h2 (fun z hz => ?_) l6).mono (show 6 * (1921 + 2) + 3 ≤ 11600 by decide) (Nat.le_refl _)
    obtain ⟨n, hn, rfl⟩ := List.mem_map.mp hz
    have := ok.nums n hn
    exact sh_int (log_small (by omega))
end
theorem loose_self (a : Ask) : LooseAsk a (askD a) := ⟨.tuple (intsD a.2), rfl, rfl⟩
/-- the book that is given -/
structure Given (M : Mo) (asks : List Ask) (d : PyData) : Prop where
  bad : bookBad M.h M.w d = none
  is_ : BookIs M d asks
  shape : BookShape d
  sh : Sh 200000 3 d
theorem given_of {M : Mo} (ok : M.Ok) {asks : List Ask} (h8 : asks.length ≤ 8) (hok : ∀ a ∈ asks, AskOk M.h M.w a) {d : PyData} (h : Lo 3 (.list (asks.map askD)) d) : Given M asks d := by
  rcases h with ⟨h, _⟩ | ⟨l, l', h1, h2, h3, h4⟩
  · cases h
  have h1 := Option.some.inj (show some (asks.map askD) = some l from h1)
  subst h1
  rw [List.length_map] at h3
  have el : ∀ (i : Nat) (hi : i < l'.length), LooseAsk (asks[i]'(by omega)) l'[i] := fun i hi => lo_ask (h4 i _ _ (by rw [List.getElem?_map, List.getElem?_eq_getElem (show i < asks.length by omega)]; rfl) (List.getElem?_eq_getElem hi))
  have mem : ∀ b ∈ l', ∃ a ∈ asks, LooseAsk a b := fun b hb => by
    obtain ⟨i, hi, rfl⟩ := List.getElem_of_mem hb
    exact ⟨_, List.getElem_mem (show i < asks.length by omega), el i hi⟩
  have fb : ∀ (k : List PyData) (n : Nat), (∀ b ∈ k, ∃ a ∈ asks, LooseAsk a b) → firstBad M.h M.w n k = none := fun k => by
    induction k with
    | nil => intro n _; rfl
    | cons b k ih =>
      intro n hk
      obtain ⟨a, ha, L⟩ := hk b List.mem_cons_self
      show (match askBad M.h M.w b with | some x => _ | none => _) = none
      rw [loose_bad L (hok a ha)]
      exact ih (n + 1) fun b' hb' => hk b' (List.mem_cons_of_mem _ hb')
  refine ⟨?_, ⟨?_, fun a ha => (hok a ha).len, h8⟩, fun l2 e b hb => ?_, ?_⟩
  · unfold bookBad
    rw [h2]
    show (if 8 < l'.length then some ((0 : Int), ("many" : Str)) else firstBad M.h M.w 0 l') = none
    rw [if_neg (by omega)]
    exact fb l' 0 mem
  · unfold bookRes
    rw [h2]
    show PyData.tuple (l'.map askRes) = _
    congr 1
    apply List.ext_getElem?
    intro i
    rw [List.getElem?_map, List.getElem?_map]
    by_cases hi : i < l'.length
    · rw [List.getElem?_eq_getElem hi, List.getElem?_eq_getElem (show i < asks.length by omega)]
      exact congrArg some (loose_res (el i hi))
    · rw [List.getElem?_eq_none (by omega), List.getElem?_eq_none (by omega)]
      rfl
  · rw [h2] at e
    have e := Option.some.inj e
    subst e
    obtain ⟨a, ha, L⟩ := mem b hb
    exact loose_shape L
  · refine (sh_seq (n := 24000) (k := 2) (m := 8) h2 (fun b hb => ?_) (by omega)).mono (show 8 * (24000 + 2) + 3 ≤ 200000 by decide) (Nat.le_refl _)
    obtain ⟨a, ha, L⟩ := mem b hb
    exact loose_sh L ok.h6 ok.w6 (hok a ha)
theorem asks_sh {M : Mo} (ok : M.Ok) {asks : List Ask} (h8 : asks.length ≤ 8) (hok : ∀ a ∈ asks, AskOk M.h M.w a) : Sh 200000 3 (.tuple (asks.map askD)) := by
  refine (sh_tup (n := 24000) (k := 2) (m := 8) (fun b hb => ?_) (by rw [List.length_map]; exact h8)).mono (show 8 * (24000 + 2) + 3 ≤ 200000 by decide) (Nat.le_refl _)
  obtain ⟨a, ha, rfl⟩ := List.mem_map.mp hb
  exact loose_sh (loose_self a) ok.h6 ok.w6 (hok a ha)
theorem dep_asks {M : Mo} (ok : M.Ok) {asks : List Ask} (h8 : asks.length ≤ 8) (hok : ∀ a ∈ asks, AskOk M.h M.w a) : Dep 3 (.list (asks.map askD)) := by
  intro l e
  have e := Option.some.inj (show some (asks.map askD) = some l from e)
  subst e
  refine ⟨by rw [List.length_map]; omega, fun x hx => ?_⟩
  obtain ⟨a, ha, rfl⟩ := List.mem_map.mp hx
  intro l e
  have e := Option.some.inj (show some [PyData.str (kindStr a.1), .tuple (intsD a.2)] = some l from e)
  subst e
  refine ⟨by show 2 ≤ 100; decide, fun x hx => ?_⟩
  rcases List.mem_cons.mp hx with e | hx
  · rw [e]
    intro l e
    cases e
  · rw [List.mem_singleton.mp hx]
    intro l e
    have e := Option.some.inj (show some (intsD a.2) = some l from e)
    subst e
    have := (hok a ha).len
    have h6 := ok.h6
    have w6 := ok.w6
    refine ⟨?_, fun x hx => ?_⟩
    · rw [List.length_map, this]
      unfold sideOf
      split <;> omega
    · obtain ⟨n, _, rfl⟩ := List.mem_map.mp hx
      rfl
/-- a filling, checked -/
structure RsOk (M : Mo) (rs : List Rt) : Prop where
  len : rs.length = M.many
  el : ∀ r ∈ rs, IsRat r ∧ D6 r.2 ∧ r.1.natAbs ≤ 10 ^ 14 ∧ (six r).natAbs ≤ 10 ^ 14
theorem RsOk.d6 {M : Mo} {rs : List Rt} (R : RsOk M rs) : ∀ r ∈ rs, D6 r.2 := fun r hr => (R.el r hr).2.1
theorem rsOk_of {M : Mo} {rs : List Rt} (hl : rs.length = M.many) (h : ∀ r ∈ rs, IsRat r ∧ D6 r.2 ∧ r.1.natAbs ≤ 10 ^ 12) : RsOk M rs := by
  refine ⟨hl, fun r hr => ?_⟩
  obtain ⟨h1, h2, h3⟩ := h r hr
  have s := six_mul h2
  have p := h2.pos
  refine ⟨h1, h2, by omega, ?_⟩
  unfold six
  rcases h2 with e | e | e | e <;> rw [e] <;> omega
end K36
end

section
set_option pp.maxSteps 400
set_option pp.deepTerms false
set_option Elab.async false
set_option linter.all false
set_option maxRecDepth 100000
set_option maxHeartbeats 4000000
/-! K36, sizes of what the law shows; further readings of comprehensions. -/
namespace K36
open PySem PySem.Spec PyProof.Rows L2

theorem dot_bound {A C : Nat} : ∀ (row vs : List Int), (∀ x ∈ row, x.natAbs ≤ A) → (∀ v ∈ vs, v.natAbs ≤ C) → (dot row vs).natAbs ≤ row.length * (A * C)
  | [], vs, _, _ => by simp [dot]
  | x :: row, [], _, _ => by simp [dot]
  | x :: row, v :: vs, h1, h2 => by
    have ih := dot_bound row vs (fun y hy => h1 y (List.mem_cons_of_mem _ hy)) fun y hy => h2 y (List.mem_cons_of_mem _ hy)
    have e : dot (x :: row) (v :: vs) = x * v + dot row vs := by unfold dot; rw [List.zipWith_cons_cons, List.sum_cons]
    rw [e, List.length_cons, Nat.succ_mul]
    have m : (x * v).natAbs ≤ A * C := by
      rw [Int.natAbs_mul]
      exact Nat.mul_le_mul (h1 x List.mem_cons_self) (h2 v List.mem_cons_self)
    have t := Int.natAbs_add_le (x * v) (dot row vs)
    omega
structure Rbase (M : Mo) (asks : List Ask) : Prop where
  ok : M.Ok
  few : asks.length ≤ 8
  el : ∀ a ∈ asks, AskOk M.h M.w a
section
variable {M : Mo} {asks : List Ask}
theorem Rbase.row (R : Rbase M asks) {r : List Int} (h : r ∈ spanRows M asks) : r.length = M.many ∧ ∀ x ∈ r, x.natAbs ≤ 36 * 10 ^ 9 := by
  obtain ⟨a, ha, hr⟩ := spanRows_mem h
  refine ⟨spanN_row M a _ r hr, fun x hx => ?_⟩
  have := spanN_bound (R.el a ha).nums _ r hr x hx
  have := R.ok.few
  omega
theorem Rbase.rowsLen (R : Rbase M asks) : (spanRows M asks).length ≤ 48 := by
  have := spanRows_len M R.ok.h6 R.ok.w6 asks
  have := R.few
  omega
theorem Rbase.ans (R : Rbase M asks) {rs : List Rt} (hr : RsOk M rs) {x : Rt} (h : x ∈ answersN M asks rs) : D6 x.2 ∧ x.1.natAbs ≤ 10 ^ 30 := by
  obtain ⟨row, hrow, rfl⟩ := List.mem_map.mp h
  have q := R.row hrow
  rw [ans_six hr.d6]
  refine ⟨norm_D6 (.inr (.inr (.inr rfl))), Nat.le_trans (norm_top (by decide)) ?_⟩
  have b := dot_bound row (sixes rs) q.2 (C := 10 ^ 14) fun v hv => by
    obtain ⟨r, hr', rfl⟩ := List.mem_map.mp hv
    exact (hr.el r hr').2.2.2
  have m := many_le R.ok
  rw [q.1] at b
  have : M.many * (36 * 10 ^ 9 * 10 ^ 14) ≤ 36 * (36 * 10 ^ 9 * 10 ^ 14) := Nat.mul_le_mul_right _ m
  exact Nat.le_trans b (Nat.le_trans this (by decide))
theorem D6.log {d : Int} (h : D6 d) : d.natAbs.log2 < 1920 := log_small (by have := h.pos; omega)
theorem log30 {i : Int} (h : i.natAbs ≤ 10 ^ 30) : i.natAbs.log2 < 1920 := log_of (k := 110) (Nat.lt_of_le_of_lt h (by decide)) (by decide) (by decide)
theorem Rbase.ansSh (R : Rbase M asks) {rs : List Rt} (hr : RsOk M rs) : Shown (.tuple (ratsD (answersN M asks rs))) :=
  (sh_rats (m := 48) (fun x hx => by
    have := R.ans hr hx
    exact ⟨log30 this.2, this.1.log⟩) (by unfold answersN; rw [List.length_map]; exact R.rowsLen)).shown (by decide) (by decide)
theorem Rbase.rowsSh (R : Rbase M asks) : Shown (.tuple ((rowsI (spanRows M asks)).map PyData.tuple)) := by
  refine (sh_tup (n := 70000) (k := 1) (m := 48) (fun d hd => ?_) (by rw [List.length_map, List.length_map]; exact R.rowsLen)).shown (by decide) (by decide)
  obtain ⟨r, hr, rfl⟩ := List.mem_map.mp hd
  obtain ⟨row, hrow, rfl⟩ := List.mem_map.mp hr
  have q := R.row hrow
  have m := many_le R.ok
  exact (sh_ints (m := 36) (fun n hn => log_of (k := 40) (Nat.lt_of_le_of_lt (q.2 n hn) (by decide)) (by decide) (by decide)) (by omega)).mono (by decide) (Nat.le_refl _)
theorem tab_sh (ok : M.Ok) {rs : List Rt} (hr : RsOk M rs) : Shown (.tuple ((rowsD (tabOf M rs)).map PyData.tuple)) := by
  have el := tabOf_D6 (M := M) (rs := rs) (p := fun r => D6 r.2 ∧ r.1.natAbs ≤ 10 ^ 14) ⟨.inl rfl, by decide⟩ (fun r hr' => ⟨(hr.el r hr').2.1, (hr.el r hr').2.2.1⟩) M.cells.length
  refine (sh_tup (n := 25000) (k := 2) (m := 6) (fun d hd => ?_) (by rw [List.length_map, List.length_map]; exact Nat.le_trans (Nat.le_of_eq (tabN_len M rs _)) ok.h6)).shown (by decide) (by decide)
  obtain ⟨r, hr, rfl⟩ := List.mem_map.mp hd
  obtain ⟨row, hrow, rfl⟩ := List.mem_map.mp hr
  refine (sh_rats (m := 6) (fun x hx => ?_) (Nat.le_trans (Nat.le_of_eq (tabN_row M rs _ row hrow)) ok.w6)).mono (by decide) (Nat.le_refl _)
  have := el row hrow x hx
  exact ⟨log30 (Nat.le_trans this.2 (by decide)), this.1.log⟩
theorem tab_ok {rs : List Rt} (hr : RsOk M rs) : TabOk (tabOf M rs) M := by
  have el := tabOf_D6 (M := M) (rs := rs) (p := fun r => D6 r.2 ∧ Sm r.1 100) ⟨.inl rfl, by show (0 : Int).natAbs < 2 ^ 100; decide⟩ (fun r hr' => ⟨(hr.el r hr').2.1, Nat.lt_of_le_of_lt (hr.el r hr').2.2.1 (by decide)⟩) M.cells.length
  exact ⟨tabN_len M rs _, tabN_row M rs _, el⟩
end
theorem rsOk_add {M : Mo} {a b : List Rt} (hla : a.length = M.many) (hlb : b.length = M.many) (ha : ∀ r ∈ a, IsRat r ∧ D6 r.2 ∧ r.1.natAbs ≤ 10 ^ 12) (hb : ∀ r ∈ b, IsRat r ∧ D6 r.2 ∧ r.1.natAbs ≤ 10 ^ 12) : RsOk M (addR a b) := by
  have six_le : ∀ r : Rt, D6 r.2 → r.1.natAbs ≤ 10 ^ 12 → (six r).natAbs ≤ 6 * 10 ^ 12 := fun r h1 h2 => by
    unfold six
    rcases h1 with e | e | e | e <;> rw [e] <;> omega
  refine ⟨by unfold addR; rw [List.length_zipWith]; omega, fun r hr => ?_⟩
  have q := (addR_D6 (fun r hr => (ha r hr).2.1) fun r hr => (hb r hr).2.1).1 r hr
  unfold addR at hr
  obtain ⟨i, hi, rfl⟩ := List.getElem_of_mem hr
  rw [List.length_zipWith] at hi
  rw [List.getElem_zipWith] at q ⊢
  have h1 := ha _ (List.getElem_mem (show i < a.length by omega))
  have h2 := hb _ (List.getElem_mem (show i < b.length by omega))
  have e := lsum2 h1.2.1 h2.2.1
  have s1 := six_le _ h1.2.1 h1.2.2
  have s2 := six_le _ h2.2.1 h2.2.2
  refine ⟨q.1, q.2, ?_, ?_⟩
  · rw [e]
    refine Nat.le_trans (norm_top (by decide)) ?_
    omega
  · rw [e, six_norm]
    omega

/-! ### [tuple(row) for row in rows], the rows finished -/
theorem freezeD {K : PySem.W.Frag} {i j : Nat} {σ : L2.St} {G H : Hp} {rv : V} {t : List (List PyData)} {Q : VK} (hi : σ[i]? = some (some rv)) (h1 : ∀ v, ((wipe σ [j]).set j (some v))[j]? = some (some v))
    (h2 : ∀ v, wipe ((wipe σ [j]).set j (some v)) [j] = wipe σ [j]) (gh : Same G H) (hd : Dp K G rv (.list (t.map PyData.list))) (hz : t.length ≤ 1000)
    (q : ∀ G' H' p ys, Ext M0 G H G' H' → H' p = some (.lst ys) → G' p = none → H p = none → DpAll K G' ys (t.map PyData.tuple) → Q (.ref p) H') :
    tLc (iList K (tVar i)) (gName j) tYes (tCB (rTupOf K) (tCons (tVar j) tNil)) [j] σ H Q := by
  obtain ⟨D, xs, rfl, hs, hx⟩ := dp_list hd
  have lx : xs.length = t.length := by rw [dpAll_len hx, List.length_map]
  refine ⟨.ref D, hi, D, rfl, ⟨_, sql_mono gh hs⟩, fun p hp => ?_⟩
  have gp : G p = none := gh.free hp
  refine lc_it (walk_list (xs := xs)) (fun n H' => ∃ G' ys, Ext M0 G H G' H' ∧ H' p = some (.lst ys) ∧ G' p = none ∧ DpAll K G' ys ((t.take n).map PyData.tuple) ∧ ys.length = n)
    ⟨G, [], (Ext.refl gh).al hp, upd_same, gp, .nil, rfl⟩ (fun n H' _ hP => ?_) (fun n x H' H2 hn hP hY => ?_) fun H' hP => ?_
  · obtain ⟨G', ys, X, _⟩ := hP
    exact sql_mono (X.gg.trans X.gh) hs
  · obtain ⟨G', ys, X, ep, gp', hy, hl⟩ := hP
    obtain ⟨rfl, ex⟩ := hY
    have hnt : n < t.length := by omega
    obtain ⟨d, hdi, hdz⟩ := dpAll_at hx ex
    rw [List.getElem?_map, List.getElem?_eq_getElem hnt] at hdi
    have hdi : PyData.list t[n] = d := Option.some.inj hdi
    subst hdi
    obtain ⟨a, zs, rfl, hza, hzz⟩ := dp_list hdz
    refine ⟨h2 _, ?_⟩
    refine yesT ⟨_, h1 _, a, zs, rfl, .inl ⟨sql_mono (X.gg.trans X.gh) hza, fun l hl2 => ?_⟩⟩
    have X2 := X.fin (o := .tup zs) hl2
    have np : l ≠ p := fun z => by rw [z, ep] at hl2; cases hl2
    have ep2 : upd H2 l (.tup zs) p = some (.lst ys) := by rw [upd_ne (Ne.symm np)]; exact ep
    have gp2 : upd G' l (.tup zs) p = none := by rw [upd_ne (Ne.symm np)]; exact gp'
    have gl := X.gh.free hl2
    refine ⟨ys, ep2, Nat.lt_of_lt_of_le (show ys.length < 1000 by omega) (by decide), ?_⟩
    refine ⟨_, ys ++ [.ref l], X2.wr (.inl hp) gp2, upd_same, gp2, ?_, by rw [List.length_append, hl]; rfl⟩
    rw [List.take_add_one, List.getElem?_eq_getElem hnt, Option.toList_some, List.map_append]
    exact dpAll_app (dpAll_mono (same_upd gl) hy) (dpAll_one (dp_of_tup upd_same (dpAll_mono (X.gg.trans (same_upd gl)) hzz)))
  · obtain ⟨G', ys, X, ep, gp', hy, hl⟩ := hP
    rw [List.take_of_length_le (by omega)] at hy
    exact q G' H' p ys X ep gp' hp hy
/-- all rows of a grid are finished -/
theorem Grid.finish {K : PySem.W.Frag} {M : Addr → Prop} {G0 H0 G H : Hp} {as : List Addr} {t : List (List PyData)} (X : Ext M G0 H0 G H) (g : Grid K H0 G H as t) : ∀ n, n ≤ as.length →
    ∃ G', Ext M G0 H0 G' H ∧ Same G G' ∧ DpAll K G' ((as.take n).map V.ref) ((t.take n).map PyData.list) ∧ ∀ p, G p = none → p ∉ as.take n → G' p = none
  | 0, _ => ⟨G, X, Same.refl _, .nil, fun p h _ => h⟩
  | n + 1, hn => by
    obtain ⟨G', X', sg, hd, hout⟩ := g.finish X n (by omega)
    have hna : n < as.length := by omega
    have hnt : n < t.length := by rw [← g.len]; exact hna
    obtain ⟨xs, e1, e2⟩ := g.at_ n _ _ (List.getElem?_eq_getElem hna) (List.getElem?_eq_getElem hnt)
    have out := g.out _ (List.getElem_mem hna)
    have hnin : as[n] ∉ as.take n := fun z => by
      obtain ⟨i, hi, e⟩ := List.getElem_of_mem z
      rw [List.getElem_take] at e
      rw [List.length_take] at hi
      exact absurd (nd_ix g.nd (List.getElem?_eq_getElem (show i < as.length by omega)) (by rw [e]; exact List.getElem?_eq_getElem hna)) (by omega)
    have gn := hout _ out.1 hnin
    refine ⟨upd G' as[n] (.lst xs), X'.fz out.2 e1 gn, sg.trans (same_upd gn), ?_, fun p h1 h2 => ?_⟩
    · rw [List.take_add_one, List.take_add_one, List.getElem?_eq_getElem hna, List.getElem?_eq_getElem hnt, Option.toList_some, Option.toList_some, List.map_append, List.map_append]
      exact dpAll_app (dpAll_mono (same_upd gn) hd) (dpAll_one (dp_of_lst upd_same (dpAll_mono (sg.trans (same_upd gn)) e2)))
    · rw [List.take_add_one, List.getElem?_eq_getElem hna, Option.toList_some] at h2
      rw [upd_ne fun z => h2 (by rw [z]; exact List.mem_append_right _ (List.mem_singleton.mpr rfl))]
      exact hout p h1 fun z => h2 (List.mem_append_left _ z)
end K36
end

section
set_option pp.maxSteps 400
set_option pp.deepTerms false
set_option Elab.async false
set_option linter.all false
set_option maxRecDepth 100000
set_option maxHeartbeats 4000000
/-! K36, the law: one filling. -/
namespace K36
open PySem PySem.Spec PyProof.Rows L2

structure Mth (P : Program) (w : World) (K : PySem.W.Frag) (mg : Str → Option Value) (base : Heap) (k : Nat) (C : Addr) (m : Str) (sp : Sp) : Prop where
  ex : ∃ (f : Addr) (fd : FuncData) (ps : List Str), Meth K C m f ∧ FnOk P w K mg base CX0 k f fd ps sp ∧ Binds K fd ps []
theorem pe_mth {X : Cx} {pl : Sem Bool} {k j : Nat} {C : Addr} {m : Str} {sp : Sp} {o e : Expr} {es : List Expr} {ta : TE} {t : TA} {apos pos : Pos} (D : Mth X.prog X.w X.K X.mg X.base k C m sp) (c : Cls X.K C) (hr : Room j X.A) (hk : k ≤ j) (he : PE X o ta) (ha : PA X (e :: es) t)
    (hst : starEach (e :: es) X.env = (false, eval e X.env) :: starEach es X.env := by rfl) (hpl : (backTo pos (starEach es X.env)).any (·.1) = false := by rfl)
    (hx : eval (.Call (.Attribute o m apos) (e :: es) [] pos) X.env = (do
      let ov ← eval o X.env
      standAt apos.atName
      let (g, own) ← holding [ov] (getMethod ov m pl)
      callWith pos g own (backTo pos (starEach (e :: es) X.env)) (backToKw pos (keywordEach [] X.env))) := by rfl) :
    PE X (.Call (.Attribute o m apos) (e :: es) [] pos) (tMeth C m sp [] E0 ta t) := by
  obtain ⟨f, fd, ps, hm, F, b⟩ := D.ex
  exact pe_meth (pl := pl) he c hm F (hr.mono hk) b .nil pass0 ha hst hpl hx
theorem Ext.new1 {M : Addr → Prop} {G H G1 H1 G2 H2 : Hp} {x : Addr} (a : Ext M G H G1 H1) (h : H x = none) (b : Ext (M1 x) G1 H1 G2 H2) : Ext M G H G2 H2 where
  gg := a.gg.trans b.gg
  hh := fun c o m q => b.hh c o (fun z => by rw [show c = x from z] at q; rw [h] at q; cases q) (a.hh c o m q)
  th := fun c o q => by
    obtain ⟨o', q'⟩ := a.th c o q
    exact b.th c o' q'
  gh := b.gh
  nw := fun c o q => by
    rcases b.nw c o q with q | q
    · exact a.nw c o q
    · exact .inr (a.free q)
/-- .. of them a new tuple, told to R -/
theorem freezeR {K : PySem.W.Frag} {R : List V → Hp → VK → Prop} {i j : Nat} {σ : L2.St} {G H : Hp} {rv : V} {t : List (List PyData)} {Q : VK} (hi : σ[i]? = some (some rv)) (h1 : ∀ v, ((wipe σ [j]).set j (some v))[j]? = some (some v))
    (h2 : ∀ v, wipe ((wipe σ [j]).set j (some v)) [j] = wipe σ [j]) (gh : Same G H) (hd : Dp K G rv (.list (t.map PyData.list))) (hz : t.length ≤ 1000)
    (q : ∀ G' H' p ys, Ext M0 G H G' H' → H' p = none → DpAll K G' ys (t.map PyData.tuple) → R [.ref p] (upd H' p (.tup ys)) Q) :
    tCB R (tCons (tCB (rTupOf K) (tCons (tLc (iList K (tVar i)) (gName j) tYes (tCB (rTupOf K) (tCons (tVar j) tNil)) [j]) tNil)) tNil) σ H Q :=
  freezeD (Q := fun y H1 => rTupOf K [y] H1 fun v H2 => R [v] H2 Q) hi h1 h2 gh hd hz fun G' H' p ys X e _ _ d => ⟨p, ys, rfl, .inl ⟨.inl (.inl e), fun l hl => q G' H' l ys X hl d⟩⟩
theorem HandOk.gmono {K : PySem.W.Frag} {G G' H : Hp} {h : Addr} (k : HandOk K G H h) (e : Same G G') (g : G' h = none) : HandOk K G' H h := by
  obtain ⟨c, cs, i, rest, tot, h1, h2, h3⟩ := k
  exact ⟨c, cs, i, rest, tot, g, h2, sql_mono e h3⟩
/-- what stands once the book is drawn -/
structure LawEnv (K : PySem.W.Frag) (C : Addr) (G : Hp) (M : Mo) (asks : List Ask) (d : PyData) (mv cv lv bv gv rv : V) : Prop where
  base : Rbase M asks
  giv : Given M asks d
  mould : MouldAt K C G mv M
  cells : Dp K G cv (.list (cellsD M.cells))
  letters : Dp K G lv (.list (natsD M.letters))
  book : Dp K G bv (.list (asks.map askD))
  given : Dp K G gv d
  rows : Dp K G rv (.list (rowsL (spanRows M asks)))
theorem LawEnv.mono {K : PySem.W.Frag} {C : Addr} {G G' : Hp} {M : Mo} {asks : List Ask} {d : PyData} {mv cv lv bv gv rv : V} (e : Same G G') (L : LawEnv K C G M asks d mv cv lv bv gv rv) : LawEnv K C G' M asks d mv cv lv bv gv rv :=
  ⟨L.base, L.giv, L.mould.mono e, dp_mono e L.cells, dp_mono e L.letters, dp_mono e L.book, dp_mono e L.given, dp_mono e L.rows⟩
/-- the slots of the law -/
abbrev lawS (sc h ht wd cv lv mv bv gv kv rv ov tv uv av nv tb at_ ln sm td rw_ nh : Option V) : L2.St := [sc, h, ht, wd, cv, lv, mv, bv, gv, kv, rv, ov, tv, uv, av, nv, tb, at_, ln, sm, td, rw_, nh]
/-- one filling: all that is asked of it holds -/
def TurnT (K : PySem.W.Frag) (C : Addr) : TS := fun D σ H' => ∃ (G : Hp) (M : Mo) (asks : List Ask) (d : PyData) (rs : List Rt) (ys : List V) (h A : Addr) (mv cv lv bv gv rv nv : V) (sc kv ov tv uv y16 y17 y18 y19 y20 : Option V),
  σ = lawS sc (some (.ref h)) (some (.int (M.h : Nat))) (some (.int (M.w : Nat))) (some cv) (some lv) (some mv) (some bv) (some gv) kv (some rv) ov tv uv (some (.ref A)) (some nv) y16 y17 y18 y19 y20 none none ∧
  Same G H' ∧ HandOk K G H' h ∧ LawEnv K C G M asks d mv cv lv bv gv rv ∧ RsOk M rs ∧ Dp K G nv (.list (ratsD rs)) ∧ H' A = some (.lst ys) ∧ ys.length ≤ 100 ∧ A ≠ h ∧
  ∀ (G2 H2 : Hp) (ta : Addr) (y16 y17 y18 y19 y20 : Option V), Ext (M1 h) G H' G2 H2 → HandOk K G2 H2 h → Dp K G2 (.ref ta) (.tuple (ratsD (answersN M asks rs))) →
    D.nx (lawS sc (some (.ref h)) (some (.int (M.h : Nat))) (some (.int (M.w : Nat))) (some cv) (some lv) (some mv) (some bv) (some gv) kv (some rv) ov tv uv (some (.ref A)) (some nv) y16 y17 y18 y19 y20 none none) (upd H2 A (.lst (ys ++ [.ref ta])))
abbrev s_law : Stmt := topS 67
abbrev N_law : List Str := ["_law_script", "_law_hand_here", "_law_height", "_law_width", "_law_cells_here", "_law_letters_here", "_law_mould", "_law_book_here", "_law_given", "_law_kept", "_law_rows", "_law_one", "_law_other", "_law_both", "_law_answers_here", "_law_numbers", "_law_table", "_law_at", "_law_line", "_law_some", "_law_told", "_law_row", "_law_number_here"]
theorem sc_law : FnScope ["_law_script", "_law_hand_here", "_law_height", "_law_width", "_law_cells_here", "_law_letters_here", "_law_mould", "_law_book_here", "_law_given", "_law_kept", "_law_rows", "_law_one", "_law_other", "_law_both", "_law_answers_here", "_law_numbers", "_law_table", "_law_at", "_law_line", "_law_some", "_law_told", "_law_row", "_law_number_here"] ["_law_script"] (defScope s_law) := ⟨rfl, rfl, rfl, by decide +kernel, rfl, by decide +kernel, by decide +kernel⟩
/-- the body of the walk over the fillings -/
def turnB : Stmt → List Stmt
  | .For _ _ b _ _ => b
  | _ => []
abbrev lawFor : Stmt := (defBody s_law).getD 17 (.Pass ⟨0, 0, 0, 0⟩)
abbrev teSome (K : PySem.W.Frag) : TE := tIf (tAnd (tTest (tOp rEq (tOp (rIxT K) (tVar 22) (tC (.int 1))) (tC (.int 1)))) (fun σ H Q => tCall (spTake K) [] E0 (tCons (tVar 1) (tCons (tC (.int 2)) tNil)) σ H fun x H' => ∃ k, TruV K x H' k ∧ Q k H')) (tOp (rIxT K) (tVar 22) (tC (.int 0))) (tVar 22)
section
variable {P : Program} {w : World} {K : PySem.W.Frag} {mg : Str → Option Value} {base : Heap}
theorem turn_pss {C CB : Addr} {f : Addr} {cdv : Value} {A : Around} {outer : List Env} {s : Shared} {H : Hp} {E : XK} {k : Nat} (hgd : A.guards = some []) (hr : Room (k + 7) (A.deeper (envOfC "law" (defScope s_law) s.heap.objs.size f cdv))) (B : Bi mg)
    (D_law_take : Dfn P w K mg base CX0 2 "_law_take" ["_law_hand_here", "_law_many_here"] [] (spTake K)) (T : MC K C) (D_filled : Mth P w K mg base 5 C "filled" (spFilled K C))
    (D_book_answers : Dfn P w K mg base (L2.CX P w) 6 "book_answers" ["mould", "book", "numbers"] [] (spAnswers K C CB)) (D_law_products : Dfn P w K mg base CX0 3 "_law_products" ["_law_table", "_law_height", "_law_width", "_law_book_here"] [] (spLProducts K))
    (D_law_answers : Dfn P w K mg base CX0 3 "_law_answers" ["_law_rows", "_law_numbers"] [] (spLAnswers K)) :
    PSs (cxOf CX0 P w K mg base N_law "law" (defScope s_law) f cdv A outer s H E).nox (turnB lawFor) (TurnT K C) := by
  refine pss_imp (pss_cons (ps_setLc (i := 16) (own := [("_law_row", 21)]) (g := gName 21) (tt := tYes) (te := tOp rRep (tLst (tCons (tTup (tCons (tC (.int 0)) (tCons (tC (.int 1)) tNil))) tNil)) (tVar 3)) rfl sc_law.nd rfl rfl (sw_true rfl rfl rfl (by decide +kernel)) (pi_range1 (by rfl) B.range (pa_cons (pv 2) pa_nil)) (blkOk_by (own := [("_law_row", 21)]) (N := N_law) (sc := defScope s_law) (by decide +kernel)) (fun _ _ _ _ _ => (pg_name (i := 21) sc_law.nd rfl (.inl rfl))) (fun _ _ _ _ _ => pts_nil) (fun _ _ _ _ _ => (pe_op op_rep (pe_lst (pa_cons (pe_tup (pa_cons pe_int (pa_cons pe_int pa_nil))) pa_nil)) (pv 3))))
        (pss_cons (ps_for PassesOwn.never rfl (pi_range1 (by rfl) B.range (pa_cons (pe_callB call_len_seq (by rfl) B.len (by decide +kernel) (pa_cons (pv 4) pa_nil)) pa_nil)) (pg_name (i := 17) sc_law.nd rfl (.inl rfl))
          (pss_cons (ps_set (i := 18) sc_law.nd rfl (.inl rfl) (pe_ix ix_list (pv 16) (pe_ix ix_tup (pe_ix ix_list (pv 4) (pv 17) (fun _ _ => rfl)) pe_int (fun _ _ => rfl)) (fun _ _ => rfl)))
          (pss_one (ps_asg (pe_ix ix_list (pv 15) (pe_ix ix_list (pv 5) (pv 17) (fun _ _ => rfl)) (fun _ _ => rfl)) (pg_sub (pv 18) (pe_ix ix_tup (pe_ix ix_list (pv 4) (pv 17) (fun _ _ => rfl)) pe_int (fun _ _ => rfl)) set_list)))))
        (pss_cons (ps_setLc (i := 19) (own := [("_law_number_here", 22)]) (g := gName 22) (tt := tYes) (te := teSome K) rfl sc_law.nd rfl rfl (sw_true rfl rfl rfl (by decide +kernel)) (pi_list (pv 15)) (blkOk_by (own := [("_law_number_here", 22)]) (N := N_law) (sc := defScope s_law) (by decide +kernel)) (fun _ _ _ _ _ => (pg_name (i := 22) sc_law.nd rfl (.inl rfl))) (fun _ _ _ _ _ => pts_nil) (fun _ _ _ _ _ => (pe_ifExp (PW.pt (pw_and (pt_cmpR op_eq (pe_ix ix_tup (pv 22) pe_int (fun _ _ => rfl)) pe_int (nomark _)) (pw_and1 (pt_truth (pe_dfn D_law_take (hr.mono (by omega)) (by rfl) pass0 (pa_cons (pv 1) (pa_cons pe_int pa_nil))) (by intro _; rfl))))) (pe_ix ix_tup (pv 22) pe_int (fun _ _ => rfl)) (pv 22))))
        (pss_cons (ps_if (pt_cmpR op_ne (pe_callB (call_reprD hgd (hr.units)) (by rfl) B.repr (by decide +kernel) (pa_cons (pe_mth D_filled T.cl hr (by omega) (pv 6) (pa_cons (pv 19) pa_nil)) pa_nil)) (pe_callB (call_reprD hgd (hr.units)) (by rfl) B.repr (by decide +kernel) (pa_cons (pe_callTy call_tuple_of (by rfl) B.tuple (by decide +kernel) (pa_cons (pe_lc (own := [("_law_line", 18)]) (g := gName 18) (tt := tYes) (te := tCB (rTupOf K) (tCons (tVar 18) tNil)) rfl sc_law.nd (pi_list (pv 16)) (blkOk_by (own := [("_law_line", 18)]) (N := N_law) (sc := defScope s_law) (by decide +kernel)) (fun _ _ _ _ _ => (pg_name (i := 18) sc_law.nd rfl (.inl rfl))) (fun _ _ _ _ _ => pts_nil) (fun _ _ _ _ _ => (pe_callTy call_tuple_of (by rfl) B.tuple (by decide +kernel) (pa_cons (pv 18) pa_nil)))) pa_nil)) pa_nil)) (nomark _))
          (pss_one (ps_ret pe_bl))
          pss_nil)
        (pss_cons (ps_set (i := 20) sc_law.nd rfl (.inl rfl) (pe_dfn (CX := L2.CX P w) (E := E0) D_book_answers (hr.mono (by omega)) (by rfl) passL (pa_cons (pv 6) (pa_cons (pv 8) (pa_cons (pv 19) pa_nil)))))
        (pss_cons (ps_if (PW.pt (pw_or (pt_cmpR op_ne (pe_callB (call_reprD hgd (hr.units)) (by rfl) B.repr (by decide +kernel) (pa_cons (pv 20) pa_nil)) (pe_callB (call_reprD hgd (hr.units)) (by rfl) B.repr (by decide +kernel) (pa_cons (pe_dfn D_law_products (hr.mono (by omega)) (by rfl) pass0 (pa_cons (pv 16) (pa_cons (pv 2) (pa_cons (pv 3) (pa_cons (pv 7) pa_nil))))) pa_nil)) (nomark _)) (pw_or1 (pt_cmpR op_ne (pe_callB (call_reprD hgd (hr.units)) (by rfl) B.repr (by decide +kernel) (pa_cons (pv 20) pa_nil)) (pe_callB (call_reprD hgd (hr.units)) (by rfl) B.repr (by decide +kernel) (pa_cons (pe_dfn D_law_answers (hr.mono (by omega)) (by rfl) pass0 (pa_cons (pv 10) (pa_cons (pv 15) pa_nil))) pa_nil)) (nomark _)))))
          (pss_one (ps_ret pe_bl))
          pss_nil)
        (pss_one (ps_expr (pe_bm PySem.F.plainAttrs_list PySem.F.slot_list_append PySem.F.type_list_append mt_append (pv 14) (pa_cons (pv 20) pa_nil)))))))))) fun D σ H' hq => ?_
  obtain ⟨G, M, asks, d, rs, ys, h, A, mv, cv, lv, bv, gv, rv, nv, sc, kv, ov, tv, uv, y16, y17, y18, y19, y20, rfl, gh, hk, L, R, hnv, eA, lyA, nA, q⟩ := hq
  have ok := L.base.ok
  have h6 := ok.h6
  have w6 := ok.w6
  have few := ok.few
  have m36 := many_le ok
  have hrl : rs.length ≤ 36 := by rw [R.len]; exact m36
  have X0 : Ext (M1 h) G H' G H' := Ext.refl gh
  -- the table
  refine ⟨_, rfl, _, rfl, by omega, by omega, fun D hD => ?_⟩
  have nDh := hk.ne hD
  refine lc_it walk_range (fun n H2 => ∃ (G' : Hp) (as : List Addr), Ext (M1 h) G H' G' H2 ∧ HandOk K G' H2 h ∧ Grid K H' G' H2 as (List.replicate n (List.replicate M.w (ratD (0, 1)))) ∧ H2 D = some (.lst (as.map V.ref)) ∧ G' D = none ∧ as.length = n ∧ D ∉ as)
    ⟨G, [], X0.al hD, hk.wr nDh, Grid.nil, upd_same, gh.free hD, rfl, fun z => nomatch z⟩ (fun _ _ _ _ => trivial) (fun n x H2 H2' hn hP hY => ?_) (fun H2 hP => ?_)
  · obtain ⟨G', as, X, hk2, g, eD, gD, hl, nDa⟩ := hP
    obtain ⟨eH, rfl⟩ := hY
    subst eH
    have nh : n < M.h := by simpa using hn
    refine ⟨rfl, yesT ⟨by show 2 ≤ sizeLine; decide, fun z hz => ⟨by show 1 ≤ sizeLine; decide, fun p hp => ?_⟩⟩⟩
    have nz := hk2.ne hz
    have gz := X.gh.free hz
    have X3 := X.fin (o := .tup [.int 0, .int 1]) hz
    have hk3 := (hk2.wr (o := .tup [.int 0, .int 1]) nz).fin (o := .tup [.int 0, .int 1]) gz nz
    have nzD : z ≠ D := fun e => by rw [e, eD] at hz; cases hz
    have eD3 : upd H2' z (.tup [.int 0, .int 1]) D = some (.lst (as.map V.ref)) := by rw [upd_ne (Ne.symm nzD)]; exact eD
    have gD3 : upd G' z (.tup [.int 0, .int 1]) D = none := by rw [upd_ne (Ne.symm nzD)]; exact gD
    have g3 : Grid K H' (upd G' z (.tup [.int 0, .int 1])) (upd H2' z (.tup [.int 0, .int 1])) as (List.replicate n (List.replicate M.w (ratD (0, 1)))) :=
      (g.new hz).grow (same_upd gz) (fun _ _ _ e => e) fun a ha => by
        rw [upd_ne fun e => ?_]
        · exact (g.out a ha).1
        · obtain ⟨xs, ex⟩ := g.here ha
          rw [e, hz] at ex
          cases ex
    have X4 := X3.al (o := .lst [.ref z]) hp
    have hk4 := hk3.wr (o := .lst [.ref z]) (hk3.ne hp)
    refine ⟨_, rfl, p, (M.w : Nat), [.ref z], rfl, rfl, upd_same, by omega, by omega, ?_, fun r hr' => ?_⟩
    · show 1 * ((M.w : Nat) : Int).toNat ≤ sizeLine
      rw [Int.toNat_natCast]
      exact Nat.le_trans (show 1 * M.w ≤ 1000 by omega) (by decide)
    have e : (List.replicate ((M.w : Nat) : Int).toNat [V.ref z]).flatten = List.replicate M.w (.ref z) := by rw [Int.toNat_natCast, rep_flat]
    rw [e]
    have X5 := X4.al (o := .lst (List.replicate M.w (.ref z))) hr'
    have nr := hk4.ne hr'
    have eD4 : upd (upd H2' z (.tup [.int 0, .int 1])) p (.lst [.ref z]) D = some (.lst (as.map V.ref)) := by rw [upd_ne (ne_of_none eD3 hp)]; exact eD3
    have nrD : r ≠ D := fun z' => by rw [z', eD4] at hr'; cases hr'
    have g4 := g3.new (o := .lst [.ref z]) hp
    have g5 : Grid K H' (upd G' z (.tup [.int 0, .int 1])) (upd (upd (upd H2' z (.tup [.int 0, .int 1])) p (.lst [.ref z])) r (.lst (List.replicate M.w (.ref z)))) (as ++ [r]) (List.replicate n (List.replicate M.w (ratD (0, 1))) ++ [List.replicate M.w (ratD (0, 1))]) := by
      refine (g4.new hr').snoc (fun z' => ?_) upd_same (dpAll_rep (dp_of_tup upd_same (dpAll_of_ints [0, 1])) M.w) (X4.gh.free hr') (X4.free hr')
      obtain ⟨xs, e⟩ := g4.here z'
      rw [hr'] at e
      cases e
    have nDas : D ∉ as ++ [r] := fun z' => by
      rcases List.mem_append.mp z' with z1 | z1
      · exact nDa z1
      · exact nrD (List.mem_singleton.mp z1).symm
    refine ⟨as.map V.ref, by rw [upd_ne (Ne.symm nrD)]; exact eD4, Nat.lt_of_lt_of_le (show (as.map V.ref).length < 1000 by rw [List.length_map]; omega) (by decide), ?_⟩
    refine ⟨_, as ++ [r], X5.wr (.inl hD) gD3, (hk4.wr nr).wr nDh, ?_, ?_, gD3, by rw [List.length_append, hl]; rfl, nDas⟩
    · rw [replicate_snoc]
      exact g5.other nDas
    · rw [upd_same, List.map_append]
      rfl
  obtain ⟨G1, as, X1, hk1, g1, eD1, gD1, hl1, nDa⟩ := hP
  have hl1 : as.length = M.h := by simpa using hl1
  have g1 : Grid K H' G1 H2 as (rowsD (tabN M rs 0)) := by
    have e : rowsD (tabN M rs 0) = List.replicate (((M.h : Nat) : Int).toNat) (List.replicate M.w (ratD (0, 1))) := by
      rw [Int.toNat_natCast]
      show (List.replicate M.h (List.replicate M.w ((0, 1) : Rt))).map rowD = _
      rw [List.map_replicate]
      show List.replicate M.h ((List.replicate M.w ((0, 1) : Rt)).map ratD) = _
      rw [List.map_replicate]
    rw [e]
    exact g1
  have L1 := L.mono X1.gg
  have hnv1 := dp_mono X1.gg hnv
  obtain ⟨ca, cxs, rfl, hcs, hcx⟩ := dp_list L1.cells
  obtain ⟨la, lxs, rfl, hls, hlx⟩ := dp_list L1.letters
  obtain ⟨na, nxs, rfl, hns, hnx⟩ := dp_list hnv1
  have lc : cxs.length = M.cells.length := by rw [dpAll_len hcx, List.length_map]
  have lnx : nxs.length = rs.length := by rw [dpAll_len hnx, List.length_map]
  refine ⟨.ref ca, rfl, ca, cxs, rfl, .inl (sql_mono X1.gh hcs), _, rfl, by omega, by omega, ?_⟩
  refine for_it walk_range (fun j σ H3 => (∃ y17 y18, σ = lawS sc (some (.ref h)) (some (.int (M.h : Nat))) (some (.int (M.w : Nat))) (some (.ref ca)) (some (.ref la)) (some mv) (some bv) (some gv) kv (some rv) ov tv uv (some (.ref A)) (some (.ref na)) (some (.ref D)) y17 y18 y19 y20 none none) ∧
      Ext (M1 h) G H' G1 H3 ∧ HandOk K G1 H3 h ∧ Grid K H' G1 H3 as (rowsD (tabN M rs j)) ∧ H3 D = some (.lst (as.map V.ref)))
    ⟨⟨y17, y18, rfl⟩, X1, hk1, g1, eD1⟩ (fun _ _ _ _ _ => trivial) (fun j x σ H3 H4 hj hP hY => ?_) (fun σ H3 hP => ?_)
  · obtain ⟨⟨y17, y18, rfl⟩, X3, hk3, g3, eD3⟩ := hP
    obtain ⟨eH, rfl⟩ := hY
    subst eH
    have hic : j < M.cells.length := by simp at hj; omega
    have hil : j < M.letters.length := by rw [ok.len]; exact hic
    obtain ⟨z1, ez1, hz1⟩ := dpAll_get hcx (i := j) (d := cellD M.cells[j]) (by rw [List.getElem?_map, List.getElem?_eq_getElem hic]; rfl)
    obtain ⟨z2, ez2, hz2⟩ := dpAll_get hlx (i := j) (d := natD M.letters[j]) (by rw [List.getElem?_map, List.getElem?_eq_getElem hil]; rfl)
    obtain rfl := dp_int hz2
    obtain ⟨cb, rfl, hsb⟩ := dp_intsT (ns := [(M.cells[j].1 : Int), (M.cells[j].2 : Int)]) hz1
    have hin := ok.inn _ (List.getElem_mem hic)
    have h1 : M.cells[j].1 < as.length := by omega
    have h1t : M.cells[j].1 < (tabN M rs j).length := by rw [tabN_len]; exact hin.1
    have hlm := mem_lt_many hil
    have hlr : M.letters[j] < rs.length := by rw [R.len]; exact hlm
    have ea : (as.map V.ref)[M.cells[j].1]? = some (.ref as[M.cells[j].1]) := by rw [List.getElem?_map, List.getElem?_eq_getElem h1]; rfl
    obtain ⟨rvv, erv, hrv⟩ := dpAll_get hnx (i := M.letters[j]) (d := ratD rs[M.letters[j]]) (by rw [List.getElem?_map, List.getElem?_eq_getElem hlr]; rfl)
    obtain ⟨zs, ey, hy⟩ := g3.at_ M.cells[j].1 as[M.cells[j].1] (rowD (tabN M rs j)[M.cells[j].1]) (List.getElem?_eq_getElem h1) (by rw [List.getElem?_map, List.getElem?_eq_getElem h1t]; rfl)
    have hrow : (tabN M rs j)[M.cells[j].1].length = M.w := tabN_row M rs j _ (List.getElem_mem h1t)
    have hzs : zs.length = M.w := by rw [dpAll_len hy, List.length_map, hrow]
    have hcs3 := sql_mono X3.gh hcs
    have hsb3 := sqt_mono X3.gh hsb
    refine ⟨.ref D, rfl, .ref ca, rfl, _, rfl, ca, cxs, _, _, rfl, rfl, hcs3, at0 ez1, cb, _, 0, _, rfl, rfl, hsb3, atI_nat (j := 0) rfl, D, as.map V.ref, (M.cells[j].1 : Nat), _, rfl, rfl, .inl (.inl eD3), atI_nat ea, ?_⟩
    refine ⟨.ref na, rfl, .ref la, rfl, _, rfl, la, lxs, _, _, rfl, rfl, sql_mono X3.gh hls, at0 ez2, na, nxs, (M.letters[j] : Nat), rvv, rfl, rfl, sql_mono X3.gh hns, atI_nat erv, ?_⟩
    have out := g3.out _ (List.getElem_mem h1)
    have nah : as[M.cells[j].1] ≠ h := fun z => by
      obtain ⟨xs, e1, e2, _⟩ := hk.of
      have := out.2
      rw [z, e1] at this
      cases this
    refine ⟨_, rfl, .ref ca, rfl, _, rfl, ca, cxs, _, _, rfl, rfl, hcs3, at0 ez1, cb, _, 1, _, rfl, rfl, hsb3, atI_nat (j := 1) rfl, as[M.cells[j].1], zs, (M.cells[j].2 : Nat), M.cells[j].2, rfl, rfl, ey, by rw [hzs]; exact ixN_n hin.2, ?_⟩
    refine ⟨⟨_, _, rfl⟩, X3.wr (.inl out.2) out.1, hk3.wr nah, ?_, ?_⟩
    · have e : rowsD (tabN M rs (j + 1)) = (rowsD (tabN M rs j)).set M.cells[j].1 ((rowD (tabN M rs j)[M.cells[j].1]).set M.cells[j].2 (ratD rs[M.letters[j]])) := by
        have q : tabN M rs (j + 1) = setCell (tabN M rs j) M.cells[j] rs[M.letters[j]] := by
          show setCell (tabN M rs j) (M.cells.getD j (0, 0)) (rs.getD (M.letters.getD j 0) (0, 1)) = _
          rw [getD_of hic, getD_of hil, getD_of hlr]
        rw [q]
        exact setCell_map ratD _ M.cells[j] _ h1t
      rw [e]
      exact g3.set (List.getElem?_eq_getElem h1) (dpAll_set hy _ hrv)
    · rw [upd_ne fun z' => nDa (by rw [z']; exact List.getElem_mem h1)]
      exact eD3
  obtain ⟨⟨y17, y18, rfl⟩, X3, hk3, g3, eD3⟩ := hP
  have g3 : Grid K H' G1 H3 as (rowsD (tabOf M rs)) := by
    have e : ((cxs.length : Nat) : Int).toNat = M.cells.length := by rw [Int.toNat_natCast]; exact lc
    rw [e] at g3
    exact g3
  -- the table is finished
  obtain ⟨G4, X4, s4, d4, out4⟩ := g3.finish X3 as.length (Nat.le_refl _)
  rw [List.take_of_length_le (Nat.le_refl _), List.take_of_length_le (Nat.le_of_eq g3.len.symm)] at d4
  rw [List.take_of_length_le (Nat.le_refl _)] at out4
  obtain ⟨_, eh0, _, gh0⟩ := hk3.of
  have hnas : h ∉ as := fun z => by
    obtain ⟨xs, e1, e2, _⟩ := hk.of
    have := (g3.out h z).2
    rw [e1] at this
    cases this
  have gD4 := out4 D gD1 nDa
  have X5 := X4.fz hD eD3 gD4
  have hk4 := hk3.gmono s4 (out4 h gh0 hnas)
  have hk5 := hk4.fin (o := .lst (as.map V.ref)) gD4 nDh
  have s5 := same_upd (o := .lst (as.map V.ref)) gD4
  have dT : Dp K (upd G4 D (.lst (as.map V.ref))) (.ref D) (.list ((rowsD (tabOf M rs)).map PyData.list)) := dp_of_lst upd_same (dpAll_mono s5 d4)
  have eRow : (rowsD (tabOf M rs)).map PyData.list = rowsLR (tabOf M rs) := by rw [List.map_map]; rfl
  have L5 := L1.mono (s4.trans s5)
  have hnx5 := dpAll_mono (s4.trans s5) hnx
  have hns5 := sql_mono (s4.trans s5) hns
  generalize hG5 : upd G4 D (.lst (as.map V.ref)) = G5 at X5 hk5 dT L5 hnx5 hns5
  -- some
  refine ⟨.ref na, rfl, na, rfl, ⟨_, sql_mono X5.gh hns5⟩, fun S hS => ?_⟩
  have nSh := hk5.ne hS
  have gS := X5.gh.free hS
  refine lc_it (walk_list (xs := nxs)) (fun n H4 => ∃ (ws : List V) (ds : List PyData), Ext (M1 h) G5 H3 G5 H4 ∧ HandOk K G5 H4 h ∧ H4 S = some (.lst ws) ∧ DpAll K G5 ws ds ∧ ds.length = n ∧ ∀ (i : Nat) (d : PyData) (r : Rt), ds[i]? = some d → (rs.take n)[i]? = some r → NumD d r)
    ⟨[], [], (Ext.refl X5.gh).al hS, hk5.wr nSh, upd_same, .nil, rfl, fun i d r e => by simp at e⟩ (fun n H4 _ hP => sql_mono (by obtain ⟨_, _, X, _⟩ := hP; exact X.gh) hns5) (fun n x H4 H4' hn hP hY => ?_) (fun H4 hP => ?_)
  · obtain ⟨ws, ds, X6, hk6, eS, dws, hl, hnum⟩ := hP
    obtain ⟨rfl, ex⟩ := hY
    obtain ⟨hnr, b, rfl, hb⟩ := rat_at hnx5 ex
    have hb6 := sqt_mono X6.gh hb
    have lws : ws.length = n := by rw [dpAll_len dws, hl]
    have fin : ∀ (H5 : Hp) (v : V) (dd : PyData), Ext (M1 h) G5 H3 G5 H5 → HandOk K G5 H5 h → H5 S = some (.lst ws) → Dp K G5 v dd → NumD dd rs[n] → ∃ acc, H5 S = some (.lst acc) ∧ acc.length < sizeLine ∧ ∃ (ws : List V) (ds : List PyData), Ext (M1 h) G5 H3 G5 (upd H5 S (.lst (acc ++ [v]))) ∧ HandOk K G5 (upd H5 S (.lst (acc ++ [v]))) h ∧ (upd H5 S (.lst (acc ++ [v]))) S = some (.lst ws) ∧ DpAll K G5 ws ds ∧ ds.length = n + 1 ∧ ∀ (i : Nat) (d : PyData) (r : Rt), ds[i]? = some d → (rs.take (n + 1))[i]? = some r → NumD d r := fun H5 v dd X7 hk7 eS7 dv nd => by
      refine ⟨ws, eS7, Nat.lt_of_lt_of_le (show ws.length < 1000 by omega) (by decide), ws ++ [v], ds ++ [dd], X7.wr (.inl hS) gS, hk7.wr nSh, upd_same, dpAll_app dws (dpAll_one dv), by rw [List.length_append, hl]; rfl, fun i d r e1 e2 => ?_⟩
      by_cases hi : i < n
      · rw [List.getElem?_append_left (by omega)] at e1
        refine hnum i d r e1 ?_
        rw [List.getElem?_take] at e2 ⊢
        rw [if_pos (by omega)] at e2
        rw [if_pos hi]
        exact e2
      · by_cases hi2 : i = n
        · subst hi2
          rw [List.getElem?_take, if_pos (by omega), List.getElem?_eq_getElem hnr] at e2
          rw [List.getElem?_append_right (by omega), hl, Nat.sub_self] at e1
          have e1 : dd = d := Option.some.inj e1
          have e2 := Option.some.inj e2
          rw [← e1, ← e2]
          exact nd
        · rw [List.getElem?_take, if_neg (by omega)] at e2
          cases e2
    have dRef : Dp K G5 (.ref b) (ratD rs[n]) := .tup hb (dpAll_of_ints [rs[n].1, rs[n].2])
    have nRef : NumD (ratD rs[n]) rs[n] := .rat _ (R.el _ (List.getElem_mem hnr)).1
    refine ⟨rfl, yesT ⟨.ref b, rfl, b, _, 1, _, rfl, rfl, hb6, atI_nat (j := 1) rfl, rfl, _, rfl, ?_⟩⟩
    by_cases h1 : rs[n].2 = 1
    · refine ibT (by rw [h1]; exact decide_eq_true rfl) ⟨.ref h, rfl, G5, h, 2, rfl, X6.gh, hk6, by decide, by decide, fun H5 r5 X7 hk7 hr7 => ⟨_, rfl, ?_⟩⟩
      have X67 := X6.trans X7
      have eS7 := X7.at1 nSh eS
      refine ib2 (fun _ => ⟨.ref b, rfl, b, _, 0, _, rfl, rfl, sqt_mono X67.gh hb, atI_nat (j := 0) rfl, ?_⟩) (fun _ => ⟨.ref b, rfl, fin H5 _ _ X67 hk7 eS7 dRef nRef⟩)
      refine fin H5 _ (.int rs[n].1) X67 hk7 eS7 (.int _) ?_
      have e : rs[n] = (rs[n].1, 1) := Prod.ext rfl h1
      rw [e]
      exact .int _
    · refine ibF (decide_eq_false fun z => h1 (V.int.inj z)) ?_
      exact ⟨.ref b, rfl, fin _ _ _ X6 hk6 eS dRef nRef⟩
  obtain ⟨ws, ds, X6, hk6, eS, dws, hl, hnum⟩ := hP
  rw [lnx] at hl
  rw [lnx, List.take_of_length_le (Nat.le_refl _)] at hnum
  have X7 := X6.fz hS eS gS
  have s7 := same_upd (o := .lst ws) gS
  have hk7 := hk6.fin (o := .lst ws) gS nSh
  have dS : Dp K (upd G5 S (.lst ws)) (.ref S) (.list ds) := dp_of_lst upd_same (dpAll_mono s7 dws)
  have L7 := L5.mono s7
  have dT7 := dp_mono s7 dT
  have dN7 : Dp K (upd G5 S (.lst ws)) (.ref na) (.list (ratsD rs)) := .lst (sql_mono s7 hns5) (dpAll_mono s7 hnx5)
  generalize hG7 : upd G5 S (.lst ws) = G7 at X7 hk7 dS L7 dT7 dN7
  have X57 := X5.trans X7
  have hN : NumsD ds rs := ⟨hl, hnum⟩
  -- filled
  have hM7 := L7.mould
  have hM7' := hM7
  obtain ⟨ma, dx, cvm, lvm, rfl, hma, _, _⟩ := hM7'
  refine ⟨.ref ma, rfl, ma, dx, _, rfl, X7.gh _ _ hma, rfl, .ref S, rfl, G7, .ref ma, .ref S, M, ds, rs, rfl, X7.gh, hM7, ok, dS, hN, R.len, by omega, fun G8 H8 fa X8 d8 => ?_⟩
  have sT := tab_sh ok R
  refine ⟨.ref fa, _, rfl, dp_mono X8.gh d8, sT, .inr ⟨fa, rfl⟩, ?_⟩
  refine freezeR (i := 16) (j := 18) (σ := lawS sc (some (.ref h)) (some (.int (M.h : Nat))) (some (.int (M.w : Nat))) (some (.ref ca)) (some (.ref la)) (some (.ref ma)) (some bv) (some gv) kv (some rv) ov tv uv (some (.ref A)) (some (.ref na)) (some (.ref D)) y17 y18 (some (.ref S)) y20 none none) rfl (fun _ => rfl) (fun _ => rfl) X8.gh (dp_mono X8.gg dT7) (Nat.le_trans (Nat.le_of_eq (by rw [List.length_map]; exact tabN_len M rs _)) (show M.h ≤ 1000 by omega)) fun G9 H9 t ys9 X9 ht d9 => ?_
  have X89 := X8.trans X9
  have X10 := X89.al (o := .tup ys9) ht
  refine ⟨.ref t, _, rfl, dp_of_tup upd_same (dpAll_mono X10.gh d9), sT, .inr ⟨t, rfl⟩, rfl, _, rfl, ibF (ne_same _) ?_⟩
  -- told
  have L10 := L7.mono X10.gg
  refine ⟨.ref ma, rfl, gv, rfl, .ref S, rfl, G9, .ref ma, M, gv, d, .ref S, rfl, X10.gh, L10.mould, ok, .inl L10.given, L10.giv.shape, fun _ => ⟨asks, ds, rs, L10.giv.is_, fun a ha => (L10.base.el a ha).nums, dp_mono X10.gg dS, hN, R.len, R.d6, fun G11 H11 ta X11 d11 => ?_⟩, fun i x e => by rw [L10.giv.bad] at e; cases e⟩
  have X12 := X10.trans X11
  have L11 := L10.mono X11.gg
  have sA := L.base.ansSh R
  refine ⟨.ref ta, rfl, .ref ta, _, rfl, dp_mono X11.gh d11, sA, .inr ⟨ta, rfl⟩, .ref D, rfl, _, rfl, _, rfl, bv, rfl, G11, M, .ref D, bv, tabOf M rs, asks, rfl, X11.gh, h6, w6, by rw [← eRow]; exact dp_mono X12.gg dT7, tab_ok R, L11.book, L11.base.few, L11.base.el, fun G13 H13 p13 X13 d13 => ?_⟩
  rw [products_are ok R.len R.d6 fun a ha => (L.base.el a ha).len] at d13
  refine ⟨.ref p13, _, rfl, dp_mono X13.gh d13, sA, .inr ⟨p13, rfl⟩, rfl, _, rfl, ibF (ne_same _) ?_⟩
  have X14 := X12.trans X13
  have L13 := L11.mono X13.gg
  refine ⟨.ref ta, rfl, .ref ta, _, rfl, dp_mono (X13.gg.trans X13.gh) d11, sA, .inr ⟨ta, rfl⟩, rv, rfl, .ref na, rfl, G13, rv, .ref na, spanRows M asks, rs, rfl, X13.gh, L13.rows, dp_mono X14.gg dN7, Nat.le_trans L.base.rowsLen (by decide), hrl, fun r hr' => ⟨R.d6 r hr', Nat.lt_of_le_of_lt (R.el r hr').2.2.1 (by decide)⟩, fun row hrow => ⟨(L.base.row hrow).1.trans R.len.symm, fun x hx => by have := (L.base.row hrow).2 x hx; omega⟩, fun G15 H15 p15 X15 d15 => ?_⟩
  rw [lanswers_are R.d6] at d15
  refine ⟨.ref p15, _, rfl, dp_mono X15.gh d15, sA, .inr ⟨p15, rfl⟩, rfl, _, rfl, ibF (ne_same _) ?_⟩
  have X16 := X14.trans X15
  have XX := X57.trans X16.up
  have eA15 := XX.at1 nA eA
  refine ⟨.ref A, rfl, .inl ⟨rfl, _, .inl (.inl eA15)⟩, .ref ta, rfl, A, ys, _, rfl, rfl, eA15, small1000 (by omega), ?_⟩
  exact q G15 H15 ta _ _ _ _ _ XX (hk7.ext X16) (dp_mono (X13.gg.trans X15.gg) d11)
end
end K36
end

section
set_option pp.maxSteps 400
set_option pp.deepTerms false
set_option Elab.async false
set_option linter.all false
set_option maxRecDepth 100000
set_option maxHeartbeats 4000000
/-! K36, the law. -/
namespace K36
open PySem PySem.Spec PyProof.Rows L2

structure Mkr (P : Program) (w : World) (K : PySem.W.Frag) (mg : Str → Option Value) (base : Heap) (k : Nat) (x : Str) (C : Addr) (sp : Sp) : Prop where
  ex : ∃ (f : Addr) (fd : FuncData) (ps : List Str), Mk K C f ∧ FnOk P w K mg base CX0 k f fd ps sp ∧ mg x = some (.ref C) ∧ Binds K fd ps []
theorem pe_mkr {X : Cx} {k j : Nat} {x : Str} {C : Addr} {sp : Sp} {e : Expr} {es : List Expr} {t : TA} {p pos : Pos} (D : Mkr X.prog X.w X.K X.mg X.base k x C sp) (hr : Room j X.A) (hk : k + 1 ≤ j) (hg : Gl X x) (ha : PA X (e :: es) t)
    (hdb : (x == ("__debug__" : Str)) = false := by decide) (he : starEach (e :: es) X.env = (false, eval e X.env) :: starEach es X.env := by rfl) (hpl : (backTo pos (starEach es X.env)).any (·.1) = false := by rfl) :
    PE X (.Call (.Name x p) (e :: es) [] pos) (tMake C sp [] E0 t) := by
  obtain ⟨f, fd, ps, M, F, hm, b⟩ := D.ex
  exact pe_make M F (hr.mono hk) hg hm b .nil pass0 ha hdb he hpl
theorem addR_at {a b : List Rt} {n : Nat} (h1 : n < a.length) (h2 : n < b.length) (h3 : n < (addR a b).length) : (addR a b)[n] = lsum [a[n], b[n]] := by
  have e : (addR a b)[n]? = some (lsum [a[n], b[n]]) := by
    unfold addR
    rw [List.getElem?_zipWith, List.getElem?_eq_getElem h1, List.getElem?_eq_getElem h2]
  rw [List.getElem?_eq_getElem h3] at e
  exact Option.some.inj e
theorem pow40 {i : Int} (h : i.natAbs ≤ 10 ^ 12) : Sm i 300 := Nat.lt_of_le_of_lt h (Nat.lt_of_lt_of_le (show 10 ^ 12 < 2 ^ 40 by decide) (Nat.pow_le_pow_right (by decide) (by decide)))
theorem pow110 {i : Int} (h : i.natAbs ≤ 10 ^ 30) : Sm i 300 := Nat.lt_of_le_of_lt h (Nat.lt_of_lt_of_le (show 10 ^ 30 < 2 ^ 110 by decide) (Nat.pow_le_pow_right (by decide) (by decide)))
theorem shaped_rat (r : Rt) : SeqAt.shaped (ratD r) = true := by simp [SeqAt.shaped, PyData.canLay0, PyData.canLayAll0, PyData.depth, PyData.depthAll]
theorem eqv_rat (r : Rt) : PyData.eqv (ratD r) (ratD r) = true := by simp [PyData.eqv, PyData.eqvAll]
theorem shown_nat {n : Nat} (h : n ≤ 10 ^ 9) : Shown (.int (n : Nat)) := (sh_int (log_small (by omega))).shown (by decide) (by decide)
abbrev teBoth (K : PySem.W.Frag) : TE := tCall (spLSum K) [] E0 (tCons (tLst (tCons (tOp (rIxL K) (tVar 11) (tVar 17)) (tCons (tOp (rIxL K) (tVar 12) (tVar 17)) tNil))) tNil)
section
variable {P : Program} {w : World} {K : PySem.W.Frag} {mg : Str → Option Value} {base : Heap}
def spLaw (K : PySem.W.Frag) : Sp := fun vs H Q _ => ∃ (a : Addr) (ns : List Int), vs = [.ref a] ∧ SqL K H a (ns.map V.int) ∧ ns.length ≤ 1000 ∧ ∀ H', Q (.bl true) H'
/-- the callees of the law -/
structure Callees (P : Program) (w : World) (K : PySem.W.Frag) (mg : Str → Option Value) (base : Heap) (C CB : Addr) : Prop where
  T : MC K C
  take : Dfn P w K mg base CX0 2 "_law_take" ["_law_hand_here", "_law_many_here"] [] (spTake K)
  hand : Dfn P w K mg base CX0 1 "_law_hand" ["_law_script"] [] (spHand K)
  wide : Dfn P w K mg base CX0 4 "_law_wide" ["_law_hand_here"] [] (spSize K)
  cells : Dfn P w K mg base CX0 3 "_law_cells" ["_law_hand_here", "_law_height", "_law_width"] [] (spLCells K)
  letters : Dfn P w K mg base CX0 3 "_law_letters" ["_law_hand_here", "_law_many_here"] [] (spLLetters K)
  many : Dfn P w K mg base CX0 1 "_law_many" ["_law_letters_here"] [] (spLMany K)
  mould : Mkr P w K mg base 4 "Mould" C (spInit K C)
  book : Dfn P w K mg base CX0 5 "_law_book" ["_law_hand_here", "_law_height", "_law_width", "_law_most"] [] (spLBook K)
  loose : Dfn P w K mg base CX0 6 "_law_loose" ["_law_hand_here", "_law_thing"] [] (spLoose K 3)
  span : Dfn P w K mg base CX0 2 "_law_span" ["_law_height", "_law_width", "_law_cells_here", "_law_letters_here", "_law_book_here"] [] (spLSpan K)
  check : Dfn P w K mg base (L2.CX P w) 4 "check_book" ["mould", "book"] [] (spBook K C CB)
  rows : Dfn P w K mg base (L2.CX P w) 5 "span_rows" ["mould", "book"] [] (spSpan K C CB)
  ansMany : Dfn P w K mg base (L2.CX P w) 5 "answers_many" ["mould", "book"] [] (spAnsMany K C CB)
  filling : Dfn P w K mg base CX0 3 "_law_filling" ["_law_hand_here", "_law_many_here"] [] (spFilling K)
  sum : Dfn P w K mg base CX0 2 "_law_sum" ["_law_pairs_here"] [] (spLSum K)
  filled : Mth P w K mg base 5 C "filled" (spFilled K C)
  answers : Dfn P w K mg base (L2.CX P w) 6 "book_answers" ["mould", "book", "numbers"] [] (spAnswers K C CB)
  products : Dfn P w K mg base CX0 3 "_law_products" ["_law_table", "_law_height", "_law_width", "_law_book_here"] [] (spLProducts K)
  lanswers : Dfn P w K mg base CX0 3 "_law_answers" ["_law_rows", "_law_numbers"] [] (spLAnswers K)
  powers : DfnG P w K mg base 3 "_law_powers" ["_law_hand_here"] (spPowers K)
  refused : DfnG P w K mg base 8 "_law_refused" ["_law_hand_here", "_law_mould", "_law_height", "_law_width", "_law_book_here"] (spRefused K C)
theorem ok_law {C CB : Addr} {f : Addr} {fd : FuncData} (F : Fun K "law" "law" s_law f fd) (B : Bi mg) (D : Callees P w K mg base C CB) : FnG P w K mg base 9 f fd ["_law_script"] (spLaw K) := by
  refine okG F sc_law (fun vs H Q E h => ?_) (fun cdv A outer s H vs Q E hgd hr h => ?_)
  · obtain ⟨_, _, rfl, _⟩ := h
    rfl
  · obtain ⟨a, ns, rfl, hs, hns, q⟩ := h
    refine ⟨_, (pss_cons (ps_set (i := 1) sc_law.nd rfl (.inr rfl) (pe_dfn D.hand (hr.mono (by decide)) (by rfl) pass0 (pa_cons (pv 0) pa_nil)))
      (pss_cons (ps_set (i := 2) sc_law.nd rfl (.inl rfl) (pe_dfn D.wide (hr.mono (by decide)) (by rfl) pass0 (pa_cons (pv 1) pa_nil)))
      (pss_cons (ps_set (i := 3) sc_law.nd rfl (.inr rfl) (pe_dfn D.wide (hr.mono (by decide)) (by rfl) pass0 (pa_cons (pv 1) pa_nil)))
      (pss_cons (ps_set (i := 4) sc_law.nd rfl (.inl rfl) (pe_dfn D.cells (hr.mono (by decide)) (by rfl) pass0 (pa_cons (pv 1) (pa_cons (pv 2) (pa_cons (pv 3) pa_nil)))))
      (pss_cons (ps_set (i := 5) sc_law.nd rfl (.inl rfl) (pe_dfn D.letters (hr.mono (by decide)) (by rfl) pass0 (pa_cons (pv 1) (pa_cons (pe_callB call_len_seq (by rfl) B.len (by decide +kernel) (pa_cons (pv 4) pa_nil)) pa_nil))))
      (pss_cons (ps_set (i := 6) sc_law.nd rfl (.inl rfl) (pe_mkr D.mould hr (by decide) (by rfl) (pa_cons (pv 2) (pa_cons (pv 3) (pa_cons (pv 4) (pa_cons (pv 5) pa_nil))))))
      (pss_cons (ps_set (i := 7) sc_law.nd rfl (.inl rfl) (pe_dfn D.book (hr.mono (by decide)) (by rfl) pass0 (pa_cons (pv 1) (pa_cons (pv 2) (pa_cons (pv 3) (pa_cons pe_int pa_nil))))))
      (pss_cons (ps_set (i := 8) sc_law.nd rfl (.inl rfl) (pe_dfn D.loose (hr.mono (by decide)) (by rfl) pass0 (pa_cons (pv 1) (pa_cons (pv 7) pa_nil))))
      (pss_cons (ps_set (i := 9) sc_law.nd rfl (.inl rfl) (pe_callB (call_reprD hgd (hr.units)) (by rfl) B.repr (by decide +kernel) (pa_cons (pv 8) pa_nil)))
      (pss_cons (ps_set (i := 10) sc_law.nd rfl (.inl rfl) (pe_dfn D.span (hr.mono (by decide)) (by rfl) pass0 (pa_cons (pv 2) (pa_cons (pv 3) (pa_cons (pv 4) (pa_cons (pv 5) (pa_cons (pv 7) pa_nil)))))))
      (pss_cons (ps_if (pt_cmpR op_ne (pe_callB (call_reprD hgd (hr.units)) (by rfl) B.repr (by decide +kernel) (pa_cons (pe_dfn (CX := L2.CX P w) (E := E0) D.check (hr.mono (by decide)) (by rfl) passL (pa_cons (pv 6) (pa_cons (pv 8) pa_nil))) pa_nil)) (pe_callB (call_reprD hgd (hr.units)) (by rfl) B.repr (by decide +kernel) (pa_cons (pe_callTy call_tuple_of (by rfl) B.tuple (by decide +kernel) (pa_cons (pv 7) pa_nil)) pa_nil)) (nomark _))
        (pss_one (ps_ret pe_bl))
        pss_nil)
      (pss_cons (ps_if (pt_cmpR op_ne (pe_callB (call_reprD hgd (hr.units)) (by rfl) B.repr (by decide +kernel) (pa_cons (pe_dfn (CX := L2.CX P w) (E := E0) D.rows (hr.mono (by decide)) (by rfl) passL (pa_cons (pv 6) (pa_cons (pv 8) pa_nil))) pa_nil)) (pe_callB (call_reprD hgd (hr.units)) (by rfl) B.repr (by decide +kernel) (pa_cons (pe_callTy call_tuple_of (by rfl) B.tuple (by decide +kernel) (pa_cons (pe_lc (own := [("_law_row", 21)]) (g := gName 21) (tt := tYes) (te := tCB (rTupOf K) (tCons (tVar 21) tNil)) rfl sc_law.nd (pi_list (pv 10)) (blkOk_by (own := [("_law_row", 21)]) (N := N_law) (sc := defScope s_law) (by decide +kernel)) (fun _ _ _ _ _ => (pg_name (i := 21) sc_law.nd rfl (.inl rfl))) (fun _ _ _ _ _ => pts_nil) (fun _ _ _ _ _ => (pe_callTy call_tuple_of (by rfl) B.tuple (by decide +kernel) (pa_cons (pv 21) pa_nil)))) pa_nil)) pa_nil)) (nomark _))
        (pss_one (ps_ret pe_bl))
        pss_nil)
      (pss_cons (ps_if (pt_cmpR op_ne (pe_callB (call_reprD hgd (hr.units)) (by rfl) B.repr (by decide +kernel) (pa_cons (pe_dfn (CX := L2.CX P w) (E := E0) D.ansMany (hr.mono (by decide)) (by rfl) passL (pa_cons (pv 6) (pa_cons (pv 8) pa_nil))) pa_nil)) (pe_callB (call_reprD hgd (hr.units)) (by rfl) B.repr (by decide +kernel) (pa_cons (pe_callB call_len_seq (by rfl) B.len (by decide +kernel) (pa_cons (pv 10) pa_nil)) pa_nil)) (nomark _))
        (pss_one (ps_ret pe_bl))
        pss_nil)
      (pss_cons (ps_set (i := 11) sc_law.nd rfl (.inr rfl) (pe_dfn D.filling (hr.mono (by decide)) (by rfl) pass0 (pa_cons (pv 1) (pa_cons (pe_dfn D.many (hr.mono (by decide)) (by rfl) pass0 (pa_cons (pv 5) pa_nil)) pa_nil))))
      (pss_cons (ps_set (i := 12) sc_law.nd rfl (.inr rfl) (pe_dfn D.filling (hr.mono (by decide)) (by rfl) pass0 (pa_cons (pv 1) (pa_cons (pe_dfn D.many (hr.mono (by decide)) (by rfl) pass0 (pa_cons (pv 5) pa_nil)) pa_nil))))
      (pss_cons (ps_setLc (i := 13) (own := [("_law_at", 17)]) (g := gName 17) (tt := tYes) (te := teBoth K) rfl sc_law.nd rfl rfl (sw_true rfl rfl rfl (by decide +kernel)) (pi_range1 (by rfl) B.range (pa_cons (pe_callB call_len_seq (by rfl) B.len (by decide +kernel) (pa_cons (pv 11) pa_nil)) pa_nil)) (blkOk_by (own := [("_law_at", 17)]) (N := N_law) (sc := defScope s_law) (by decide +kernel)) (fun _ _ _ _ _ => (pg_name (i := 17) sc_law.nd rfl (.inl rfl))) (fun _ _ _ _ _ => pts_nil) (fun _ _ _ _ _ => (pe_dfn D.sum (hr.mono (by decide)) (by rfl) pass0 (pa_cons (pe_lst (pa_cons (pe_ix ix_list (pv 11) (pv 17) (fun _ _ => rfl)) (pa_cons (pe_ix ix_list (pv 12) (pv 17) (fun _ _ => rfl)) pa_nil))) pa_nil))))
      (pss_cons (ps_set (i := 14) sc_law.nd rfl (.inl rfl) (pe_lst pa_nil))
      (pss_cons (ps_for PassesOwn.never rfl (pi_list (pe_lst (pa_cons (pv 11) (pa_cons (pv 12) (pa_cons (pv 13) pa_nil))))) (pg_name (i := 15) sc_law.nd rfl (.inl rfl)) (turn_pss (k := 1) hgd hr B D.take D.T D.filled D.answers D.products D.lanswers))
      (pss_cons (ps_for PassesOwn.never rfl (pi_range1 (by rfl) B.range (pa_cons (pe_callB call_len_seq (by rfl) B.len (by decide +kernel) (pa_cons (pv 10) pa_nil)) pa_nil)) (pg_name (i := 17) sc_law.nd rfl (.inl rfl))
        (pss_one (ps_if (pt_cmpR (op_neD hr.units) (pe_ix ix_tup (pe_ix ix_list (pv 14) pe_int (fun _ _ => rfl)) (pv 17) (fun _ _ => rfl)) (pe_dfn D.sum (hr.mono (by decide)) (by rfl) pass0 (pa_cons (pe_lst (pa_cons (pe_ix ix_tup (pe_ix ix_list (pv 14) pe_int (fun _ _ => rfl)) (pv 17) (fun _ _ => rfl)) (pa_cons (pe_ix ix_tup (pe_ix ix_list (pv 14) pe_int (fun _ _ => rfl)) (pv 17) (fun _ _ => rfl)) pa_nil))) pa_nil)) (nomark _))
          (pss_one (ps_ret pe_bl))
          pss_nil)))
      (pss_one (ps_ret (pe_and (pe_cmpR op_eq (pe_callB (call_reprD hgd (hr.units)) (by rfl) B.repr (by decide +kernel) (pa_cons (pv 8) pa_nil)) (pv 9) (nomark _)) (pe_and (pe_dfnG D.powers hgd (hr.mono (by decide)) (by rfl) (pa_cons (pv 1) pa_nil)) (pe_one (pe_dfnG D.refused hgd hr (by rfl) (pa_cons (pv 1) (pa_cons (pv 6) (pa_cons (pv 2) (pa_cons (pv 3) (pa_cons (pv 7) pa_nil)))))))))))))))))))))))))))))), ?_⟩
    -- the hand
    refine ⟨.ref a, rfl, H, a, ns, rfl, Same.refl _, hs, hns, fun G1 H1 h X1 hk1 h0 => ?_⟩
    refine ⟨.ref h, rfl, G1, h, rfl, X1.gh, hk1, fun H2 ht X2 hk2 ht1 ht6 => ?_⟩
    refine ⟨.ref h, rfl, G1, h, rfl, X2.gh, hk2, fun H3 wd X3 hk3 wd1 wd6 => ?_⟩
    have X13 := X2.trans X3
    refine ⟨.ref h, rfl, _, rfl, _, rfl, G1, h, ht, wd, rfl, X3.gh, hk3, ht6, wd6, fun G4 H4 ca cs X4 hk4 hsub dcs => ?_⟩
    have X14 := X13.trans X4
    have l36 : cs.length ≤ 36 := Nat.le_trans hsub.length_le (by rw [pairsN_len]; exact Nat.mul_le_mul ht6 wd6)
    obtain ⟨ca', cxs, ec, hcs, hcx⟩ := dp_list dcs
    obtain rfl : ca = ca' := V.ref.inj ec
    have lcs : cxs.length = cs.length := by rw [dpAll_len hcx, List.length_map]
    refine ⟨.ref h, rfl, .ref ca, rfl, ca, cxs, rfl, .inl (sql_mono X4.gh hcs), G4, h, cs.length, by rw [lcs]; rfl, X4.gh, hk4, l36, fun G5 H5 la ls X5 hk5 hll hlok dls => ?_⟩
    have X15 := X14.trans X5
    -- the mould
    obtain ⟨M, hMh, hMw, hMc, hMl⟩ : ∃ M : Mo, M.h = ht ∧ M.w = wd ∧ M.cells = cs ∧ M.letters = ls := ⟨⟨ht, wd, cs, ls⟩, rfl, rfl, rfl, rfl⟩
    subst hMh hMw hMc hMl
    have ok : M.Ok := ⟨ht1, ht6, wd1, wd6, fun c hc => pairsN_in (hsub.subset hc), (pairsN_asc M.w M.h).sublist hsub, hll, hlok, l36⟩
    refine ⟨_, rfl, _, rfl, .ref ca, rfl, .ref la, rfl, fun x dx hx hdx nx => ?_⟩
    have X6a : Ext (M1 h) G1 H1 G5 (upd (upd H5 dx (.own x)) x (.ins C dx [])) := (X15.al hdx).al (by rw [upd_ne (Ne.symm nx)]; exact hx)
    have gx := X15.gh.free hx
    refine ⟨G5, x, dx, M, .ref ca, .ref la, rfl, X6a.gh, gx, upd_same, ok, dp_mono X5.gg dcs, dls, fun G6 H6 X6 hins => ⟨rfl, ?_⟩⟩
    obtain ⟨cv', lv', ex6, dc6, dl6⟩ := hins
    have X16 := X6a.new1 (X15.free hx) X6
    have g6x : G6 x = none := by
      cases e : G6 x with
      | none => rfl
      | some o =>
        rcases X6.nw x o e with z | z
        · rw [gx] at z; cases z
        · rw [upd_same] at z; cases z
    have nxh := hk5.ne hx
    have hk6' : HandOk K G6 H6 h := by
      obtain ⟨c, cs', i, rest, tot, e1, e2, e3⟩ := hk5
      have eh : (upd (upd H5 dx (.own x)) x (.ins C dx [])) h = some (.lst [.ref c, .int (i : Nat), .int rest, .int tot]) := by
        rw [upd_ne (Ne.symm nxh), upd_ne fun z => by rw [← z] at hdx; rw [e2] at hdx; cases hdx]
        exact e2
      exact ⟨c, cs', i, rest, tot, X6.out e1 eh, X6.hh _ _ (Ne.symm nxh) eh, sql_mono X6.gg e3⟩
    have X17 := X16.fz (X15.free hx) ex6 g6x
    have hk6 := hk6'.fin (o := .ins C dx (fsM M cv' lv')) g6x nxh
    have s67 := same_upd (o := .ins C dx (fsM M cv' lv')) g6x
    have hM7 : MouldAt K C (upd G6 x (.ins C dx (fsM M cv' lv'))) (.ref x) M := ⟨x, dx, cv', lv', rfl, upd_same, dp_mono s67 dc6, dp_mono s67 dl6⟩
    have s57 := X6.gg.trans s67
    generalize hG7 : upd G6 x (.ins C dx (fsM M cv' lv')) = G7 at X17 hk6 hM7 s57
    have dcs7 := dp_mono (X5.gg.trans s57) dcs
    have dls7 := dp_mono s57 dls
    -- the book
    refine ⟨.ref h, rfl, _, rfl, _, rfl, G7, h, M.h, M.w, 6, rfl, X17.gh, hk6, ht6, wd6, by decide, fun G8 H8 ba asks X8 hk8 h6 hask dbk => ?_⟩
    have X18 := X17.trans X8
    have R : Rbase M asks := ⟨ok, by omega, hask⟩
    refine ⟨.ref h, rfl, .ref ba, rfl, G8, h, .ref ba, .list (asks.map askD), rfl, X8.gh, hk8, dbk, dep_asks ok (by omega) hask, fun G9 H9 gv d X9 hk9 dg lo => ?_⟩
    have X19 := X18.trans X9
    have gi := given_of ok (by omega) hask lo
    have sG := gi.sh.shown (by decide) (by decide)
    have gref : ∃ ga, gv = .ref ga := by
      rcases lo with ⟨z, _⟩ | ⟨l, l', _, h2, _⟩
      · cases z
      · obtain ⟨ga, _, e, _⟩ := dp_seq dg h2
        exact ⟨ga, e⟩
    obtain ⟨ga, rfl⟩ := gref
    refine ⟨.ref ga, rfl, .ref ga, d, rfl, dp_mono X9.gh dg, sG, .inr ⟨ga, rfl⟩, ?_⟩
    -- the rows
    have s79 := X8.gg.trans X9.gg
    refine ⟨_, rfl, _, rfl, .ref ca, rfl, .ref la, rfl, .ref ba, rfl, G9, M, .ref ca, .ref la, .ref ba, asks, rfl, X9.gh, ok, dp_mono s79 dcs7, dp_mono s79 dls7, dp_mono X9.gg dbk, by omega, fun a ha => (hask a ha).len, fun G10 H10 ra X10 dr => ?_⟩
    have X1a := X19.trans X10.up
    have hk10 := hk9.ext X10
    have s7a := s79.trans X10.gg
    have L : LawEnv K C G10 M asks d (.ref x) (.ref ca) (.ref la) (.ref ba) (.ref ga) (.ref ra) := ⟨R, gi, hM7.mono s7a, dp_mono s7a dcs7, dp_mono s7a dls7, dp_mono (X9.gg.trans X10.gg) dbk, dp_mono X10.gg dg, dr⟩
    -- check_book
    have nob : ∀ {α : Prop} {i : Int} {y : Str}, bookBad M.h M.w d = some (i, y) → α := fun e => by rw [gi.bad] at e; cases e
    refine ⟨.ref x, rfl, .ref ga, rfl, G10, .ref x, M, .ref ga, d, rfl, X10.gh, L.mould, .inl L.given, gi.shape, fun _ G11 H11 p11 X11 d11 => ?_, fun i y e => nob e⟩
    rw [gi.is_.res] at d11
    have sAs := (asks_sh ok (by omega) hask).shown (by decide) (by decide)
    have L11 := L.mono X11.gg
    obtain ⟨ba', bxs, eb, hbs, hbx⟩ := dp_list L11.book
    obtain rfl : ba = ba' := V.ref.inj eb
    refine ⟨.ref p11, _, rfl, dp_mono X11.gh d11, sAs, .inr ⟨p11, rfl⟩, .ref ba, rfl, ba, bxs, rfl, .inl ⟨sql_mono X11.gh hbs, fun t12 ht12 => ?_⟩⟩
    have X12 := X11.al (o := .tup bxs) ht12
    refine ⟨.ref t12, _, rfl, dp_of_tup upd_same (dpAll_mono X12.gh hbx), sAs, .inr ⟨t12, rfl⟩, rfl, _, rfl, ibF (ne_same _) ?_⟩
    -- span_rows
    refine ⟨.ref x, rfl, .ref ga, rfl, G11, .ref x, M, .ref ga, d, rfl, X12.gh, L11.mould, ok, .inl L11.given, gi.shape, fun _ => ⟨asks, gi.is_, fun G13 H13 p13 X13 d13 => ?_⟩, fun i y e => nob e⟩
    have sRows := R.rowsSh
    have L13 := L11.mono X13.gg
    have eRow : (rowsI (spanRows M asks)).map PyData.list = rowsL (spanRows M asks) := by rw [List.map_map]; rfl
    refine ⟨.ref p13, _, rfl, dp_mono X13.gh d13, sRows, .inr ⟨p13, rfl⟩, ?_⟩
    refine freezeR (i := 10) (j := 21) (t := rowsI (spanRows M asks)) (σ := lawS (some (.ref a)) (some (.ref h)) (some (.int (M.h : Nat))) (some (.int (M.w : Nat))) (some (.ref ca)) (some (.ref la)) (some (.ref x)) (some (.ref ba)) (some (.ref ga)) (some (.str d.shown)) (some (.ref ra)) none none none none none none none none none none none none) rfl (fun _ => rfl) (fun _ => rfl) X13.gh (by rw [eRow]; exact L13.rows) (by rw [List.length_map]; exact Nat.le_trans R.rowsLen (by decide)) fun G14 H14 t14 ys14 X14 ht14 d14 => ?_
    have X15' := X14.al (o := .tup ys14) ht14
    refine ⟨.ref t14, _, rfl, dp_of_tup upd_same (dpAll_mono X15'.gh d14), sRows, .inr ⟨t14, rfl⟩, rfl, _, rfl, ibF (ne_same _) ?_⟩
    -- answers_many
    have L14 := L13.mono X14.gg
    have m48 : manyOf M asks ≤ 48 := by rw [← many_is]; exact R.rowsLen
    refine ⟨.ref x, rfl, .ref ga, rfl, G14, .ref x, M, .ref ga, d, rfl, X15'.gh, L14.mould, .inl L14.given, gi.shape, fun _ => ⟨asks, gi.is_, fun G16 H16 X16' => ?_⟩, fun i y e => nob e⟩
    have L16 := L14.mono X16'.gg
    have sI : Shown (.int (manyOf M asks : Nat)) := shown_nat (by omega)
    obtain ⟨ra', rxs, er, hrs, hrx⟩ := dp_list L16.rows
    obtain rfl : ra = ra' := V.ref.inj er
    have lrx : rxs.length = manyOf M asks := by rw [dpAll_len hrx, List.length_map, many_is]
    refine ⟨.int (manyOf M asks : Nat), _, rfl, .int _, sI, .inl ⟨_, rfl⟩, .ref ra, rfl, ra, rxs, rfl, .inl (sql_mono X16'.gh hrs), .int (rxs.length : Nat), .int (manyOf M asks : Nat), rfl, by rw [lrx]; exact .int _, sI, .inl ⟨_, rfl⟩, rfl, _, rfl, ibF (ne_same _) ?_⟩
    have XA := X1a.trans ((((X12.trans X13).trans X15').trans X16').up)
    have hkA := ((((hk10.ext X12).ext X13).ext X15').ext X16')
    -- the fillings
    refine ⟨.ref h, rfl, .ref la, rfl, .ref la, M.letters, rfl, dp_mono X16'.gh L16.letters, G16, h, M.many, rfl, X16'.gh, hkA, many_le ok, fun G17 H17 oa rs1 X17' hk17 l1 ok1 d1 => ?_⟩
    have L17 := L16.mono X17'.gg
    refine ⟨.ref h, rfl, .ref la, rfl, .ref la, M.letters, rfl, dp_mono X17'.gh L17.letters, G17, h, M.many, rfl, X17'.gh, hk17, many_le ok, fun G18 H18 ta rs2 X18' hk18 l2 ok2 d2 => ?_⟩
    have L18 := L17.mono X18'.gg
    have d1' := dp_mono X18'.gg d1
    have R1 := rsOk_of l1 ok1
    have R2 := rsOk_of l2 ok2
    have R3 := rsOk_add l1 l2 ok1 ok2
    obtain ⟨oa', oxs, eo, hos, hox⟩ := dp_list d1'
    obtain rfl : oa = oa' := V.ref.inj eo
    obtain ⟨ta', txs, et, hts, htx⟩ := dp_list d2
    obtain rfl : ta = ta' := V.ref.inj et
    have lox : oxs.length = M.many := by rw [dpAll_len hox, List.length_map, l1]
    have ltx : txs.length = M.many := by rw [dpAll_len htx, List.length_map, l2]
    have m36 := many_le ok
    have l3 : (addR rs1 rs2).length = M.many := R3.len
    -- both
    refine ⟨.ref oa, rfl, oa, oxs, rfl, .inl (sql_mono X18'.gh hos), _, rfl, by omega, by omega, fun U hU => ?_⟩
    have nUh := hk18.ne hU
    have gU := X18'.gh.free hU
    refine lc_it walk_range (fun n H' => ∃ (G' : Hp) (ys : List V), Ext M0 G18 H18 G' H' ∧ H' U = some (.lst ys) ∧ G' U = none ∧ ys.length = n ∧ DpAll K G' ys (ratsD ((addR rs1 rs2).take n)))
      ⟨G18, [], (Ext.refl X18'.gh).al hU, upd_same, gU, rfl, .nil⟩ (fun _ _ _ _ => trivial) (fun n z H' H2' hn hP hY => ?_) (fun H19 hP => ?_)
    · obtain ⟨G', ys, X, eU, gU', hly, hy⟩ := hP
      obtain ⟨eH, rfl⟩ := hY
      subst eH
      have hn1 : n < rs1.length := by simp at hn; omega
      have hn2 : n < rs2.length := by omega
      have hn3 : n < (addR rs1 rs2).length := by omega
      obtain ⟨x1, ex1, dx1⟩ := dpAll_get hox (i := n) (d := ratD rs1[n]) (by rw [List.getElem?_map, List.getElem?_eq_getElem hn1]; rfl)
      obtain ⟨x2, ex2, dx2⟩ := dpAll_get htx (i := n) (d := ratD rs2[n]) (by rw [List.getElem?_map, List.getElem?_eq_getElem hn2]; rfl)
      have e3 : (addR rs1 rs2)[n] = lsum [rs1[n], rs2[n]] := addR_at hn1 hn2 hn3
      have gX := X.gg.trans X.gh
      refine ⟨rfl, yesT ⟨.ref oa, rfl, _, rfl, oa, oxs, _, _, rfl, rfl, sql_mono gX hos, at0 ex1, .ref ta, rfl, _, rfl, ta, txs, _, _, rfl, rfl, sql_mono gX hts, at0 ex2, by show 2 ≤ sizeLine; decide, fun Z hZ => ?_⟩⟩
      have nZU : Z ≠ U := fun e => by rw [e, eU] at hZ; cases hZ
      have X3' := X.al (o := .lst [x1, x2]) hZ
      have gX3 := X.gg.trans X3'.gh
      refine ⟨.ref Z, [rs1[n], rs2[n]], rfl, dp_of_lst (ds := [ratD rs1[n], ratD rs2[n]]) upd_same (.cons (dp_mono gX3 dx1) (.cons (dp_mono gX3 dx2) .nil)), by show 2 ≤ 40; decide, fun p hp => ?_, fun p hp => ?_⟩
      · rcases List.mem_cons.mp hp with e | hp
        · rw [e]
          have := ok1 _ (List.getElem_mem hn1)
          exact ⟨this.2.1, pow40 this.2.2⟩
        · rw [List.mem_singleton.mp hp]
          have := ok2 _ (List.getElem_mem hn2)
          exact ⟨this.2.1, pow40 this.2.2⟩
      · rw [← e3]
        have X4' := X3'.fin (o := .tup [.int (addR rs1 rs2)[n].1, .int (addR rs1 rs2)[n].2]) hp
        have eU3 : upd H2' Z (.lst [x1, x2]) U = some (.lst ys) := by rw [upd_ne (Ne.symm nZU)]; exact eU
        have npU : p ≠ U := fun e => by rw [e, eU3] at hp; cases hp
        have gp := X3'.gh.free hp
        have gU4 : upd G' p (.tup [.int (addR rs1 rs2)[n].1, .int (addR rs1 rs2)[n].2]) U = none := by rw [upd_ne (Ne.symm npU)]; exact gU'
        refine ⟨ys, by rw [upd_ne (Ne.symm npU)]; exact eU3, Nat.lt_of_lt_of_le (show ys.length < 1000 by omega) (by decide), _, ys ++ [.ref p], X4'.wr (.inl hU) gU4, upd_same, gU4, by rw [List.length_append, hly]; rfl, ?_⟩
        rw [List.take_add_one, List.getElem?_eq_getElem hn3, Option.toList_some]
        show DpAll K _ _ ((_ ++ [(addR rs1 rs2)[n]]).map ratD)
        rw [List.map_append]
        exact dpAll_app (dpAll_mono (same_upd gp) hy) (dpAll_one (dp_of_tup upd_same (dpAll_of_ints [(addR rs1 rs2)[n].1, (addR rs1 rs2)[n].2])))
    obtain ⟨G19, ys19, X19', eU, gU19, hly19, hy19⟩ := hP
    rw [Int.toNat_natCast, lox, List.take_of_length_le (Nat.le_of_eq l3)] at hy19
    have X20 := X19'.fz hU eU gU19
    have sU := same_upd (o := .lst ys19) gU19
    have d3 : Dp K (upd G19 U (.lst ys19)) (.ref U) (.list (ratsD (addR rs1 rs2))) := dp_of_lst upd_same (dpAll_mono sU hy19)
    have hk20 := hk18.ext X20
    have L20 := L18.mono X20.gg
    have d1a := dp_mono X20.gg d1'
    have d2a := dp_mono X20.gg d2
    generalize hG20 : upd G19 U (.lst ys19) = G20 at X20 d3 hk20 L20 d1a d2a
    -- answers
    refine ⟨Nat.zero_le _, fun A hA => ?_⟩
    have nAh := hk20.ne hA
    have gA := X20.gh.free hA
    refine ⟨.ref oa, rfl, .ref ta, rfl, .ref U, rfl, by show 3 ≤ sizeLine; decide, fun l hl => ?_⟩
    have nlA : l ≠ A := fun e => by rw [e, upd_same] at hl; cases hl
    have hl0 : H19 l = none := by rw [upd_ne nlA] at hl; exact hl
    have nlh := hk20.ne hl0
    have XB : Ext (M1 h) G20 H19 G20 (upd (upd H19 A (.lst [])) l (.lst [.ref oa, .ref ta, .ref U])) := ((Ext.refl X20.gh).al hA).al hl
    have hkB : HandOk K G20 (upd (upd H19 A (.lst [])) l (.lst [.ref oa, .ref ta, .ref U])) h := (hk20.wr nAh).wr nlh
    refine ⟨l, rfl, ⟨_, .inl (.inl upd_same)⟩, ?_⟩
    have rss : ∀ i : Nat, i < 3 → ∃ (rs : List Rt) (nv : V), ([V.ref oa, .ref ta, .ref U] : List V)[i]? = some nv ∧ ([rs1, rs2, addR rs1 rs2] : List (List Rt))[i]? = some rs ∧ RsOk M rs ∧ Dp K G20 nv (.list (ratsD rs)) := fun i hi => by
      match i, hi with
      | 0, _ => exact ⟨rs1, .ref oa, rfl, rfl, R1, d1a⟩
      | 1, _ => exact ⟨rs2, .ref ta, rfl, rfl, R2, d2a⟩
      | 2, _ => exact ⟨addR rs1 rs2, .ref U, rfl, rfl, R3, d3⟩
    obtain ⟨Pv, hPv⟩ : ∃ Pv : Nat → L2.St → Hp → Prop, Pv = fun n σ H' => ∃ (y15 y16 y17 y18 y19 y20 : Option V) (G' Ha : Hp) (ys : List V), σ = lawS (some (.ref a)) (some (.ref h)) (some (.int (M.h : Nat))) (some (.int (M.w : Nat))) (some (.ref ca)) (some (.ref la)) (some (.ref x)) (some (.ref ba)) (some (.ref ga)) (some (.str d.shown)) (some (.ref ra)) (some (.ref oa)) (some (.ref ta)) (some (.ref U)) (some (.ref A)) y15 y16 y17 y18 y19 y20 none none ∧
        Ext (M1 h) G20 H19 G' H' ∧ HandOk K G' H' h ∧ G' A = none ∧ H' A = some (.lst ys) ∧ H' l = some (.lst [.ref oa, .ref ta, .ref U]) ∧ ys.length = n ∧
        ∀ (j : Nat) (rs : List Rt), j < n → ([rs1, rs2, addR rs1 rs2] : List (List Rt))[j]? = some rs → ∃ b, ys[j]? = some (.ref b) ∧ Dp K G' (.ref b) (.tuple (ratsD (answersN M asks rs))) := ⟨_, rfl⟩
    refine for_it (walk_list (xs := [V.ref oa, .ref ta, .ref U])) Pv
      (by rw [hPv]; exact ⟨none, none, none, none, none, none, G20, H19, [], rfl, XB, hkB, gA, by rw [upd_ne (Ne.symm nlA), upd_same], upd_same, rfl, fun j rs hj => absurd hj (by omega)⟩)
      (fun n σ H' _ hP => by rw [hPv] at hP; obtain ⟨_, _, _, _, _, _, _, _, _, _, _, _, _, _, e, _⟩ := hP; exact .inl (.inl e)) (fun n z σ H' H2' hn hP hY => ?_) (fun σ H' hP => ?_)
    · rw [hPv] at hP
      obtain ⟨y15, y16, y17, y18, y19, y20, G', Ha, ys, rfl, X, hk', gA', eA, el, hly, hans⟩ := hP
      obtain ⟨rfl, ez⟩ := hY
      have hn3 : n < 3 := hn
      obtain ⟨rs, nv, en, ers, Rn, dn⟩ := rss n hn3
      rw [en] at ez
      obtain rfl : nv = z := Option.some.inj ez
      refine ⟨G', M, asks, d, rs, ys, h, A, .ref x, .ref ca, .ref la, .ref ba, .ref ga, .ref ra, nv, _, _, _, _, _, _, _, _, _, _, rfl, X.gh, hk', L20.mono X.gg, Rn, dp_mono X.gg dn, eA, by omega, nAh, fun G2 H2 tb z16 z17 z18 z19 z20 X2 hk2 dta => ?_⟩
      have gA2 := X2.out gA' eA
      show Pv (n + 1) _ _
      rw [hPv]
      refine ⟨some nv, z16, z17, z18, z19, z20, G2, H2, ys ++ [.ref tb], rfl, (X.trans X2).wr (.inl hA) gA2, hk2.wr nAh, gA2, upd_same, by rw [upd_ne nlA]; exact X2.at1 nlh el, by rw [List.length_append, hly]; rfl, fun j rs' hj e => ?_⟩
      by_cases hjn : j < n
      · obtain ⟨b, e1, e2⟩ := hans j rs' hjn e
        exact ⟨b, by rw [List.getElem?_append_left (by omega)]; exact e1, dp_mono X2.gg e2⟩
      · have hj2 : j = n := by omega
        subst hj2
        rw [ers] at e
        obtain rfl : rs = rs' := Option.some.inj e
        exact ⟨tb, by rw [List.getElem?_append_right (by omega), hly, Nat.sub_self]; rfl, dta⟩
    · rw [hPv] at hP
      obtain ⟨y15, y16, y17, y18, y19, y20, G21, Ha, ys, rfl, X21, hk21, gA21, eA, el, hly, hans⟩ := hP
      obtain ⟨b0, eb0, db0⟩ := hans 0 rs1 (by show 0 < 3; decide) rfl
      obtain ⟨b1, eb1, db1⟩ := hans 1 rs2 (by show 1 < 3; decide) rfl
      obtain ⟨b2, eb2, db2⟩ := hans 2 (addR rs1 rs2) (by show 2 < 3; decide) rfl
      have L21 := L20.mono X21.gg
      obtain ⟨ra', rxs2, er2, hrs2, hrx2⟩ := dp_list L21.rows
      obtain rfl : ra = ra' := V.ref.inj er2
      have lrx2 : rxs2.length = (spanRows M asks).length := by rw [dpAll_len hrx2, List.length_map]
      have len48 := R.rowsLen
      refine ⟨.ref ra, rfl, ra, rxs2, rfl, .inl (sql_mono X21.gh hrs2), _, rfl, by omega, by omega, ?_⟩
      refine for_it walk_range (fun n σ H5' => (∃ y17, σ = lawS (some (.ref a)) (some (.ref h)) (some (.int (M.h : Nat))) (some (.int (M.w : Nat))) (some (.ref ca)) (some (.ref la)) (some (.ref x)) (some (.ref ba)) (some (.ref ga)) (some (.str d.shown)) (some (.ref ra)) (some (.ref oa)) (some (.ref ta)) (some (.ref U)) (some (.ref A)) y15 y16 y17 y18 y19 y20 none none) ∧ Ext M0 G21 H' G21 H5')
        ⟨⟨y17, rfl⟩, Ext.refl X21.gh⟩ (fun _ _ _ _ _ => trivial) (fun n z σ H5' H6' hn hP hY => ?_) (fun σ H5' hP => ?_)
      · obtain ⟨⟨y17, rfl⟩, X22⟩ := hP
        obtain ⟨eH, rfl⟩ := hY
        subst eH
        have hnr : n < (spanRows M asks).length := by simp at hn; omega
        have aAt : ∀ (b : Addr) (rs : List Rt), Dp K G21 (.ref b) (.tuple (ratsD (answersN M asks rs))) → ∃ zs c, SqT K G21 b zs ∧ zs[n]? = some (.ref c) ∧ Dp K G21 (.ref c) (ratD (ansN rs (spanRows M asks)[n])) := fun b rs db => by
          obtain ⟨b', zs, e, hz, hzx⟩ := dp_tup db
          obtain rfl : b = b' := V.ref.inj e
          obtain ⟨w', ew, dw⟩ := dpAll_get hzx (i := n) (d := ratD (ansN rs (spanRows M asks)[n])) (by unfold answersN; rw [List.getElem?_map, List.getElem?_map, List.getElem?_eq_getElem hnr]; rfl)
          have dw' := dw
          obtain ⟨c, _, e, _⟩ := dp_tup dw'
          subst e
          exact ⟨zs, c, hz, ew, dw⟩
        obtain ⟨zs0, c0, hz0, e0, dc0⟩ := aAt b0 rs1 db0
        obtain ⟨zs1, c1, hz1, e1, dc1⟩ := aAt b1 rs2 db1
        obtain ⟨zs2, c2, hz2, e2, dc2⟩ := aAt b2 (addR rs1 rs2) db2
        have eA' := X22.sm _ _ eA
        have g22 := X22.gh
        refine ⟨.ref A, rfl, A, ys, 2, _, rfl, rfl, .inl (.inl eA'), atI_nat (j := 2) eb2, _, rfl, b2, zs2, _, _, rfl, rfl, sqt_mono g22 hz2, at0 e2, ?_⟩
        refine ⟨.ref A, rfl, A, ys, 0, _, rfl, rfl, .inl (.inl eA'), atI_nat (j := 0) eb0, _, rfl, b0, zs0, _, _, rfl, rfl, sqt_mono g22 hz0, at0 e0, .ref A, rfl, A, ys, 1, _, rfl, rfl, .inl (.inl eA'), atI_nat (j := 1) eb1, _, rfl, b1, zs1, _, _, rfl, rfl, sqt_mono g22 hz1, at0 e1, by show 2 ≤ sizeLine; decide, fun Z hZ => ?_⟩
        have X23 := X22.al (o := .lst [.ref c0, .ref c1]) hZ
        have mem : ∀ rs, (spanRows M asks)[n] ∈ spanRows M asks ∧ ansN rs (spanRows M asks)[n] ∈ answersN M asks rs := fun rs => ⟨List.getElem_mem hnr, List.mem_map.mpr ⟨_, List.getElem_mem hnr, rfl⟩⟩
        refine ⟨.ref Z, [ansN rs1 (spanRows M asks)[n], ansN rs2 (spanRows M asks)[n]], rfl, dp_of_lst (ds := [ratD _, ratD _]) upd_same (.cons (dp_mono X23.gh dc0) (.cons (dp_mono X23.gh dc1) .nil)), by show 2 ≤ 40; decide, fun p hp => ?_, fun p hp => ?_⟩
        · rcases List.mem_cons.mp hp with e | hp
          · rw [e]
            have := R.ans R1 (mem rs1).2
            exact ⟨this.1, pow110 this.2⟩
          · rw [List.mem_singleton.mp hp]
            have := R.ans R2 (mem rs2).2
            exact ⟨this.1, pow110 this.2⟩
        · have X24 := X23.al (o := .tup [.int (lsum [ansN rs1 (spanRows M asks)[n], ansN rs2 (spanRows M asks)[n]]).1, .int (lsum [ansN rs1 (spanRows M asks)[n], ansN rs2 (spanRows M asks)[n]]).2]) hp
          have eS : ansN (addR rs1 rs2) (spanRows M asks)[n] = lsum [ansN rs1 (spanRows M asks)[n], ansN rs2 (spanRows M asks)[n]] := ans_add (fun r hr => (ok1 r hr).2.1) (fun r hr => (ok2 r hr).2.1) (by omega)
          refine ⟨ratD (ansN (addR rs1 rs2) (spanRows M asks)[n]), ratD (lsum [ansN rs1 (spanRows M asks)[n], ansN rs2 (spanRows M asks)[n]]), dp_mono X24.gh dc2, dp_of_tup upd_same (dpAll_of_ints [_, _]), shaped_rat _, shaped_rat _, _, rfl, ?_⟩
          refine ibF (by rw [eS, eqv_rat]; rfl) ⟨⟨_, rfl⟩, X24⟩
      · obtain ⟨⟨y17, rfl⟩, X22⟩ := hP
        have hk22 := hk21.ext X22
        refine ⟨.ref ga, rfl, .ref ga, d, rfl, dp_mono X22.gh L21.given, sG, .inr ⟨ga, rfl⟩, .str d.shown, rfl, rfl, _, rfl, ibT (by exact decide_eq_true rfl) ?_⟩
        refine ⟨.ref h, rfl, G21, h, rfl, X22.gh, hk22, fun G23 H23 X23 hk23 => ⟨_, rfl, iteT ?_⟩⟩
        have L23 := L21.mono X23.gg
        exact ⟨.ref h, rfl, .ref x, rfl, _, rfl, _, rfl, .ref ba, rfl, G23, h, .ref x, .ref ba, M, asks, rfl, X23.gh, hk23, L23.mould, ok, L23.book, R.few, q⟩
end
end K36
end

section
set_option pp.maxSteps 400
set_option pp.deepTerms false
set_option Elab.async false
set_option linter.all false
set_option maxRecDepth 100000
set_option maxHeartbeats 4000000
/-! K36, the end: from what the top has written to the law's promise (printed by gen_37Q.py). -/
namespace K36
open PySem PySem.Spec PyProof.Rows L2
/-- a def that the top has written -/
structure FnF (K : PySem.W.Frag) (x : Str) (st : Stmt) : Prop where
  ex : ∃ (f : Addr) (fd : FuncData), Fun K x x st f fd ∧ PySem.W.nsIn K mainGlobals x = some (some (.ref f))
theorem fnf_mk {K : PySem.W.Frag} {x : Str} {st : Stmt} {f : Addr} {oc : Value} {od an : Option Addr} {osl : Array (Option Value)} {kV doc pm cdv ct : Value} (a : PySem.W.nsIn K mainGlobals x = some (some (.ref f)))
    (l : K.lookup f = some ⟨oc, od, .func (PySem.W.fnOf x x (defArgs st) (defBody st) (defScope st) .none kV doc pm an cdv ct), osl⟩) (c : PySem.W.codeIn K cdv x = true) (k : PySem.W.keepIn K (.ref f) = true) : FnF K x st := ⟨f, _, fun_mk l c k, a⟩
/-- a def with defaults -/
structure FnD (K : PySem.W.Frag) (x : Str) (st : Stmt) (its : Array Value) : Prop where
  ex : ∃ (f T : Addr) (oc kV doc pm cdv ct : Value) (od an : Option Addr) (osl : Array (Option Value)) (oT : Obj) (nT : Nat), K.lookup f = some ⟨oc, od, .func (PySem.W.fnOf x x (defArgs st) (defBody st) (defScope st) (.ref T) kV doc pm an cdv ct), osl⟩ ∧ PySem.W.codeIn K cdv x = true ∧
    PySem.W.keepIn K (.ref f) = true ∧ PySem.W.nsIn K mainGlobals x = some (some (.ref f)) ∧ K.lookup T = some oT ∧ oT.data = .seq its nT
theorem fnd_mk {K : PySem.W.Frag} {x : Str} {st : Stmt} {its : Array Value} {f T : Addr} {oc oT : Value} {od an dT : Option Addr} {osl slT : Array (Option Value)} {kV doc pm cdv ct : Value} {nT : Nat} (a : PySem.W.nsIn K mainGlobals x = some (some (.ref f)))
    (l : K.lookup f = some ⟨oc, od, .func (PySem.W.fnOf x x (defArgs st) (defBody st) (defScope st) (.ref T) kV doc pm an cdv ct), osl⟩) (c : PySem.W.codeIn K cdv x = true) (k : PySem.W.keepIn K (.ref f) = true) (t : K.lookup T = some ⟨oT, dT, .seq its nT, slT⟩) : FnD K x st its :=
  ⟨f, T, oc, kV, doc, pm, cdv, ct, od, an, osl, _, nT, l, c, k, a, t, rfl⟩
theorem binds_dfl {K : PySem.W.Frag} {x qual : Str} {params : Arguments} {body : List Stmt} {scope : Scope} {T : Addr} {kV doc pm cdv ct : Value} {an : Option Addr} {oT : Obj} {its : Array Value} {nT : Nat} {ps : List Str} {ds : List Value} (lT : K.lookup T = some oT) (dT : oT.data = .seq its nT)
    (n : Nat) (hn : ps.length = n + ds.length) (h : ∀ us : List Value, us.length = n → ∃ k, bindArgs (PySem.W.fnOf x qual params body scope (.ref T) kV doc pm an cdv ct) ⟨us, []⟩ = seqItems? (.ref T) >>= k ∧ k (some its) = pure (ps.zip (us ++ ds))) : Binds K (PySem.W.fnOf x qual params body scope (.ref T) kV doc pm an cdv ct) ps ds := fun s us X hl => by
  obtain ⟨k, e1, e2⟩ := h us (by
    have z := hl
    first
      | (rw [List.length_append] at z; omega)
      | omega)
  refine BindsTo.of_looks fun M => ?_
  rw [e1]
  exact looks_items X lT dT (.of_pure e2)
def gAskV : List Value → List Value → List Value := fun us ws => us ++ [ws.getD 1 .none, ws.getD 0 .none]
theorem vals_getD : ∀ {zs : List V} {ws : List Value}, Vals zs ws → ∀ i, RelV (zs.getD i .non) (ws.getD i .none)
  | [], _, h, i => by cases h; exact rfl
  | z :: zs, _, h, 0 => by
    cases h with
    | cons h1 h2 => exact h1
  | z :: zs, _, h, i + 1 => by
    cases h with
    | cons h1 h2 => exact vals_getD h2 i
/-- an error of the class at S is what «except S» names -/
theorem exm_own {K : PySem.W.Frag} {S : Addr} (h1 : PySem.W.subIn K (.ref S) (.type "BaseException") = some true) (h2 : PySem.W.isClsIn K S = true) (h3 : PySem.W.typeIn K (.ref S) = some (.type "type")) (h4 : PySem.W.subIn K (.ref S) (.ref S) = some true) :
    PySem.W.exmOne K (.ref S) (.ref S) = some true := by
  have q1 : (PySem.W.subIn K (.ref S) (.type "BaseException") == some true) = true := by rw [h1] <;> rfl
  have q2 : ((PySem.W.clsIn K S).isSome && PySem.W.typeIn K (.ref S) == some (.type "type")) = true := by
    have z : (PySem.W.clsIn K S).isSome = true := h2
    rw [z, h3] <;> rfl
  show (if (PySem.W.subIn K (.ref S) (.type "BaseException") == some true) = true then (if ((PySem.W.clsIn K S).isSome && PySem.W.typeIn K (.ref S) == some (.type "type")) = true then PySem.W.subIn K (.ref S) (.ref S) else none) else none) = some true
  rw [if_pos q1, if_pos q2]
  exact h4
/-- a def of a class that the top has written, found at f -/
structure FnC (K : PySem.W.Frag) (C : Addr) (m qual : Str) (st : Stmt) : Prop where
  ex : ∃ (f : Addr) (fd : FuncData), Fun K m qual st f fd ∧ PySem.W.findIn K (.ref C) m = some (some (.ref f)) ∧ PySem.W.isFn K (.ref f) = true
theorem fnc_mk {K : PySem.W.Frag} {C : Addr} {m qual : Str} {st : Stmt} {f : Addr} {oc : Value} {od an : Option Addr} {osl : Array (Option Value)} {kV doc pm cdv ct : Value} (a : PySem.W.findIn K (.ref C) m = some (some (.ref f))) (i : PySem.W.isFn K (.ref f) = true)
    (l : K.lookup f = some ⟨oc, od, .func (PySem.W.fnOf m qual (defArgs st) (defBody st) (defScope st) .none kV doc pm an cdv ct), osl⟩) (c : PySem.W.codeIn K cdv qual = true) (k : PySem.W.keepIn K (.ref f) = true) : FnC K C m qual st := ⟨f, _, fun_mk l c k, a, i⟩
structure FnI (K : PySem.W.Frag) (C : Addr) (its : Array Value) : Prop where
  ex : ∃ (f T : Addr) (oc kV doc pm cdv ct : Value) (od an : Option Addr) (osl : Array (Option Value)) (oT : Obj) (nT : Nat), K.lookup f = some ⟨oc, od, .func (PySem.W.fnOf "__init__" "Mould.__init__" (defArgs s_Mould_init) (defBody s_Mould_init) (defScope s_Mould_init) (.ref T) kV doc pm an cdv ct), osl⟩ ∧ PySem.W.codeIn K cdv "Mould.__init__" = true ∧
    Mk K C f ∧ K.lookup T = some oT ∧ oT.data = .seq its nT
theorem fni_mk {K : PySem.W.Frag} {C : Addr} {its : Array Value} {f T : Addr} {oc oT : Value} {od an dT : Option Addr} {osl slT : Array (Option Value)} {kV doc pm cdv ct : Value} {nT : Nat} (mk : PySem.W.makesIn K C = true) (a : PySem.W.findIn K (.ref C) "__init__" = some (some (.ref f))) (i : PySem.W.isFn K (.ref f) = true) (kc : PySem.W.keepIn K (.ref C) = true)
    (l : K.lookup f = some ⟨oc, od, .func (PySem.W.fnOf "__init__" "Mould.__init__" (defArgs s_Mould_init) (defBody s_Mould_init) (defScope s_Mould_init) (.ref T) kV doc pm an cdv ct), osl⟩) (c : PySem.W.codeIn K cdv "Mould.__init__" = true) (t : K.lookup T = some ⟨oT, dT, .seq its nT, slT⟩) : FnI K C its :=
  ⟨f, T, oc, kV, doc, pm, cdv, ct, od, an, osl, _, nT, l, c, ⟨mk, a, i, kc⟩, t, rfl⟩
structure PrF (K : PySem.W.Frag) (C : Addr) : Prop where
  ex : ∃ (p g : Addr) (fd : FuncData), PropOf K C "letters_many" p g ∧ Fun K "letters_many" "Mould.letters_many" s_Mould_letters_many g fd
theorem prf_mk {K : PySem.W.Frag} {C p g : Addr} {rest : List Value} {oc : Value} {od an : Option Addr} {osl : Array (Option Value)} {kV doc pm cdv ct : Value} (a : PySem.W.findIn K (.ref C) "letters_many" = some (some (.ref p))) (gp : PySem.W.specialIn K (.ref p) "__get__" = some (some (.builtin "property.__get__")))
    (tk : PySem.W.takesIn K (.ref p) = some true) (rc : PySem.W.recIn K p "property" = some (.ref g :: rest)) (l : K.lookup g = some ⟨oc, od, .func (PySem.W.fnOf "letters_many" "Mould.letters_many" (defArgs s_Mould_letters_many) (defBody s_Mould_letters_many) (defScope s_Mould_letters_many) .none kV doc pm an cdv ct), osl⟩)
    (c : PySem.W.codeIn K cdv "Mould.letters_many" = true) (k : PySem.W.keepIn K (.ref g) = true) : PrF K C := ⟨p, g, _, ⟨a, gp, tk, rest, rc⟩, fun_mk l c k⟩
/-- the classes -/
theorem mc_mk {K : PySem.W.Frag} {C : Addr} (pg : PySem.W.plainGet K C Str.empty = true) (hd : PySem.W.hasDictIn K C = true) (po : PySem.W.plainOver K C = true) (sa : PySem.W.findIn K (.ref C) "__setattr__" = some (some (.builtin "object.__setattr__")))
    (n1 : PySem.W.findIn K (.ref C) "height" = some none) (n2 : PySem.W.findIn K (.ref C) "width" = some none) (n3 : PySem.W.findIn K (.ref C) "cells" = some none) (n4 : PySem.W.findIn K (.ref C) "letters" = some none) : MC K C := ⟨⟨pg, hd, po, sa⟩, n1, n2, n3, n4⟩
structure ExF (K : PySem.W.Frag) (C : Addr) : Prop where
  T : OexC K C
  X : XfC K C
  nI : PySem.W.findIn K (.ref C) "index" = some none
  nW : PySem.W.findIn K (.ref C) "what" = some none
  te : PySem.W.exmOne K (.ref C) (.ref C) = some true
  ini : ∃ (f : Addr) (fd : FuncData), PySem.W.findIn K (.ref C) "__init__" = some (some (.ref f)) ∧ PySem.W.typeIn K (.ref f) = some (.type "function") ∧ Fun K "__init__" "BadAsk.__init__" s_BadAsk_init f fd
theorem exf_mk {K : PySem.W.Frag} {C f : Addr} {nm q : Str} {N : Addr} {bs : List Value} {bm : List Value} {sn : List Str} {sub : List Value} {ab : Bool} {col : Option Bool} {dd : Option Addr} {m0 m1 m2 m3 m5 : Option Value} {oc : Value} {od an : Option Addr} {osl : Array (Option Value)} {kV doc pm cdv ct : Value}
    (xL : K.lookup C = some (excClassObj nm q C N bs bm true sn sub ab col dd m0 m1 m2 m3 m5 "ValueError.__new__")) (rv : PySem.HandSPX.refsVE bm = true)
    (sa : PySem.W.findIn K (.ref C) "__setattr__" = some (some (.builtin "object.__setattr__"))) (ga : PySem.W.findIn K (.ref C) "__getattribute__" = some (some (.builtin "BaseException.__getattribute__"))) (gg : PySem.W.findIn K (.ref C) "__getattr__" = some none)
    (nI : PySem.W.findIn K (.ref C) "index" = some none) (nW : PySem.W.findIn K (.ref C) "what" = some none) (a1 : PySem.W.findIn K (.ref C) "__init__" = some (some (.ref f))) (t1 : PySem.W.typeIn K (.ref f) = some (.type "function"))
    (l1 : K.lookup f = some ⟨oc, od, .func (PySem.W.fnOf "__init__" "BadAsk.__init__" (defArgs s_BadAsk_init) (defBody s_BadAsk_init) (defScope s_BadAsk_init) .none kV doc pm an cdv ct), osl⟩) (c1 : PySem.W.codeIn K cdv "BadAsk.__init__" = true) (k1 : PySem.W.keepIn K (.ref f) = true)
    (kC : PySem.W.keepIn K (.ref C) = true) (eC : PySem.W.subIn K (.ref C) (.type "BaseException") = some true) (tC : PySem.W.typeIn K (.ref C) = some (.type "type")) (hC : PySem.W.hasDictIn K C = true) (iC : PySem.W.isClsIn K C = true) (sC : PySem.W.subIn K (.ref C) (.ref C) = some true) : ExF K C :=
  ⟨⟨⟨nm, q, N, bs, bm, sn, sub, ab, col, dd, m0, m1, m2, m3, m5, xL, rv⟩, sa, eC, tC, kC⟩, ⟨ga, gg, eC, hC⟩, nI, nW, exm_own eC iC tC sC, ⟨f, _, a1, t1, fun_mk l1 c1 k1⟩⟩
structure ZeF (K : PySem.W.Frag) : Prop where
  ex : ∃ z : Addr, PySem.W.nsIn K mainGlobals "ZERO" = some (some (.ref z)) ∧ ∀ G : Hp, Dp K G (.ref z) (ratD (0, 1))
theorem zef_mk {K : PySem.W.Frag} {z : Addr} {d : Option Addr} {t1 t2 : Tok} {n : Nat} {sl : Array (Option Value)} (a : PySem.W.nsIn K mainGlobals "ZERO" = some (some (.ref z))) (l : K.lookup z = some ⟨.type "tuple", d, .seq #[.int 0 t1, .int 1 t2] n, sl⟩) : ZeF K :=
  ⟨z, a, fun G => .tup (.inr ⟨_, #[.int 0 t1, .int 1 t2], n, l, rfl, rfl, by show 2 ≤ sizeLine; decide, .cons (show RelV (V.int 0) (Value.int 0 t1) from ⟨_, rfl⟩) (.cons (show RelV (V.int 1) (Value.int 1 t2) from ⟨_, rfl⟩) .nil)⟩) (dpAll_of_ints [0, 1])⟩

theorem bi_mk {K : PySem.W.Frag} {h : Heap} {mg : Str → Option Value} (X : K.In h) (G : h.Ns mainGlobals mg) (b0 : PySem.W.nsIn K mainGlobals "len" = some none) (b1 : PySem.W.nsIn K mainGlobals "abs" = some none) (b2 : PySem.W.nsIn K mainGlobals "sum" = some none) (b3 : PySem.W.nsIn K mainGlobals "max" = some none) (b4 : PySem.W.nsIn K mainGlobals "repr" = some none) (b5 : PySem.W.nsIn K mainGlobals "isinstance" = some none) (b6 : PySem.W.nsIn K mainGlobals "int" = some none) (b7 : PySem.W.nsIn K mainGlobals "bool" = some none) (b8 : PySem.W.nsIn K mainGlobals "str" = some none) (b9 : PySem.W.nsIn K mainGlobals "list" = some none) (b10 : PySem.W.nsIn K mainGlobals "tuple" = some none) (b11 : PySem.W.nsIn K mainGlobals "range" = some none) (b12 : PySem.W.nsIn K mainGlobals "zip" = some none) (b13 : PySem.W.nsIn K mainGlobals "enumerate" = some none) : Bi mg :=
  ⟨PySem.W.mg_none_of X G b0, PySem.W.mg_none_of X G b1, PySem.W.mg_none_of X G b2, PySem.W.mg_none_of X G b3, PySem.W.mg_none_of X G b4, PySem.W.mg_none_of X G b5, PySem.W.mg_none_of X G b6, PySem.W.mg_none_of X G b7, PySem.W.mg_none_of X G b8, PySem.W.mg_none_of X G b9, PySem.W.mg_none_of X G b10, PySem.W.mg_none_of X G b11, PySem.W.mg_none_of X G b12, PySem.W.mg_none_of X G b13⟩
theorem law_all {P : Program} {w : World} {K : PySem.W.Frag} {h : Heap} {mg : Str → Option Value} {fa C CB : Addr} {t_make t_ask tG tM tMA : Tok} (X : K.In h) (G : h.Ns mainGlobals mg) (hfa : mg "law" = some (.ref fa)) (B : Bi mg)
    (aC : PySem.W.nsIn K mainGlobals "Mould" = some (some (.ref C))) (aCB : PySem.W.nsIn K mainGlobals "BadAsk" = some (some (.ref CB))) (aG : PySem.W.nsIn K mainGlobals "GREATEST" = some (some (.int (10 ^ 9) tG))) (aM : PySem.W.nsIn K mainGlobals "MOST" = some (some (.int 6 tM))) (aMA : PySem.W.nsIn K mainGlobals "MOST_ASKS" = some (some (.int 8 tMA)))
    (T : MC K C) (EF : ExF K CB) (hZ : ZeF K) (hI : FnI K C #[.none]) (hP : PrF K C) (hF : FnC K C "filled" "Mould.filled" s_Mould_filled)
    (h_is_sequence : FnF K "is_sequence" s_is_sequence) (h_is_whole : FnD K "is_whole" s_is_whole #[.none, .none]) (h_common_divisor : FnF K "common_divisor" s_common_divisor) (h_make_ratio : FnD K "make_ratio" s_make_ratio #[.int 1 t_make])
    (h_is_ratio : FnF K "is_ratio" s_is_ratio) (h_as_ratio : FnF K "as_ratio" s_as_ratio) (h_is_couple : FnF K "is_couple" s_is_couple) (h_checked_cells : FnF K "checked_cells" s_checked_cells)
    (h_checked_letters : FnF K "checked_letters" s_checked_letters) (h_check_numbers : FnF K "check_numbers" s_check_numbers) (h_check_ask : FnD K "check_ask" s_check_ask #[.int 0 t_ask]) (h_check_book : FnF K "check_book" s_check_book)
    (h_answers_many : FnF K "answers_many" s_answers_many) (h_span_rows : FnF K "span_rows" s_span_rows) (h_whole_multiple : FnF K "whole_multiple" s_whole_multiple) (h_book_answers : FnF K "book_answers" s_book_answers)
    (h_power_asks : FnF K "power_asks" s_power_asks) (h_book_text : FnF K "book_text" s_book_text) (h_law_hand : FnF K "_law_hand" s_law_hand) (h_law_mixed : FnF K "_law_mixed" s_law_mixed)
    (h_law_take : FnF K "_law_take" s_law_take) (h_law_size : FnF K "_law_size" s_law_size) (h_law_wide : FnF K "_law_wide" s_law_wide) (h_law_pairs : FnF K "_law_pairs" s_law_pairs)
    (h_law_cells : FnF K "_law_cells" s_law_cells) (h_law_letters : FnF K "_law_letters" s_law_letters) (h_law_many : FnF K "_law_many" s_law_many) (h_law_number : FnF K "_law_number" s_law_number)
    (h_law_ask : FnF K "_law_ask" s_law_ask) (h_law_book : FnF K "_law_book" s_law_book) (h_law_ratio : FnF K "_law_ratio" s_law_ratio) (h_law_filling : FnF K "_law_filling" s_law_filling)
    (h_law_span : FnF K "_law_span" s_law_span) (h_law_sum : FnF K "_law_sum" s_law_sum) (h_law_answers : FnF K "_law_answers" s_law_answers) (h_law_rid : FnF K "_law_rid" s_law_rid)
    (h_law_seq : FnF K "_law_seq" s_law_seq) (h_law_int : FnF K "_law_int" s_law_int) (h_law_within : FnF K "_law_within" s_law_within) (h_law_loose : FnF K "_law_loose" s_law_loose)
    (h_law_spoiled : FnF K "_law_spoiled" s_law_spoiled) (h_law_ask_due : FnF K "_law_ask_due" s_law_ask_due) (h_law_book_due : FnF K "_law_book_due" s_law_book_due) (h_law_asked : FnF K "_law_asked" s_law_asked)
    (h_law_booked : FnF K "_law_booked" s_law_booked) (h_law_spanned : FnF K "_law_spanned" s_law_spanned) (h_law_products : FnF K "_law_products" s_law_products) (h_law_odd_ask : FnF K "_law_odd_ask" s_law_odd_ask)
    (h_law_powers : FnF K "_law_powers" s_law_powers) (h_law_refused : FnF K "_law_refused" s_law_refused)
    (h_law : FnF K "law" s_law) :
    ∃ fd : FuncData, (∀ (s : Shared) (u : Value), BindsTo s fd ⟨[u], []⟩ [("_law_script", u)]) ∧ ∀ base : Heap, K.In base → base.Ns mainGlobals mg → FnG P w K mg base 9 fa fd ["_law_script"] (spLaw K) := by
  obtain ⟨fl, fdl, Fl, al⟩ := h_law.ex
  have e := hfa.symm.trans (PySem.W.mg_of X G al)
  cases e
  have bl : ∀ (s : Shared) (u : Value), BindsTo s fdl ⟨[u], []⟩ [("_law_script", u)] := by
    obtain ⟨oc, od, kV, doc, pm, an, cdv, ct, osl, rfl, lk, hcd⟩ := Fl.ex
    exact fun s u => .of_eq rfl
  refine ⟨fdl, bl, fun base hKb hNb => ?_⟩
  have gG := PySem.W.mg_of X G aG
  have gM := PySem.W.mg_of X G aM
  have gMA := PySem.W.mg_of X G aMA
  have gC := PySem.W.mg_of X G aC
  obtain ⟨z, az, dz⟩ := hZ.ex
  have Z : ZeroAt K mg z := ⟨PySem.W.mg_of X G az, dz⟩
  have S : EC P w K mg base CB := by
    obtain ⟨fi, fdi, i1, i2, Fi⟩ := EF.ini
    exact ⟨EF.T, EF.X, EF.nI, EF.nW, PySem.W.mg_of X G aCB, EF.te, fi, fdi, i1, i2, ok_BadAsk_init Fi EF.T EF.nI EF.nW, Fi.binds (ps := ["self", "index", "what"]) fun _ _ _ _ _ _ us hl => match us, hl with | [_, _, _], _ => rfl⟩
  have D_letters_many : Prp P w K mg base 1 C "letters_many" (spMany K C) := by
    obtain ⟨p, g, fd, hp, Fp⟩ := hP.ex
    exact ⟨p, g, fd, ["self"], hp, ok_Mould_letters_many Fp B T, Fp.binds fun _ _ _ _ _ _ us hl => match us, hl with | [_], _ => rfl⟩
  have D_is_sequence : Dfn P w K mg base CX0 1 "is_sequence" ["thing"] [] (spIsSeq K) := by
    obtain ⟨f, fd, F0, a⟩ := h_is_sequence.ex
    exact ⟨f, fd, [], ok_is_sequence (k := 0) F0 B, PySem.W.mg_of X G a, F0.kp, (F0.binds (ps := ["thing"]) fun _ _ _ _ _ _ us hl => match us, hl with | [_], _ => rfl), .nil⟩
  have D_is_whole1 : Dfn P w K mg base CX0 1 "is_whole" ["thing", "low", "high"] [.non, .non] (spIsWhole K) := by
    obtain ⟨f, T0, oc, kV, doc, pm, cdv, ct, od, an, osl, oT, nT, lk, hcd, kp, a, lT, dT⟩ := h_is_whole.ex
    exact ⟨f, _, [.none, .none], ok_is_whole (k := 0) (fd := PySem.W.fnOf "is_whole" "is_whole" (defArgs s_is_whole) (defBody s_is_whole) (defScope s_is_whole) .none kV doc pm an cdv ct) lk hcd B, PySem.W.mg_of X G a, kp, binds_dfl lT dT 1 rfl (fun us hl => match us, hl with | [_], _ => ⟨_, rfl, rfl⟩), (.cons rfl (.cons rfl .nil))⟩
  have D_is_whole2 : Dfn P w K mg base CX0 1 "is_whole" ["thing", "low", "high"] [.non] (spIsWhole K) := by
    obtain ⟨f, T0, oc, kV, doc, pm, cdv, ct, od, an, osl, oT, nT, lk, hcd, kp, a, lT, dT⟩ := h_is_whole.ex
    exact ⟨f, _, [.none], ok_is_whole (k := 0) (fd := PySem.W.fnOf "is_whole" "is_whole" (defArgs s_is_whole) (defBody s_is_whole) (defScope s_is_whole) .none kV doc pm an cdv ct) lk hcd B, PySem.W.mg_of X G a, kp, binds_dfl lT dT 2 rfl (fun us hl => match us, hl with | [_, _], _ => ⟨_, rfl, rfl⟩), (.cons rfl .nil)⟩
  have D_is_whole3 : Dfn P w K mg base CX0 1 "is_whole" ["thing", "low", "high"] [] (spIsWhole K) := by
    obtain ⟨f, T0, oc, kV, doc, pm, cdv, ct, od, an, osl, oT, nT, lk, hcd, kp, a, lT, dT⟩ := h_is_whole.ex
    exact ⟨f, _, [], ok_is_whole (k := 0) (fd := PySem.W.fnOf "is_whole" "is_whole" (defArgs s_is_whole) (defBody s_is_whole) (defScope s_is_whole) .none kV doc pm an cdv ct) lk hcd B, PySem.W.mg_of X G a, kp, binds_dfl lT dT 3 rfl (fun us hl => match us, hl with | [_, _, _], _ => ⟨_, rfl, rfl⟩), .nil⟩
  have D_common_divisor : Dfn P w K mg base CX0 1 "common_divisor" ["one", "other"] [] spGcd := by
    obtain ⟨f, fd, F0, a⟩ := h_common_divisor.ex
    exact ⟨f, fd, [], ok_common_divisor (k := 0) F0 B, PySem.W.mg_of X G a, F0.kp, (F0.binds (ps := ["one", "other"]) fun _ _ _ _ _ _ us hl => match us, hl with | [_, _], _ => rfl), .nil⟩
  have D_make_ratio2 : Dfn P w K mg base CX0 2 "make_ratio" ["top", "bottom"] [] spMake := by
    obtain ⟨f, T0, oc, kV, doc, pm, cdv, ct, od, an, osl, oT, nT, lk, hcd, kp, a, lT, dT⟩ := h_make_ratio.ex
    exact ⟨f, _, [], ok_make_ratio (fd := PySem.W.fnOf "is_whole" "is_whole" (defArgs s_is_whole) (defBody s_is_whole) (defScope s_is_whole) .none kV doc pm an cdv ct) lk hcd D_is_whole1 D_common_divisor, PySem.W.mg_of X G a, kp, binds_dfl lT dT 2 rfl (fun us hl => match us, hl with | [_, _], _ => ⟨_, rfl, rfl⟩), .nil⟩
  have D_is_ratio : Dfn P w K mg base CX0 2 "is_ratio" ["thing"] [] (spIsRatio K) := by
    obtain ⟨f, fd, F0, a⟩ := h_is_ratio.ex
    exact ⟨f, fd, [], ok_is_ratio F0 B D_is_whole1 D_is_whole2 D_common_divisor, PySem.W.mg_of X G a, F0.kp, (F0.binds (ps := ["thing"]) fun _ _ _ _ _ _ us hl => match us, hl with | [_], _ => rfl), .nil⟩
  have D_as_ratio : Dfn P w K mg base CX0 3 "as_ratio" ["thing"] [] (spAsRatio K) := by
    obtain ⟨f, fd, F0, a⟩ := h_as_ratio.ex
    exact ⟨f, fd, [], ok_as_ratio F0 B D_is_whole1 D_is_ratio, PySem.W.mg_of X G a, F0.kp, (F0.binds (ps := ["thing"]) fun _ _ _ _ _ _ us hl => match us, hl with | [_], _ => rfl), .nil⟩
  have D_is_couple : Dfn P w K mg base CX0 2 "is_couple" ["thing", "height", "width"] [] (spCouple K) := by
    obtain ⟨f, fd, F0, a⟩ := h_is_couple.ex
    exact ⟨f, fd, [], ok_is_couple F0 B D_is_sequence D_is_whole3, PySem.W.mg_of X G a, F0.kp, (F0.binds (ps := ["thing", "height", "width"]) fun _ _ _ _ _ _ us hl => match us, hl with | [_, _, _], _ => rfl), .nil⟩
  have D_checked_cells : Dfn P w K mg base CX0 3 "checked_cells" ["height", "width", "cells"] [] (spCells K) := by
    obtain ⟨f, fd, F0, a⟩ := h_checked_cells.ex
    exact ⟨f, fd, [], ok_checked_cells F0 B D_is_sequence D_is_couple, PySem.W.mg_of X G a, F0.kp, (F0.binds (ps := ["height", "width", "cells"]) fun _ _ _ _ _ _ us hl => match us, hl with | [_, _, _], _ => rfl), .nil⟩
  have D_checked_letters : Dfn P w K mg base CX0 2 "checked_letters" ["many", "letters"] [] (spLetters K) := by
    obtain ⟨f, fd, F0, a⟩ := h_checked_letters.ex
    exact ⟨f, fd, [], ok_checked_letters F0 B D_is_sequence D_is_whole3, PySem.W.mg_of X G a, F0.kp, (F0.binds (ps := ["many", "letters"]) fun _ _ _ _ _ _ us hl => match us, hl with | [_, _], _ => rfl), .nil⟩
  have D_check_numbers : Dfn P w K mg base CX0 4 "check_numbers" ["mould", "numbers"] [] (spCheckN K C) := by
    obtain ⟨f, fd, F0, a⟩ := h_check_numbers.ex
    exact ⟨f, fd, [], ok_check_numbers F0 B T D_is_sequence D_letters_many D_as_ratio, PySem.W.mg_of X G a, F0.kp, (F0.binds (ps := ["mould", "numbers"]) fun _ _ _ _ _ _ us hl => match us, hl with | [_, _], _ => rfl), .nil⟩
  have D_check_ask3 : Dfn P w K mg base (L2.CX P w) 3 "check_ask" ["mould", "ask", "index"] [] (spAsk K C CB) := by
    obtain ⟨f, T0, oc, kV, doc, pm, cdv, ct, od, an, osl, oT, nT, lk, hcd, kp, a, lT, dT⟩ := h_check_ask.ex
    exact ⟨f, _, [], ok_check_ask lk hcd B T S gG D_is_sequence D_is_whole3, PySem.W.mg_of X G a, kp, binds_dfl lT dT 3 rfl (fun us hl => match us, hl with | [_, _, _], _ => ⟨_, rfl, rfl⟩), .nil⟩
  have D_check_ask2 : Dfn P w K mg base (L2.CX P w) 3 "check_ask" ["mould", "ask", "index"] [.int 0] (spAsk K C CB) := by
    obtain ⟨f, T0, oc, kV, doc, pm, cdv, ct, od, an, osl, oT, nT, lk, hcd, kp, a, lT, dT⟩ := h_check_ask.ex
    exact ⟨f, _, [.int 0 t_ask], ok_check_ask lk hcd B T S gG D_is_sequence D_is_whole3, PySem.W.mg_of X G a, kp, binds_dfl lT dT 2 rfl (fun us hl => match us, hl with | [_, _], _ => ⟨_, rfl, rfl⟩), .cons ⟨_, rfl⟩ .nil⟩
  have D_check_askK : DfnK P w K mg base (L2.CX P w) 3 "check_ask" ["mould", "ask", "index"] 1 ["index", "ask"] gAsk (spAsk K C CB) := by
    obtain ⟨f, T0, oc, kV, doc, pm, cdv, ct, od, an, osl, oT, nT, lk, hcd, kp, a, lT, dT⟩ := h_check_ask.ex
    exact ⟨f, _, gAskV, ok_check_ask lk hcd B T S gG D_is_sequence D_is_whole3, PySem.W.mg_of X G a, kp, ⟨fun s us ws Xs l1 l2 => match us, ws, l1, l2 with
      | [_], [_, _], _, _ => BindsTo.of_looks fun M => looks_items Xs lT dT (.of_pure rfl), fun r1 r2 => r1.append (.cons (vals_getD r2 1) (.cons (vals_getD r2 0) .nil))⟩⟩
  have D_check_book : Dfn P w K mg base (L2.CX P w) 4 "check_book" ["mould", "book"] [] (spBook K C CB) := by
    obtain ⟨f, fd, F0, a⟩ := h_check_book.ex
    exact ⟨f, fd, [], ok_check_book F0 B S gMA D_is_sequence D_check_ask3, PySem.W.mg_of X G a, F0.kp, (F0.binds (ps := ["mould", "book"]) fun _ _ _ _ _ _ us hl => match us, hl with | [_, _], _ => rfl), .nil⟩
  have D_answers_many : Dfn P w K mg base (L2.CX P w) 5 "answers_many" ["mould", "book"] [] (spAnsMany K C CB) := by
    obtain ⟨f, fd, F0, a⟩ := h_answers_many.ex
    exact ⟨f, fd, [], ok_answers_many F0 T D_check_book, PySem.W.mg_of X G a, F0.kp, (F0.binds (ps := ["mould", "book"]) fun _ _ _ _ _ _ us hl => match us, hl with | [_, _], _ => rfl), .nil⟩
  have D_span_rows : Dfn P w K mg base (L2.CX P w) 5 "span_rows" ["mould", "book"] [] (spSpan K C CB) := by
    obtain ⟨f, fd, F0, a⟩ := h_span_rows.ex
    exact ⟨f, fd, [], ok_span_rows F0 B T D_letters_many D_check_book, PySem.W.mg_of X G a, F0.kp, (F0.binds (ps := ["mould", "book"]) fun _ _ _ _ _ _ us hl => match us, hl with | [_, _], _ => rfl), .nil⟩
  have D_whole_multiple : Dfn P w K mg base CX0 3 "whole_multiple" ["one", "other"] [] spWm := by
    obtain ⟨f, fd, F0, a⟩ := h_whole_multiple.ex
    exact ⟨f, fd, [], ok_whole_multiple F0 D_make_ratio2, PySem.W.mg_of X G a, F0.kp, (F0.binds (ps := ["one", "other"]) fun _ _ _ _ _ _ us hl => match us, hl with | [_, _], _ => rfl), .nil⟩
  have D_book_answers : Dfn P w K mg base (L2.CX P w) 6 "book_answers" ["mould", "book", "numbers"] [] (spAnswers K C CB) := by
    obtain ⟨f, fd, F0, a⟩ := h_book_answers.ex
    exact ⟨f, fd, [], ok_book_answers F0 B D_span_rows D_check_numbers D_whole_multiple D_make_ratio2, PySem.W.mg_of X G a, F0.kp, (F0.binds (ps := ["mould", "book", "numbers"]) fun _ _ _ _ _ _ us hl => match us, hl with | [_, _, _], _ => rfl), .nil⟩
  have D_power_asks : Dfn P w K mg base CX0 1 "power_asks" ["kind", "length", "many"] [] (spPower K) := by
    obtain ⟨f, fd, F0, a⟩ := h_power_asks.ex
    exact ⟨f, fd, [], ok_power_asks F0 B, PySem.W.mg_of X G a, F0.kp, (F0.binds (ps := ["kind", "length", "many"]) fun _ _ _ _ _ _ us hl => match us, hl with | [_, _, _], _ => rfl), .nil⟩
  have D_book_text : Dfn P w K mg base (L2.CX P w) 5 "book_text" ["mould", "book"] [] (spText K C CB) := by
    obtain ⟨f, fd, F0, a⟩ := h_book_text.ex
    exact ⟨f, fd, [], ok_book_text F0 D_check_book, PySem.W.mg_of X G a, F0.kp, (F0.binds (ps := ["mould", "book"]) fun _ _ _ _ _ _ us hl => match us, hl with | [_, _], _ => rfl), .nil⟩
  have D_law_hand : Dfn P w K mg base CX0 1 "_law_hand" ["_law_script"] [] (spHand K) := by
    obtain ⟨f, fd, F0, a⟩ := h_law_hand.ex
    exact ⟨f, fd, [], ok_law_hand F0 B, PySem.W.mg_of X G a, F0.kp, (F0.binds (ps := ["_law_script"]) fun _ _ _ _ _ _ us hl => match us, hl with | [_], _ => rfl), .nil⟩
  have D_law_mixed : Dfn P w K mg base CX0 1 "_law_mixed" ["_law_number_here", "_law_turn"] [] spMixed := by
    obtain ⟨f, fd, F0, a⟩ := h_law_mixed.ex
    exact ⟨f, fd, [], ok_law_mixed F0 B, PySem.W.mg_of X G a, F0.kp, (F0.binds (ps := ["_law_number_here", "_law_turn"]) fun _ _ _ _ _ _ us hl => match us, hl with | [_, _], _ => rfl), .nil⟩
  have D_law_take : Dfn P w K mg base CX0 2 "_law_take" ["_law_hand_here", "_law_many_here"] [] (spTake K) := by
    obtain ⟨f, fd, F0, a⟩ := h_law_take.ex
    exact ⟨f, fd, [], ok_law_take F0 B D_law_mixed, PySem.W.mg_of X G a, F0.kp, (F0.binds (ps := ["_law_hand_here", "_law_many_here"]) fun _ _ _ _ _ _ us hl => match us, hl with | [_, _], _ => rfl), .nil⟩
  have D_law_size : Dfn P w K mg base CX0 3 "_law_size" ["_law_hand_here"] [] (spSize K) := by
    obtain ⟨f, fd, F0, a⟩ := h_law_size.ex
    exact ⟨f, fd, [], ok_law_size F0 D_law_take, PySem.W.mg_of X G a, F0.kp, (F0.binds (ps := ["_law_hand_here"]) fun _ _ _ _ _ _ us hl => match us, hl with | [_], _ => rfl), .nil⟩
  have D_law_wide : Dfn P w K mg base CX0 4 "_law_wide" ["_law_hand_here"] [] (spSize K) := by
    obtain ⟨f, fd, F0, a⟩ := h_law_wide.ex
    exact ⟨f, fd, [], ok_law_wide F0 D_law_take D_law_size, PySem.W.mg_of X G a, F0.kp, (F0.binds (ps := ["_law_hand_here"]) fun _ _ _ _ _ _ us hl => match us, hl with | [_], _ => rfl), .nil⟩
  have D_law_pairs : Dfn P w K mg base CX0 1 "_law_pairs" ["_law_height", "_law_width"] [] (spPairs K) := by
    obtain ⟨f, fd, F0, a⟩ := h_law_pairs.ex
    exact ⟨f, fd, [], ok_law_pairs F0 B, PySem.W.mg_of X G a, F0.kp, (F0.binds (ps := ["_law_height", "_law_width"]) fun _ _ _ _ _ _ us hl => match us, hl with | [_, _], _ => rfl), .nil⟩
  have D_law_cells : Dfn P w K mg base CX0 3 "_law_cells" ["_law_hand_here", "_law_height", "_law_width"] [] (spLCells K) := by
    obtain ⟨f, fd, F0, a⟩ := h_law_cells.ex
    exact ⟨f, fd, [], ok_law_cells F0 D_law_take D_law_pairs, PySem.W.mg_of X G a, F0.kp, (F0.binds (ps := ["_law_hand_here", "_law_height", "_law_width"]) fun _ _ _ _ _ _ us hl => match us, hl with | [_, _, _], _ => rfl), .nil⟩
  have D_law_letters : Dfn P w K mg base CX0 3 "_law_letters" ["_law_hand_here", "_law_many_here"] [] (spLLetters K) := by
    obtain ⟨f, fd, F0, a⟩ := h_law_letters.ex
    exact ⟨f, fd, [], ok_law_letters F0 B D_law_take, PySem.W.mg_of X G a, F0.kp, (F0.binds (ps := ["_law_hand_here", "_law_many_here"]) fun _ _ _ _ _ _ us hl => match us, hl with | [_, _], _ => rfl), .nil⟩
  have D_law_many : Dfn P w K mg base CX0 1 "_law_many" ["_law_letters_here"] [] (spLMany K) := by
    obtain ⟨f, fd, F0, a⟩ := h_law_many.ex
    exact ⟨f, fd, [], ok_law_many F0 B, PySem.W.mg_of X G a, F0.kp, (F0.binds (ps := ["_law_letters_here"]) fun _ _ _ _ _ _ us hl => match us, hl with | [_], _ => rfl), .nil⟩
  have D_law_number : Dfn P w K mg base CX0 3 "_law_number" ["_law_hand_here"] [] (spLNumber K) := by
    obtain ⟨f, fd, F0, a⟩ := h_law_number.ex
    exact ⟨f, fd, [], ok_law_number F0 D_law_take, PySem.W.mg_of X G a, F0.kp, (F0.binds (ps := ["_law_hand_here"]) fun _ _ _ _ _ _ us hl => match us, hl with | [_], _ => rfl), .nil⟩
  have D_law_ask : Dfn P w K mg base CX0 4 "_law_ask" ["_law_hand_here", "_law_height", "_law_width"] [] (spLAsk K) := by
    obtain ⟨f, fd, F0, a⟩ := h_law_ask.ex
    exact ⟨f, fd, [], ok_law_ask F0 B D_law_take D_law_number, PySem.W.mg_of X G a, F0.kp, (F0.binds (ps := ["_law_hand_here", "_law_height", "_law_width"]) fun _ _ _ _ _ _ us hl => match us, hl with | [_, _, _], _ => rfl), .nil⟩
  have D_law_book : Dfn P w K mg base CX0 5 "_law_book" ["_law_hand_here", "_law_height", "_law_width", "_law_most"] [] (spLBook K) := by
    obtain ⟨f, fd, F0, a⟩ := h_law_book.ex
    exact ⟨f, fd, [], ok_law_book F0 B D_law_take D_law_ask, PySem.W.mg_of X G a, F0.kp, (F0.binds (ps := ["_law_hand_here", "_law_height", "_law_width", "_law_most"]) fun _ _ _ _ _ _ us hl => match us, hl with | [_, _, _, _], _ => rfl), .nil⟩
  have D_law_ratio : Dfn P w K mg base CX0 1 "_law_ratio" ["_law_top", "_law_bottom"] [] spMake := by
    obtain ⟨f, fd, F0, a⟩ := h_law_ratio.ex
    exact ⟨f, fd, [], ok_law_ratio F0 B, PySem.W.mg_of X G a, F0.kp, (F0.binds (ps := ["_law_top", "_law_bottom"]) fun _ _ _ _ _ _ us hl => match us, hl with | [_, _], _ => rfl), .nil⟩
  have D_law_filling : Dfn P w K mg base CX0 3 "_law_filling" ["_law_hand_here", "_law_many_here"] [] (spFilling K) := by
    obtain ⟨f, fd, F0, a⟩ := h_law_filling.ex
    exact ⟨f, fd, [], ok_law_filling F0 B D_law_take D_law_ratio, PySem.W.mg_of X G a, F0.kp, (F0.binds (ps := ["_law_hand_here", "_law_many_here"]) fun _ _ _ _ _ _ us hl => match us, hl with | [_, _], _ => rfl), .nil⟩
  have D_law_span : Dfn P w K mg base CX0 2 "_law_span" ["_law_height", "_law_width", "_law_cells_here", "_law_letters_here", "_law_book_here"] [] (spLSpan K) := by
    obtain ⟨f, fd, F0, a⟩ := h_law_span.ex
    exact ⟨f, fd, [], ok_law_span F0 B D_law_many, PySem.W.mg_of X G a, F0.kp, (F0.binds (ps := ["_law_height", "_law_width", "_law_cells_here", "_law_letters_here", "_law_book_here"]) fun _ _ _ _ _ _ us hl => match us, hl with | [_, _, _, _, _], _ => rfl), .nil⟩
  have D_law_sum : Dfn P w K mg base CX0 2 "_law_sum" ["_law_pairs_here"] [] (spLSum K) := by
    obtain ⟨f, fd, F0, a⟩ := h_law_sum.ex
    exact ⟨f, fd, [], ok_law_sum F0 D_law_ratio, PySem.W.mg_of X G a, F0.kp, (F0.binds (ps := ["_law_pairs_here"]) fun _ _ _ _ _ _ us hl => match us, hl with | [_], _ => rfl), .nil⟩
  have D_law_answers : Dfn P w K mg base CX0 3 "_law_answers" ["_law_rows", "_law_numbers"] [] (spLAnswers K) := by
    obtain ⟨f, fd, F0, a⟩ := h_law_answers.ex
    exact ⟨f, fd, [], ok_law_answers F0 B D_law_sum, PySem.W.mg_of X G a, F0.kp, (F0.binds (ps := ["_law_rows", "_law_numbers"]) fun _ _ _ _ _ _ us hl => match us, hl with | [_, _], _ => rfl), .nil⟩
  have D_law_rid : Dfn P w K mg base CX0 3 "_law_rid" ["_law_hand_here"] [] (spRid K) := by
    obtain ⟨f, fd, F0, a⟩ := h_law_rid.ex
    exact ⟨f, fd, [], ok_law_rid F0 D_law_take, PySem.W.mg_of X G a, F0.kp, (F0.binds (ps := ["_law_hand_here"]) fun _ _ _ _ _ _ us hl => match us, hl with | [_], _ => rfl), .nil⟩
  have D_law_seq : Dfn P w K mg base CX0 1 "_law_seq" ["_law_thing"] [] (spLSeq K) := by
    obtain ⟨f, fd, F0, a⟩ := h_law_seq.ex
    exact ⟨f, fd, [], ok_law_seq F0 B, PySem.W.mg_of X G a, F0.kp, (F0.binds (ps := ["_law_thing"]) fun _ _ _ _ _ _ us hl => match us, hl with | [_], _ => rfl), .nil⟩
  have D_law_int : Dfn P w K mg base CX0 1 "_law_int" ["_law_thing"] [] (spLInt K) := by
    obtain ⟨f, fd, F0, a⟩ := h_law_int.ex
    exact ⟨f, fd, [], ok_law_int F0 B, PySem.W.mg_of X G a, F0.kp, (F0.binds (ps := ["_law_thing"]) fun _ _ _ _ _ _ us hl => match us, hl with | [_], _ => rfl), .nil⟩
  have D_law_within : Dfn P w K mg base CX0 2 "_law_within" ["_law_thing", "_law_low", "_law_high"] [] (spWithin K) := by
    obtain ⟨f, fd, F0, a⟩ := h_law_within.ex
    exact ⟨f, fd, [], ok_law_within F0 D_law_int, PySem.W.mg_of X G a, F0.kp, (F0.binds (ps := ["_law_thing", "_law_low", "_law_high"]) fun _ _ _ _ _ _ us hl => match us, hl with | [_, _, _], _ => rfl), .nil⟩
  obtain ⟨f_loose, fd_loose, F_loose, a_loose⟩ := h_law_loose.ex
  have b_loose := F_loose.binds (ps := ["_law_hand_here", "_law_thing"]) fun _ _ _ _ _ _ us hl => match us, hl with | [_, _], _ => rfl
  have D_loose0 : Dfn P w K mg base CX0 3 "_law_loose" ["_law_hand_here", "_law_thing"] [] (spLoose K 0) := ⟨f_loose, fd_loose, [], ok_law_loose0 F_loose D_law_seq, PySem.W.mg_of X G a_loose, F_loose.kp, b_loose, .nil⟩
  have D_loose1 : Dfn P w K mg base CX0 4 "_law_loose" ["_law_hand_here", "_law_thing"] [] (spLoose K 1) := ⟨f_loose, fd_loose, [], ok_law_loose (n := 0) (k := 0) F_loose B D_law_seq D_law_take D_loose0, PySem.W.mg_of X G a_loose, F_loose.kp, b_loose, .nil⟩
  have D_loose2 : Dfn P w K mg base CX0 5 "_law_loose" ["_law_hand_here", "_law_thing"] [] (spLoose K 2) := ⟨f_loose, fd_loose, [], ok_law_loose (n := 1) (k := 1) F_loose B D_law_seq D_law_take D_loose1, PySem.W.mg_of X G a_loose, F_loose.kp, b_loose, .nil⟩
  have D_loose3 : Dfn P w K mg base CX0 6 "_law_loose" ["_law_hand_here", "_law_thing"] [] (spLoose K 3) := ⟨f_loose, fd_loose, [], ok_law_loose (n := 2) (k := 2) F_loose B D_law_seq D_law_take D_loose2, PySem.W.mg_of X G a_loose, F_loose.kp, b_loose, .nil⟩
  have D_law_spoiled : Dfn P w K mg base CX0 4 "_law_spoiled" ["_law_hand_here", "_law_things", "_law_odd"] [] (spSpoiled K) := by
    obtain ⟨f, fd, F0, a⟩ := h_law_spoiled.ex
    exact ⟨f, fd, [], ok_law_spoiled F0 B D_law_take D_law_rid, PySem.W.mg_of X G a, F0.kp, (F0.binds (ps := ["_law_hand_here", "_law_things", "_law_odd"]) fun _ _ _ _ _ _ us hl => match us, hl with | [_, _, _], _ => rfl), .nil⟩
  have D_law_ask_due : Dfn P w K mg base CX0 3 "_law_ask_due" ["_law_height", "_law_width", "_law_ask_here", "_law_index"] [] (spAskDue K) := by
    obtain ⟨f, fd, F0, a⟩ := h_law_ask_due.ex
    exact ⟨f, fd, [], ok_law_ask_due F0 B D_law_seq D_law_within, PySem.W.mg_of X G a, F0.kp, (F0.binds (ps := ["_law_height", "_law_width", "_law_ask_here", "_law_index"]) fun _ _ _ _ _ _ us hl => match us, hl with | [_, _, _, _], _ => rfl), .nil⟩
  have D_law_book_due : Dfn P w K mg base CX0 4 "_law_book_due" ["_law_height", "_law_width", "_law_book_here"] [] (spBookDue K) := by
    obtain ⟨f, fd, F0, a⟩ := h_law_book_due.ex
    exact ⟨f, fd, [], ok_law_book_due F0 B D_law_seq D_law_ask_due, PySem.W.mg_of X G a, F0.kp, (F0.binds (ps := ["_law_height", "_law_width", "_law_book_here"]) fun _ _ _ _ _ _ us hl => match us, hl with | [_, _, _], _ => rfl), .nil⟩
  have D_law_asked : Dfn P w K mg base CX0 4 "_law_asked" ["_law_mould", "_law_ask_here", "_law_index"] [] (spAsked K C) := by
    obtain ⟨f, fd, F0, a⟩ := h_law_asked.ex
    exact ⟨f, fd, [], ok_law_asked F0 S D_check_ask2 D_check_askK, PySem.W.mg_of X G a, F0.kp, (F0.binds (ps := ["_law_mould", "_law_ask_here", "_law_index"]) fun _ _ _ _ _ _ us hl => match us, hl with | [_, _, _], _ => rfl), .nil⟩
  have D_law_booked : Dfn P w K mg base CX0 5 "_law_booked" ["_law_mould", "_law_book_here"] [] (spBooked K C) := by
    obtain ⟨f, fd, F0, a⟩ := h_law_booked.ex
    exact ⟨f, fd, [], ok_law_booked F0 S D_check_book, PySem.W.mg_of X G a, F0.kp, (F0.binds (ps := ["_law_mould", "_law_book_here"]) fun _ _ _ _ _ _ us hl => match us, hl with | [_, _], _ => rfl), .nil⟩
  have D_law_spanned : Dfn P w K mg base CX0 7 "_law_spanned" ["_law_mould", "_law_book_here"] [] (spSpanned K C) := by
    obtain ⟨f, fd, F0, a⟩ := h_law_spanned.ex
    exact ⟨f, fd, [], ok_law_spanned F0 B S D_span_rows D_answers_many D_book_answers D_book_text, PySem.W.mg_of X G a, F0.kp, (F0.binds (ps := ["_law_mould", "_law_book_here"]) fun _ _ _ _ _ _ us hl => match us, hl with | [_, _], _ => rfl), .nil⟩
  have D_law_products : Dfn P w K mg base CX0 3 "_law_products" ["_law_table", "_law_height", "_law_width", "_law_book_here"] [] (spLProducts K) := by
    obtain ⟨f, fd, F0, a⟩ := h_law_products.ex
    exact ⟨f, fd, [], ok_law_products F0 B D_law_sum, PySem.W.mg_of X G a, F0.kp, (F0.binds (ps := ["_law_table", "_law_height", "_law_width", "_law_book_here"]) fun _ _ _ _ _ _ us hl => match us, hl with | [_, _, _, _], _ => rfl), .nil⟩
  have D_law_odd_ask : Dfn P w K mg base CX0 3 "_law_odd_ask" ["_law_hand_here", "_law_height", "_law_width"] [] (spOdd K) := by
    obtain ⟨f, fd, F0, a⟩ := h_law_odd_ask.ex
    exact ⟨f, fd, [], ok_law_odd_ask F0 B D_law_take, PySem.W.mg_of X G a, F0.kp, (F0.binds (ps := ["_law_hand_here", "_law_height", "_law_width"]) fun _ _ _ _ _ _ us hl => match us, hl with | [_, _, _], _ => rfl), .nil⟩
  have D_law_powers : DfnG P w K mg base 3 "_law_powers" ["_law_hand_here"] (spPowers K) := by
    obtain ⟨f, fd, F0, a⟩ := h_law_powers.ex
    exact ⟨f, fd, ok_law_powers F0 B D_law_take D_power_asks, PySem.W.mg_of X G a, F0.kp, F0.binds (ps := ["_law_hand_here"]) fun _ _ _ _ _ _ us hl => match us, hl with | [_], _ => rfl⟩
  have D_law_refused : DfnG P w K mg base 8 "_law_refused" ["_law_hand_here", "_law_mould", "_law_height", "_law_width", "_law_book_here"] (spRefused K C) := by
    obtain ⟨f, fd, F0, a⟩ := h_law_refused.ex
    exact ⟨f, fd, ok_law_refused F0 B S D_law_take D_law_seq D_law_odd_ask D_law_spoiled D_law_ask_due D_law_book_due D_law_asked D_law_booked D_law_spanned D_check_book, PySem.W.mg_of X G a, F0.kp, F0.binds (ps := ["_law_hand_here", "_law_mould", "_law_height", "_law_width", "_law_book_here"]) fun _ _ _ _ _ _ us hl => match us, hl with | [_, _, _, _, _], _ => rfl⟩
  have D_mould : Mkr P w K mg base 4 "Mould" C (spInit K C) := by
    obtain ⟨f, T0, oc, kV, doc, pm, cdv, ct, od, an, osl, oT, nT, lk, hcd, mk, lT, dT⟩ := hI.ex
    exact ⟨f, _, ["self", "height", "width", "cells", "letters"], mk, ok_Mould_init lk hcd B T gM D_is_whole3 D_checked_cells D_checked_letters, gC, binds_dfl lT dT 5 rfl (fun us hl => match us, hl with | [_, _, _, _, _], _ => ⟨_, rfl, rfl⟩)⟩
  have D_filled : Mth P w K mg base 5 C "filled" (spFilled K C) := by
    obtain ⟨f, fd, F0, a, i⟩ := hF.ex
    exact ⟨f, fd, ["self", "numbers"], ⟨a, i, F0.kp⟩, ok_Mould_filled F0 B T Z D_check_numbers, F0.binds (ps := ["self", "numbers"]) fun _ _ _ _ _ _ us hl => match us, hl with | [_, _], _ => rfl⟩
  exact ok_law Fl B ⟨T, D_law_take, D_law_hand, D_law_wide, D_law_cells, D_law_letters, D_law_many, D_mould, D_law_book, D_loose3, D_law_span, D_check_book, D_span_rows, D_answers_many, D_law_filling, D_law_sum, D_filled, D_book_answers, D_law_products, D_law_answers, D_law_powers, D_law_refused⟩
theorem walk_law {l : PySem.W.OpenLaw} {n : Nat} {q : Program} {loose : List Str} {XP : (Str → Option Value) → Heap → Prop} {YP : World → Heap → Prop} {d : DefRec} {K : Params → PySem.W.Frag}
    (hn : l.most = some n) (hn2 : n ≤ 1000) (hdf : d.params.defaults = []) (hnm : d.name = "law") (hY : ∀ (w : World) (h : Heap), YP w h → (K w.params).In h)
    (F : ∀ (w : World) (mg : Str → Option Value) (fa : Addr) (h : Heap), (K w.params).In h → h.Ns mainGlobals mg → mg "law" = some (.ref fa) →
      ∃ fd : FuncData, (∀ (s : Shared) (u : Value), BindsTo s fd ⟨[u], []⟩ [("_law_script", u)]) ∧ ∀ base : Heap, (K w.params).In base → base.Ns mainGlobals mg → FnG l.prog w (K w.params) mg base 9 fa fd ["_law_script"] (spLaw (K w.params))) :
    PySem.W.WalkO q loose XP YP l.row.toRowW d [] (fun f vs => PySem.call f vs) :=
  walk_G (k := 9) (x := "_law_script") (sp := fun w => spLaw (K w.params)) hn (Nat.le_trans hn2 (by decide)) hdf ⟨rfl, by decide, by decide⟩ hY (fun w mg fa h KX G hmg => F w mg fa h KX G (by rw [← hnm]; exact hmg))
    fun w H a ns hl hs => ⟨a, ns, rfl, hs, Nat.le_trans hl hn2, fun _ => rfl⟩
end K36
end

set_option Elab.async false
set_option linter.all false
open PySem PySem.W PyProof.Rows
set_option maxRecDepth 100000 in
set_option maxHeartbeats 0 in
theorem PySem.Challenge.cw_thinslopes_k36_whole_answers_are_the_pro_holds : PySem.Challenge.rw_thinslopes_k36_whole_answers_are_the_pro.Holds := by
  w_on; o_law; k_head; (case hw => w_witness2)
  k_fill
  refine K36.walk_law (by rfl) (by decide) rfl rfl (fun w h Y => PySem.W.kIn_of Y) ?F
  intro w mg fa h KX G hmg
  refine' K36.law_all KX G hmg ?B ?aC ?aCB ?aG ?aM ?aMA ?T ?EF ?hZ ?hI ?hP ?hF ?h_is_sequence ?h_is_whole ?h_common_divisor ?h_make_ratio ?h_is_ratio ?h_as_ratio ?h_is_couple ?h_checked_cells ?h_checked_letters ?h_check_numbers ?h_check_ask ?h_check_book ?h_answers_many ?h_span_rows ?h_whole_multiple ?h_book_answers ?h_power_asks ?h_book_text ?h_law_hand ?h_law_mixed ?h_law_take ?h_law_size ?h_law_wide ?h_law_pairs ?h_law_cells ?h_law_letters ?h_law_many ?h_law_number ?h_law_ask ?h_law_book ?h_law_ratio ?h_law_filling ?h_law_span ?h_law_sum ?h_law_answers ?h_law_rid ?h_law_seq ?h_law_int ?h_law_within ?h_law_loose ?h_law_spoiled ?h_law_ask_due ?h_law_book_due ?h_law_asked ?h_law_booked ?h_law_spanned ?h_law_products ?h_law_odd_ask ?h_law_powers ?h_law_refused ?h_law
  case B => (refine' K36.bi_mk KX G ?b0_B ?b1_B ?b2_B ?b3_B ?b4_B ?b5_B ?b6_B ?b7_B ?b8_B ?b9_B ?b10_B ?b11_B ?b12_B ?b13_B) <;> k_is
  case aC => k_is
  case aCB => k_is
  case aG => k_is
  case aM => k_is
  case aMA => k_is
  case T => (refine' K36.mc_mk ?pg_T ?hd_T ?po_T ?sa_T ?n1_T ?n2_T ?n3_T ?n4_T) <;> k_is
  case EF =>
    refine' K36.exf_mk ?xL_EF ?rv_EF ?sa_EF ?ga_EF ?gg_EF ?nI_EF ?nW_EF ?a1_EF ?t1_EF ?l1_EF ?c1_EF ?k1_EF ?kC_EF ?eC_EF ?tC_EF ?hC_EF ?iC_EF ?sC_EF
    (case xL_EF => k_is); (case rv_EF => decide +kernel); (case sa_EF => k_is); (case ga_EF => k_is); (case gg_EF => k_is); (case nI_EF => k_is); (case nW_EF => k_is); (case a1_EF => k_is); (case t1_EF => k_is); (case l1_EF => k_is); (case c1_EF => k_is); (case k1_EF => k_is)
    (case kC_EF => k_is); (case eC_EF => k_is); (case tC_EF => k_is); (case hC_EF => k_is); (case iC_EF => k_is); (case sC_EF => first | rfl | k_is)
  case hZ => refine' K36.zef_mk ?a_hZ ?l_hZ; (case a_hZ => k_is); (case l_hZ => k_is)
  case hI => refine' K36.fni_mk ?mk_hI ?a_hI ?i_hI ?kc_hI ?l_hI ?c_hI ?t_hI; (case mk_hI => k_is); (case a_hI => k_is); (case i_hI => k_is); (case kc_hI => k_is); (case l_hI => k_is); (case c_hI => k_is); (case t_hI => k_is)
  case hP => refine' K36.prf_mk ?a_hP ?gp_hP ?tk_hP ?rc_hP ?l_hP ?c_hP ?k_hP; (case a_hP => k_is); (case gp_hP => k_is); (case tk_hP => k_is); (case rc_hP => k_is); (case l_hP => k_is); (case c_hP => k_is); (case k_hP => k_is)
  case hF => refine' K36.fnc_mk ?a_hF ?i_hF ?l_hF ?c_hF ?k_hF; (case a_hF => k_is); (case i_hF => k_is); (case l_hF => k_is); (case c_hF => k_is); (case k_hF => k_is)
  case h_is_sequence => refine' K36.fnf_mk ?a_h_is_sequence ?l_h_is_sequence ?c_h_is_sequence ?k_h_is_sequence; (case a_h_is_sequence => k_is); (case l_h_is_sequence => k_is); (case c_h_is_sequence => k_is); (case k_h_is_sequence => k_is)
  case h_is_whole => refine' K36.fnd_mk ?a_h_is_whole ?l_h_is_whole ?c_h_is_whole ?k_h_is_whole ?t_h_is_whole; (case a_h_is_whole => k_is); (case l_h_is_whole => k_is); (case c_h_is_whole => k_is); (case k_h_is_whole => k_is); (case t_h_is_whole => k_is)
  case h_common_divisor => refine' K36.fnf_mk ?a_h_common_divisor ?l_h_common_divisor ?c_h_common_divisor ?k_h_common_divisor; (case a_h_common_divisor => k_is); (case l_h_common_divisor => k_is); (case c_h_common_divisor => k_is); (case k_h_common_divisor => k_is)
  case h_make_ratio => refine' K36.fnd_mk ?a_h_make_ratio ?l_h_make_ratio ?c_h_make_ratio ?k_h_make_ratio ?t_h_make_ratio; (case a_h_make_ratio => k_is); (case l_h_make_ratio => k_is); (case c_h_make_ratio => k_is); (case k_h_make_ratio => k_is); (case t_h_make_ratio => k_is)
  case h_is_ratio => refine' K36.fnf_mk ?a_h_is_ratio ?l_h_is_ratio ?c_h_is_ratio ?k_h_is_ratio; (case a_h_is_ratio => k_is); (case l_h_is_ratio => k_is); (case c_h_is_ratio => k_is); (case k_h_is_ratio => k_is)
  case h_as_ratio => refine' K36.fnf_mk ?a_h_as_ratio ?l_h_as_ratio ?c_h_as_ratio ?k_h_as_ratio; (case a_h_as_ratio => k_is); (case l_h_as_ratio => k_is); (case c_h_as_ratio => k_is); (case k_h_as_ratio => k_is)
  case h_is_couple => refine' K36.fnf_mk ?a_h_is_couple ?l_h_is_couple ?c_h_is_couple ?k_h_is_couple; (case a_h_is_couple => k_is); (case l_h_is_couple => k_is); (case c_h_is_couple => k_is); (case k_h_is_couple => k_is)
  case h_checked_cells => refine' K36.fnf_mk ?a_h_checked_cells ?l_h_checked_cells ?c_h_checked_cells ?k_h_checked_cells; (case a_h_checked_cells => k_is); (case l_h_checked_cells => k_is); (case c_h_checked_cells => k_is); (case k_h_checked_cells => k_is)
  case h_checked_letters => refine' K36.fnf_mk ?a_h_checked_letters ?l_h_checked_letters ?c_h_checked_letters ?k_h_checked_letters; (case a_h_checked_letters => k_is); (case l_h_checked_letters => k_is); (case c_h_checked_letters => k_is); (case k_h_checked_letters => k_is)
  case h_check_numbers => refine' K36.fnf_mk ?a_h_check_numbers ?l_h_check_numbers ?c_h_check_numbers ?k_h_check_numbers; (case a_h_check_numbers => k_is); (case l_h_check_numbers => k_is); (case c_h_check_numbers => k_is); (case k_h_check_numbers => k_is)
  case h_check_ask => refine' K36.fnd_mk ?a_h_check_ask ?l_h_check_ask ?c_h_check_ask ?k_h_check_ask ?t_h_check_ask; (case a_h_check_ask => k_is); (case l_h_check_ask => k_is); (case c_h_check_ask => k_is); (case k_h_check_ask => k_is); (case t_h_check_ask => k_is)
  case h_check_book => refine' K36.fnf_mk ?a_h_check_book ?l_h_check_book ?c_h_check_book ?k_h_check_book; (case a_h_check_book => k_is); (case l_h_check_book => k_is); (case c_h_check_book => k_is); (case k_h_check_book => k_is)
  case h_answers_many => refine' K36.fnf_mk ?a_h_answers_many ?l_h_answers_many ?c_h_answers_many ?k_h_answers_many; (case a_h_answers_many => k_is); (case l_h_answers_many => k_is); (case c_h_answers_many => k_is); (case k_h_answers_many => k_is)
  case h_span_rows => refine' K36.fnf_mk ?a_h_span_rows ?l_h_span_rows ?c_h_span_rows ?k_h_span_rows; (case a_h_span_rows => k_is); (case l_h_span_rows => k_is); (case c_h_span_rows => k_is); (case k_h_span_rows => k_is)
  case h_whole_multiple => refine' K36.fnf_mk ?a_h_whole_multiple ?l_h_whole_multiple ?c_h_whole_multiple ?k_h_whole_multiple; (case a_h_whole_multiple => k_is); (case l_h_whole_multiple => k_is); (case c_h_whole_multiple => k_is); (case k_h_whole_multiple => k_is)
  case h_book_answers => refine' K36.fnf_mk ?a_h_book_answers ?l_h_book_answers ?c_h_book_answers ?k_h_book_answers; (case a_h_book_answers => k_is); (case l_h_book_answers => k_is); (case c_h_book_answers => k_is); (case k_h_book_answers => k_is)
  case h_power_asks => refine' K36.fnf_mk ?a_h_power_asks ?l_h_power_asks ?c_h_power_asks ?k_h_power_asks; (case a_h_power_asks => k_is); (case l_h_power_asks => k_is); (case c_h_power_asks => k_is); (case k_h_power_asks => k_is)
  case h_book_text => refine' K36.fnf_mk ?a_h_book_text ?l_h_book_text ?c_h_book_text ?k_h_book_text; (case a_h_book_text => k_is); (case l_h_book_text => k_is); (case c_h_book_text => k_is); (case k_h_book_text => k_is)
  case h_law_hand => refine' K36.fnf_mk ?a_h_law_hand ?l_h_law_hand ?c_h_law_hand ?k_h_law_hand; (case a_h_law_hand => k_is); (case l_h_law_hand => k_is); (case c_h_law_hand => k_is); (case k_h_law_hand => k_is)
  case h_law_mixed => refine' K36.fnf_mk ?a_h_law_mixed ?l_h_law_mixed ?c_h_law_mixed ?k_h_law_mixed; (case a_h_law_mixed => k_is); (case l_h_law_mixed => k_is); (case c_h_law_mixed => k_is); (case k_h_law_mixed => k_is)
  case h_law_take => refine' K36.fnf_mk ?a_h_law_take ?l_h_law_take ?c_h_law_take ?k_h_law_take; (case a_h_law_take => k_is); (case l_h_law_take => k_is); (case c_h_law_take => k_is); (case k_h_law_take => k_is)
  case h_law_size => refine' K36.fnf_mk ?a_h_law_size ?l_h_law_size ?c_h_law_size ?k_h_law_size; (case a_h_law_size => k_is); (case l_h_law_size => k_is); (case c_h_law_size => k_is); (case k_h_law_size => k_is)
  case h_law_wide => refine' K36.fnf_mk ?a_h_law_wide ?l_h_law_wide ?c_h_law_wide ?k_h_law_wide; (case a_h_law_wide => k_is); (case l_h_law_wide => k_is); (case c_h_law_wide => k_is); (case k_h_law_wide => k_is)
  case h_law_pairs => refine' K36.fnf_mk ?a_h_law_pairs ?l_h_law_pairs ?c_h_law_pairs ?k_h_law_pairs; (case a_h_law_pairs => k_is); (case l_h_law_pairs => k_is); (case c_h_law_pairs => k_is); (case k_h_law_pairs => k_is)
  case h_law_cells => refine' K36.fnf_mk ?a_h_law_cells ?l_h_law_cells ?c_h_law_cells ?k_h_law_cells; (case a_h_law_cells => k_is); (case l_h_law_cells => k_is); (case c_h_law_cells => k_is); (case k_h_law_cells => k_is)
  case h_law_letters => refine' K36.fnf_mk ?a_h_law_letters ?l_h_law_letters ?c_h_law_letters ?k_h_law_letters; (case a_h_law_letters => k_is); (case l_h_law_letters => k_is); (case c_h_law_letters => k_is); (case k_h_law_letters => k_is)
  case h_law_many => refine' K36.fnf_mk ?a_h_law_many ?l_h_law_many ?c_h_law_many ?k_h_law_many; (case a_h_law_many => k_is); (case l_h_law_many => k_is); (case c_h_law_many => k_is); (case k_h_law_many => k_is)
  case h_law_number => refine' K36.fnf_mk ?a_h_law_number ?l_h_law_number ?c_h_law_number ?k_h_law_number; (case a_h_law_number => k_is); (case l_h_law_number => k_is); (case c_h_law_number => k_is); (case k_h_law_number => k_is)
  case h_law_ask => refine' K36.fnf_mk ?a_h_law_ask ?l_h_law_ask ?c_h_law_ask ?k_h_law_ask; (case a_h_law_ask => k_is); (case l_h_law_ask => k_is); (case c_h_law_ask => k_is); (case k_h_law_ask => k_is)
  case h_law_book => refine' K36.fnf_mk ?a_h_law_book ?l_h_law_book ?c_h_law_book ?k_h_law_book; (case a_h_law_book => k_is); (case l_h_law_book => k_is); (case c_h_law_book => k_is); (case k_h_law_book => k_is)
  case h_law_ratio => refine' K36.fnf_mk ?a_h_law_ratio ?l_h_law_ratio ?c_h_law_ratio ?k_h_law_ratio; (case a_h_law_ratio => k_is); (case l_h_law_ratio => k_is); (case c_h_law_ratio => k_is); (case k_h_law_ratio => k_is)
  case h_law_filling => refine' K36.fnf_mk ?a_h_law_filling ?l_h_law_filling ?c_h_law_filling ?k_h_law_filling; (case a_h_law_filling => k_is); (case l_h_law_filling => k_is); (case c_h_law_filling => k_is); (case k_h_law_filling => k_is)
  case h_law_span => refine' K36.fnf_mk ?a_h_law_span ?l_h_law_span ?c_h_law_span ?k_h_law_span; (case a_h_law_span => k_is); (case l_h_law_span => k_is); (case c_h_law_span => k_is); (case k_h_law_span => k_is)
  case h_law_sum => refine' K36.fnf_mk ?a_h_law_sum ?l_h_law_sum ?c_h_law_sum ?k_h_law_sum; (case a_h_law_sum => k_is); (case l_h_law_sum => k_is); (case c_h_law_sum => k_is); (case k_h_law_sum => k_is)
  case h_law_answers => refine' K36.fnf_mk ?a_h_law_answers ?l_h_law_answers ?c_h_law_answers ?k_h_law_answers; (case a_h_law_answers => k_is); (case l_h_law_answers => k_is); (case c_h_law_answers => k_is); (case k_h_law_answers => k_is)
  case h_law_rid => refine' K36.fnf_mk ?a_h_law_rid ?l_h_law_rid ?c_h_law_rid ?k_h_law_rid; (case a_h_law_rid => k_is); (case l_h_law_rid => k_is); (case c_h_law_rid => k_is); (case k_h_law_rid => k_is)
  case h_law_seq => refine' K36.fnf_mk ?a_h_law_seq ?l_h_law_seq ?c_h_law_seq ?k_h_law_seq; (case a_h_law_seq => k_is); (case l_h_law_seq => k_is); (case c_h_law_seq => k_is); (case k_h_law_seq => k_is)
  case h_law_int => refine' K36.fnf_mk ?a_h_law_int ?l_h_law_int ?c_h_law_int ?k_h_law_int; (case a_h_law_int => k_is); (case l_h_law_int => k_is); (case c_h_law_int => k_is); (case k_h_law_int => k_is)
  case h_law_within => refine' K36.fnf_mk ?a_h_law_within ?l_h_law_within ?c_h_law_within ?k_h_law_within; (case a_h_law_within => k_is); (case l_h_law_within => k_is); (case c_h_law_within => k_is); (case k_h_law_within => k_is)
  case h_law_loose => refine' K36.fnf_mk ?a_h_law_loose ?l_h_law_loose ?c_h_law_loose ?k_h_law_loose; (case a_h_law_loose => k_is); (case l_h_law_loose => k_is); (case c_h_law_loose => k_is); (case k_h_law_loose => k_is)
  case h_law_spoiled => refine' K36.fnf_mk ?a_h_law_spoiled ?l_h_law_spoiled ?c_h_law_spoiled ?k_h_law_spoiled; (case a_h_law_spoiled => k_is); (case l_h_law_spoiled => k_is); (case c_h_law_spoiled => k_is); (case k_h_law_spoiled => k_is)
  case h_law_ask_due => refine' K36.fnf_mk ?a_h_law_ask_due ?l_h_law_ask_due ?c_h_law_ask_due ?k_h_law_ask_due; (case a_h_law_ask_due => k_is); (case l_h_law_ask_due => k_is); (case c_h_law_ask_due => k_is); (case k_h_law_ask_due => k_is)
  case h_law_book_due => refine' K36.fnf_mk ?a_h_law_book_due ?l_h_law_book_due ?c_h_law_book_due ?k_h_law_book_due; (case a_h_law_book_due => k_is); (case l_h_law_book_due => k_is); (case c_h_law_book_due => k_is); (case k_h_law_book_due => k_is)
  case h_law_asked => refine' K36.fnf_mk ?a_h_law_asked ?l_h_law_asked ?c_h_law_asked ?k_h_law_asked; (case a_h_law_asked => k_is); (case l_h_law_asked => k_is); (case c_h_law_asked => k_is); (case k_h_law_asked => k_is)
  case h_law_booked => refine' K36.fnf_mk ?a_h_law_booked ?l_h_law_booked ?c_h_law_booked ?k_h_law_booked; (case a_h_law_booked => k_is); (case l_h_law_booked => k_is); (case c_h_law_booked => k_is); (case k_h_law_booked => k_is)
  case h_law_spanned => refine' K36.fnf_mk ?a_h_law_spanned ?l_h_law_spanned ?c_h_law_spanned ?k_h_law_spanned; (case a_h_law_spanned => k_is); (case l_h_law_spanned => k_is); (case c_h_law_spanned => k_is); (case k_h_law_spanned => k_is)
  case h_law_products => refine' K36.fnf_mk ?a_h_law_products ?l_h_law_products ?c_h_law_products ?k_h_law_products; (case a_h_law_products => k_is); (case l_h_law_products => k_is); (case c_h_law_products => k_is); (case k_h_law_products => k_is)
  case h_law_odd_ask => refine' K36.fnf_mk ?a_h_law_odd_ask ?l_h_law_odd_ask ?c_h_law_odd_ask ?k_h_law_odd_ask; (case a_h_law_odd_ask => k_is); (case l_h_law_odd_ask => k_is); (case c_h_law_odd_ask => k_is); (case k_h_law_odd_ask => k_is)
  case h_law_powers => refine' K36.fnf_mk ?a_h_law_powers ?l_h_law_powers ?c_h_law_powers ?k_h_law_powers; (case a_h_law_powers => k_is); (case l_h_law_powers => k_is); (case c_h_law_powers => k_is); (case k_h_law_powers => k_is)
  case h_law_refused => refine' K36.fnf_mk ?a_h_law_refused ?l_h_law_refused ?c_h_law_refused ?k_h_law_refused; (case a_h_law_refused => k_is); (case l_h_law_refused => k_is); (case c_h_law_refused => k_is); (case k_h_law_refused => k_is)
  case h_law => refine' K36.fnf_mk ?a_h_law ?l_h_law ?c_h_law ?k_h_law; (case a_h_law => k_is); (case l_h_law => k_is); (case c_h_law => k_is); (case k_h_law => k_is)
