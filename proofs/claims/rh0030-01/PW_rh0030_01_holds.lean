import PyProof.Rows.All
import Wide.All
import OpenK.AllK
import Wide.FinOn
import PySem.Challenge.RW_rh0030_01
set_option Elab.async false
set_option maxRecDepth 100000
set_option linter.unusedVariables false
namespace GP
section

open PySem PySem.W PySem.Calls PyProof.Rows

noncomputable abbrev Rt := Int × Int
noncomputable abbrev Poly := List (Int × Rt)
noncomputable abbrev Kind := Poly × Rt × Int
noncomputable abbrev GD := List (Kind × Rt)
noncomputable abbrev G := Addr → Option Obj

/-- plain data -/
inductive DV where
  | none
  | bool (b : Bool)
  | int (i : Int)
  | str (s : Str)
  | tup (l : List DV)
  | lst (l : List DV)
  | gd (l : GD)

noncomputable def rd (r : Rt) : DV := .tup [.int r.1, .int r.2]
noncomputable def pd (p : Poly) : DV := .tup (p.map fun t => .tup [.int t.1, rd t.2])
noncomputable def kd (k : Kind) : DV := .tup [pd k.1, rd k.2.1, .int k.2.2]

mutual
noncomputable def hashD : DV → Int
  | .int i => hashInt i
  | .tup l => reduceHash (Builtin.Tuple.tupleHashOf (hashL l))
  | _ => 0
noncomputable def hashL : List DV → List Int
  | [] => []
  | d :: r => hashD d :: hashL r
end
mutual
noncomputable def drawsD : DV → Nat
  | .tup l => drawsL l + 1
  | _ => 1
noncomputable def drawsL : List DV → Nat
  | [] => 0
  | d :: r => drawsD d + drawsL r
end
mutual
noncomputable def deepD : DV → Nat
  | .tup l => deepL l + 1
  | _ => 0
noncomputable def deepL : List DV → Nat
  | [] => 0
  | d :: r => max (deepD d) (deepL r)
end
mutual
noncomputable def HD : DV → Prop
  | .int _ => True
  | .tup l => HDL l
  | _ => False
noncomputable def HDL : List DV → Prop
  | [] => True
  | d :: r => HD d ∧ HDL r
end

mutual
inductive Rd (g : G) : Value → DV → Prop
  | none : Rd g .none .none
  | bool (x : Bool) : Rd g (.bool x) (.bool x)
  | int (i : Int) (t : Tok) : Rd g (.int i t) (.int i)
  | str (x : Str) (t : Tok) : Rd g (.str x t) (.str x)
  | tup {a : Addr} {o : Obj} {its : Array Value} {n : Nat} {ds : List DV} : g a = some o → o.cls = .type "tuple" → o.data = .seq its n → RdL g its.toList ds → Rd g (.ref a) (.tup ds)
  | lst {a : Addr} {o : Obj} {its : Array Value} {n : Nat} {ds : List DV} : g a = some o → o.cls = .type "list" → o.data = .seq its n → RdL g its.toList ds → Rd g (.ref a) (.lst ds)
  | gd {a : Addr} {o : Obj} {es : Array DictEntry} {n : Nat} {l : GD} : g a = some o → o.ExactDict → o.data = .dict es n → RdE g es.toList l → (a == sysModules) = false → (l.map (·.1)).Nodup → Rd g (.ref a) (.gd l)
inductive RdL (g : G) : List Value → List DV → Prop
  | nil : RdL g [] []
  | cons {v : Value} {d : DV} {vs : List Value} {ds : List DV} : Rd g v d → RdL g vs ds → RdL g (v :: vs) (d :: ds)
inductive RdE (g : G) : List DictEntry → GD → Prop
  | nil : RdE g [] []
  | cons {e : DictEntry} {k : Kind} {r : Rt} {es : List DictEntry} {l : GD} : Rd g e.key (kd k) → Rd g e.val (rd r) → e.hash = hashD (kd k) → RdE g es l → RdE g (e :: es) ((k, r) :: l)
end

section
variable {g : G} {v : Value}
theorem Rd.noneE {motive : (v : Value) → Rd g v .none → Prop} (none : motive .none .none) {v : Value} (r : Rd g v .none) : motive v r := by cases r; exact none
theorem Rd.boolE {x : Bool} {motive : (v : Value) → Rd g v (.bool x) → Prop} (bool : motive (.bool x) (.bool x)) {v : Value} (r : Rd g v (.bool x)) : motive v r := by cases r; exact bool
theorem Rd.intE {i : Int} {motive : (v : Value) → Rd g v (.int i) → Prop} (int : ∀ t : Tok, motive (.int i t) (.int i t)) {v : Value} (r : Rd g v (.int i)) : motive v r := by cases r with | int _ t => exact int t
theorem Rd.strE {x : Str} {motive : (v : Value) → Rd g v (.str x) → Prop} (str : ∀ t : Tok, motive (.str x t) (.str x t)) {v : Value} (r : Rd g v (.str x)) : motive v r := by cases r with | str _ t => exact str t
theorem Rd.tupE {ds : List DV} {motive : (v : Value) → Rd g v (.tup ds) → Prop} (tup : ∀ {a : Addr} {o : Obj} {its : Array Value} {n : Nat} (h1 : g a = some o) (h2 : o.cls = .type "tuple") (h3 : o.data = .seq its n) (h4 : RdL g its.toList ds), motive (.ref a) (.tup h1 h2 h3 h4)) {v : Value} (r : Rd g v (.tup ds)) : motive v r := by
  cases r with | tup a b c d => exact tup a b c d
theorem Rd.lstE {ds : List DV} {motive : (v : Value) → Rd g v (.lst ds) → Prop} (lst : ∀ {a : Addr} {o : Obj} {its : Array Value} {n : Nat} (h1 : g a = some o) (h2 : o.cls = .type "list") (h3 : o.data = .seq its n) (h4 : RdL g its.toList ds), motive (.ref a) (.lst h1 h2 h3 h4)) {v : Value} (r : Rd g v (.lst ds)) : motive v r := by
  cases r with | lst a b c d => exact lst a b c d
theorem Rd.gdE {l : GD} {motive : (v : Value) → Rd g v (.gd l) → Prop} (gd : ∀ {a : Addr} {o : Obj} {es : Array DictEntry} {n : Nat} (h1 : g a = some o) (h2 : o.ExactDict) (h3 : o.data = .dict es n) (h4 : RdE g es.toList l) (h5 : (a == sysModules) = false) (h6 : (l.map (·.1)).Nodup), motive (.ref a) (.gd h1 h2 h3 h4 h5 h6)) {v : Value} (r : Rd g v (.gd l)) : motive v r := by
  cases r with | gd a b c d e f => exact gd a b c d e f
theorem RdL.nilE {motive : (vs : List Value) → RdL g vs [] → Prop} (nil : motive [] .nil) {vs : List Value} (r : RdL g vs []) : motive vs r := by cases r; exact nil
theorem RdL.consE {d : DV} {ds : List DV} {motive : (vs : List Value) → RdL g vs (d :: ds) → Prop} (cons : ∀ {v : Value} {vs : List Value} (h1 : Rd g v d) (h2 : RdL g vs ds), motive (v :: vs) (.cons h1 h2)) {vs : List Value} (r : RdL g vs (d :: ds)) : motive vs r := by
  cases r with | cons a b => exact cons a b
end

noncomputable def Le (g g' : G) : Prop := ∀ a o, g a = some o → g' a = some o
theorem Le.refl (g : G) : Le g g := fun _ _ e => e
theorem Le.trans {a b c : G} (x : Le a b) (y : Le b c) : Le a c := fun i o e => y i o (x i o e)

theorem Rd.mono {g g' : G} (h : Le g g') {v : Value} {d : DV} (r : Rd g v d) : Rd g' v d := Rd.rec (motive_1 := fun v d _ => Rd g' v d) (motive_2 := fun vs ds _ => RdL g' vs ds) (motive_3 := fun es l _ => RdE g' es l) .none .bool .int .str (fun e c x _ ih => .tup (h _ _ e) c x ih) (fun e c x _ ih => .lst (h _ _ e) c x ih) (fun e c x _ m k ih => .gd (h _ _ e) c x ih m k) .nil (fun _ _ a b => .cons a b) .nil (fun _ _ e _ a b c => .cons a b e c) r
theorem RdL.mono {g g' : G} (h : Le g g') {v : List Value} {d : List DV} (r : RdL g v d) : RdL g' v d := RdL.rec (motive_1 := fun v d _ => Rd g' v d) (motive_2 := fun vs ds _ => RdL g' vs ds) (motive_3 := fun es l _ => RdE g' es l) .none .bool .int .str (fun e c x _ ih => .tup (h _ _ e) c x ih) (fun e c x _ ih => .lst (h _ _ e) c x ih) (fun e c x _ m k ih => .gd (h _ _ e) c x ih m k) .nil (fun _ _ a b => .cons a b) .nil (fun _ _ e _ a b c => .cons a b e c) r
theorem RdE.mono {g g' : G} (h : Le g g') {v : List DictEntry} {d : GD} (r : RdE g v d) : RdE g' v d := RdE.rec (motive_1 := fun v d _ => Rd g' v d) (motive_2 := fun vs ds _ => RdL g' vs ds) (motive_3 := fun es l _ => RdE g' es l) .none .bool .int .str (fun e c x _ ih => .tup (h _ _ e) c x ih) (fun e c x _ ih => .lst (h _ _ e) c x ih) (fun e c x _ m k ih => .gd (h _ _ e) c x ih m k) .nil (fun _ _ a b => .cons a b) .nil (fun _ _ e _ a b c => .cons a b e c) r

theorem RdL.length {g : G} {vs : List Value} : ∀ {ds : List DV}, RdL g vs ds → vs.length = ds.length := by
  induction vs with
  | nil => intro ds h; cases h; rfl
  | cons v vs ih => intro ds h; cases h with | cons _ r => simp [ih r]
theorem RdL.get {g : G} : ∀ {vs : List Value} {ds : List DV}, RdL g vs ds → ∀ {i : Nat} {d : DV}, ds[i]? = some d → ∃ v, vs[i]? = some v ∧ Rd g v d := by
  intro vs
  induction vs with
  | nil => intro ds h i d e; cases h; cases e
  | cons v vs ih =>
    intro ds h i d e
    cases h with
    | cons x r =>
      cases i with
      | zero => cases e; exact ⟨v, rfl, x⟩
      | succ i => exact ih r e
theorem RdL.append {g : G} {vs us : List Value} {ds es : List DV} (h : RdL g vs ds) (h' : RdL g us es) : RdL g (vs ++ us) (ds ++ es) := by
  induction vs generalizing ds with
  | nil => cases h; exact h'
  | cons v vs ih => cases h with | cons x r => exact .cons x (ih r)

section
variable {prog : Program} {w : World}

mutual
theorem hash_dv : ∀ (d : DV), HD d → ∀ {A : Around} {E : Value → Shared → Prop} {s : Shared} {v : Value} {Q : Int → Shared → Prop} {g : G}, Le g s.heap.get? → Rd g v d → A.units + deepD d < cLine →
    Q (hashD d) { s with toks := s.toks + drawsD d } → wpAny (model prog w) A (pyHash v) Q E s
  | .int i, _ => by
    intro hg hr hu h
    cases hr with
    | int _ t => exact wpAny_pyHash_int (by simpa [hashD, drawsD] using h)
  | .tup l, hh => by
    rename_i A E s v Q g; intro hg hr hu h
    cases hr with
    | @tup a o its n _ ho0 hc hd hl =>
      have ho := hg _ _ ho0
      have hT : s.TypeIs (.ref a) "tuple" := ⟨o, ho, hc⟩
      simp only [deepD] at hu
      unfold pyHash
      first | unfold pyHashByItsType | skip
      first | refine wpAny_bind (wpAny_cRoomFor_or (.inr (by omega)) ?_) | skip
      refine wpAny_bind (wpAny_specialOf hT F.slot_tuple_hash.lookup ?_)
      show wpAny _ _ (if (some (Value.builtin "tuple.__hash__") == some Value.none) = true then _ else _) Q E s
      rw [if_neg (by rw [beq_builtin_none]; exact Bool.false_ne_true)]
      refine wpAny_bind (wpAny_specialOf hT F.slot_tuple_hash.lookup ?_)
      show wpAny _ _ (callSpecialIfBoundUnlessNone? (.ref a) "__hash__" _ >>= _) Q E s
      refine wpAny_bind (wpAny_callSpecialIfBoundUnlessNone?_slot hT F.slot_tuple_hash (wpAny_call_entry F.slot_tuple_hash hT F.entry_tuple_hash ?_ (F.args_tuple_hash_1 _)))
      show wpAny _ _ (Builtin.Tuple.tupleItemsOf (.ref a) >>= _) _ _ s
      refine wpAny_bind (wpAny_tupleItemsOf ho hd ?_)
      refine wpAny_bind ?_
      rw [← Array.forIn_toList]
      refine hash_dl l hh hg hl (by show A.units + 1 + deepL l < cLine; omega) (acc := #[]) ?_
      show wpAny _ _ (retInt (Builtin.Tuple.tupleHashOf (#[] ++ (hashL l).toArray).toList)) _ _ _
      rw [show (#[] ++ (hashL l).toArray : Array Int).toList = hashL l by simp]
      refine wpAny_ret_mkInt ?_
      show wpAny _ _ (if (decide (-(2 : Int) ^ 63 ≤ Builtin.Tuple.tupleHashOf (hashL l)) && decide (Builtin.Tuple.tupleHashOf (hashL l) < 2 ^ 63)) = true then _ else _) Q E _
      simp only [hashD, drawsD] at h
      unfold reduceHash at h
      by_cases hrr : (decide (-(2 : Int) ^ 63 ≤ Builtin.Tuple.tupleHashOf (hashL l)) && decide (Builtin.Tuple.tupleHashOf (hashL l) < 2 ^ 63)) = true
      · rw [if_pos hrr]
        rw [if_pos hrr] at h
        exact wpAny_pure (by simpa [Nat.add_assoc] using h)
      · rw [if_neg hrr]
        rw [if_neg hrr] at h
        exact wpAny_bind (wpAny_rule (wpAny_pure (by simpa [Nat.add_assoc] using h)))
theorem hash_dl : ∀ (l : List DV), HDL l → ∀ {A : Around} {E : Value → Shared → Prop} {s : Shared} {vs : List Value} {Q : Array Int → Shared → Prop} {g : G} {acc : Array Int}, Le g s.heap.get? → RdL g vs l → A.units + deepL l < cLine →
    Q (acc ++ (hashL l).toArray) { s with toks := s.toks + drawsL l } →
    wpAny (model prog w) A (forIn vs acc fun x r => do let h ← pyHash x; pure PUnit.unit; pure (ForInStep.yield (r.push h))) Q E s
  | [], _ => by
    intro hg hl hu h
    cases hl
    rw [List.forIn_nil]
    exact wpAny_pure (by simpa [hashL, drawsL] using h)
  | d :: r, hh => by
    rename_i A E s vs Q g acc; intro hg hl hu h
    cases hl with
    | @cons v _ vs _ hv hr =>
      rw [List.forIn_cons]
      simp only [deepL] at hu
      refine wpAny_bind (wpAny_bind (hash_dv d hh.1 hg hv (by omega) ?_))
      refine wpAny_bind (wpAny_pure (wpAny_pure ?_))
      refine hash_dl r hh.2 (s := { s with toks := s.toks + drawsD d }) hg hr (by omega) ?_
      simpa [hashL, drawsL, Nat.add_assoc] using h
end
end

end
section

open PySem PySem.W PySem.Calls PyProof.Rows PySem.SeqAt

mutual
noncomputable def shp : DV → DV → Prop
  | .int _, .int _ => True
  | .str _, .str _ => True
  | .tup l, .tup m => shpL l m
  | _, _ => False
noncomputable def shpL : List DV → List DV → Prop
  | d :: r, e :: q => shp d e ∧ shpL r q
  | _, _ => True
end
mutual
noncomputable def eqD : DV → DV → Bool
  | .int i, .int j => i == j
  | .str x, .str y => x == y
  | .tup l, .tup m => eqDL l m
  | _, _ => false
noncomputable def eqDL : List DV → List DV → Bool
  | [], [] => true
  | d :: r, e :: q => eqD d e && eqDL r q
  | _, _ => false
end

theorem shp_int {i : Int} {e : DV} (h : shp (.int i) e) : ∃ j, e = .int j := by
  cases e with
  | int j => exact ⟨j, rfl⟩
  | _ => exact False.elim h
theorem shp_str {x : Str} {e : DV} (h : shp (.str x) e) : ∃ j, e = .str j := by
  cases e with
  | str j => exact ⟨j, rfl⟩
  | _ => exact False.elim h
theorem shp_tup {l : List DV} {e : DV} (h : shp (.tup l) e) : ∃ m, e = .tup m ∧ shpL l m := by
  cases e with
  | tup m => exact ⟨m, rfl, h⟩
  | _ => exact False.elim h
theorem seq_same {g g' : G} {h : Heap} {a : Addr} {o o' : Obj} {its its' : Array Value} {n n' : Nat} (hg : Le g h.get?) (hg' : Le g' h.get?) (a1 : g a = some o) (a2 : o.data = .seq its n) (b1 : g' a = some o') (b2 : o'.data = .seq its' n') : its = its' := by
  have e := (hg _ _ a1).symm.trans (hg' _ _ b1)
  rw [Option.some.inj e, b2] at a2
  cases a2; rfl

mutual
theorem rd_fun' (h : Heap) (g g' : G) (hg : Le g h.get?) (hg' : Le g' h.get?) : ∀ (d e : DV) (v : Value), shp d e → Rd g v d → Rd g' v e → eqD d e = true
  | .int i, e, v, hs, h1, h2 => by
    obtain ⟨j, rfl⟩ := shp_int hs
    cases h1 using Rd.intE; cases h2 using Rd.intE; exact beq_self_eq_true i
  | .str x, e, v, hs, h1, h2 => by
    obtain ⟨j, rfl⟩ := shp_str hs
    cases h1 using Rd.strE; cases h2 using Rd.strE; exact beq_self_eq_true x
  | .tup l, e, v, hs, h1, h2 => by
    obtain ⟨m, rfl, hs⟩ := shp_tup hs
    cases h1 using Rd.tupE with
    | tup a1 a2 a3 a4 =>
    cases h2 using Rd.tupE with
    | tup b1 b2 b3 b4 => exact rd_funL' h g g' hg hg' l m _ hs a4 (seq_same hg hg' a1 a3 b1 b3 ▸ b4)
  | .none, _, _, hs, _, _ | .bool _, _, _, hs, _, _ | .lst _, _, _, hs, _, _ | .gd _, _, _, hs, _, _ => False.elim hs
theorem rd_funL' (h : Heap) (g g' : G) (hg : Le g h.get?) (hg' : Le g' h.get?) : ∀ (l m : List DV) (vs : List Value), shpL l m → RdL g vs l → RdL g' vs m → eqDL l m = true
  | [], m, vs, hs, h1, h2 => by
    cases h1 using RdL.nilE
    cases h2
    rfl
  | d :: r, m, vs, hs, h1, h2 => by
    cases h1 using RdL.consE with
    | cons x y =>
    cases h2 with
    | cons x' y' => exact (Bool.and_eq_true _ _).mpr ⟨rd_fun' h g g' hg hg' d _ _ hs.1 x x', rd_funL' h g g' hg hg' r _ _ hs.2 y y'⟩
end

theorem rd_fun (d e : DV) (hs : shp d e) {h : Heap} {g g' : G} {v : Value} (hg : Le g h.get?) (hg' : Le g' h.get?) (h1 : Rd g v d) (h2 : Rd g' v e) : eqD d e = true := rd_fun' h g g' hg hg' d e v hs h1 h2
theorem eqDL_range : ∀ (l m : List DV), eqDL l m = ((List.range (min l.length m.length)).all (fun j => match l[j]?, m[j]? with | some d, some e => eqD d e | _, _ => false) && l.length == m.length)
  | [], [] => by simp [eqDL]
  | [], _ :: _ => by simp [eqDL]
  | _ :: _, [] => by simp [eqDL]
  | d :: r, e :: q => by
    simp only [eqDL, eqDL_range r q, List.length_cons, Nat.succ_min_succ, List.range_succ_eq_map, List.all_cons, List.all_map, List.getElem?_cons_zero]
    rw [Bool.and_assoc]
    congr 2
    simp [Bool.beq_eq_decide_eq]

noncomputable def eqJ (l m : List DV) (j : Nat) : Bool := match l[j]?, m[j]? with | some d, some e => eqD d e | _, _ => false
theorem rcAt_key {l m : List DV} {A : Around} {s : Shared} {g g' : G} {a a' : Addr} {its its' : Array Value} (t1 : s.heap.IsTuple a its) (t2 : s.heap.IsTuple a' its') (h1 : RdL g its.toList l) (h2 : RdL g' its'.toList m) (hu : A.units + (deepL l + 1) < cLine)
    (key : ∀ j (h1 : j < its.toList.length) (h2 : j < its'.toList.length), EqAt A.in1 s its.toList[j] its'.toList[j] (eqJ l m j)) : RcAt A s (.ref a) (.ref a') (eqDL l m) := by
  have l1 := h1.length
  have l2 := h2.length
  rw [Array.length_toList] at l1 l2
  rw [eqDL_range, ← l1, ← l2]
  exact RcAt.tuples t1 t2 (by omega) fun j hj1 hj2 => by
    have := key j hj1 hj2
    rw [Array.getElem_toList, Array.getElem_toList] at this
    exact this
mutual
theorem eqAt_dv' (s : Shared) (g g' : G) (hg : Le g s.heap.get?) (hg' : Le g' s.heap.get?) : ∀ (d e : DV) (A : Around) (v u : Value), shp d e → Rd g v d → Rd g' u e → A.units + deepD d < cLine → EqAt A s v u (eqD d e)
  | .int i, e, A, v, u, hs, h1, h2, hu => by
    obtain ⟨j, rfl⟩ := shp_int hs
    cases h1 using Rd.intE; cases h2 using Rd.intE; exact EqAt.int_int _ _ _ _
  | .str x, e, A, v, u, hs, h1, h2, hu => by
    obtain ⟨j, rfl⟩ := shp_str hs
    cases h1 using Rd.strE; cases h2 using Rd.strE; exact EqAt.str_str _ _ _ _
  | .tup l, e, A, v, u, hs, h1, h2, hu => by
    obtain ⟨m, rfl, hs'⟩ := shp_tup hs
    have hf := rd_fun' s.heap g g' hg hg' (.tup l) (.tup m) v hs h1
    cases h1 using Rd.tupE with
    | @tup a o its n a1 a2 a3 a4 =>
    cases h2 using Rd.tupE with
    | @tup a' o' its' n' b1 b2 b3 b4 =>
    by_cases hab : a = a'
    · rw [hf (hab ▸ .tup b1 b2 b3 b4), hab]
      exact EqAt.same _
    · exact EqAt.of_refs hab (rcAt_key ⟨_, hg _ _ a1, a2, _, a3⟩ ⟨_, hg' _ _ b1, b2, _, b3⟩ a4 b4 hu (eqAt_all' s g g' hg hg' l m A.in1 _ _ hs' a4 b4 (by have : A.units + (deepL l + 1) < cLine := hu; show A.units + 1 + deepL l < cLine; omega)))
  | .none, _, _, _, _, hs, _, _, _ | .bool _, _, _, _, _, hs, _, _, _ | .lst _, _, _, _, _, hs, _, _, _ | .gd _, _, _, _, _, hs, _, _, _ => False.elim hs
theorem eqAt_all' (s : Shared) (g g' : G) (hg : Le g s.heap.get?) (hg' : Le g' s.heap.get?) : ∀ (l m : List DV) (A : Around) (vs us : List Value), shpL l m → RdL g vs l → RdL g' us m → A.units + deepL l < cLine →
    ∀ j (h1 : j < vs.length) (h2 : j < us.length), EqAt A s vs[j] us[j] (eqJ l m j)
  | [], m, A, vs, us, hs, h1, h2, hu, j, hj1, hj2 => by
    cases h1 using RdL.nilE; exact absurd hj1 (Nat.not_lt_zero _)
  | d :: r, m, A, vs, us, hs, h1, h2, hu, j, hj1, hj2 => by
    cases h1 using RdL.consE with
    | cons x y =>
    cases h2 with
    | nil => exact absurd hj2 (Nat.not_lt_zero _)
    | cons x' y' =>
    have hm : A.units + max (deepD d) (deepL r) < cLine := hu
    cases j with
    | zero => exact eqAt_dv' s g g' hg hg' d _ A _ _ hs.1 x x' (Nat.lt_of_le_of_lt (Nat.add_le_add_left (Nat.le_max_left ..) _) hm)
    | succ j => exact eqAt_all' s g g' hg hg' r _ A _ _ hs.2 y y' (Nat.lt_of_le_of_lt (Nat.add_le_add_left (Nat.le_max_right ..) _) hm) j (Nat.lt_of_succ_lt_succ hj1) (Nat.lt_of_succ_lt_succ hj2)
end
theorem eqAt_dv (d e : DV) (hs : shp d e) {A : Around} {s : Shared} {g g' : G} {v u : Value} (hg : Le g s.heap.get?) (hg' : Le g' s.heap.get?) (h1 : Rd g v d) (h2 : Rd g' u e) (hu : A.units + deepD d < cLine) : EqAt A s v u (eqD d e) := eqAt_dv' s g g' hg hg' d e A v u hs h1 h2 hu
theorem eqAt_all (l m : List DV) (hs : shpL l m) {A : Around} {s : Shared} {g g' : G} {vs us : List Value} (hg : Le g s.heap.get?) (hg' : Le g' s.heap.get?) (h1 : RdL g vs l) (h2 : RdL g' us m) (hu : A.units + deepL l < cLine) (j : Nat) (j1 : j < vs.length) (j2 : j < us.length) : EqAt A s vs[j] us[j] (eqJ l m j) := eqAt_all' s g g' hg hg' l m A vs us hs h1 h2 hu j j1 j2
theorem rcAt_tup (l m : List DV) (hs : shpL l m) {A : Around} {s : Shared} {g g' : G} {a a' : Addr} {its its' : Array Value} (hg : Le g s.heap.get?) (hg' : Le g' s.heap.get?) (t1 : s.heap.IsTuple a its) (t2 : s.heap.IsTuple a' its') (h1 : RdL g its.toList l) (h2 : RdL g' its'.toList m) (hu : A.units + (deepL l + 1) < cLine) : RcAt A s (.ref a) (.ref a') (eqDL l m) :=
  rcAt_key t1 t2 h1 h2 hu (eqAt_all' s g g' hg hg' l m A.in1 _ _ hs h1 h2 (by show A.units + 1 + deepL l < cLine; omega))

end
section

open PySem PySem.W PySem.Calls PyProof.Rows PySem.SeqAt

theorem ibeq (a b : Int) : (a == b) = decide (a = b) := rfl
theorem shp_rd (x y : Rt) : shp (rd x) (rd y) := by simp [rd, shp, shpL]
theorem shpL_poly : ∀ x y : Poly, shpL (x.map fun t => DV.tup [.int t.1, rd t.2]) (y.map fun t => DV.tup [.int t.1, rd t.2])
  | [], _ => by simp [shpL]
  | _ :: _, [] => by simp [shpL]
  | a :: x, b :: y => by
    simp only [List.map_cons, shpL]
    exact ⟨by simp [shp, shpL, shp_rd], shpL_poly x y⟩
theorem shp_pd (x y : Poly) : shp (pd x) (pd y) := by simp only [pd, shp]; exact shpL_poly x y
theorem shp_kd (x y : Kind) : shp (kd x) (kd y) := by simp [kd, shp, shpL, shp_pd, shp_rd]

theorem eqD_rd (x y : Rt) : eqD (rd x) (rd y) = decide (x = y) := by
  obtain ⟨a, b⟩ := x
  obtain ⟨c, d⟩ := y
  simp [rd, eqD, eqDL, Prod.mk.injEq, Bool.decide_and, ibeq]
theorem eqDL_poly : ∀ x y : Poly, eqDL (x.map fun t => DV.tup [.int t.1, rd t.2]) (y.map fun t => DV.tup [.int t.1, rd t.2]) = decide (x = y)
  | [], [] => by simp [eqDL]
  | [], _ :: _ => by simp [eqDL]
  | _ :: _, [] => by simp [eqDL]
  | ⟨a, p⟩ :: x, ⟨b, q⟩ :: y => by
    simp only [List.map_cons, eqDL, eqDL_poly x y, eqD, eqD_rd, Bool.and_true]
    simp [Bool.decide_and, ibeq]
theorem eqD_pd (x y : Poly) : eqD (pd x) (pd y) = decide (x = y) := by simp only [pd, eqD]; exact eqDL_poly x y
theorem eqD_kd (x y : Kind) : eqD (kd x) (kd y) = decide (x = y) := by
  obtain ⟨a, b, c⟩ := x
  obtain ⟨d, e, f⟩ := y
  simp [kd, eqD, eqDL, eqD_pd, eqD_rd, Bool.decide_and, ibeq]

theorem hd_rd (x : Rt) : HD (rd x) := by simp [rd, HD, HDL]
theorem hdl_poly : ∀ x : Poly, HDL (x.map fun t => DV.tup [.int t.1, rd t.2])
  | [] => by simp [HDL]
  | a :: x => by simp only [List.map_cons, HDL]; exact ⟨by simp [HD, HDL, hd_rd], hdl_poly x⟩
theorem hd_kd (x : Kind) : HD (kd x) := by
  simp only [kd, HD, HDL, pd, and_true]
  exact ⟨hdl_poly _, hd_rd _⟩
theorem deep_rd (x : Rt) : deepD (rd x) = 1 := by simp [rd, deepD, deepL]
theorem deep_poly : ∀ x : Poly, deepL (x.map fun t => DV.tup [.int t.1, rd t.2]) ≤ 2
  | [] => by simp [deepL]
  | a :: x => by
    have := deep_poly x
    simp only [List.map_cons, deepL, deepD, deep_rd]
    omega
theorem deep_pd (x : Poly) : deepD (pd x) ≤ 3 := by
  have := deep_poly x
  simp only [pd, deepD]; omega
theorem deep_kd (x : Kind) : deepD (kd x) ≤ 4 := by
  have := deep_pd x.1
  simp only [kd, deepD, deepL, deep_rd]; omega

mutual
theorem rd_keeps : ∀ (d : DV), HD d → ∀ {h h' : Heap} {v : Value} {x : Addr} {o : Obj} {es ep}, Rd h.get? v d → h.get? x = some o → o.data = .dict es ep → Heap.SameBut x h h' → Rd h'.get? v d
  | .int i, _ => by
    intro h1 _ _ _
    cases h1 using Rd.intE
    exact .int _ _
  | .tup l, hh => by
    intro h1 ho hd hs
    cases h1 using Rd.tupE with
    | @tup a o1 its n a1 a2 a3 a4 =>
      have hne : a ≠ _ := fun e => by
        rw [e, ho] at a1
        cases a1
        rw [hd] at a3
        cases a3
      exact .tup ((hs.2 a hne).trans a1) a2 a3 (rdL_keeps l hh a4 ho hd hs)
theorem rdL_keeps : ∀ (d : List DV), HDL d → ∀ {h h' : Heap} {v : List Value} {x : Addr} {o : Obj} {es ep}, RdL h.get? v d → h.get? x = some o → o.data = .dict es ep → Heap.SameBut x h h' → RdL h'.get? v d
  | [], _ => by
    intro h1 _ _ _
    cases h1 using RdL.nilE
    exact .nil
  | d :: r, hh => by
    intro h1 ho hd hs
    cases h1 using RdL.consE with
    | cons x y => exact .cons (rd_keeps d hh.1 x ho hd hs) (rdL_keeps r hh.2 y ho hd hs)
end

section
variable {prog : Program} {w : World}
mutual
theorem quiet_dv : ∀ (d : DV), HD d → ∀ {n : Nat} {A : Around} {E : Value → Shared → Prop} {s : Shared} {v : Value} {Q : Bool → Shared → Prop}, deepD d ≤ n → Rd s.heap.get? v d → Q true s → wpAny (model prog w) A (eqIsQuiet n v) Q E s
  | .int i, _ => by
    intro hn h1 h
    cases h1 using Rd.intE
    rw [eqIsQuiet_byValue _ rfl]
    exact wpAny_pure h
  | .tup l, hh => by
    rename_i n A E s v Q
    intro hn h1 h
    cases h1 using Rd.tupE with
    | @tup a o its m ho hc hd hl =>
      have hT : s.TypeIs (.ref a) "tuple" := ⟨o, ho, hc⟩
      simp only [deepD] at hn
      cases n with
      | zero => omega
      | succ n =>
        unfold eqIsQuiet
        refine wpAny_bind (wpAny_specialOf hT F.slot_tuple_eq.lookup ?_)
        show wpAny _ _ (isInstance (.ref a) (.type "tuple") >>= _) _ _ s
        refine wpAny_bind (wpAny_isInstance hT isSubtype_tuple_tuple ?_)
        simp only [Bool.not_true, Bool.false_eq_true, if_false]
        refine wpAny_bind (wpAny_seqItems ho hd ?_)
        refine wpAny_bind ?_
        show wpAny _ _ (forIn its _ _) _ _ s
        rw [← Array.forIn_toList]
        refine quiet_dl l hh (n := n) (by omega) hl ?_
        exact wpAny_pure h
theorem quiet_dl : ∀ (l : List DV), HDL l → ∀ {n : Nat} {A : Around} {E : Value → Shared → Prop} {s : Shared} {vs : List Value} {Q : Option Bool × Unit → Shared → Prop}, deepL l ≤ n → RdL s.heap.get? vs l → Q (none, ()) s →
    wpAny (model prog w) A (forIn vs ((none, ()) : Option Bool × Unit) fun y r => do let c ← eqIsQuiet n y; if (!c) = true then pure (ForInStep.done (some false, ())) else pure (ForInStep.yield (none, ()))) Q E s
  | [], _ => by
    intro hn h1 h
    cases h1 using RdL.nilE
    rw [List.forIn_nil]
    exact wpAny_pure h
  | d :: r, hh => by
    intro hn h1 h
    cases h1 using RdL.consE with
    | cons x y =>
      simp only [deepL] at hn
      rw [List.forIn_cons]
      refine wpAny_bind (wpAny_bind (quiet_dv d hh.1 (Nat.le_trans (Nat.le_max_left _ _) hn) x ?_))
      simp only [Bool.not_true, Bool.false_eq_true, if_false]
      exact wpAny_pure (quiet_dl r hh.2 (n := _) (Nat.le_trans (Nat.le_max_right _ _) hn) y h)
end
end

noncomputable def kindK (prog : Program) (w : World) : HeapKind prog w Kind where
  is h k a := Rd h.get? (.ref a) (kd k)
  hash k := hashD (kd k)
  draws k := drawsD (kd k)
  room A := A.units + 8 < cLine
  inj := fun {h a x y} hx hy => by
    have := rd_fun (kd x) (kd y) (shp_kd x y) (Le.refl _) (Le.refl _) hx hy
    rw [eqD_kd] at this
    exact of_decide_eq_true this
  keeps := fun hx ho hd hs => rd_keeps _ (hd_kd _) hx ho hd hs
  pyHash := fun {A E s k a Q} hu hk h => hash_dv (kd k) (hd_kd k) (Le.refl _) hk (by have := deep_kd k; omega) h
  eqBool := fun {A E s x y a b Q} hu hx hy h => by
    have := eqAt_dv (kd x) (kd y) (shp_kd x y) (A := A) (s := s) (Le.refl _) (Le.refl _) hx hy (by have := deep_kd x; omega)
    rw [eqD_kd] at this
    exact this prog w E Q h
  quiet := fun {A E s k a Q} hk h => quiet_dv (kd k) (hd_kd k) (by have := deep_kd k; omega) hk h

end
section

open PySem PySem.W PySem.Calls PyProof.Rows PySem.SeqAt

inductive RdI (g : G) : List DictEntry → List (Int × Rt) → Prop
  | nil : RdI g [] []
  | cons {e : DictEntry} {k : Int} {r : Rt} {es : List DictEntry} {l : List (Int × Rt)} {t : Tok} : e.key = .int k t → Rd g e.val (rd r) → e.hash = hashInt k → RdI g es l → RdI g (e :: es) ((k, r) :: l)
theorem RdI.mono {g g' : G} (h : Le g g') {es : List DictEntry} : ∀ {l}, RdI g es l → RdI g' es l := by
  induction es with
  | nil => intro l x; cases x; exact .nil
  | cons e es ih => intro l x; cases x with | cons a b' c d => exact .cons a (b'.mono h) c (ih d)

/-- the one object that a frame may change -/
inductive Own where
  | no
  | kdict (a : Addr) (l : GD)
  | idict (a : Addr) (l : List (Int × Rt))
  | law (a : Addr) (oi : Option (Int × List Int)) (tabs : List (Pos × Str × Addr))
  | tb (ts : List (Pos × Str × Addr))
noncomputable def Own.addr : Own → Option Addr
  | .no => none
  | .tb _ => none
  | .kdict a _ | .idict a _ | .law a _ _ => some a

/-- all that the frame may change -/
noncomputable def Own.addrs : Own → List Addr
  | .no => []
  | .kdict a _ | .idict a _ => [a]
  | .law a _ tabs => a :: tabs.map (·.2.2)
  | .tb ts => ts.map (·.2.2)
/-- a table of marks: empty, or one record -/
inductive TabOk (g : G) (q : Pos × Str × Addr) (h : Heap) : Prop
  | mk (ps : Array Value) (e : h.get? q.2.2 = some (tabObj ps)) (r : ps = #[] ∨ ∃ c oc vs tq, ps = #[rawInt q.1.line, rawInt q.1.col, .ref c] ∧ g c = some oc ∧ oc.data = .fields vs ∧ vs[1]? = some (.str q.2.1 tq))
inductive IsK (g : G) (h : Heap) (a : Addr) (l : GD) : Prop
  | mk (o : Obj) (es : Array DictEntry) (n : Nat) (ho : h.get? a = some o) (hx : o.ExactDict) (hd : o.data = .dict es n) (hr : RdE g es.toList l) (hn : (l.map (·.1)).Nodup) (hm : (a == sysModules) = false)
inductive IsI (g : G) (h : Heap) (a : Addr) (l : List (Int × Rt)) : Prop
  | mk (o : Obj) (es : Array DictEntry) (n : Nat) (ho : h.get? a = some o) (hx : o.ExactDict) (hd : o.data = .dict es n) (hr : RdI g es.toList l) (hn : (l.map (·.1)).Nodup) (hm : (a == sysModules) = false)
inductive IsLaw (g : G) (h : Heap) (a : Addr) (oi : Option (Int × List Int)) : Prop
  | mk (o : Obj) (n : Nat) (l : Addr) (i : Int) (t : Tok) (ns : List Int) (ho : h.get? a = some o) (hc : o.cls = .type "list") (hd : o.data = .seq #[.ref l, .int i t] n) (hi : 0 ≤ i ∧ ∀ p, oi = some p → p = (i, ns)) (hl : ns.length ≤ 100) (hr : Rd g (.ref l) (.lst (ns.map .int)))

noncomputable def OwnOk (g : G) (h : Heap) (fr : List Addr) : Own → Prop
  | .no => True
  | .kdict a l => g a = none ∧ a ∉ fr ∧ IsK g h a l
  | .idict a l => g a = none ∧ a ∉ fr ∧ IsI g h a l
  | .law a oi tabs => g a = none ∧ a ∉ fr ∧ IsLaw g h a oi ∧
      ∀ q ∈ tabs, g q.2.2 = none ∧ q.2.2 ≠ a ∧ q.2.2 ∉ fr ∧ TabOk g q h
  | .tb tabs => ∀ q ∈ tabs, g q.2.2 = none ∧ q.2.2 ∉ fr ∧ TabOk g q h

/-- from one state to a later one: what stood stands (but D; frames up to their slots), what was frozen is frozen -/
structure Step (fr D : List Addr) (g : G) (s : Shared) (g' : G) (s' : Shared) : Prop where
  dom : ∀ a, s.heap.get? a ≠ none → s'.heap.get? a ≠ none
  keep : ∀ a o, s.heap.get? a = some o → a ∉ D → s'.heap.get? a = some o ∨ (a ∈ fr ∧ ∃ sl, s'.heap.get? a = some { o with slots := sl })
  frz : ∀ a, s.heap.get? a ≠ none → g' a = g a
  le : Le g' s'.heap.get?
  gens : s'.gens = s.gens
  drawn : s'.drawn = s.drawn
  os : s'.os = s.os

/-- the same, but that things of D may go -/
structure Part (fr D : List Addr) (g : G) (s : Shared) (g' : G) (s' : Shared) : Prop where
  keep : ∀ a o, s.heap.get? a = some o → a ∉ D → s'.heap.get? a = some o ∨ (a ∈ fr ∧ ∃ sl, s'.heap.get? a = some { o with slots := sl })
  frz : ∀ a, s.heap.get? a ≠ none → g' a = g a
  le : Le g' s'.heap.get?
  gens : s'.gens = s.gens
  drawn : s'.drawn = s.drawn
  os : s'.os = s.os
theorem Step.part {fr D : List Addr} {g g' : G} {s s' : Shared} (x : Step fr D g s g' s') : Part fr D g s g' s' := ⟨x.keep, x.frz, x.le, x.gens, x.drawn, x.os⟩

theorem isn {α : Type} {x : Option α} {o : α} (h : x = some o) : x ≠ none := by rw [h]; exact fun q => nomatch q
theorem Step.refl {fr D : List Addr} {g : G} {s : Shared} (h : Le g s.heap.get?) : Step fr D g s g s :=
  ⟨fun _ h => h, fun _ _ e _ => .inl e, fun _ _ => rfl, h, rfl, rfl, rfl⟩
theorem Step.toks {fr D : List Addr} {g g' : G} {s s' : Shared} {t : Nat} (x : Step fr D g s g' s') : Step fr D g s g' { s' with toks := t } :=
  ⟨x.dom, x.keep, x.frz, x.le, x.gens, x.drawn, x.os⟩
theorem Step.toksL {fr D : List Addr} {g g' : G} {s s' : Shared} {t : Nat} (x : Step fr D g { s with toks := t } g' s') : Step fr D g s g' s' :=
  ⟨x.dom, x.keep, x.frz, x.le, x.gens, x.drawn, x.os⟩

theorem le_of_frz {g g' : G} {s : Shared} (h : Le g s.heap.get?) (f : ∀ a, s.heap.get? a ≠ none → g' a = g a) : Le g g' := fun a o e => by
  rw [f a (isn (h a o e))]; exact e
theorem Part.mono {fr D : List Addr} {g g' : G} {s s' : Shared} (x : Part fr D g s g' s') (h : Le g s.heap.get?) : Le g g' := le_of_frz h x.frz
theorem Step.mono {fr D : List Addr} {g g' : G} {s s' : Shared} (x : Step fr D g s g' s') (h : Le g s.heap.get?) : Le g g' := le_of_frz h x.frz

theorem Step.transP {fr fr' D D' : List Addr} {g g1 g2 : G} {s s1 s2 : Shared} (x : Step fr D g s g1 s1) (y : Part fr' D' g1 s1 g2 s2) (hy : ∀ a, s.heap.get? a ≠ none → s2.heap.get? a ≠ none)
    (hf : ∀ a ∈ fr', s.heap.get? a ≠ none → a ∈ fr) (hd : ∀ a ∈ D', s.heap.get? a ≠ none → a ∈ D) : Step fr D g s g2 s2 := by
  refine ⟨hy, fun a o e hD => ?_, fun a ha => (y.frz a (x.dom a ha)).trans (x.frz a ha), y.le, y.gens.trans x.gens, y.drawn.trans x.drawn, y.os.trans x.os⟩
  have ha := isn e
  have hD' : a ∉ D' := fun q => hD (hd a q ha)
  rcases x.keep a o e hD with e1 | ⟨m1, sl, e1⟩
  · rcases y.keep a o e1 hD' with e2 | ⟨m2, sl2, e2⟩
    · exact .inl e2
    · exact .inr ⟨hf a m2 ha, sl2, e2⟩
  · rcases y.keep a _ e1 hD' with e2 | ⟨_, sl2, e2⟩
    · exact .inr ⟨m1, sl, e2⟩
    · exact .inr ⟨m1, sl2, e2⟩

theorem Step.trans {fr fr' D D' : List Addr} {g g1 g2 : G} {s s1 s2 : Shared} (x : Step fr D g s g1 s1) (y : Step fr' D' g1 s1 g2 s2)
    (hf : ∀ a ∈ fr', s.heap.get? a ≠ none → a ∈ fr) (hd : ∀ a ∈ D', s.heap.get? a ≠ none → a ∈ D) : Step fr D g s g2 s2 := x.transP y.part (fun a ha => y.dom a (x.dom a ha)) hf hd
/-- an object stands up to its slots -/
theorem Part.upTo {fr D : List Addr} {g g' : G} {s s' : Shared} (x : Part fr D g s g' s') {a : Addr} {o : Obj} (e : s.heap.get? a = some o) (h : a ∉ D) : ∃ sl, s'.heap.get? a = some { o with slots := sl } := by
  rcases x.keep a o e h with e1 | ⟨_, sl, e1⟩
  · exact ⟨o.slots, e1⟩
  · exact ⟨sl, e1⟩
theorem Part.exact {fr D : List Addr} {g g' : G} {s s' : Shared} (x : Part fr D g s g' s') {a : Addr} {o : Obj} (e : s.heap.get? a = some o) (h : a ∉ D) (hf : a ∉ fr) : s'.heap.get? a = some o := by
  rcases x.keep a o e h with e1 | ⟨m, _⟩
  · exact e1
  · exact absurd m hf

theorem IsK.ne {g : G} {h : Heap} {a : Addr} {l : GD} (x : IsK g h a l) : h.get? a ≠ none := by cases x with | mk o es n ho => exact isn ho
theorem IsI.ne {g : G} {h : Heap} {a : Addr} {l : List (Int × Rt)} (x : IsI g h a l) : h.get? a ≠ none := by cases x with | mk o es n ho => exact isn ho
theorem IsK.mods {g : G} {h : Heap} {a : Addr} {l : GD} (x : IsK g h a l) : (a == sysModules) = false := by cases x with | mk o es n ho hx hd hr hn hm => exact hm
theorem IsI.mods {g : G} {h : Heap} {a : Addr} {l : List (Int × Rt)} (x : IsI g h a l) : (a == sysModules) = false := by cases x with | mk o es n ho hx hd hr hn hm => exact hm
theorem IsLaw.ne {g : G} {h : Heap} {a : Addr} {oi : Option (Int × List Int)} (x : IsLaw g h a oi) : h.get? a ≠ none := by cases x with | mk o n l i t ns ho => exact isn ho
theorem TabOk.ne {g : G} {h : Heap} {q : Pos × Str × Addr} (x : TabOk g q h) : h.get? q.2.2 ≠ none := by cases x with | mk ps e => exact isn e
section
variable {g g' : G} {h h' : Heap} (hl : Le g g')
include hl
theorem IsK.at {a : Addr} {l : GD} (x : IsK g h a l) (k : ∀ o, h.get? a = some o → h'.get? a = some o) : IsK g' h' a l := by
  cases x with | mk o es n ho hx hd hr hn hm => exact ⟨o, es, n, k o ho, hx, hd, hr.mono hl, hn, hm⟩
theorem IsI.at {a : Addr} {l : List (Int × Rt)} (x : IsI g h a l) (k : ∀ o, h.get? a = some o → h'.get? a = some o) : IsI g' h' a l := by
  cases x with | mk o es n ho hx hd hr hn hm => exact ⟨o, es, n, k o ho, hx, hd, hr.mono hl, hn, hm⟩
theorem IsLaw.at {a : Addr} {oi : Option (Int × List Int)} (x : IsLaw g h a oi) (k : ∀ o, h.get? a = some o → h'.get? a = some o) : IsLaw g' h' a oi := by
  cases x with | mk o n l i t ns ho hc hd hi hn hr => exact ⟨o, n, l, i, t, ns, k o ho, hc, hd, hi, hn, hr.mono hl⟩
theorem TabOk.at {q : Pos × Str × Addr} (x : TabOk g q h) (k : ∀ o, h.get? q.2.2 = some o → h'.get? q.2.2 = some o) : TabOk g' q h' := by
  cases x with | mk ps e r => exact ⟨ps, k _ e, r.imp id fun ⟨c, oc, vs, tq, c1, c2, c3⟩ => ⟨c, oc, vs, tq, c1, hl c oc c2, c3⟩⟩
theorem OwnOk.move {fr fr' : List Addr} {own : Own} (x : OwnOk g h fr own) (n : ∀ a ∈ own.addrs, h.get? a ≠ none → g a = none → g' a = none) (f : ∀ a ∈ own.addrs, a ∉ fr → a ∉ fr') (k : ∀ a ∈ own.addrs, a ∉ fr → ∀ o, h.get? a = some o → h'.get? a = some o) : OwnOk g' h' fr' own := by
  cases own with
  | no => trivial
  | kdict a l => exact ⟨n a List.mem_cons_self x.2.2.ne x.1, f a List.mem_cons_self x.2.1, x.2.2.at hl (k a List.mem_cons_self x.2.1)⟩
  | idict a l => exact ⟨n a List.mem_cons_self x.2.2.ne x.1, f a List.mem_cons_self x.2.1, x.2.2.at hl (k a List.mem_cons_self x.2.1)⟩
  | law a oi tabs =>
    refine ⟨n a List.mem_cons_self x.2.2.1.ne x.1, f a List.mem_cons_self x.2.1, x.2.2.1.at hl (k a List.mem_cons_self x.2.1), fun q hq => ?_⟩
    have m : q.2.2 ∈ (Own.law a oi tabs).addrs := List.mem_cons_of_mem _ (List.mem_map.mpr ⟨q, hq, rfl⟩)
    have y := x.2.2.2 q hq
    exact ⟨n _ m y.2.2.2.ne y.1, y.2.1, f _ m y.2.2.1, y.2.2.2.at hl (k _ m y.2.2.1)⟩
  | tb tabs =>
    intro q hq
    have m : q.2.2 ∈ (Own.tb tabs).addrs := List.mem_map.mpr ⟨q, hq, rfl⟩
    have y := x q hq
    exact ⟨n _ m y.2.2.ne y.1, f _ m y.2.1, y.2.2.at hl (k _ m y.2.1)⟩
end
theorem OwnOk.mono {g g' : G} {s s' : Shared} {fr fr' D : List Addr} {own : Own} (h : OwnOk g s.heap fr own) (hg : Le g s.heap.get?) (x : Part fr' D g s g' s') (hf : ∀ a ∈ fr', a ∈ fr)
    (hD : ∀ a ∈ D, a ∉ own.addrs) : OwnOk g' s'.heap fr own :=
  h.move (x.mono hg) (fun a _ e q => (x.frz a e).trans q) (fun _ _ q => q) fun a m q o e => x.exact e (fun w => hD a w m) fun w => q (hf a w)

/-- what the text's top has laid -/
structure Stx where
  prog : Program
  w : World
  h0 : Heap
  mg : Str → Option Value
  mb : Str → Option Value

structure Stx.Wf (X : Stx) : Prop where
  g : X.h0.Ns mainGlobals X.mg
  b : X.h0.Ns builtinsNs X.mb
  nolimit : X.h0.NoLimit
  bi : ∀ x : Str, x ≠ "__name__" → X.mb x = bootBuiltins x

noncomputable def Roomy (A : Around) (n : Nat) : Prop := A.depth + n < recursionLimit ∧ A.units + 4 * n + 50 < cLine

theorem Roomy.le {A : Around} {n m : Nat} (h : Roomy A m) (hm : n ≤ m) : Roomy A n :=
  ⟨Nat.lt_of_le_of_lt (Nat.add_le_add_left hm _) h.1, Nat.lt_of_le_of_lt (Nat.add_le_add_right (Nat.add_le_add_left (Nat.mul_le_mul_left 4 hm) _) _) h.2⟩

set_option genInjectivity false in
set_option genSizeOf false in
structure Cx where
  X : Stx
  A : Around
  env : Env
  stk : List Env
  fr : List Addr
  g0 : G
  s0 : Shared
  D : List Addr
  names : List Str
  room : Nat
  prot : List (Addr × Obj) := []

noncomputable abbrev framesOf (l : List Env) : List Addr := l.filterMap (·.frame)
noncomputable def Cx.frs (C : Cx) : List Addr := framesOf C.stk

structure Cx.Wf (C : Cx) : Prop where
  wf : C.X.Wf
  base : Le C.X.h0.get? C.g0
  le0 : Le C.g0 C.s0.heap.get?
  kind : C.env.scope.kind = .function
  globals : C.env.globals = mainGlobals
  builtins : C.env.builtins = builtinsNs
  nodup : C.names.Nodup
  frame : ∀ L ∈ C.frs, C.s0.heap.get? L = none ∨ L ∈ C.fr
  cinj : ∀ x y c, C.env.cells.lookup x = some c → C.env.cells.lookup y = some c → x = y
  lnew : C.s0.heap.get? C.env.locals = none
  cnew : ∀ x c, C.env.kindOf x = some .cell → C.env.cells.lookup x = some c → C.s0.heap.get? c = none
  cfr : ∀ x c, C.env.cells.lookup x = some c → c ∉ C.frs
  frs0 : ∀ a ∈ C.fr, C.s0.heap.get? a ≠ none ∧ C.g0 a = none
  stack : C.A.frames = some C.stk
  handled : C.A.handled = none
  roomy : Roomy C.A C.room
  prot : ∀ p ∈ C.prot, p.1 ≠ C.env.locals ∧ (∀ x, C.env.cells.lookup x ≠ some p.1)

noncomputable def VarAt (env : Env) (m : Str → Option Value) (h : Heap) (x : Str) (v : Value) : Prop :=
  (env.kindOf x = some .local ∧ m x = some v) ∨ ((env.kindOf x = some .cell ∨ env.kindOf x = some .free) ∧ ∃ c o, env.cells.lookup x = some c ∧ h.get? c = some o ∧ o.data = .cell (some v))

/-- a word of what is frozen that no freezing takes back -/
noncomputable abbrev Keeps := { H : G → Prop // ∀ g g', Le g g' → H g → H g' }
inductive LV where
  | fz (d : DV)
  | own
  | fn (f : Addr) (H : Keeps)
noncomputable abbrev Locals := List (Option LV)
noncomputable def VR (g : G) (own : Own) (v : Value) : LV → Prop
  | .fz d => Rd g v d
  | .own => ∃ a, own.addr = some a ∧ v = .ref a
  | .fn f H => v = .ref f ∧ H.1 g
theorem VR.mono {g g' : G} {own : Own} {v : Value} {d : LV} (h : Le g g') (x : VR g own v d) : VR g' own v d := by
  cases d with
  | fz d => exact Rd.mono h x
  | own => exact x
  | fn f H => exact ⟨x.1, H.2 _ _ h x.2⟩

/-- an object as it was (a frame: up to its slots) -/
noncomputable def Held (fr : List Addr) (h : Heap) (p : Addr × Obj) : Prop := ∃ sl, h.get? p.1 = some { p.2 with slots := sl } ∧ (p.1 ∉ fr → sl = p.2.slots)
theorem Held.same {fr : List Addr} {h h' : Heap} {p : Addr × Obj} (x : Held fr h p) (e : h'.get? p.1 = h.get? p.1) : Held fr h' p := let ⟨sl, a, b⟩ := x; ⟨sl, e.trans a, b⟩
theorem Held.exact {fr : List Addr} {h : Heap} {p : Addr × Obj} (x : Held fr h p) (hf : p.1 ∉ fr) : h.get? p.1 = some p.2 := by
  obtain ⟨sl, a, b⟩ := x
  rw [a, b hf]
theorem Held.of {fr : List Addr} {h : Heap} {p : Addr × Obj} (e : h.get? p.1 = some p.2) : Held fr h p := ⟨p.2.slots, e, fun _ => rfl⟩
theorem Held.get {fr : List Addr} {h : Heap} {p : Addr × Obj} (x : Held fr h p) : h.get? p.1 ≠ none := let ⟨_, a, _⟩ := x; isn a
inductive IsCell (h : Heap) (c : Addr) : Prop
  | mk (o : Obj) (v : Option Value) (ho : h.get? c = some o) (hd : o.data = .cell v)
structure CellOk (L : Addr) (own : Own) (g : G) (h : Heap) (c : Addr) : Prop where
  gn : g c = none
  nl : c ≠ L
  no : c ∉ own.addrs
  cell : IsCell h c
inductive Vars (env : Env) (ns : List Str) (own : Own) (ρ : Locals) (g : G) (h : Heap) : Prop
  | mk (m : Str → Option Value) (hn : h.Ns env.locals m) (hv : ∀ (i : Nat) (x : Str) (d : LV), ns[i]? = some x → ρ[i]? = some (some d) → ∃ v, VarAt env m h x v ∧ VR g own v d)
structure St (C : Cx) (own : Own) (ρ : Locals) (g : G) (s : Shared) : Prop where
  step : Step C.fr C.D C.g0 C.s0 g s
  hown : OwnOk g s.heap C.frs own
  frs : s.heap.FunFrames C.X.h0 C.stk
  frf : ∀ a ∈ C.frs, g a = none
  lfree : g C.env.locals = none
  lown : C.env.locals ∉ own.addrs
  cells : ∀ x c, C.env.cells.lookup x = some c → CellOk C.env.locals own g s.heap c
  vars : Vars C.env C.names own ρ g s.heap
  prot : ∀ p ∈ C.prot, Held C.frs s.heap p ∧ g p.1 = none ∧ p.1 ∉ own.addrs
  whole : ∀ a ∈ own.addrs, a ∈ C.D ∨ C.s0.heap.get? a = none

theorem St.le {C : Cx} {own : Own} {ρ : Locals} {g : G} {s : Shared} (S : St C own ρ g s) : Le g s.heap.get? := S.step.le
theorem St.toks {C : Cx} {own : Own} {ρ : Locals} {g : G} {s : Shared} {t : Nat} (S : St C own ρ g s) : St C own ρ g { s with toks := t } :=
  ⟨S.step.toks, S.hown, S.frs, S.frf, S.lfree, S.lown, S.cells, S.vars, S.prot, S.whole⟩

theorem ns_upTo {h h' : Heap} {a : Addr} {m : Str → Option Value} (hn : h.Ns a m) (k : ∀ o, h.get? a = some o → ∃ sl, h'.get? a = some { o with slots := sl }) : h'.Ns a m := by
  obtain ⟨o, es, ep, ho, hd, r⟩ := hn
  obtain ⟨sl, e⟩ := k o ho
  exact ⟨_, es, ep, e, hd, r⟩

theorem VarAt.keep {env : Env} {m : Str → Option Value} {h h' : Heap} {x : Str} {v : Value} (X : VarAt env m h x v) (k : ∀ c o, env.cells.lookup x = some c → h.get? c = some o → ∃ sl, h'.get? c = some { o with slots := sl }) : VarAt env m h' x v := by
  rcases X with X | ⟨X1, c, o, X2, X3, X4⟩
  · exact .inl X
  · obtain ⟨sl, e⟩ := k c o X2 X3
    exact .inr ⟨X1, c, _, X2, e, X4⟩

theorem funFrames_step {base : Heap} {l : List Env} {fr D : List Addr} {g g' : G} {s s' : Shared} (x : Part fr D g s g' s') (h : s.heap.FunFrames base l) (hD : ∀ a ∈ D, a ∉ l.filterMap (·.frame)) : s'.heap.FunFrames base l := by
  induction l with
  | nil => trivial
  | cons env rest ih =>
    obtain ⟨hk, ⟨L, o, hf, hn, ho, hd⟩, hr⟩ := h
    rw [List.filterMap_cons, hf] at hD
    obtain ⟨sl, e⟩ := x.upTo ho fun q => (hD L q) (List.mem_cons_self)
    exact ⟨hk, ⟨L, _, hf, hn, e, hd⟩, ih hr fun a ha q => hD a ha (List.mem_cons_of_mem _ q)⟩

/-- an address that is nothing of the frame's -/
structure Fresh (C : Cx) (own : Own) (g : G) (I : Addr) : Prop where
  gn : g I = none
  own : I ∉ own.addrs
  loc : I ≠ C.env.locals
  cells : ∀ x, C.env.cells.lookup x ≠ some I
  frs : I ∉ C.frs
  s0 : C.s0.heap.get? I = none
  prot : ∀ p ∈ C.prot, p.1 ≠ I

/-- a sub-run that changes nothing of what stood but fresh things -/
theorem St.subD {C : Cx} (W : C.Wf) {own : Own} {ρ : Locals} {g g' : G} {s s' : Shared} {D : List Addr} (S : St C own ρ g s) (x : Part C.frs D g s g' s') (hx : ∀ a, C.s0.heap.get? a ≠ none → s'.heap.get? a ≠ none) (hD : ∀ I ∈ D, Fresh C own g I) : St C own ρ g' s' := by
  have hm := x.mono S.le
  refine ⟨S.step.transP x hx (fun a ha hl => ?_) (fun a h hl => absurd (hD a h).s0 hl), S.hown.mono S.le x (fun _ h => h) (fun a h => (hD a h).own), funFrames_step x S.frs (fun a h => (hD a h).frs), fun a ha => ?_, ?_, S.lown, fun y c hc => ?_, ?_, fun p hp => ?_, S.whole⟩
  · rcases W.frame a ha with q | q
    · exact absurd q hl
    · exact q
  · obtain ⟨_, o, ho, _⟩ := S.frs.mem ha
    exact (x.frz a (isn ho)).trans (S.frf a ha)
  · obtain ⟨m, hn, _⟩ := S.vars
    obtain ⟨o, _, _, ho, _⟩ := hn
    exact (x.frz _ (isn ho)).trans S.lfree
  · obtain ⟨h1, h2, h3, o, v, h4, h5⟩ := S.cells y c hc
    obtain ⟨sl, e⟩ := x.upTo h4 (fun h => (hD c h).cells y hc)
    exact ⟨(x.frz c (isn h4)).trans h1, h2, h3, _, v, e, h5⟩
  · obtain ⟨m, hn, hv⟩ := S.vars
    refine ⟨m, ns_upTo hn fun o ho => x.upTo ho (fun h => (hD _ h).loc rfl), fun i y d h1 h2 => ?_⟩
    obtain ⟨v, h3, h4⟩ := hv i y d h1 h2
    exact ⟨v, h3.keep fun c o hl hc => x.upTo hc (fun h => (hD c h).cells y hl), h4.mono hm⟩
  · obtain ⟨h1, h2, h3⟩ := S.prot p hp
    obtain ⟨sl, e1, e2⟩ := h1
    refine ⟨?_, (x.frz _ (isn e1)).trans h2, h3⟩
    rcases x.keep _ _ e1 (fun h => (hD _ h).prot p hp rfl) with q | ⟨q, sl', q'⟩
    · exact ⟨sl, q, e2⟩
    · exact ⟨sl', q', fun hh => absurd q hh⟩

/-- a sub-run that changes nothing of what stood -/
theorem St.sub {C : Cx} (W : C.Wf) {own : Own} {ρ : Locals} {g g' : G} {s s' : Shared} (S : St C own ρ g s) (x : Step C.frs [] g s g' s') : St C own ρ g' s' := S.subD W x.part (fun a h => x.dom a (S.step.dom a h)) fun _ h => nomatch h

theorem OwnOk.sameBut {g : G} {h h' : Heap} {fr : List Addr} {own : Own} {c : Addr} (x : OwnOk g h fr own) (hs : Heap.SameBut c h h') (hc : c ∉ own.addrs) : OwnOk g h' fr own :=
  x.move (Le.refl g) (fun _ _ _ q => q) (fun _ _ q => q) fun a m _ o e => (hs.2 a fun q => hc (q ▸ m)).trans e

theorem funFrames_but {base h h' : Heap} {l : List Env} {c : Addr} (hs : Heap.SameBut c h h') (x : h.FunFrames base l) (hc : c ∈ framesOf l → ∃ o, h'.get? c = some o ∧ ∀ vs, o.data ≠ .fields vs) : h'.FunFrames base l := by
  induction l with
  | nil => trivial
  | cons env rest ih =>
    obtain ⟨hk, ⟨L, o, hf, hn, ho, hd⟩, hr⟩ := x
    simp only [framesOf, List.filterMap_cons, hf] at hc
    refine ⟨hk, ?_, ih hr fun m => hc (List.mem_cons_of_mem _ m)⟩
    by_cases e : L = c
    · obtain ⟨o', e1, e2⟩ := hc (e ▸ List.mem_cons_self)
      exact ⟨L, o', hf, hn, e ▸ e1, e2⟩
    · exact ⟨L, o, hf, hn, (hs.2 L e).trans ho, hd⟩

/-- one fresh object of the frame's changes -/
theorem Step.but {fr D : List Addr} {g g' : G} {s s' : Shared} {h' : Heap} {t : Nat} {c : Addr} (x : Step fr D g s g' s') (hs : Heap.SameBut c s'.heap h') (hc : s.heap.get? c = none) (hg : g' c = none) : Step fr D g s g' { s' with heap := h', toks := t } := by
  refine ⟨fun a ha => ?_, fun a o e hD => ?_, x.frz, fun a o e => (hs.2 a fun q => by rw [q, hg] at e; cases e).trans (x.le a o e), x.gens, x.drawn, x.os⟩
  · have hne : a ≠ c := fun q => ha (q ▸ hc)
    show h'.get? a ≠ none
    rw [hs.2 a hne]
    exact x.dom a ha
  have hne : a ≠ c := fun q => by rw [q, hc] at e; cases e
  rcases x.keep a o e hD with e1 | ⟨m, sl, e1⟩
  · exact .inl ((hs.2 a hne).trans e1)
  · exact .inr ⟨m, sl, (hs.2 a hne).trans e1⟩

theorem names_inj {l : List Str} (h : l.Nodup) {i j : Nat} {x : Str} (h1 : l[i]? = some x) (h2 : l[j]? = some x) : i = j :=
  (List.getElem?_inj (List.getElem?_eq_some_iff.mp h1).1 h).mp (h1.trans h2.symm)

section
variable {C : Cx} {own : Own} {ρ : Locals} {g : G} {s : Shared}

theorem st_store (W : C.Wf) {i : Nat} {x : Str} {v : Value} {d : LV} (S : St C own ρ g s) (hi : C.names[i]? = some x) (hk : C.env.kindOf x = some .local ∨ (C.env.kindOf x = some .cell ∧ (C.env.cells.lookup x).isSome = true)) (hr : VR g own v d) {E : Value → Shared → Prop} :
    wpAny (model C.X.prog C.X.w) C.A (storeName C.env x v) (fun _ s' => St C own (ρ.set i (some d)) g s') E s := by
  obtain ⟨m, hn, hv⟩ := S.vars
  have hkf : (C.env.scope.kind == .class || (C.env.scope.kind == .module && C.env.locals != C.env.globals)) = false := by rw [W.kind]; rfl
  have old : ∀ {j : Nat} {y : Str} {e : LV}, j ≠ i → (ρ.set i (some d))[j]? = some (some e) → ρ[j]? = some (some e) := fun hj q => by
    rwa [List.getElem?_set_ne (Ne.symm hj)] at q
  have new : ∀ {j : Nat} {e : LV}, j = i → (ρ.set i (some d))[j]? = some (some e) → e = d := fun hj q => by
    rw [hj, List.getElem?_set_self'] at q
    cases hq : ρ[i]? with
    | none => rw [hq] at q; simp at q
    | some z => rw [hq] at q; simpa using q.symm
  rcases hk with hk | ⟨hk, hc⟩
  · refine wpAny_storeName_local hk hn (fun h' hn' hs => ?_) hkf
    obtain ⟨oL, es, ep, hoL, hdL, _⟩ := id hn
    have nf : ∀ o, s.heap.get? C.env.locals = some o → ∀ vs, o.data ≠ .fields vs := fun o e vs q => by rw [hoL] at e; cases e; rw [hdL] at q; cases q
    refine ⟨S.step.but hs W.lnew S.lfree, S.hown.sameBut hs S.lown, funFrames_but hs S.frs (fun _ => let ⟨o, _, _, e1, e2, _⟩ := hn'; ⟨o, e1, fun vs q => by rw [e2] at q; cases q⟩), S.frf, S.lfree, S.lown, fun y c hyc => ?_, ⟨_, hn', fun j y e h1 h2 => ?_⟩, fun p hp => ⟨(S.prot p hp).1.same (hs.2 _ (W.prot p hp).1), (S.prot p hp).2⟩, S.whole⟩
    · obtain ⟨c1, c2, c3, o, vv, c4, c5⟩ := S.cells y c hyc
      exact ⟨c1, c2, c3, o, vv, (hs.2 c c2).trans c4, c5⟩
    · by_cases hj : j = i
      · have := new hj h2
        subst this
        have hyx : y = x := by rw [hj] at h1; exact Option.some.inj (h1.symm.trans hi)
        subst hyx
        exact ⟨v, .inl ⟨hk, if_pos rfl⟩, hr⟩
      · obtain ⟨u, u1, u2⟩ := hv j y e h1 (old (y := y) hj h2)
        refine ⟨u, ?_, u2⟩
        rcases u1 with ⟨a1, a2⟩ | ⟨a1, c, o, a2, a3, a4⟩
        · have hyx : y ≠ x := fun q => hj (names_inj W.nodup h1 (q ▸ hi))
          exact .inl ⟨a1, (if_neg hyx).trans a2⟩
        · exact .inr ⟨a1, c, o, a2, (hs.2 c (S.cells y c a2).nl).trans a3, a4⟩
  · obtain ⟨c, hc⟩ := Option.isSome_iff_exists.mp hc
    obtain ⟨c1, c2, c3, o, vv, c4, c5⟩ := S.cells x c hc
    refine wpAny_storeName_cell W.kind hk hc ⟨o, c4, c5⟩ (fun h' hn' hs => ?_)
    have nf : ∀ o, s.heap.get? c = some o → ∀ vs, o.data ≠ .fields vs := fun o e vs q => by rw [c4] at e; cases e; rw [c5] at q; cases q
    have cn := W.cnew x c hk hc
    refine ⟨S.step.but hs cn c1, S.hown.sameBut hs c3, funFrames_but hs S.frs (fun _ => let ⟨o, e1, e2⟩ := hn'; ⟨o, e1, fun vs q => by rw [e2] at q; cases q⟩), S.frf, S.lfree, S.lown, fun y c' hyc => ?_, ⟨m, hn.sameBut hs (Ne.symm c2), fun j y e h1 h2 => ?_⟩, fun p hp => ⟨(S.prot p hp).1.same (hs.2 p.1 fun (e : p.1 = c) => (W.prot p hp).2 x (by rw [e]; exact hc)), (S.prot p hp).2⟩, S.whole⟩
    · obtain ⟨b1, b2, b3, o', v', b4, b5⟩ := S.cells y c' hyc
      by_cases hcc : c' = c
      · subst hcc
        obtain ⟨o2, o3, o4⟩ := hn'
        exact ⟨b1, b2, b3, o2, _, o3, o4⟩
      · exact ⟨b1, b2, b3, o', v', (hs.2 c' hcc).trans b4, b5⟩
    · by_cases hj : j = i
      · have := new hj h2
        subst this
        have hyx : y = x := by rw [hj] at h1; exact Option.some.inj (h1.symm.trans hi)
        subst hyx
        obtain ⟨o2, o3, o4⟩ := hn'
        exact ⟨v, .inr ⟨.inl hk, c, o2, hc, o3, o4⟩, hr⟩
      · obtain ⟨u, u1, u2⟩ := hv j y e h1 (old (y := y) hj h2)
        refine ⟨u, ?_, u2⟩
        rcases u1 with a | ⟨a1, c', o', a2, a3, a4⟩
        · exact .inl a
        · have hyx : y ≠ x := fun q => hj (names_inj W.nodup h1 (q ▸ hi))
          have hcc : c' ≠ c := fun q => hyx (W.cinj y x c (q ▸ a2) hc)
          exact .inr ⟨a1, c', o', a2, (hs.2 c' hcc).trans a3, a4⟩
theorem VR.reown {own' : Own} {v : Value} {d : LV} (ha2 : own'.addr = own.addr) (x : VR g own v d) : VR g own' v d := by
  cases d with
  | fz d => exact x
  | own => exact let ⟨c, e, r⟩ := x; ⟨c, ha2.trans e, r⟩
  | fn f H => exact x
theorem St.reown {own' : Own} (S : St C own ρ g s) (ha : own'.addrs = own.addrs) (ha2 : own'.addr = own.addr) (hO : OwnOk g s.heap C.frs own') : St C own' ρ g s :=
  ⟨S.step, hO, S.frs, S.frf, S.lfree, ha ▸ S.lown, fun x c h => let y := S.cells x c h; ⟨y.gn, y.nl, ha ▸ y.no, y.cell⟩, Vars.casesOn S.vars fun m hn hv => ⟨m, hn, fun i x d h1 h2 => let ⟨v, h3, h4⟩ := hv i x d h1 h2; ⟨v, h3, h4.reown ha2⟩⟩, fun p hp => let y := S.prot p hp; ⟨y.1, y.2.1, ha ▸ y.2.2⟩, ha ▸ S.whole⟩
end


end
section

open PySem PySem.W PySem.Calls PyProof.Rows PySem.SeqAt

section
variable {C : Cx} {E : Value → Shared → Prop} {own : Own} {ρ : Locals}

/-- what a value, a truth, some values leave behind -/
inductive VP (C : Cx) (own : Own) (ρ : Locals) (g : G) (P : DV → Prop) (v : Value) (s : Shared) : Prop
  | mk (g' : G) (d : DV) (l : Le g g') (S : St C own ρ g' s) (r : Rd g' v d) (p : P d)
inductive TP (C : Cx) (own : Own) (ρ : Locals) (g : G) (P : Bool → Prop) (b : Bool) (s : Shared) : Prop
  | mk (g' : G) (l : Le g g') (S : St C own ρ g' s) (p : P b)
inductive LP (C : Cx) (own : Own) (ρ : Locals) (g : G) (P : List DV → Prop) (vs : List Value) (s : Shared) : Prop
  | mk (g' : G) (ds : List DV) (l : Le g g') (S : St C own ρ g' s) (r : RdL g' vs ds) (p : P ds)
noncomputable def WE (C : Cx) (E : Value → Shared → Prop) (own : Own) (ρ : Locals) (e : Expr) (P : DV → Prop) : Prop :=
  ∀ g s, St C own ρ g s → wpAny (model C.X.prog C.X.w) C.A (eval e C.env) (VP C own ρ g P) E s
noncomputable def WT (C : Cx) (E : Value → Shared → Prop) (own : Own) (ρ : Locals) (e : Expr) (P : Bool → Prop) : Prop :=
  ∀ g s, St C own ρ g s → wpAny (model C.X.prog C.X.w) C.A (isTrue e C.env (eval e C.env)) (TP C own ρ g P) E s
noncomputable def WL (C : Cx) (E : Value → Shared → Prop) (own : Own) (ρ : Locals) (es : List Expr) (P : List DV → Prop) : Prop :=
  ∀ pos g s, St C own ρ g s → wpAny (model C.X.prog C.X.w) C.A (spliced (backTo pos (starEach es C.env))) (LP C own ρ g P) E s
theorem VP.on {own' : Own} {ρ' : Locals} {g : G} {P : DV → Prop} {m : Sem Value} {A : Around} {s : Shared} {M : Model} {Q : Value → Shared → Prop} (h : wpAny M A m (VP C own' ρ' g P) E s) (k : ∀ v s' g' d, Le g g' → St C own' ρ' g' s' → Rd g' v d → P d → Q v s') : wpAny M A m Q E s :=
  wpAny_mono h (fun v s' x => VP.casesOn x (k v s')) fun _ _ x => x
theorem WE.on {e : Expr} {P : DV → Prop} {g : G} {s : Shared} {Q : Value → Shared → Prop} (h : WE C E own ρ e P) (S : St C own ρ g s) (k : ∀ v s' g' d, Le g g' → St C own ρ g' s' → Rd g' v d → P d → Q v s') : wpAny (model C.X.prog C.X.w) C.A (eval e C.env) Q E s :=
  VP.on (h g s S) k
theorem TP.on {own' : Own} {ρ' : Locals} {g : G} {P : Bool → Prop} {m : Sem Bool} {A : Around} {s : Shared} {M : Model} {Q : Bool → Shared → Prop} (h : wpAny M A m (TP C own' ρ' g P) E s) (k : ∀ v s' g', Le g g' → St C own' ρ' g' s' → P v → Q v s') : wpAny M A m Q E s :=
  wpAny_mono h (fun v s' x => TP.casesOn x (k v s')) fun _ _ x => x
theorem WT.on {e : Expr} {P : Bool → Prop} {g : G} {s : Shared} {Q : Bool → Shared → Prop} (h : WT C E own ρ e P) (S : St C own ρ g s) (k : ∀ v s' g', Le g g' → St C own ρ g' s' → P v → Q v s') : wpAny (model C.X.prog C.X.w) C.A (isTrue e C.env (eval e C.env)) Q E s :=
  TP.on (h g s S) k
theorem WL.on {es : List Expr} {P : List DV → Prop} {g : G} {s : Shared} {Q : List Value → Shared → Prop} (h : WL C E own ρ es P) (pos : Pos) (S : St C own ρ g s) (k : ∀ v s' g' d, Le g g' → St C own ρ g' s' → RdL g' v d → P d → Q v s') : wpAny (model C.X.prog C.X.w) C.A (spliced (backTo pos (starEach es C.env))) Q E s :=
  wpAny_mono (h pos g s S) (fun v s' x => LP.casesOn x (k v s')) fun _ _ x => x
theorem WE.le {e : Expr} {P : DV → Prop} {g g1 : G} {s : Shared} (h : WE C E own ρ e P) (l : Le g g1) (S : St C own ρ g1 s) : wpAny (model C.X.prog C.X.w) C.A (eval e C.env) (VP C own ρ g P) E s :=
  WE.on h S fun _ _ _ _ l' S' r p => ⟨_, _, l.trans l', S', r, p⟩
theorem WT.le {e : Expr} {P : Bool → Prop} {g g1 : G} {s : Shared} (h : WT C E own ρ e P) (l : Le g g1) (S : St C own ρ g1 s) : wpAny (model C.X.prog C.X.w) C.A (isTrue e C.env (eval e C.env)) (TP C own ρ g P) E s :=
  WT.on h S fun _ _ _ l' S' p => ⟨_, l.trans l', S', p⟩

theorem we_mono {e : Expr} {P Q : DV → Prop} (h : WE C E own ρ e P) (hq : ∀ d, P d → Q d) : WE C E own ρ e Q := fun g s S =>
  WE.on h S fun _ _ g' d a b c p => ⟨g', d, a, b, c, hq d p⟩
theorem wt_mono {e : Expr} {P Q : Bool → Prop} (h : WT C E own ρ e P) (hq : ∀ d, P d → Q d) : WT C E own ρ e Q := fun g s S =>
  WT.on h S fun _ _ g' a b p => ⟨g', a, b, hq _ p⟩

theorem loadVar (W : C.Wf) {i : Nat} {x : Str} {d : LV} {g : G} {s : Shared} {Q : Value → Shared → Prop} (S : St C own ρ g s) (hi : C.names[i]? = some x) (hd : ρ[i]? = some (some d)) (hc : (x == ("__classdict__" : Str)) = false)
    (h : ∀ v, VR g own v d → Q v s) : wpAny (model C.X.prog C.X.w) C.A (loadName C.env x) Q E s := by
  obtain ⟨m, hn, hv⟩ := S.vars
  obtain ⟨v, hv, hr⟩ := hv i x d hi hd
  rcases hv with ⟨a, b⟩ | ⟨a | a, c, o, b1, b2, b3⟩
  · exact wpAny_loadName_local W.kind a hn b (h v hr)
  · exact wpAny_loadName_cell W.kind a b1 ⟨o, b2, b3⟩ (h v hr)
  · exact wpAny_loadName_free W.kind a b1 ⟨o, b2, b3⟩ (h v hr) hc

theorem we_name (W : C.Wf) (i : Nat) {x : Str} {pos : Pos} {d : DV} {P : DV → Prop} (hi : C.names[i]? = some x) (hd : ρ[i]? = some (some (.fz d))) (h : P d)
    (h1 : (x == ("__debug__" : Str)) = false := by decide) (h2 : (x == ("__classdict__" : Str)) = false := by decide) : WE C E own ρ (.Name x pos) P := fun g s S =>
  wpAny_Name (loadVar W S hi hd h2 fun v hr => ⟨g, d, Le.refl _, S, hr, h⟩) h1

theorem St.h0 (W : C.Wf) {g : G} {s : Shared} (S : St C own ρ g s) : Le C.X.h0.get? g := fun a o e => by
  have h1 := W.base a o e
  rw [S.step.frz a (isn (W.le0 a o h1))]; exact h1
theorem St.stat (W : C.Wf) {g : G} {s : Shared} (S : St C own ρ g s) : ∀ b o, C.X.h0.get? b = some o → s.heap.get? b = some o := fun b o e => S.le b o (S.h0 W b o e)

theorem loadGlob (W : C.Wf) {x : Str} {v : Value} {g : G} {s : Shared} {Q : Value → Shared → Prop} (S : St C own ρ g s) (hk : C.env.kindOf x = some .globalImplicit) (hv : C.X.mg x = some v) (h : Q v s) {pos : Pos}
    (h1 : (x == ("__debug__" : Str)) = false) : wpAny (model C.X.prog C.X.w) C.A (eval (.Name x pos) C.env) Q E s :=
  Name_function_global W.kind hk (loadGlobal_global (W.globals ▸ W.wf.g.keeps (S.stat W)) hv h) h1
theorem loadBi (W : C.Wf) {x : Str} {v : Value} {g : G} {s : Shared} {Q : Value → Shared → Prop} (S : St C own ρ g s) (hk : C.env.kindOf x = some .globalImplicit) (hm : C.X.mg x = none) (hv : bootBuiltins x = some v) (h : Q v s) {pos : Pos}
    (h1 : (x == ("__debug__" : Str)) = false) (hn : x ≠ "__name__") : wpAny (model C.X.prog C.X.w) C.A (eval (.Name x pos) C.env) Q E s :=
  Name_function_global W.kind hk (loadGlobal_builtin (W.globals ▸ W.wf.g.keeps (S.stat W)) hm (W.builtins ▸ W.wf.b.keeps (S.stat W)) ((W.wf.bi x hn).trans hv) h) h1

theorem we_glob (W : C.Wf) {x : Str} {pos : Pos} {v : Value} {d : DV} {P : DV → Prop} (hk : C.env.kindOf x = some .globalImplicit) (hv : C.X.mg x = some v) (hr : Rd C.X.h0.get? v d) (h : P d) (h1 : (x == ("__debug__" : Str)) = false := by decide) :
    WE C E own ρ (.Name x pos) P := fun g s S => loadGlob W S hk hv ⟨g, d, Le.refl _, S, hr.mono (S.h0 W), h⟩ h1

theorem we_int {i : Int} {k : Nat} {pos : Pos} {P : DV → Prop} (h : P (.int i)) : WE C E own ρ (.Constant (.int i) k pos) P := fun g s S =>
  wpAny_Constant_int ⟨g, _, Le.refl _, S.toks, .int _ _, h⟩
theorem we_str {x : Str} {k : Nat} {pos : Pos} {P : DV → Prop} (h : P (.str x)) : WE C E own ρ (.Constant (.str x) k pos) P := fun g s S =>
  Constant_str ⟨g, _, Le.refl _, S.toks, .str _ _, h⟩
theorem we_none {k : Nat} {pos : Pos} {P : DV → Prop} (h : P .none) : WE C E own ρ (.Constant .none k pos) P := fun g s S =>
  wpAny_pure ⟨g, _, Le.refl _, S, .none, h⟩
/-- what an operation of two values yields, the state as it was but for the tokens -/
noncomputable def Bin (X : Stx) (A : Around) (t : Value → Value → Sem Value) (d e : DV) (P : DV → Prop) : Prop :=
  ∀ {E : Value → Shared → Prop} {Q : Value → Shared → Prop} {g : G} {s : Shared} {v u : Value}, (∀ b o, X.h0.get? b = some o → s.heap.get? b = some o) → Le g s.heap.get? → Rd g v d → Rd g u e → (∀ y z t, Rd g y z → P z → Q y { s with toks := t }) → wpAny (model X.prog X.w) A (t v u) Q E s

theorem we_bin (W : C.Wf) {l r : Expr} {op : Operator} {pos : Pos} {P : DV → Prop} (h : WE C E own ρ l fun d => WE C E own ρ r fun e => Bin C.X C.A (binaryOp op) d e P) : WE C E own ρ (.BinOp l op r pos) P := fun g s S =>
  wpAny_BinOp (WE.on h S (fun v s1 g1 d l1 S1 r1 h1 => WE.on h1 S1 (fun u s2 g2 e l2 S2 r2 h2 =>
    h2 (S2.stat W) S2.le (r1.mono l2) r2 fun y z t hr hp => ⟨g2, z, l1.trans l2, S2.toks, hr, hp⟩)))
theorem we_cmp (W : C.Wf) {l r : Expr} {op : CmpOp} {pos : Pos} {P : DV → Prop} (h : WE C E own ρ l fun d => WE C E own ρ r fun e => Bin C.X C.A (compareOp op) d e P) (hm : behindInMarks op r = false := by with_unfolding_all rfl) : WE C E own ρ (.Compare l [op] [r] pos) P := fun g s S =>
  wpAny_Compare1 (WE.on h S (fun v s1 g1 d l1 S1 r1 h1 => WE.on h1 S1 (fun u s2 g2 e l2 S2 r2 h2 =>
    h2 (S2.stat W) S2.le (r1.mono l2) r2 fun y z t hr hp => ⟨g2, z, l1.trans l2, S2.toks, hr, hp⟩))) hm
theorem wt_cmp (W : C.Wf) {l r : Expr} {op : CmpOp} {pos : Pos} {P : Bool → Prop} (h : WE C E own ρ l fun d => WE C E own ρ r fun e => Bin C.X C.A (compareOp op) d e fun z => ∃ b, z = .bool b ∧ P b) (hm : behindInMarks op r = false := by with_unfolding_all rfl) : WT C E own ρ (.Compare l [op] [r] pos) P := fun g s S =>
  wpAny_isTrue_Compare1 (WE.on h S (fun v s1 g1 d l1 S1 r1 h1 => WE.on h1 S1 (fun u s2 g2 e l2 S2 r2 h2 =>
    h2 (S2.stat W) S2.le (r1.mono l2) r2 fun y z t hr ⟨b, hz, hp⟩ => by
      subst hz
      cases hr using Rd.boolE
      exact wpAny_truthy_bool ⟨g2, l1.trans l2, S2.toks, hp⟩))) hm

theorem we_if {t b o : Expr} {pos : Pos} {P : DV → Prop} (h : WT C E own ρ t fun c => (c = true → WE C E own ρ b P) ∧ (c = false → WE C E own ρ o P)) : WE C E own ρ (.IfExp t b o pos) P := fun g s S =>
  wpAny_IfExp (WT.on h S (fun c s1 g1 l1 S1 ⟨h1, h2⟩ => by
    cases c with
    | true => exact WE.le (h1 rfl) l1 S1
    | false => exact WE.le (h2 rfl) l1 S1))

theorem wt_and_nil {pos : Pos} {P : Bool → Prop} (h : P true) : WT C E own ρ (.BoolOp .And [] pos) P := fun g _ S => isTrue_and_nil ⟨g, Le.refl _, S, h⟩
theorem wt_or_nil {pos : Pos} {P : Bool → Prop} (h : P false) : WT C E own ρ (.BoolOp .Or [] pos) P := fun g _ S => isTrue_or_nil ⟨g, Le.refl _, S, h⟩
theorem isTrue_and' {M : Model} {A : Around} {E : Value → Shared → Prop} {s : Shared} {env : Env} {x : Expr} {rest : List Expr} {pos : Pos} {whole w2 : Sem Value} {Q : Bool → Shared → Prop}
    (h : wpAny M A (isTrue x env (eval x env)) (fun c s' => if c then wpAny M A (isTrue (.BoolOp .And rest pos) env w2) Q E s' else Q false s') E s) : wpAny M A (isTrue (.BoolOp .And (x :: rest) pos) env whole) Q E s := isTrue_and h
theorem wt_and {x : Expr} {rest : List Expr} {pos : Pos} {P : Bool → Prop} (h : WT C E own ρ x fun c => (c = true → WT C E own ρ (.BoolOp .And rest pos) P) ∧ (c = false → P false)) : WT C E own ρ (.BoolOp .And (x :: rest) pos) P := fun g s S =>
  isTrue_and' (w2 := eval (.BoolOp .And rest pos) C.env) (WT.on h S (fun c s1 g1 l1 S1 ⟨h1, h2⟩ => by
    cases c with
    | true =>
      rw [if_pos rfl]
      exact WT.le (h1 rfl) l1 S1
    | false =>
      rw [if_neg Bool.false_ne_true]
      exact ⟨g1, l1, S1, h2 rfl⟩))
theorem isTrue_or' {M : Model} {A : Around} {E : Value → Shared → Prop} {s : Shared} {env : Env} {x : Expr} {rest : List Expr} {pos : Pos} {whole w2 : Sem Value} {Q : Bool → Shared → Prop}
    (h : wpAny M A (isTrue x env (eval x env)) (fun c s' => if c then Q true s' else wpAny M A (isTrue (.BoolOp .Or rest pos) env w2) Q E s') E s) : wpAny M A (isTrue (.BoolOp .Or (x :: rest) pos) env whole) Q E s := isTrue_or h
theorem wt_or {x : Expr} {rest : List Expr} {pos : Pos} {P : Bool → Prop} (h : WT C E own ρ x fun c => (c = true → P true) ∧ (c = false → WT C E own ρ (.BoolOp .Or rest pos) P)) : WT C E own ρ (.BoolOp .Or (x :: rest) pos) P := fun g s S =>
  isTrue_or' (w2 := eval (.BoolOp .Or rest pos) C.env) (WT.on h S (fun c s1 g1 l1 S1 ⟨h1, h2⟩ => by
    cases c with
    | true =>
      rw [if_pos rfl]
      exact ⟨g1, l1, S1, h1 rfl⟩
    | false =>
      rw [if_neg Bool.false_ne_true]
      exact WT.le (h2 rfl) l1 S1))
/-- a name that holds a bool -/
theorem wt_plain {e : Expr} {P : Bool → Prop} (h : WE C E own ρ e fun d => ∃ b, d = .bool b ∧ P b)
    (he : isTrue e C.env (eval e C.env) = (do let v ← eval e C.env; standAt e.pos; holding [v] (truthy v)) := by rfl) : WT C E own ρ e P := fun g s S =>
  isTrue_plain (WE.on h S (fun v s1 g1 d l1 S1 r1 ⟨b, hb, hp⟩ => by
    subst hb
    cases r1 using Rd.boolE
    exact wpAny_truthy_bool ⟨g1, l1, S1, hp⟩)) he

theorem wl_nil {P : List DV → Prop} (h : P []) : WL C E own ρ [] P := fun _ g _ S => spliced_none ⟨g, [], Le.refl _, S, .nil, h⟩
theorem wl_cons {e : Expr} {r : List Expr} {P : List DV → Prop} (h : WE C E own ρ e fun d => WL C E own ρ r fun ds => P (d :: ds)) (he : starEach (e :: r) C.env = (false, eval e C.env) :: starEach r C.env := by rfl) : WL C E own ρ (e :: r) P := fun pos g s S =>
  spliced_more (WE.on h S (fun v s1 g1 d l1 S1 r1 h1 => WL.on h1 pos S1 (fun vs s2 g2 ds l2 S2 r2 h2 =>
    ⟨g2, d :: ds, l1.trans l2, S2, .cons (r1.mono l2) r2, h2⟩))) he

theorem fresh_none (h : Heap) : h.get? h.objs.size = none := by
  cases e : h.get? h.objs.size with
  | none => rfl
  | some o => exact absurd (Heap.lt_size e) (Nat.lt_irrefl _)
noncomputable def gext (g : G) (n : Addr) (o : Obj) : G := fun a => if a = n then some o else g a
theorem step_push {fr D : List Addr} {g : G} {s : Shared} (h : Le g s.heap.get?) {o : Obj} (hf : o.isFreed = false) : Step fr D g s (gext g s.heap.objs.size o) { s with heap := s.heap.push o } := by
  refine ⟨fun a ha => ?_, fun a o' e _ => .inl (Heap.get?_push_of_some _ e), fun a ha => if_neg (fun q : a = s.heap.objs.size => ha (by rw [q]; exact fresh_none _)), fun a o' e => ?_, rfl, rfl, rfl⟩
  · obtain ⟨o', e⟩ := Option.ne_none_iff_exists'.mp ha
    exact isn (Heap.get?_push_of_some _ e)
  unfold gext at e
  by_cases ha : a = s.heap.objs.size
  · rw [if_pos ha] at e
    cases e
    rw [ha]
    exact Heap.get?_push_size _ hf
  · rw [if_neg ha] at e
    exact Heap.get?_push_of_some _ (h a o' e)

theorem mk_tuple (W : C.Wf) {g : G} {s : Shared} {vs : List Value} {ds : List DV} {Q : Value → Shared → Prop} (S : St C own ρ g s) (r : RdL g vs ds) (hl : ds.length ≤ 1000)
    (h : ∀ v s' g', Le g g' → St C own ρ g' s' → Rd g' v (.tup ds) → Q v s') : wpAny (model C.X.prog C.X.w) C.A (newTuple vs) Q E s := by
  have hs := step_push (fr := C.frs) (D := []) S.le (o := { cls := .type "tuple", dict := none, data := .seq vs.toArray }) rfl
  refine wpAny_newObj_type (h _ _ _ (hs.mono S.le) (S.sub W hs) (.tup (if_pos rfl) rfl rfl (r.mono (hs.mono S.le)))) ?_
  show vs.toArray.size ≤ sizeLine
  rw [List.size_toArray, r.length, sizeLine_eq]
  omega
theorem mk_list (W : C.Wf) {g : G} {s : Shared} {vs : List Value} {ds : List DV} {Q : Value → Shared → Prop} (S : St C own ρ g s) (r : RdL g vs ds) (hl : ds.length ≤ 1000)
    (h : ∀ v s' g', Le g g' → St C own ρ g' s' → Rd g' v (.lst ds) → Q v s') : wpAny (model C.X.prog C.X.w) C.A (newList vs) Q E s := by
  have hs := step_push (fr := C.frs) (D := []) S.le (o := { cls := .type "list", dict := none, data := .seq vs.toArray }) rfl
  refine wpAny_newObj_type (h _ _ _ (hs.mono S.le) (S.sub W hs) (.lst (if_pos rfl) rfl rfl (r.mono (hs.mono S.le)))) ?_
  show vs.toArray.size ≤ sizeLine
  rw [List.size_toArray, r.length, sizeLine_eq]
  omega

theorem we_tuple (W : C.Wf) {es : List Expr} {k : Nat} {pos : Pos} {P : DV → Prop} (h : WL C E own ρ es fun ds => ds.length ≤ 1000 ∧ P (.tup ds)) : WE C E own ρ (.Tuple es k pos) P := fun g s S =>
  Tuple_ (WL.on h pos S (fun vs s1 g1 ds l1 S1 r1 ⟨hl, hp⟩ => mk_tuple W S1 r1 hl fun v s2 g2 l2 S2 r2 => ⟨g2, _, l1.trans l2, S2, r2, hp⟩))
theorem we_list (W : C.Wf) {es : List Expr} {pos : Pos} {P : DV → Prop} (h : WL C E own ρ es fun ds => ds.length ≤ 1000 ∧ P (.lst ds)) : WE C E own ρ (.List es pos) P := fun g s S =>
  List_ (WL.on h pos S (fun vs s1 g1 ds l1 S1 r1 ⟨hl, hp⟩ => mk_list W S1 r1 hl fun v s2 g2 l2 S2 r2 => ⟨g2, _, l1.trans l2, S2, r2, hp⟩))

theorem we_neg {x : Expr} {pos : Pos} {P : DV → Prop} (h : WE C E own ρ x fun d => ∃ a, d = .int a ∧ P (.int (-a))) : WE C E own ρ (.UnaryOp .USub x pos) P := fun g s S =>
  wpAny_UnaryOp (WE.on h S (fun v s1 g1 d l1 S1 r1 ⟨a, ha, hp⟩ => by
    subst ha
    cases r1 using Rd.intE
    exact PySem.P.neg_int ⟨g1, _, l1, S1.toks, .int _ _, hp⟩))
end

section
variable {X : Stx} {A : Around} {P : DV → Prop} {a b : Int}
theorem bin_add (h : P (.int (a + b))) : Bin X A (binaryOp .Add) (.int a) (.int b) P := fun _ _ r1 r2 k => by
  cases r1 using Rd.intE; cases r2 using Rd.intE; exact PySem.P.add_int (k _ _ _ (.int _ _) h)
theorem bin_sub (h : P (.int (a - b))) : Bin X A (binaryOp .Sub) (.int a) (.int b) P := fun _ _ r1 r2 k => by
  cases r1 using Rd.intE; cases r2 using Rd.intE; exact PySem.P.sub_int (k _ _ _ (.int _ _) h)
theorem bin_mul (h : P (.int (a * b))) (hm : IntMulOk a b) : Bin X A (binaryOp .Mult) (.int a) (.int b) P := fun _ _ r1 r2 k => by
  cases r1 using Rd.intE; cases r2 using Rd.intE; exact PySem.P.mul_int (k _ _ _ (.int _ _) h) hm
theorem bin_mod (hb : b ≠ 0) (h : P (.int (a.fmod b))) : Bin X A (binaryOp .Mod) (.int a) (.int b) P := fun _ _ r1 r2 k => by
  cases r1 using Rd.intE; cases r2 using Rd.intE; exact mod_int' hb (k _ _ _ (.int _ _) h)
theorem bin_subB {p q : Bool} (h : P (.int (b2i p - b2i q))) : Bin X A (binaryOp .Sub) (.bool p) (.bool q) P := fun _ _ r1 r2 k => by
  cases r1 using Rd.boolE; cases r2 using Rd.boolE; exact sub_bool (k _ _ _ (.int _ _) h)
theorem cmp_eq (h : P (.bool (decide (a = b)))) : Bin X A (compareOp .Eq) (.int a) (.int b) P := fun _ _ r1 r2 k => by
  cases r1 using Rd.intE; cases r2 using Rd.intE; exact PySem.P.eq_int (k _ _ _ (.bool _) h)
theorem cmp_ne (h : P (.bool (decide (a ≠ b)))) : Bin X A (compareOp .NotEq) (.int a) (.int b) P := fun _ _ r1 r2 k => by
  cases r1 using Rd.intE; cases r2 using Rd.intE
  have e : decide (a ≠ b) = (a != b) := by rw [bne, ibeq, decide_not]
  rw [e] at h
  exact PySem.P.ne_int (k _ _ _ (.bool _) h)
theorem cmp_lt (h : P (.bool (decide (a < b)))) : Bin X A (compareOp .Lt) (.int a) (.int b) P := fun _ _ r1 r2 k => by
  cases r1 using Rd.intE; cases r2 using Rd.intE; exact PySem.P.lt_int (k _ _ _ (.bool _) h)
theorem cmp_le (h : P (.bool (decide (a ≤ b)))) : Bin X A (compareOp .LtE) (.int a) (.int b) P := fun _ _ r1 r2 k => by
  cases r1 using Rd.intE; cases r2 using Rd.intE; exact PySem.P.le_int (k _ _ _ (.bool _) h)
theorem cmp_gt (h : P (.bool (decide (a > b)))) : Bin X A (compareOp .Gt) (.int a) (.int b) P := fun _ _ r1 r2 k => by
  cases r1 using Rd.intE; cases r2 using Rd.intE; exact PySem.P.gt_int (k _ _ _ (.bool _) h)
theorem cmp_ge (h : P (.bool (decide (a ≥ b)))) : Bin X A (compareOp .GtE) (.int a) (.int b) P := fun _ _ r1 r2 k => by
  cases r1 using Rd.intE; cases r2 using Rd.intE; exact PySem.P.ge_int (k _ _ _ (.bool _) h)
end

end
section

open PySem PySem.W PySem.Calls PyProof.Rows PySem.SeqAt

theorem OwnOk.weaken {g : G} {h : Heap} {fr fr' : List Addr} {own : Own} (x : OwnOk g h fr own) (hf : ∀ a ∈ fr', a ∈ fr) : OwnOk g h fr' own :=
  x.move (Le.refl g) (fun _ _ _ q => q) (fun a _ q w => q (hf a w)) fun _ _ _ _ e => e

noncomputable def Ret (C : Cx) (own : Own) (g : G) (s : Shared) : Prop := Step C.fr C.D C.g0 C.s0 g s ∧ OwnOk g s.heap C.fr own

inductive FlowOk (C : Cx) (g : G) (N : Own → Locals → Prop) (R : Own → DV → Prop) : Flow → Shared → Prop
  | next {s : Shared} (g' : G) (o : Own) (r : Locals) (l : Le g g') (S : St C o r g' s) (n : N o r) : FlowOk C g N R Flow.next s
  | ret {s : Shared} (v : Value) (g' : G) (o : Own) (d : DV) (h : Ret C o g' s) (rd : Rd g' v d) (n : R o d) : FlowOk C g N R (Flow.ret v) s
theorem FlowOk.on {C : Cx} {g : G} {N : Own → Locals → Prop} {R : Own → DV → Prop} {f : Flow} {s : Shared} {p : Flow → Prop} (h : FlowOk C g N R f s) (hn : ∀ g' o r, Le g g' → St C o r g' s → N o r → p Flow.next) (hr : ∀ v g' o d, Ret C o g' s → Rd g' v d → R o d → p (Flow.ret v)) : p f := by
  cases h with
  | next a b c d e f => exact hn a b c d e f
  | ret a b c d e f g => exact hr a b c d e f g

noncomputable def WS (C : Cx) (E : Value → Shared → Prop) (own : Own) (ρ : Locals) (ss : List Stmt) (N : Own → Locals → Prop) (R : Own → DV → Prop) : Prop :=
  ∀ g s, St C own ρ g s → wpAny (model C.X.prog C.X.w) C.A (execs ss C.env) (FlowOk C g N R) E s
noncomputable def WX (C : Cx) (E : Value → Shared → Prop) (own : Own) (ρ : Locals) (st : Stmt) (N : Own → Locals → Prop) (R : Own → DV → Prop) : Prop :=
  ∀ g s, St C own ρ g s → wpAny (model C.X.prog C.X.w) C.A (exec st C.env) (FlowOk C g N R) E s

section
variable {C : Cx} {E : Value → Shared → Prop} {own : Own} {ρ : Locals} {N N' : Own → Locals → Prop} {R R' : Own → DV → Prop}

theorem FlowOk.mono {g : G} {f : Flow} {s : Shared} (h : FlowOk C g N R f s) (hn : ∀ o r, N o r → N' o r) (hr : ∀ o d, R o d → R' o d) : FlowOk C g N' R' f s :=
  h.on (p := fun f => FlowOk C g N' R' f s) (fun g' o r a b c => .next g' o r a b (hn _ _ c)) fun v g' o d a b c => .ret v g' o d a b (hr _ _ c)
theorem FlowOk.le {g g1 : G} {f : Flow} {s : Shared} (hl : Le g g1) (h : FlowOk C g1 N R f s) : FlowOk C g N R f s :=
  h.on (p := fun f => FlowOk C g N R f s) (fun g' o r a b c => .next g' o r (hl.trans a) b c) fun v g' o d a b c => .ret v g' o d a b c
theorem WS.le {g g1 : G} {s : Shared} {ss : List Stmt} (h : WS C E own ρ ss N R) (l : Le g g1) (S : St C own ρ g1 s) : wpAny (model C.X.prog C.X.w) C.A (execs ss C.env) (FlowOk C g N R) E s :=
  wpAny_mono (h g1 s S) (fun _ _ y => y.le l) fun _ _ y => y

theorem ws_nil (h : N own ρ) : WS C E own ρ [] N R := fun g s S => wpAny_execs_nil (.next g own ρ (Le.refl _) S h)
theorem ws_cons {st : Stmt} {rest : List Stmt} (h : WX C E own ρ st (fun o r => WS C E o r rest N R) R) : WS C E own ρ (st :: rest) N R := fun g s S =>
  wpAny_execs_cons (wpAny_mono (h g s S) (fun f s1 x => by
    cases x with
    | next g1 o r a b c => exact WS.le c a b
    | ret v g' o d a b c => exact .ret v g' o d a b c) fun _ _ x => x)

theorem wx_assign (W : C.Wf) (i : Nat) {x : Str} {p p2 : Pos} {e : Expr} (hi : C.names[i]? = some x) (hk : C.env.kindOf x = some .local ∨ (C.env.kindOf x = some .cell ∧ (C.env.cells.lookup x).isSome = true))
    (h : WE C E own ρ e fun d => N own (ρ.set i (some (.fz d)))) (hs : swapsWith e (some (.Name x p)) p2.line C.env = pure false := by rfl) : WX C E own ρ (.Assign [.Name x p] e p2) N R := fun g s S =>
  wpAny_Assign_Name (WE.on h S (fun v s1 g1 d l1 S1 r1 h1 => wpAny_mono (st_store W S1 hi hk (d := .fz d) r1) (fun _ s2 S2 => .next g1 _ _ l1 S2 h1) fun _ _ x => x)) hs

theorem wx_if {t : Expr} {b o : List Stmt} {pos : Pos} (h : WT C E own ρ t fun c => (c = true → WS C E own ρ b N R) ∧ (c = false → WS C E own ρ o N R)) : WX C E own ρ (.If t b o pos) N R := fun g s S =>
  wpAny_If (WT.on h S (fun c s1 g1 l1 S1 ⟨h1, h2⟩ => by
    cases c with
    | true => exact WS.le (h1 rfl) l1 S1
    | false => exact WS.le (h2 rfl) l1 S1))

theorem wx_ret (hf : ∀ a ∈ C.fr, a ∈ C.frs) {e : Expr} {pos : Pos} (h : WE C E own ρ e fun d => R own d) : WX C E own ρ (.Return (some e) pos) N R := fun g s S =>
  wpAny_Return_some (WE.on h S (fun v s1 g1 d l1 S1 r1 h1 => .ret _ g1 own d ⟨S1.step, S1.hown.weaken hf⟩ r1 h1))

/-- a tuple unpacked into its places -/
theorem unpack_vals (W : C.Wf) {g : G} {s : Shared} {v : Value} {ds : List DV} {Q : List Value → Shared → Prop} (S : St C own ρ g s) (r : Rd g v (.tup ds))
    (h : ∀ vs s', St C own ρ g s' → RdL g vs ds → Q vs s') : wpAny (model C.X.prog C.X.w) C.A (unpackItems v ds.length none) Q E s := by
  cases r using Rd.tupE with
  | @tup a o its n h1 h2 h3 h4 =>
    have ht : s.heap.IsTuple a its := ⟨o, S.le _ _ h1, h2, n, h3⟩
    have hl := h4.length
    rw [Array.length_toList] at hl
    rw [← hl]
    refine wpAny_unpackItems_tuple W.handled ht fun h' hx => ?_
    have hs : Step C.frs [] g s g { s with heap := h' } := by
      have k : ∀ b o, s.heap.get? b = some o → h'.get? b = some o := fun b o e => hx b o (Nat.ne_of_lt (Heap.lt_size e)) e
      exact ⟨fun b hb => by obtain ⟨o, e⟩ := Option.ne_none_iff_exists'.mp hb; exact isn (k b o e), fun b o e _ => .inl (k b o e), fun _ _ => rfl, fun b o e => k b o (S.le b o e), rfl, rfl, rfl⟩
    exact h _ _ (S.sub W hs) h4

theorem wx_swap2 (W : C.Wf) (i j : Nat) {x y : Str} {px py pt pv pos : Pos} {k k' : Nat} {e1 e2 : Expr} (hi : C.names[i]? = some x) (hj : C.names[j]? = some y) (hx : C.env.kindOf x = some .local) (hy : C.env.kindOf y = some .local)
    (h : WL C E own ρ [e1, e2] fun ds => ∃ d1 d2, ds = [d1, d2] ∧ N own ((ρ.set j (some (.fz d2))).set i (some (.fz d1))))
    (hw : swappedStores [.Tuple [.Name x px, .Name y py] k pt] (.Tuple [e1, e2] k' pv) C.env = pure (some [x, y])) :
    WX C E own ρ (.Assign [.Tuple [.Name x px, .Name y py] k pt] (.Tuple [e1, e2] k' pv) pos) N R := fun g s S => by
  refine Assign_Tuple_swapped (names := [x, y]) (Tuple_ (WL.on h pv S (fun vs s1 g1 ds l1 S1 r1 ⟨d1, d2, hd, h1⟩ => ?_))) rfl hw
  subst hd
  refine mk_tuple W S1 r1 (by simp) fun v s2 g2 l2 S2 r2 => ?_
  refine unpack_vals W (ds := [d1, d2]) S2 r2 fun vs s3 S3 r3 => ?_
  cases r3 using RdL.consE with
  | cons a r3 =>
    cases r3 using RdL.consE with
    | cons b r3 =>
      cases r3 using RdL.nilE
      refine assignInOrder_cons (bindName_ (wpAny_mono (st_store W S3 hj (.inl hy) (d := .fz d2) b) (fun _ s4 S4 => ?_) fun _ _ x => x))
      exact assignInOrder_cons (bindName_ (wpAny_mono (st_store W S4 hi (.inl hx) (d := .fz d1) a) (fun _ s5 S5 => assignInOrder_nil (.next g2 _ _ (l1.trans l2) S5 h1)) fun _ _ x => x))
end

end
section

open PySem PySem.W PySem.Calls PyProof.Rows PySem.SeqAt

structure Cx.Is (C : Cx) (X : Stx) (ns : List Str) (sc : Scope) (n : Nat) : Prop where
  wf : C.Wf
  X : C.X = X
  names : C.names = ns
  scope : C.env.scope = sc
  room : C.room = n
  sub : ∀ a ∈ C.fr, a ∈ C.frs
  cells : ∀ x, sc.names.lookup x = some .cell ∨ sc.names.lookup x = some .free → ∃ c, C.env.cells.lookup x = some c

theorem Cx.Is.kind {C : Cx} {X : Stx} {ns : List Str} {sc : Scope} {n : Nat} (I : C.Is X ns sc n) {x : Str} {k : NameKind} (h : sc.names.lookup x = some k) : C.env.kindOf x = some k := by
  show C.env.scope.names.lookup x = some k
  rw [I.scope]; exact h
theorem Cx.Is.inter {C : Cx} {X : Stx} {ns : List Str} {sc : Scope} {n : Nat} (I : C.Is X ns sc n) : interactive C.env = false := by
  unfold interactive
  rw [I.wf.kind]; rfl

inductive FP (fr : List Addr) (g : G) (s : Shared) (P : DV → Prop) (v : Value) (s' : Shared) : Prop
  | mk (g' : G) (d : DV) (st : Step fr [] g s g' s') (r : Rd g' v d) (p : P d)
/-- what a call of a def yields: nothing that stood is changed -/
noncomputable def Fn (X : Stx) (n : Nat) (f : Addr) (ds : List DV) (P : DV → Prop) : Prop :=
  ∀ (A : Around) (stk : List Env) (E : Value → Shared → Prop) (g : G) (s : Shared) (vs : List Value),
    A.frames = some stk → A.handled = none → s.heap.FunFrames X.h0 stk → Roomy A n → Le X.h0.get? g → Le g s.heap.get? → (∀ a ∈ framesOf stk, g a = none) → RdL g vs ds →
    wpAny (model X.prog X.w) A (call (.ref f) vs) (FP (framesOf stk) g s P) E s

inductive DefObj (X : Stx) (x : Str) (f : Addr) (ps : Arguments) (body : List Stmt) (sc : Scope) : Prop
  | mk (o : Obj) (pm cd doc : Value) (ho : X.h0.get? f = some o) (hd : o.data = .func (docDef x ps body sc pm cd doc)) (hc : X.h0.CodeRec cd x)
structure DefAt (X : Stx) (x : Str) (f : Addr) (ps : Arguments) (body : List Stmt) (sc : Scope) : Prop where
  at_ : X.mg x = some (.ref f)
  obj : DefObj X x f ps body sc

noncomputable def start (ds : List DV) (k : Nat) : Locals := ds.map (fun d => some (.fz d)) ++ List.replicate k none

theorem fn_mono {X : Stx} {n m : Nat} {f : Addr} {ds : List DV} {P Q : DV → Prop} (h : Fn X n f ds P) (hm : n ≤ m) (hq : ∀ d, P d → Q d) : Fn X m f ds Q := fun A stk E g s vs a1 a2 a3 a4 a5 a6 a7 a8 =>
  wpAny_mono (h A stk E g s vs a1 a2 a3 (a4.le hm) a5 a6 a7 a8) (fun _ _ p => FP.casesOn p fun g' d x y z => ⟨g', d, x, y, hq d z⟩) fun _ _ x => x

theorem lookup_mem' {β : Type} {l : List (Str × β)} {x : Str} {k : β} (h : l.lookup x = some k) : (x, k) ∈ l := by
  obtain ⟨l1, l2, e, _⟩ := List.lookup_eq_some_iff.mp h
  rw [e]; simp

section
variable {C : Cx} {E : Value → Shared → Prop} {own : Own} {ρ : Locals}

theorem we_call {X : Stx} {ns : List Str} {sc : Scope} {m : Nat} (I : C.Is X ns sc m) {x : Str} {f : Addr} {ps : Arguments} {body : List Stmt} {fsc : Scope} (hd : DefAt X x f ps body fsc) {e : Expr} {r : List Expr} {p1 p2 : Pos} {P : DV → Prop}
    (hk : sc.names.lookup x = some .globalImplicit) (h : WL C E own ρ (e :: r) fun ds => Fn X m f ds P) (he : starEach (e :: r) C.env = (false, eval e C.env) :: starEach r C.env := by rfl) (h1 : (x == ("__debug__" : Str)) = false := by decide) :
    WE C E own ρ (.Call (.Name x p1) (e :: r) [] p2) P := by
  obtain ⟨W, rfl, _, _, rfl, _, _⟩ := id I
  intro g s S
  obtain ⟨o, pm, cd, doc, ho, hdat, hcd⟩ := hd.obj
  refine Call_ (loadGlob W S (I.kind hk) hd.at_ (callWith_def hdat (WL.on h p2 S (fun vs s1 g1 ds l1 S1 r1 h1 => ⟨S1.stat W _ _ ho, ?_⟩)) he) h1)
  refine wpAny_mono (h1 C.A C.stk E g1 s1 vs W.stack W.handled S1.frs W.roomy (S1.h0 W) S1.le S1.frf r1) (fun v s2 p => FP.casesOn p fun g2 d a b c => ⟨g2, d, l1.trans (a.mono S1.le), S1.sub W a, b, c⟩) fun _ _ x => x
end

end
section

open PySem PySem.W PySem.Calls PyProof.Rows PySem.SeqAt

section
variable {X : Stx} {A : Around} {P : DV → Prop} {a b : Int}
theorem bin_fdiv (hb : b ≠ 0) (hp : b.natAbs.log2 < 9000) (h : P (.int (a.fdiv b))) : Bin X A (binaryOp .FloorDiv) (.int a) (.int b) P := fun _ _ r1 r2 k => by
  cases r1 using Rd.intE; cases r2 using Rd.intE; exact floordiv_int hb (k _ _ _ (.int _ _) h) (.inl (PyProof.noPylong_of_log2 hp))
theorem bin_pow (hn : 0 ≤ b) (hs : a = 0 ∨ a = 1 ∨ a = -1 ∨ (Builtin.Int.intBits a : Int) * b ≤ 2 ^ 27) (h : P (.int (a ^ b.toNat))) : Bin X A (binaryOp .Pow) (.int a) (.int b) P := fun {E Q g s v u} _ _ r1 r2 k => by
  cases r1 using Rd.intE with
  | int t =>
  cases r2 using Rd.intE with
  | int u =>
  have hq := k (.int (a ^ b.toNat) s.toks) (.int (a ^ b.toNat)) (s.toks + 1) (.int _ _) h
  by_cases hb : (Builtin.Int.intBits a : Int) * b ≤ 2 ^ 27
  · exact pow_int hn hb hq
  have hs' : a = 0 ∨ a = 1 ∨ a = -1 := by
    rcases hs with h | h | h | h
    · exact .inl h
    · exact .inr (.inl h)
    · exact .inr (.inr h)
    · exact absurd h hb
  refine wpAny_binaryOp_same (op := .Pow) (T := "int") (typeIs_int s a t) (typeIs_int s b u) fills_int_pow slot_int_pow ?_
  refine wpAny_call_entry slot_int_pow (typeIs_int s a t) entry_int_pow ?_ (args_int_pow _ _)
  show wpAny _ _ (if b ≥ 0 then _ else _) _ _ s
  rw [if_pos hn]
  show wpAny _ _ (if (b == 0) = true then _ else _) _ _ s
  by_cases h0 : b = 0
  · rw [if_pos (by simpa using h0)]
    have e : a ^ b.toNat = 1 := by subst h0; exact Int.pow_zero a
    rw [e] at hq
    repeat (first | refine wpAny_pure ?_ | refine wpAny_mkInt ?_ | refine wpAny_rule ?_ | refine wpAny_bind ?_)
    exact ⟨_, rfl, by simp, hq⟩
  rw [if_neg (by simpa using h0)]
  show wpAny _ _ (if (a == 0 || a == 1) = true then _ else _) _ _ s
  by_cases h1 : a = 0 ∨ a = 1
  · rw [if_pos (by simpa using h1)]
    have e : a ^ b.toNat = a := by
      rcases h1 with h1 | h1
      · rw [h1]; exact zero_pow' _ (by omega)
      · rw [h1]; exact one_pow' _
    rw [e] at hq
    repeat (first | refine wpAny_pure ?_ | refine wpAny_mkInt ?_ | refine wpAny_rule ?_ | refine wpAny_bind ?_)
    exact ⟨_, rfl, by simp, hq⟩
  rw [if_neg (by simpa using h1)]
  have h2 : a = -1 := by
    rcases hs' with h | h | h
    · exact absurd (.inl h) h1
    · exact absurd (.inr h) h1
    · exact h
  show wpAny _ _ (if (a == -1) = true then _ else _) _ _ s
  rw [if_pos (by simpa using h2)]
  have e : a ^ b.toNat = (if b % 2 == 0 then 1 else -1) := by rw [h2]; exact neg_one_pow_int hn
  rw [e] at hq
  repeat (first | refine wpAny_pure ?_ | refine wpAny_mkInt ?_ | refine wpAny_rule ?_ | refine wpAny_bind ?_)
  exact ⟨_, rfl, by simp, hq⟩

/-- equal or not: data of ints, texts, tuples -/
theorem cmp_eqD {d e : DV} (hs : shp d e) (hu : A.units + deepD d < cLine) (h : P (.bool (eqD d e))) : Bin X A (compareOp .Eq) d e P := fun {E Q g s v u} _ hg r1 r2 k => by
  cases d with
  | tup l =>
    obtain ⟨m, rfl, hs⟩ := shp_tup hs
    cases r1 using Rd.tupE with
    | tup a1 a2 a3 a4 =>
    cases r2 using Rd.tupE with
    | tup b1 b2 b3 b4 =>
    exact rcAt_tup l m hs hg hg ⟨_, hg _ _ a1, a2, _, a3⟩ ⟨_, hg _ _ b1, b2, _, b3⟩ a4 b4 hu X.prog X.w E Q (k _ _ _ (.bool _) h)
  | int i =>
    obtain ⟨j, rfl⟩ := shp_int hs
    cases r1 using Rd.intE; cases r2 using Rd.intE; exact PySem.P.eq_int (k _ _ _ (.bool _) h)
  | str x =>
    obtain ⟨j, rfl⟩ := shp_str hs
    cases r1 using Rd.strE; cases r2 using Rd.strE
    exact RcAt.str_str _ _ _ _ X.prog X.w E Q (k _ _ _ (.bool _) h)
  | _ => exact False.elim hs

theorem cmp_neTup {l m : List DV} (hs : shpL l m) (hu : A.units + (deepL l + 1) < cLine) (h : P (.bool (!eqDL l m))) : Bin X A (compareOp .NotEq) (.tup l) (.tup m) P := fun {E Q g s v u} _ hg r1 r2 k => by
  cases r1 using Rd.tupE with
  | tup a1 a2 a3 h1 =>
    cases r2 using Rd.tupE with
    | tup b1 b2 b3 h2 =>
      have key := eqAt_all l m hs (A := A.in1) (s := s) hg hg h1 h2 (by show A.units + 1 + deepL l < cLine; omega)
      have l1 := h1.length
      have l2 := h2.length
      rw [Array.length_toList] at l1 l2
      rw [eqDL_range, ← l1, ← l2] at h
      exact RcNeAt.tuples ⟨_, hg _ _ a1, a2, _, a3⟩ ⟨_, hg _ _ b1, b2, _, b3⟩ (by omega) (fun j hj1 hj2 => by
        have := key j (by rw [Array.length_toList]; exact hj1) (by rw [Array.length_toList]; exact hj2)
        simpa [eqJ] using this) X.prog X.w E Q (k _ _ _ (.bool _) h)
end

section
variable {C : Cx} {E : Value → Shared → Prop} {own : Own} {ρ : Locals} {N : Own → Locals → Prop} {R : Own → DV → Prop}

inductive itemOf (P : DV → Prop) : DV → DV → Prop
  | tup (ds : List DV) (k : Int) (h1 : -(2 ^ 63) ≤ k) (h2 : k < 2 ^ 63) (j : Nat) (e : DV) (h3 : seqIndex? k ds.length = some j) (h4 : ds[j]? = some e) (h : P e) : itemOf P (.tup ds) (.int k)
  | lst (ds : List DV) (k : Int) (h1 : 0 ≤ k) (h2 : k < 2 ^ 63) (e : DV) (h4 : ds[k.toNat]? = some e) (h : P e) : itemOf P (.lst ds) (.int k)

/-- a call of a built-in by its name, its arguments in hand -/
theorem we_bi (W : C.Wf) {x : Str} {id : String} {e : Expr} {r : List Expr} {p1 p2 : Pos} {P : DV → Prop} (hk : C.env.kindOf x = some .globalImplicit) (hm : C.X.mg x = none) (hv : bootBuiltins x = some (.builtin id))
    (h : WL C E own ρ (e :: r) fun ds => ∀ {g s vs}, St C own ρ g s → RdL g vs ds → wpAny (model C.X.prog C.X.w) C.A (call (.builtin id) vs) (VP C own ρ g P) E s)
    (he : starEach (e :: r) C.env = (false, eval e C.env) :: starEach r C.env := by rfl) (hp : ∀ pos, (backTo pos (starEach r C.env)).any (·.1) = false := by intro _; rfl) (h1 : (x == ("__debug__" : Str)) = false := by decide) (hn : x ≠ "__name__" := by decide) :
    WE C E own ρ (.Call (.Name x p1) (e :: r) [] p2) P := fun g s S =>
  Call_ (loadBi W S hk hm hv (callWith_builtin1 (WL.on h p2 S (fun vs s1 g1 ds l1 S1 r1 h1 => wpAny_mono (h1 S1 r1) (fun v s2 ⟨g2, d, l2, S2, r2, hp⟩ => ⟨g2, d, l1.trans l2, S2, r2, hp⟩) fun _ _ x => x)) he (hp p2)) h1 hn)
noncomputable def iabs (a : Int) : Int := if a < 0 then -a else a
theorem bi_abs {a : Int} {P : DV → Prop} {g : G} {s : Shared} {vs : List Value} (S : St C own ρ g s) (r : RdL g vs [.int a]) (h : P (.int (iabs a))) :
    wpAny (model C.X.prog C.X.w) C.A (call (.builtin "abs") vs) (VP C own ρ g P) E s := by
  cases r using RdL.consE with
  | cons x r => cases r using RdL.nilE; cases x using Rd.intE; exact call_abs_int fun u tk => ⟨g, _, Le.refl _, S.toks, .int _ _, h⟩

/-- nothing that stood is changed -/
theorem St.keep (W : C.Wf) {g : G} {s : Shared} {h' : Heap} {t : Nat} (S : St C own ρ g s) (k : ∀ b o, s.heap.get? b = some o → h'.get? b = some o) : St C own ρ g { s with heap := h', toks := t } :=
  S.sub W (g' := g) ⟨fun a ha => by obtain ⟨o, e⟩ := Option.ne_none_iff_exists'.mp ha; exact isn (k a o e), fun b o e _ => .inl (k b o e), fun _ _ => rfl, fun b o e => k b o (S.le b o e), rfl, rfl, rfl⟩

theorem bi_max2 (W : C.Wf) {a b : Int} {P : DV → Prop} {g : G} {s : Shared} {vs : List Value} (S : St C own ρ g s) (r : RdL g vs [.int a, .int b]) (h : P (.int (if b > a then b else a))) :
    wpAny (model C.X.prog C.X.w) C.A (call (.builtin "max") vs) (VP C own ρ g P) E s := by
  cases r using RdL.consE with
  | cons x r =>
  cases r using RdL.consE with
  | cons y r =>
  cases r using RdL.nilE
  cases x using Rd.intE
  cases y using Rd.intE
  refine max_two_ints W.handled fun h' tk hk => ?_
  refine ⟨g, _, Le.refl _, S.keep W hk, ?_, h⟩
  split
  · exact .int _ _
  · exact .int _ _
theorem bi_lenT (W : C.Wf) {ds : List DV} {P : DV → Prop} {g : G} {s : Shared} {vs : List Value} (S : St C own ρ g s) (r : RdL g vs [.tup ds]) (hl : ds.length < 2 ^ 62) (h : P (.int ds.length)) :
    wpAny (model C.X.prog C.X.w) C.A (call (.builtin "len") vs) (VP C own ρ g P) E s := by
  cases r using RdL.consE with
  | cons x r =>
  cases r using RdL.nilE
  cases x using Rd.tupE with
  | @tup a o its n a1 a2 a3 a4 =>
  have hl' := a4.length
  rw [Array.length_toList] at hl'
  refine PyProof.Rows.len_tuple ⟨o, S.le _ _ a1, a2, _, a3⟩ (by omega) ?_
  rw [hl']
  exact ⟨g, _, Le.refl _, S.toks, .int _ _, h⟩

inductive JP (C : Cx) (g : G) (J : Own → Locals → Prop) (s : Shared) : Prop
  | mk (g' : G) (o : Own) (r : Locals) (l : Le g g') (S : St C o r g' s) (j : J o r)
theorem wx_while (W : C.Wf) {test : Expr} {body : List Stmt} {pos : Pos} (J : Nat → Own → Locals → Prop) (n0 : Nat) (h0 : J n0 own ρ)
    (turn : ∀ n o r E', J n o r → WT C E' o r test fun c => (c = true → WS C E' o r body (fun o' r' => ∃ m, m < n ∧ J m o' r') R) ∧ (c = false → N o r)) : WX C E own ρ (.While test body [] pos) N R := fun g s S => by
  refine wpAny_While (codeAny_whileLoop (fun n s' => JP C g (J n) s') (fun n s' x => ?_) n0 ⟨g, own, ρ, Le.refl _, S, h0⟩)
  cases x with
  | mk g' o r l S' hJ =>
  refine WT.on (turn n o r _ hJ) S' (fun c s1 g1 l1 S1 hh => ?_)
  cases c with
  | true =>
    rw [if_pos rfl]
    refine wpAny_mono (hh.1 rfl g1 s1 S1) (fun f s2 x => ?_) fun _ _ x => x
    cases x with
    | next g2 o2 r2 l2 S2 j => exact let ⟨m, hm, hj⟩ := j; ⟨m, hm, g2, o2, r2, (l.trans l1).trans l2, S2, hj⟩
    | ret v a b c d e f => exact .ret v a b c d e f
  | false =>
    rw [if_neg Bool.false_ne_true]
    exact wpAny_execs_nil (.next g1 o r (l.trans l1) S1 (hh.2 rfl))
end

end
section

open PySem PySem.W PySem.Calls PyProof.Rows PySem.SeqAt

noncomputable def idx : List Str → Str → Nat → Option Nat
  | [], _, _ => none
  | y :: r, x, i => if x = y then some i else idx r x (i + 1)
theorem idx_spec : ∀ {l : List Str} {x : Str} {k i : Nat}, idx l x k = some i → ∃ j, i = k + j ∧ l[j]? = some x := by
  intro l
  induction l with
  | nil => intro x k i h; cases h
  | cons y r ih =>
    intro x k i h
    unfold idx at h
    by_cases e : x = y
    · rw [if_pos e] at h
      exact ⟨0, (Option.some.inj h).symm, congrArg some e.symm⟩
    · rw [if_neg e] at h
      obtain ⟨j, h1, h2⟩ := ih h
      exact ⟨j + 1, h1.trans (Nat.add_right_comm ..), h2⟩

section
variable {C : Cx} {E : Value → Shared → Prop} {own : Own} {ρ : Locals} {N : Own → Locals → Prop} {R : Own → DV → Prop} {X : Stx} {ns : List Str} {sc : Scope} {n : Nat}

theorem Cx.Is.at_ (I : C.Is X ns sc n) {x : Str} {i : Nat} (h : idx ns x 0 = some i) : C.names[i]? = some x := by
  obtain ⟨j, h1, h2⟩ := idx_spec h
  rw [I.names, h1, Nat.zero_add]; exact h2

theorem we_nm (I : C.Is X ns sc n) {i : Nat} {x : Str} {pos : Pos} {d : DV} {P : DV → Prop} (hi : idx ns x 0 = some i) (hd : ρ[i]? = some (some (.fz d))) (h : P d)
    (h1 : (x == ("__debug__" : Str)) = false := by decide) (h2 : (x == ("__classdict__" : Str)) = false := by decide) : WE C E own ρ (.Name x pos) P := we_name I.wf i (I.at_ hi) hd h h1 h2
theorem we_gl (I : C.Is X ns sc n) {x : Str} {pos : Pos} {v : Value} {d : DV} {P : DV → Prop} (hk : sc.names.lookup x = some .globalImplicit) (hv : X.mg x = some v) (hr : Rd X.h0.get? v d) (h : P d) (h1 : (x == ("__debug__" : Str)) = false := by decide) :
    WE C E own ρ (.Name x pos) P := we_glob I.wf (I.kind hk) (I.X ▸ hv) (I.X ▸ hr) h h1
theorem w_tup (I : C.Is X ns sc n) {es : List Expr} {k : Nat} {pos : Pos} {P : DV → Prop} (h : WL C E own ρ es fun ds => ds.length ≤ 1000 ∧ P (.tup ds)) : WE C E own ρ (.Tuple es k pos) P := we_tuple I.wf h
theorem w_lst (I : C.Is X ns sc n) {es : List Expr} {pos : Pos} {P : DV → Prop} (h : WL C E own ρ es fun ds => ds.length ≤ 1000 ∧ P (.lst ds)) : WE C E own ρ (.List es pos) P := we_list I.wf h
theorem w_bin (I : C.Is X ns sc n) {l r : Expr} {op : Operator} {pos : Pos} {P : DV → Prop} (h : WE C E own ρ l fun d => WE C E own ρ r fun e => Bin C.X C.A (binaryOp op) d e P) : WE C E own ρ (.BinOp l op r pos) P := we_bin I.wf h
theorem w_cmp (I : C.Is X ns sc n) {l r : Expr} {op : CmpOp} {pos : Pos} {P : DV → Prop} (h : WE C E own ρ l fun d => WE C E own ρ r fun e => Bin C.X C.A (compareOp op) d e P) (hm : behindInMarks op r = false := by with_unfolding_all rfl) : WE C E own ρ (.Compare l [op] [r] pos) P := we_cmp I.wf h hm
theorem t_cmp (I : C.Is X ns sc n) {l r : Expr} {op : CmpOp} {pos : Pos} {P : Bool → Prop} (h : WE C E own ρ l fun d => WE C E own ρ r fun e => Bin C.X C.A (compareOp op) d e fun z => ∃ b, z = .bool b ∧ P b) (hm : behindInMarks op r = false := by with_unfolding_all rfl) : WT C E own ρ (.Compare l [op] [r] pos) P := wt_cmp I.wf h hm
theorem x_set (I : C.Is X ns sc n) {i : Nat} {x : Str} {p p2 : Pos} {e : Expr} (hi : idx ns x 0 = some i) (hk : sc.names.lookup x = some .local)
    (h : WE C E own ρ e fun d => N own (ρ.set i (some (.fz d)))) (hs : swapsWith e (some (.Name x p)) p2.line C.env = pure false := by rfl) : WX C E own ρ (.Assign [.Name x p] e p2) N R :=
  wx_assign I.wf i (I.at_ hi) (.inl (I.kind hk)) h hs
theorem x_ret (I : C.Is X ns sc n) {e : Expr} {pos : Pos} (h : WE C E own ρ e fun d => R own d) : WX C E own ρ (.Return (some e) pos) N R := wx_ret I.sub h
theorem Cx.Is.swap (I : C.Is X ns sc n) {T : List Expr} {V : Expr} {r : Sem (Option (List Str))} (h : ∀ v : Env, swappedStores T V { v with scope := sc } = r) : swappedStores T V C.env = r := by
  have := h C.env
  rw [← I.scope] at this
  exact this
theorem x_swap (I : C.Is X ns sc n) {i j : Nat} {x y : Str} {px py pt pv pos : Pos} {k k' : Nat} {e1 e2 : Expr} (hi : idx ns x 0 = some i) (hj : idx ns y 0 = some j) (hx : sc.names.lookup x = some .local) (hy : sc.names.lookup y = some .local)
    (h : WL C E own ρ [e1, e2] fun ds => ∃ d1 d2, ds = [d1, d2] ∧ N own ((ρ.set j (some (.fz d2))).set i (some (.fz d1))))
    (hw : ∀ v : Env, swappedStores [.Tuple [.Name x px, .Name y py] k pt] (.Tuple [e1, e2] k' pv) { v with scope := sc } = pure (some [x, y]) := by intro _; rfl) :
    WX C E own ρ (.Assign [.Tuple [.Name x px, .Name y py] k pt] (.Tuple [e1, e2] k' pv) pos) N R := wx_swap2 I.wf i j (I.at_ hi) (I.at_ hj) (I.kind hx) (I.kind hy) h (I.swap hw)
theorem item_tup {ds : List DV} {k : Int} {j : Nat} {e : DV} {P : DV → Prop} (h1 : -(2 ^ 63) ≤ k) (h2 : k < 2 ^ 63) (h3 : seqIndex? k ds.length = some j) (h4 : ds[j]? = some e) (h : P e) : itemOf P (.tup ds) (.int k) := .tup ds k h1 h2 j e h3 h4 h
theorem item_lst {ds : List DV} {k : Int} {e : DV} {P : DV → Prop} (h1 : 0 ≤ k) (h2 : k < 2 ^ 63) (h4 : ds[k.toNat]? = some e) (h : P e) : itemOf P (.lst ds) (.int k) := .lst ds k h1 h2 e h4 h

theorem w_bi1 (I : C.Is X ns sc n) {x : Str} {id : String} {e : Expr} {p1 p2 : Pos} {P : DV → Prop} (hm : X.mg x = none) (hk : sc.names.lookup x = some .globalImplicit) (hv : bootBuiltins x = some (.builtin id))
    (h : WE C E own ρ e fun d => ∀ {g s v}, St C own ρ g s → Rd g v d → wpAny (model C.X.prog C.X.w) C.A (call (.builtin id) [v]) (VP C own ρ g P) E s)
    (he : starEach [e] C.env = (false, eval e C.env) :: starEach [] C.env := by rfl) (h1 : (x == ("__debug__" : Str)) = false := by decide) (hn : x ≠ "__name__" := by decide) :
    WE C E own ρ (.Call (.Name x p1) [e] [] p2) P := by
  refine we_bi I.wf (I.kind hk) (I.X ▸ hm) hv (wl_cons ?_ he) he (fun _ => rfl) h1 hn
  intro g s S
  refine WE.on h S (fun v s1 g1 d l1 S1 r1 hp => ⟨g1, d, l1, S1, r1, ?_⟩)
  refine wl_nil fun S2 r2 => ?_
  cases r2 using RdL.consE with
  | cons a r => cases r using RdL.nilE; exact hp S2 a
theorem w_abs (I : C.Is X ns sc n) {e : Expr} {p1 p2 : Pos} {P : DV → Prop} (hm : X.mg ("abs" : Str) = none) (hk : sc.names.lookup ("abs" : Str) = some .globalImplicit)
    (h : WE C E own ρ e fun d => ∃ c, d = .int c ∧ P (.int (iabs c))) (he : starEach [e] C.env = (false, eval e C.env) :: starEach [] C.env := by rfl) :
    WE C E own ρ (.Call (.Name ("abs" : Str) p1) [e] [] p2) P := by
  refine w_bi1 I hm hk boot_abs ?_ he
  intro g s S
  refine WE.on h S (fun v s1 g1 d l1 S1 r1 ⟨c, hc, hp⟩ => ⟨g1, d, l1, S1, r1, fun S2 r2 => ?_⟩)
  subst hc
  exact bi_abs S2 (.cons r2 .nil) hp
theorem w_max2 (I : C.Is X ns sc n) {e f : Expr} {p1 p2 : Pos} {P : DV → Prop} (hm : X.mg ("max" : Str) = none) (hk : sc.names.lookup ("max" : Str) = some .globalImplicit)
    (h : WL C E own ρ [e, f] fun ds => ∃ a b, ds = [.int a, .int b] ∧ P (.int (if b > a then b else a))) (he : starEach [e, f] C.env = (false, eval e C.env) :: starEach [f] C.env := by rfl) (hp : ∀ pos, (backTo pos (starEach [f] C.env)).any (·.1) = false := by intro _; rfl) :
    WE C E own ρ (.Call (.Name ("max" : Str) p1) [e, f] [] p2) P := by
  refine we_bi I.wf (I.kind hk) (I.X ▸ hm) boot_max ?_ he hp
  intro pos g s S
  refine WL.on h pos S (fun v s1 g1 d l1 S1 r1 ⟨a, b, hc, hp⟩ => ⟨g1, d, l1, S1, r1, fun S2 r2 => ?_⟩)
  subst hc
  exact bi_max2 I.wf S2 r2 hp
end

theorem fn_at {X : Stx} {n : Nat} {f : Addr} {ds : List DV} {P : DV → Prop} {r : DV} (h : Fn X n f ds (fun d => d = r)) (hp : P r) : Fn X n f ds P := fn_mono h (Nat.le_refl _) fun d e => e ▸ hp
theorem br_dec {p : Prop} [Decidable p] {A B : Prop} (h1 : p → A) (h2 : ¬p → B) : (decide p = true → A) ∧ (decide p = false → B) := ⟨fun h => h1 (of_decide_eq_true h), fun h => h2 (of_decide_eq_false h)⟩
theorem br_decF {p : Prop} [Decidable p] {A B : Prop} (h : ¬p) (k : B) : (decide p = true → A) ∧ (decide p = false → B) := br_dec (fun q => absurd q h) fun _ => k
theorem br_decT {p : Prop} [Decidable p] {A B : Prop} (h : p) (k : A) : (decide p = true → A) ∧ (decide p = false → B) := br_dec (fun _ => k) fun q => absurd h q
theorem le1000 {n : Nat} (h : Nat.ble n 1000 = true) : n ≤ 1000 := Nat.le_of_ble_eq_true h

end
section

open PySem PySem.W PySem.Calls PyProof.Rows PySem.SeqAt

noncomputable def Cx.add (C : Cx) (p : Addr × Obj) : Cx := { C with prot := p :: C.prot }
theorem OwnOk.held {g : G} {h : Heap} {fr : List Addr} {own : Own} (x : OwnOk g h fr own) : ∀ a ∈ own.addrs, h.get? a ≠ none := by
  intro a ha
  cases own with
  | no => cases ha
  | kdict b l => exact List.mem_singleton.mp ha ▸ x.2.2.ne
  | idict b l => exact List.mem_singleton.mp ha ▸ x.2.2.ne
  | law b oi t =>
    rcases List.mem_cons.mp ha with q | q
    · exact q ▸ x.2.2.1.ne
    · obtain ⟨p, hp, rfl⟩ := List.mem_map.mp q
      exact (x.2.2.2 p hp).2.2.2.ne
  | tb t =>
    obtain ⟨p, hp, rfl⟩ := List.mem_map.mp ha
    exact (x p hp).2.2.ne

section
variable {C : Cx} {E : Value → Shared → Prop} {own : Own} {ρ : Locals} {N : Own → Locals → Prop} {R : Own → DV → Prop}

theorem fresh_new (W : C.Wf) {g : G} {s : Shared} (S : St C own ρ g s) {I : Addr} (h : s.heap.get? I = none) : Fresh C own g I := by
  refine ⟨?_, fun m => S.hown.held _ m h, fun e => ?_, fun x e => ?_, fun m => ?_, ?_, fun p hp e => ?_⟩
  · cases q : g I with
    | none => rfl
    | some o => rw [S.le _ _ q] at h; cases h
  · obtain ⟨m, ⟨o, _, _, ho, _⟩, _⟩ := S.vars
    rw [e, ho] at h; cases h
  · obtain ⟨_, _, _, o, v, e1, _⟩ := S.cells x I e
    rw [h] at e1; cases e1
  · obtain ⟨_, o, ho, _⟩ := S.frs.mem m
    rw [h] at ho; cases ho
  · cases q : C.s0.heap.get? I with
    | none => rfl
    | some o => exact absurd h (S.step.dom I (isn q))
  · exact (S.prot p hp).1.get (by rw [e]; exact h)

theorem add_wf (W : C.Wf) {p : Addr × Obj} (h : p.1 ≠ C.env.locals ∧ (∀ x, C.env.cells.lookup x ≠ some p.1)) : (C.add p).Wf :=
  ⟨W.wf, W.base, W.le0, W.kind, W.globals, W.builtins, W.nodup, W.frame, W.cinj, W.lnew, W.cnew, W.cfr, W.frs0, W.stack, W.handled, W.roomy, fun q hq => by
    rcases List.mem_cons.mp hq with e | e
    · rw [e]; exact h
    · exact W.prot q e⟩
theorem add_is {X : Stx} {ns : List Str} {sc : Scope} {n : Nat} (I : C.Is X ns sc n) {p : Addr × Obj} (h : (C.add p).Wf) : (C.add p).Is X ns sc n := ⟨h, I.X, I.names, I.scope, I.room, I.sub, I.cells⟩
theorem St.add {g : G} {s : Shared} {p : Addr × Obj} (S : St C own ρ g s) (h : s.heap.get? p.1 = some p.2 ∧ g p.1 = none ∧ p.1 ∉ own.addrs) : St (C.add p) own ρ g s :=
  ⟨S.step, S.hown, S.frs, S.frf, S.lfree, S.lown, S.cells, S.vars, fun q hq => by
    rcases List.mem_cons.mp hq with e | e
    · rw [e]; exact ⟨.of h.1, h.2⟩
    · exact S.prot q e, S.whole⟩
theorem St.drop {g : G} {s : Shared} {p : Addr × Obj} (S : St (C.add p) own ρ g s) : St C own ρ g s :=
  ⟨S.step, S.hown, S.frs, S.frf, S.lfree, S.lown, S.cells, S.vars, fun q hq => S.prot q (List.mem_cons_of_mem _ hq), S.whole⟩
theorem St.dropped {g : G} {s : Shared} {p : Addr × Obj} (S : St (C.add p) own ρ g s) (hf : p.1 ∉ C.frs) : s.heap.get? p.1 = some p.2 ∧ g p.1 = none ∧ p.1 ∉ own.addrs :=
  let ⟨a, b⟩ := S.prot p List.mem_cons_self; ⟨a.exact hf, b⟩

theorem St.at1 (W : C.Wf) {g : G} {s : Shared} {I : Addr} {h' : Heap} {t : Nat} (S : St C own ρ g s) (F : Fresh C own g I) (k : ∀ b o, b ∉ [I] → s.heap.get? b = some o → h'.get? b = some o) : St C own ρ g { s with heap := h', toks := t } := by
  refine S.subD W (D := [I]) ⟨fun a o e hd => .inl (k a o hd e), fun _ _ => rfl, fun a o e => k a o (fun m => ?_) (S.le a o e), rfl, rfl, rfl⟩ (fun a ha => ?_) fun J hJ => ?_
  · rw [List.mem_singleton.mp m, F.gn] at e; cases e
  · have e : a ≠ I := fun q => ha (q ▸ F.s0)
    obtain ⟨o, q⟩ := Option.ne_none_iff_exists'.mp (S.step.dom a ha)
    exact isn (k a o (by simpa using e) q)
  · rw [List.mem_singleton.mp hJ]; exact F

/-- what an iterator yields -/
inductive ItW (C : Cx) (I : Addr) (L : List DV) (g : G) (Sx : Nat → Heap → Prop) : Prop
  | mk (fp : List Addr) (P : Nat → Value → Prop) (Wk : Walks C.X.prog C.X.w C.A I fp [I] L.length P Sx) (hfp : ∀ b ∈ fp, b = I ∨ g b ≠ none) (hP : ∀ i v, P i v → ∃ d, L[i]? = some d ∧ Rd g v d) (hI : ∀ i h, Sx i h → ∃ o, h.get? I = some o)
    (hgo : ∀ i target v (s' : Shared) (Q : Unit → Shared → Prop) (E : Value → Shared → Prop), Sx i s'.heap → Q () s' → wpAny (model C.X.prog C.X.w) C.A (letOwnedTupleGo target (.ref I) v) Q E s')

inductive ItAt (C : Cx) (own : Own) (ρ : Locals) (g : G) (Pp : List DV → Prop) (s : Shared) : Value → Prop
  | mk (g' : G) (I : Addr) (L : List DV) (Sx : Nat → Heap → Prop) (l : Le g g') (S : St C own ρ g' s) (F : Fresh C own g' I) (it : ItW C I L g' Sx) (hx : Sx 0 s.heap) (p : Pp L) : ItAt C own ρ g Pp s (.ref I)
noncomputable def WI (C : Cx) (E : Value → Shared → Prop) (own : Own) (ρ : Locals) (e : Expr) (Pp : List DV → Prop) : Prop :=
  ∀ g s, St C own ρ g s → wpAny (model C.X.prog C.X.w) C.A (eval e C.env) (fun v s1 => wpAny (model C.X.prog C.X.w) C.A (pyIter v) (fun it s => ItAt C own ρ g Pp s it) E s1) E s
inductive AP (C : Cx) (own : Own) (g : G) (Nn : Locals → Prop) (s : Shared) : Prop
  | mk (r : Locals) (S : St C own r g s) (n : Nn r)
noncomputable def WA (C : Cx) (E : Value → Shared → Prop) (own : Own) (ρ : Locals) (target : Expr) (d : DV) (Nn : Locals → Prop) : Prop :=
  ∀ g s v, St C own ρ g s → Rd g v d → wpAny (model C.X.prog C.X.w) C.A (assign target C.env v) (fun _ s' => AP C own g Nn s') E s

theorem WI.mono {e : Expr} {Pp Pq : List DV → Prop} (h : WI C E own ρ e Pp) (f : ∀ L, Pp L → Pq L) : WI C E own ρ e Pq := fun g s S =>
  wpAny_mono (h g s S) (fun v s1 h1 => wpAny_mono h1 (fun it s2 x => by
    cases x with
    | mk g' I L Sx a1 a2 a3 a4 a5 a6 => exact ⟨g', I, L, Sx, a1, a2, a3, a4, a5, f L a6⟩) fun _ _ x => x) fun _ _ x => x
inductive JT (C : Cx) (I : Addr) (len : Nat) (g : G) (Sx : Nat → Heap → Prop) (J : Nat → Own → Locals → Prop) (k : Nat) (s : Shared) : Prop
  | mk (g' : G) (i : Nat) (o : Own) (r : Locals) (l : Le g g') (S : St C o r g' s) (F : Fresh C o g' I) (hx : Sx i s.heap) (j : J i o r) (hi : i ≤ len) (hk : k = len + 1 - i)

theorem wx_for (W : C.Wf) {target iter : Expr} {body : List Stmt} {pos : Pos} {E0 : Value → Shared → Prop} (hE : ∀ v s, E0 v s → notedBy (model C.X.prog C.X.w) C.A C.env (cameBackBy (model C.X.prog C.X.w) C.A C.env E) v s)
    (h : WI C E own ρ iter fun L => ∃ J : Nat → Own → Locals → Prop, J 0 own ρ ∧
      (∀ p, (C.add p).Wf → ∀ i d o r, L[i]? = some d → J i o r → WA (C.add p) E0 o r target d fun r' => WS (C.add p) E0 o r' body (fun o2 r2 => J (i + 1) o2 r2) R) ∧ (∀ o r, J L.length o r → N o r))
    (hs : ∀ x, foldedSetIterable iter C.env x = pure x := by intro _; rfl) : WX C E own ρ (.For target iter body [] pos) N R := by
  intro g s S
  refine wpAny_For (wpAny_mono (h g s S) (fun v s1 h1 => wpAny_mono h1 (fun it s2 h2 => ?_) fun _ _ x => x) fun _ _ x => x) hs
  cases h2 with
  | mk g0 I L Sx l0 S0 F0 it hx0 hJ =>
  cases it with
  | mk fp P Wk hfp hP hI hgo =>
  obtain ⟨J, hJ0, hstep, hend⟩ := hJ
  refine codeAny_forLoop_any (JT C I L.length g0 Sx J) ?_ (L.length + 1) ⟨g0, 0, own, ρ, Le.refl _, S0, F0, hx0, hJ0, Nat.zero_le _, rfl⟩
  intro k s' hT
  cases hT with
  | mk g' i o r l1 S1 F1 hx hJ hi hk =>
  subst hk
  by_cases hlt : i < L.length
  · refine Wk.item i _ _ _ hlt hx fun v h' tk hp hx' hk => ?_
    obtain ⟨obj, hobj⟩ := hI _ _ hx'
    have S2 := S1.at1 W F1 (t := tk) hk
    obtain ⟨d, hd, hr⟩ := hP i v hp
    have Wp : (C.add (I, obj)).Wf := add_wf W ⟨F1.loc, F1.cells⟩
    have S3 : St (C.add (I, obj)) o r g' _ := S2.add ⟨hobj, F1.gn, F1.own⟩
    refine hgo (i + 1) _ _ _ _ _ hx' ?_
    refine wpAny_mono (hstep (I, obj) Wp i d o r hd hJ g' _ v S3 (hr.mono l1)) (fun _ s4 h4 => ?_) fun v s4 h4 => hE v s4 h4
    cases h4 with
    | mk r' S4 h4 =>
    refine wpAny_mono (h4 g' s4 S4) (fun f s5 h5 => ?_) fun v s5 h5 => hE v s5 h5
    cases h5 with
    | next g5 o5 r5 l5 S5 hJ5 =>
      have pp := S5.dropped F1.frs
      refine ⟨_, Nat.sub_lt_sub_left (Nat.lt_succ_of_le hi) (Nat.lt_succ_self i), g5, i + 1, o5, r5, l1.trans l5, S5.drop, ⟨pp.2.1, pp.2.2, F1.loc, F1.cells, F1.frs, F1.s0, F1.prot⟩, ?_, hJ5, hlt, rfl⟩
      refine Wk.frame _ _ _ hx' fun b hb ob e => ?_
      rcases hfp b hb with q | q
      · rw [q, hobj] at e
        rw [q, ← Option.some.inj e]
        exact pp.1
      · obtain ⟨ob', q⟩ := Option.ne_none_iff_exists'.mp q
        rw [show h'.get? b = some ob' from S2.le _ _ (l1 _ _ q)] at e
        rw [← Option.some.inj e]
        exact S5.le _ _ (l5 _ _ (l1 _ _ q))
    | ret v a b c d e f => exact .ret v a b c d e f
  · refine Wk.done _ _ _ (Nat.le_antisymm hi (Nat.le_of_not_lt hlt) ▸ hx) fun h' tk hk => ?_
    exact wpAny_execs_nil (.next g' o r (l0.trans l1) (S1.at1 W F1 (t := tk) hk) (hend o r (Nat.le_antisymm hi (Nat.le_of_not_lt hlt) ▸ hJ)))
end

end
section

open PySem PySem.W PySem.Calls PyProof.Rows PySem.SeqAt

theorem RdL.getV {g : G} : ∀ {vs : List Value} {ds : List DV}, RdL g vs ds → ∀ {i : Nat} {v : Value}, vs[i]? = some v → ∃ d, ds[i]? = some d ∧ Rd g v d := by
  intro vs
  induction vs with
  | nil => intro ds h i v e; cases e
  | cons u vs ih =>
    intro ds h i v e
    cases h with
    | cons x r =>
      cases i with
      | zero => cases e; exact ⟨_, rfl, x⟩
      | succ i => exact ih r e
theorem RdE.length {g : G} : ∀ {es : List DictEntry} {l : GD}, RdE g es l → es.length = l.length := by
  intro es
  induction es with
  | nil => intro l h; cases h; rfl
  | cons e es ih => intro l h; cases h with | cons _ _ _ r => simp [ih r]
theorem RdE.getE {g : G} : ∀ {es : List DictEntry} {l : GD}, RdE g es l → ∀ {i : Nat} {e : DictEntry}, es[i]? = some e → ∃ k r, l[i]? = some (k, r) ∧ Rd g e.key (kd k) ∧ Rd g e.val (rd r) := by
  intro es
  induction es with
  | nil => intro l h i e q; cases q
  | cons u es ih =>
    intro l h i e q
    cases h with
    | @cons _ k r _ l a b c d =>
      cases i with
      | zero => cases q; exact ⟨k, r, rfl, a, b⟩
      | succ i => exact ih d q

section
variable {prog : Program} {w : World} {A : Around} {E : Value → Shared → Prop} {s : Shared}

theorem iter_raw {d : Addr} {o : Obj} {es : Array DictEntry} {ep : Nat} {Q : Value → Shared → Prop} (hd : (d == sysModules) = false) (ho : s.heap.get? d = some o) (hc : o.ExactDict) (hdat : o.data = .dict es ep)
    (hQ : Q (.ref s.heap.objs.size) { s with heap := s.heap.push { cls := .type "dict_keyiterator", data := .fields #[.ref d, .int 0 0, .int es.size 0, .int ep 0] } }) :
    wpAny (model prog w) A (pyIter (.ref d)) Q E s := by
  have hT : s.TypeIs (.ref d) "dict" := ⟨o, ho, hc.1⟩
  refine wpAny_pyIter_slot hT F.slot_dict_iter (wpAny_call_entry F.slot_dict_iter hT F.entry_dict_iter ?_ (F.args_dict_iter_1 _))
  unfold Builtin.«dict.__iter__»
  refine wpAny_bind ?_
  unfold Builtin.Dict.dictSlotNone
  refine wpAny_bind (wpAny_notOrdered_dict hT ?_)
  refine wpAny_pure ?_
  show wpAny _ _ (Builtin.Dict.showsAll d >>= _) _ _ s
  unfold Builtin.Dict.showsAll
  rw [if_neg (by rw [hd]; exact Bool.false_ne_true)]
  refine wpAny_bind (wpAny_pure ?_)
  refine wpAny_bind (wpAny_dictEntries ho hdat ?_)
  refine wpAny_bind (wpAny_dictEpoch ho hdat ?_)
  refine wpAny_bind (wpAny_newObj_type (wpAny_pure ⟨_, rfl, "dict_keyiterator", _, ⟨_, Heap.get?_push_size _ rfl, rfl⟩, F.slot_dict_keyiterator_next.lookup, ?_⟩))
  simpa [rawInt] using hQ

theorem next_raw {it d : Addr} {i ep : Nat} {od : Obj} {es : Array DictEntry} {e : DictEntry} {Q : Option Value → Shared → Prop} (hit : s.heap.IsKeyIter it d i es.size ep)
    (hod : s.heap.get? d = some od) (hdd : od.data = .dict es ep) (hx : es[i]? = some e)
    (hQ : ∀ h', h'.IsKeyIter it d (i + 1) es.size ep → Heap.SameBut it s.heap h' → Q (some e.key) { s with heap := h' }) :
    wpAny (model prog w) A (pyNext (.ref it)) Q E s := by
  obtain ⟨o, ho, hc, hd⟩ := id hit
  unfold pyNext
  refine wpAny_bind (wpAny_attempt (wpAny_callSpecial?_slot (name := Str.ofString "__next__") hit.typeIs F.slot_dict_keyiterator_next
    (wpAny_call_entry F.slot_dict_keyiterator_next hit.typeIs F.entry_dict_keyiterator_next ?_ (F.args_dict_keyiterator_next_1 _))))
  refine wpAny_bind (wpAny_pure (wpAny_bind (wpAny_bind ?_)))
  first | refine wpAny_bind (wpAny_typeNameOfWhole_keyiter hit.typeIs (wpAny_pure ?_)) | refine wpAny_bind (wpAny_typeNameOf_keyiter hit.typeIs (wpAny_pure ?_))
  refine wpAny_bind (wpAny_fieldsOf ho hd ?_)
  have hown : Builtin.Dict_items.ownsTuple "dict_keyiterator" = false := by decide
  rw [hown]
  show wpAny _ _ (if (Value.ref d == Value.none) = true then _ else _) _ _ s
  rw [if_neg (show ¬ ((Value.ref d == Value.none) = true) from Bool.false_ne_true)]
  refine wpAny_bind (wpAny_pure (wpAny_bind (wpAny_dictEntries hod hdd ?_)))
  rw [if_neg (by simp)]
  refine wpAny_bind (wpAny_pure (wpAny_bind (wpAny_dictEpoch hod hdd ?_)))
  rw [if_neg (by simp)]
  refine wpAny_pure ?_
  dsimp only
  rw [if_neg (Int.not_lt.mpr (Int.natCast_nonneg i)), Int.toNat_natCast, hx]
  refine wpAny_bind ?_
  first | refine wpAny_bind (wpAny_typeNameOfWhole_keyiter hit.typeIs (wpAny_pure ?_)) | refine wpAny_bind (wpAny_typeNameOf_keyiter hit.typeIs (wpAny_pure ?_))
  refine wpAny_bind (wpAny_isOneOf_keyiter hit.typeIs ?_)
  show wpAny _ _ (setField (.ref it) 1 (rawInt ((i : Int) + 1)) >>= _) _ _ s
  refine wpAny_bind (wpAny_setField ho hd (by simp) ?_)
  have hit' : (s.heap.update it (Obj.mapFields (·.setIfInBounds 1 (rawInt ((i : Int) + 1))))).IsKeyIter it d (i + 1) es.size ep :=
    ⟨_, Heap.get?_update_self _ ho (Obj.isFreed_of_fields (Obj.data_mapFields hd _)), (Obj.cls_mapFields ..).trans hc, by rw [Obj.data_mapFields hd]; simp [rawInt]⟩
  refine wpAny_bind (wpAny_holding ?_)
  refine wpAny_bind (wpAny_isOneOf_keyiter (s := { s with heap := s.heap.update it (Obj.mapFields (·.setIfInBounds 1 (rawInt ((i : Int) + 1)))) }) hit'.typeIs ?_)
  show wpAny _ _ (pure e.key) _ _ _
  exact wpAny_pure (wpAny_pure ⟨_, rfl, wpAny_pure (hQ _ hit' (Heap.SameBut.update ..))⟩)

theorem end_raw {it d : Addr} {ep : Nat} {od : Obj} {es : Array DictEntry} {Q : Option Value → Shared → Prop} (hh : A.handled = none) (hit : s.heap.IsKeyIter it d es.size es.size ep)
    (hod : s.heap.get? d = some od) (hdd : od.data = .dict es ep)
    (hQ : ∀ h', Heap.ExtBut it s.heap h' → Q none { s with heap := h' }) : wpAny (model prog w) A (pyNext (.ref it)) Q E s := by
  obtain ⟨o, ho, hc, hd⟩ := id hit
  unfold pyNext
  refine wpAny_bind (wpAny_attempt (wpAny_callSpecial?_slot (name := Str.ofString "__next__") hit.typeIs F.slot_dict_keyiterator_next
    (wpAny_call_entry F.slot_dict_keyiterator_next hit.typeIs F.entry_dict_keyiterator_next ?_ (F.args_dict_keyiterator_next_1 _))))
  refine wpAny_bind (wpAny_pure (wpAny_bind (wpAny_bind ?_)))
  first | refine wpAny_bind (wpAny_typeNameOfWhole_keyiter hit.typeIs (wpAny_pure ?_)) | refine wpAny_bind (wpAny_typeNameOf_keyiter hit.typeIs (wpAny_pure ?_))
  refine wpAny_bind (wpAny_fieldsOf ho hd ?_)
  have hown : Builtin.Dict_items.ownsTuple "dict_keyiterator" = false := by decide
  rw [hown]
  show wpAny _ _ (if (Value.ref d == Value.none) = true then _ else _) _ _ s
  rw [if_neg (show ¬ ((Value.ref d == Value.none) = true) from Bool.false_ne_true)]
  refine wpAny_bind (wpAny_pure (wpAny_bind (wpAny_dictEntries hod hdd ?_)))
  rw [if_neg (by simp)]
  refine wpAny_bind (wpAny_pure (wpAny_bind (wpAny_dictEpoch hod hdd ?_)))
  rw [if_neg (by simp)]
  refine wpAny_pure ?_
  dsimp only
  rw [if_neg (Int.not_lt.mpr (Int.natCast_nonneg es.size)), Int.toNat_natCast, Array.getElem?_eq_none (Nat.le_refl es.size)]
  refine wpAny_bind ?_
  first | refine wpAny_bind (wpAny_typeNameOfWhole_keyiter hit.typeIs (wpAny_pure ?_)) | refine wpAny_bind (wpAny_typeNameOf_keyiter hit.typeIs (wpAny_pure ?_))
  show wpAny _ _ (setField (.ref it) 0 .none >>= _) _ _ s
  refine wpAny_bind (wpAny_setField ho hd (by simp) ?_)
  show wpAny _ _ (newExc (.type "StopIteration") [] >>= _) _ _ _
  refine wpAny_bind ?_
  simp only [newExc, newTuple]
  refine wpAny_bind (wpAny_newObj_type ?_ (by size_fits))
  refine wpAny_bind (m := firstArgMember _ _) (wpAny_of_eq (a := Value.none) (by first | rfl | (simp only [firstArgMember]; rfl)) ?_)
  refine wpAny_newObj_type ?_ (by size_fits)
  unfold raiseNew
  refine wpAny_bind (wpAny_handled ?_)
  rw [show A.in1.handled = none from hh]
  refine wpAny_bind (wpAny_pure (wpAny_throw ?_))
  refine wpAny_bind (wpAny_isInstance (T := "StopIteration") (b := true) ⟨_, Heap.get?_push_size _ rfl, rfl⟩ isSubtype_stop ?_)
  exact wpAny_pure (hQ _ (((Heap.SameBut.update ..).extBut.push _).push _))

theorem walks_raw (hh : A.handled = none) (I d : Addr) (hne : d ≠ I) {od : Obj} {es : Array DictEntry} {ep : Nat} (hdd : od.data = .dict es ep) :
    Walks prog w A I [I, d] [I] es.size (fun i v => ∃ e, es[i]? = some e ∧ v = e.key) (fun i h => h.IsKeyIter I d i es.size ep ∧ h.get? d = some od) where
  sub := fun b hb => by simp at hb; simp [hb]
  frame := fun _ _ _ st hk => ⟨st.1.at fun o e => hk I (by simp) o e, hk d (by simp) _ st.2⟩
  item := fun i s Q E hi st hQ => by
    refine next_raw st.1 st.2 hdd (e := es[i]) (by simp [hi]) fun h' hit' hs' => ?_
    exact hQ _ h' s.toks ⟨_, by simp [hi], rfl⟩ ⟨hit', (hs'.2 d hne).trans st.2⟩ fun b o hb e => hs'.extBut b o (fun h => hb (by simp [h])) e
  done := fun s Q E st hQ => end_raw hh st.1 st.2 hdd fun h' he' => hQ h' s.toks fun b o hb e => he' b o (fun h => hb (by simp [h])) e
  self := fun _ _ _ _ st hQ => wpAny_pyIter_keyiter st.1 hQ
end

end
section

open PySem PySem.W PySem.Calls PyProof.Rows PySem.SeqAt

section
variable {C : Cx} {E : Value → Shared → Prop} {own : Own} {ρ : Locals} {N : Own → Locals → Prop} {R : Own → DV → Prop} {X : Stx} {ns : List Str} {sc : Scope} {n : Nat}

/-- what a loop over plain data runs over -/
noncomputable def itemsOf : DV → List DV → Prop
  | .tup l, L => L = l
  | .lst l, L => L = l
  | .gd l, L => L = l.map fun e => kd e.1
  | _, _ => False

inductive ItemsI : DV → List DV → Prop
  | tup (l : List DV) : ItemsI (.tup l) l
  | lst (l : List DV) : ItemsI (.lst l) l
  | gd (l : GD) : ItemsI (.gd l) (l.map fun e => kd e.1)
theorem itemsOf.inv {d : DV} {L : List DV} (h : itemsOf d L) : ItemsI d L := by
  cases d with
  | tup l => exact Eq.symm h ▸ .tup l
  | lst l => exact Eq.symm h ▸ .lst l
  | gd l => exact Eq.symm h ▸ .gd l
  | _ => exact False.elim h
theorem letGo_two (t : Expr) (it v : Value) : letOwnedTupleGo t it v = pure () ∨ letOwnedTupleGo t it v = letOwnedTupleGo (.List [] t.pos) it v := by
  cases t <;> first | exact .inl rfl | exact .inr rfl

theorem wi_we (W : C.Wf) {e : Expr} {Pp : List DV → Prop} (h : WE C E own ρ e fun d => ∃ L, itemsOf d L ∧ Pp L) : WI C E own ρ e Pp := fun g s S =>
  WE.on h S (fun v s1 g1 d l1 S1 r1 ⟨L, hL, hp⟩ => by
    have push : ∀ {o : Obj}, St C own ρ g1 { s1 with heap := s1.heap.push o } := S1.keep W (t := s1.toks) fun _ _ e => Heap.get?_push_of_some _ e
    have hF := fresh_new W S1 (fresh_none s1.heap)
    have hne : ∀ {a o}, g1 a = some o → a ≠ s1.heap.objs.size := fun e => Nat.ne_of_lt (Heap.lt_size (S1.le _ _ e))
    cases hL.inv with
    | tup L =>
      cases r1 using Rd.tupE with
      | @tup a o its nn a1 a2 a3 a4 =>
      have ht : s1.heap.IsTuple a its := ⟨o, S1.le _ _ a1, a2, _, a3⟩
      refine wpAny_pyIter_tuple ht ⟨g1, _, L, (fun i h => h.IsTupleIter s1.heap.objs.size a i ∧ h.IsTuple a its), l1, push, hF, ⟨[s1.heap.objs.size, a], (fun i v => its[i]? = some v), ?_, ?_, ?_, ?_, ?_⟩, ⟨⟨_, Heap.get?_push_size _ rfl, rfl, rfl⟩, ?_⟩, hp⟩
      · have q := Walks.tuple (prog := C.X.prog) (w := C.X.w) W.handled s1.heap.objs.size a (hne a1) its
        rw [show its.size = L.length by rw [← a4.length, Array.length_toList]] at q
        exact q
      · intro b hb
        rcases List.mem_cons.mp hb with q | q
        · exact .inl q
        · rw [List.mem_singleton.mp q]; exact .inr (isn a1)
      · intro i v hv
        exact a4.getV (by rw [Array.getElem?_toList]; exact hv)
      · rintro i h ⟨⟨o, ho, _⟩, _⟩
        exact ⟨o, ho⟩
      · intro i t v s' Q E st hq
        exact letGo_tupleiter st.1 hq
      · exact ⟨o, Heap.get?_push_of_some _ (S1.le _ _ a1), a2, _, a3⟩
    | lst L =>
      cases r1 using Rd.lstE with
      | @lst a o its nn a1 a2 a3 a4 =>
      have ht : s1.heap.IsList a its := ⟨o, S1.le _ _ a1, a2, _, a3⟩
      refine wpAny_pyIter_list ht ⟨g1, _, L, (fun i h => h.IsListIter s1.heap.objs.size a i ∧ h.IsList a its), l1, push, hF, ⟨[s1.heap.objs.size, a], (fun i v => its[i]? = some v), ?_, ?_, ?_, ?_, ?_⟩, ⟨⟨_, Heap.get?_push_size _ rfl, rfl, rfl⟩, ?_⟩, hp⟩
      · have q := Walks.list (prog := C.X.prog) (w := C.X.w) W.handled s1.heap.objs.size a (hne a1) its
        rw [show its.size = L.length by rw [← a4.length, Array.length_toList]] at q
        exact q
      · intro b hb
        rcases List.mem_cons.mp hb with q | q
        · exact .inl q
        · rw [List.mem_singleton.mp q]; exact .inr (isn a1)
      · intro i v hv
        exact a4.getV (by rw [Array.getElem?_toList]; exact hv)
      · rintro i h ⟨⟨o, ho, _⟩, _⟩
        exact ⟨o, ho⟩
      · intro i t v s' Q E st hq
        exact letGo_listiter st.1 hq
      · exact ⟨o, Heap.get?_push_of_some _ (S1.le _ _ a1), a2, _, a3⟩
    | gd l =>
      cases r1 using Rd.gdE with
      | @gd a o es nn a1 a2 a3 a4 a5 a6 =>
      refine iter_raw a5 (S1.le _ _ a1) a2 a3 ⟨g1, _, l.map (fun e => kd e.1), (fun i h => h.IsKeyIter s1.heap.objs.size a i (l.map fun e => kd e.1).length nn ∧ h.get? a = some o), l1, push, hF, ⟨[s1.heap.objs.size, a], (fun i v => ∃ e, es[i]? = some e ∧ v = e.key), ?_, ?_, ?_, ?_, ?_⟩, ⟨⟨_, Heap.get?_push_size _ rfl, rfl, ?_⟩, ?_⟩, hp⟩
      · have q := walks_raw (prog := C.X.prog) (w := C.X.w) W.handled s1.heap.objs.size a (hne a1) a3
        have e : es.size = (l.map fun e => kd e.1).length := by rw [List.length_map, ← a4.length, Array.length_toList]
        rw [← e]
        exact q
      · intro b hb
        rcases List.mem_cons.mp hb with q | q
        · exact .inl q
        · rw [List.mem_singleton.mp q]; exact .inr (isn a1)
      · rintro i v ⟨e, he, rfl⟩
        obtain ⟨k, r, q1, q2, _⟩ := a4.getE (by rw [Array.getElem?_toList]; exact he)
        exact ⟨kd k, by rw [List.getElem?_map, q1]; rfl, q2⟩
      · rintro i h ⟨⟨o, ho, _⟩, _⟩
        exact ⟨o, ho⟩
      · intro i t v s' Q E st hq
        exact letGo_keyiter st.1 hq
      · rw [List.length_map, ← a4.length, Array.length_toList]
        rfl
      · exact Heap.get?_push_of_some _ (S1.le _ _ a1)
    )

noncomputable def upto (n : Nat) : List DV := (List.range n).map fun i => .int (i : Nat)
theorem wi_range (I : C.Is X ns sc n) {e : Expr} {p1 p2 : Pos} {Pp : List DV → Prop} (hm : X.mg ("range" : Str) = none) (hk : sc.names.lookup ("range" : Str) = some .globalImplicit)
    (h : WE C E own ρ e fun d => ∃ m : Nat, d = .int m ∧ m < 2 ^ 60 ∧ Pp (upto m)) (he : starEach [e] C.env = (false, eval e C.env) :: starEach [] C.env := by rfl) :
    WI C E own ρ (.Call (.Name ("range" : Str) p1) [e] [] p2) Pp := fun g s S => by
  have W := I.wf
  refine Call_ (loadBi W S (I.kind hk) (I.X ▸ hm) boot_range (PyProof.Rows.callWith_type1 (spliced_more (WE.on h S (fun v s1 g1 d l1 S1 r1 ⟨m, hd, hm, hp⟩ => spliced_none ?_)) he) he rfl) (by decide) (by decide))
  subst hd
  cases r1 using Rd.intE with
  | int t =>
  refine call_range_1 ?_
  refine wpAny_pyIter_range (IsRange.new ..) (small_one (by decide) (by decide) (by omega) (by omega)) ?_
  have hsz : Builtin.Range.rangeSize 0 (m : Int) 1 = (m : Int) := by rw [rangeSize_one]; split <;> omega
  have S2 : St C own ρ g1 { s1 with heap := s1.heap.push { cls := .type "range", data := .fields #[.int 0 s1.toks, .int (m : Int) t, .int 1 (s1.toks + 1)] }, toks := s1.toks + 1 + 1 } := S1.keep W fun _ _ e => Heap.get?_push_of_some _ e
  have S3 := S2.keep W (t := s1.toks + 1 + 1) (h' := (s1.heap.push { cls := .type "range", data := .fields #[.int 0 s1.toks, .int (m : Int) t, .int 1 (s1.toks + 1)] }).push { cls := .type "range_iterator", data := .fields #[rawInt 0, rawInt (Builtin.Range.rangeSize 0 (m : Int) 1), rawInt 1] }) fun _ _ e => Heap.get?_push_of_some _ e
  let I0 : Addr := (s1.heap.push { cls := .type "range", data := .fields #[.int 0 s1.toks, .int (m : Int) t, .int 1 (s1.toks + 1)] }).objs.size
  refine ⟨g1, I0, upto m, (fun i h => IsRangeIter h I0 (0 + (i : Nat) * 1) ((m : Int) - (i : Nat)) 1), l1, S3, fresh_new W S2 (fresh_none _), ⟨[I0], (fun i v => i < m ∧ ∃ t, v = .int (0 + i * 1) t), ?_, ?_, ?_, ?_, ?_⟩, ?_, hp⟩
  · have q := Walks.range (prog := C.X.prog) (w := C.X.w) W.handled (s1.heap.push { cls := .type "range", data := .fields #[.int 0 s1.toks, .int (m : Int) t, .int 1 (s1.toks + 1)] }).objs.size 0 1 m
    rw [show (upto m).length = m by simp [upto]]
    exact ⟨q.sub, q.frame, fun i s Q E hi st hQ => q.item i s Q E hi st fun v h' tk hp hst hk => hQ v h' tk ⟨hi, hp⟩ hst hk, q.done, q.self⟩
  · intro b hb
    exact .inl (List.mem_singleton.mp hb)
  · rintro i v ⟨hi, t, rfl⟩
    refine ⟨.int i, by simp [upto, hi], ?_⟩
    rw [show (0 + (i : Int) * 1) = i by omega]
    exact .int _ _
  · intro i h st
    exact ⟨_, st⟩
  · intro i t v s' Q E st hq
    rcases letGo_two t (.ref I0) v with q | q <;> rw [q]
    · exact wpAny_pure hq
    · unfold letOwnedTupleGo
      cases v <;> first
        | exact wpAny_pure hq
        | (refine wpAny_bind (wpAny_load st ?_)
           exact wpAny_pure hq)
  · have e1 : (0 + ((0 : Nat) : Int) * 1) = 0 := by simp
    have e2 : ((m : Int) - ((0 : Nat) : Int)) = Builtin.Range.rangeSize 0 (m : Int) 1 := by rw [hsz]; simp
    show IsRangeIter _ _ (0 + ((0 : Nat) : Int) * 1) ((m : Int) - ((0 : Nat) : Int)) 1
    rw [e1, e2]
    exact Heap.get?_push_size _ rfl

theorem wa_name (W : C.Wf) (i : Nat) {x : Str} {p : Pos} {d : DV} {Nn : Locals → Prop} (hi : C.names[i]? = some x) (hk : C.env.kindOf x = some .local ∨ (C.env.kindOf x = some .cell ∧ (C.env.cells.lookup x).isSome = true))
    (h : Nn (ρ.set i (some (.fz d)))) : WA C E own ρ (.Name x p) d Nn := fun g s v S r =>
  wpAny_assign_Name (wpAny_mono (st_store W S hi hk (d := .fz d) r) (fun _ s2 S2 => ⟨_, S2, h⟩) fun _ _ x => x)
theorem wa_tup2 (W : C.Wf) (i j : Nat) {x y : Str} {p1 p2 p3 : Pos} {k : Nat} {d1 d2 : DV} {Nn : Locals → Prop} (hi : C.names[i]? = some x) (hk : C.env.kindOf x = some .local) (hj : C.names[j]? = some y) (hk2 : C.env.kindOf y = some .local)
    (h : Nn ((ρ.set i (some (.fz d1))).set j (some (.fz d2)))) : WA C E own ρ (.Tuple [.Name x p1, .Name y p2] k p3) (.tup [d1, d2]) Nn := fun g s v S r => by
  cases r using Rd.tupE with
  | @tup a o its nn a1 a2 a3 a4 =>
  have ht : s.heap.IsTuple a its := ⟨o, S.le _ _ a1, a2, _, a3⟩
  obtain ⟨its⟩ := its
  cases a4 using RdL.consE with
  | cons r1 a4 =>
  cases a4 using RdL.consE with
  | cons r2 a4 =>
  cases a4
  refine wpAny_assign_Tuple W.handled ht rfl rfl fun h' hx => ?_
  have S1 := S.keep W (t := s.toks) fun b o e => hx b o (Nat.ne_of_lt (Heap.lt_size e)) e
  refine assignInOrder_cons (wpAny_assign_Name (wpAny_mono (st_store W S1 hi (.inl hk) (d := .fz d1) r1) (fun _ s2 S2 => ?_) fun _ _ x => x))
  refine assignInOrder_cons (wpAny_assign_Name (wpAny_mono (st_store W S2 hj (.inl hk2) (d := .fz d2) r2) (fun _ s3 S3 => ?_) fun _ _ x => x))
  exact assignInOrder_nil ⟨_, S3, h⟩
end

end
section

open PySem PySem.W PySem.Calls PyProof.Rows PySem.SeqAt

theorem closure_ok {scope : Scope} {env : Env} (h : ∀ x ∈ scope.names, x.2 = .free → ∃ c, env.cells.lookup x.1 = some c) :
    ∃ cl, closureFor scope env = pure cl ∧ (∀ x c, cl.lookup x = some c → env.cells.lookup x = some c) ∧ (∀ x ∈ scope.names, x.2 = .free → cl.lookup x.1 = env.cells.lookup x.1) ∧ ∀ x c, cl.lookup x = some c → (x, NameKind.free) ∈ scope.names := by
  have key : ∀ (l : List (Str × NameKind)) (acc : List (Str × Addr)), (∀ x ∈ l, x.2 = .free → ∃ c, env.cells.lookup x.1 = some c) → (∀ x c, acc.lookup x = some c → env.cells.lookup x = some c) →
      ∃ cl, (forIn l acc fun (x : Str × NameKind) cs => (if x.2 == .free then do let c ← cellOf env x.1; pure (ForInStep.yield ((x.1, c) :: cs)) else pure (ForInStep.yield cs) : Sem (ForInStep (List (Str × Addr))))) = pure cl ∧
        (∀ x c, cl.lookup x = some c → env.cells.lookup x = some c) ∧ (∀ x ∈ l, x.2 = .free → cl.lookup x.1 = env.cells.lookup x.1) ∧ (∀ x, (acc.lookup x = env.cells.lookup x) → cl.lookup x = env.cells.lookup x) ∧ ∀ x c, cl.lookup x = some c → (∃ c', acc.lookup x = some c') ∨ (x, NameKind.free) ∈ l := by
    intro l
    induction l with
    | nil => intro acc _ ha; exact ⟨acc, rfl, ha, fun _ h => (nomatch h), fun _ h => h, fun x c h => .inl ⟨c, h⟩⟩
    | cons x l ih =>
      intro acc hl ha
      obtain ⟨n, k⟩ := x
      rw [List.forIn_cons]
      by_cases hk : k = .free
      · subst hk
        obtain ⟨c, hc⟩ := hl (n, .free) List.mem_cons_self rfl
        have ha' : ∀ x c', ((n, c) :: acc).lookup x = some c' → env.cells.lookup x = some c' := fun x c' q => by
          rw [List.lookup_cons] at q
          cases e : x == n with
          | true => rw [e] at q; cases q; rw [beq_iff_eq.mp e]; exact hc
          | false => rw [e] at q; exact ha x c' q
        obtain ⟨cl, h1, h2, h3, h4, h5⟩ := ih ((n, c) :: acc) (fun x hx => hl x (List.mem_cons_of_mem _ hx)) ha'
        refine ⟨cl, ?_, h2, fun y hy hf => ?_, fun y hy => h4 y ?_, fun y cy hy => ?_⟩
        · have hco : cellOf env n = pure c := by
            have hc : List.lookup n env.cells = some c := hc
            unfold cellOf
            simp only [hc]
          simp only [beq_self_eq_true, if_true, hco, pure_bind]
          exact h1
        · rcases List.mem_cons.mp hy with e | e
          · subst e
            refine h4 n ?_
            rw [List.lookup_cons, beq_self_eq_true]; exact hc.symm
          · exact h3 y e hf
        · rw [List.lookup_cons]
          cases e : y == n with
          | true => rw [beq_iff_eq.mp e]; exact hc.symm
          | false => exact hy
        · rcases h5 y cy hy with ⟨c', q⟩ | q
          · rw [List.lookup_cons] at q
            cases e : y == n with
            | true => rw [beq_iff_eq.mp e]; exact .inr List.mem_cons_self
            | false => rw [e] at q; exact .inl ⟨c', q⟩
          · exact .inr (List.mem_cons_of_mem _ q)
      · obtain ⟨cl, h1, h2, h3, h4, h5⟩ := ih acc (fun x hx => hl x (List.mem_cons_of_mem _ hx)) ha
        refine ⟨cl, ?_, h2, fun y hy hf => ?_, h4, fun y cy hy => (h5 y cy hy).imp id fun q => List.mem_cons_of_mem _ q⟩
        · have hb : (k == NameKind.free) = false := by simpa using hk
          simp only [hb, Bool.false_eq_true, if_false, pure_bind]
          exact h1
        · rcases List.mem_cons.mp hy with e | e
          · subst e; exact absurd hf hk
          · exact h3 y e hf
  obtain ⟨cl, h1, h2, h3, _, h5⟩ := key scope.names [] h (fun _ _ q => nomatch q)
  refine ⟨cl, ?_, h2, h3, fun x c hx => (h5 x c hx).elim (fun ⟨_, q⟩ => nomatch q) id⟩
  simp only [closureFor]
  rw [h1]
  rfl

noncomputable def relabelS (scope sc : Scope) : Scope :=
  { scope with names := scope.names.map fun (n, k) => if (k == .free && sc.names.lookup n == some .cell) then (n, .cell) else (n, k) }
theorem relabel_eq {scope sc : Scope} {env : Env} (h : env.scope = sc) (hk : env.scope.kind = .function) : relabel scope env = relabelS scope sc := by
  unfold relabel relabelS Env.kindOf
  rw [h] at hk ⊢
  rw [hk]
  simp

theorem lookup_relabel {scope sc : Scope} {x : Str} {k : NameKind} (h : (relabelS scope sc).names.lookup x = some k) : scope.names.lookup x = some k ∨ (k = .cell ∧ scope.names.lookup x = some .free ∧ sc.names.lookup x = some .cell) := by
  unfold relabelS at h
  dsimp only at h
  revert h
  generalize scope.names = l
  induction l with
  | nil => intro h; cases h
  | cons y l ih =>
    obtain ⟨n, k'⟩ := y
    intro h
    rw [List.map_cons] at h
    by_cases hc : (k' == .free && sc.names.lookup n == some .cell) = true
    · simp only [hc, if_true, List.lookup_cons] at h
      rw [List.lookup_cons]
      cases e : x == n with
      | true =>
        rw [e] at h
        cases h
        simp only [Bool.and_eq_true, beq_iff_eq] at hc
        refine .inr ⟨rfl, ?_, ?_⟩
        · rw [hc.1]
        · rw [beq_iff_eq.mp e]; exact hc.2
      | false => rw [e] at h; exact ih h
    · simp only [hc, Bool.false_eq_true, if_false, List.lookup_cons] at h
      rw [List.lookup_cons]
      cases e : x == n with
      | true => rw [e] at h; exact .inl h
      | false => rw [e] at h; exact ih h
theorem lookup_free {scope sc : Scope} {x : Str} (h : scope.names.lookup x = some .free) : (relabelS scope sc).names.lookup x = some .cell ∨ (relabelS scope sc).names.lookup x = some .free := by
  unfold relabelS
  dsimp only
  revert h
  generalize scope.names = l
  induction l with
  | nil => intro h; cases h
  | cons y l ih =>
    obtain ⟨n, k'⟩ := y
    intro h
    rw [List.map_cons]
    rw [List.lookup_cons] at h
    by_cases hc : (k' == .free && sc.names.lookup n == some .cell) = true
    · simp only [hc, if_true, List.lookup_cons]
      cases e : x == n with
      | true => exact .inl rfl
      | false => rw [e] at h; exact ih h
    · simp only [hc, Bool.false_eq_true, if_false, List.lookup_cons]
      cases e : x == n with
      | true => rw [e] at h; cases h; exact .inr rfl
      | false => rw [e] at h; exact ih h

section
variable {C : Cx} {E : Value → Shared → Prop} {own : Own} {ρ : Locals}

/-- an object of the frame's own is frozen -/
theorem St.freeze (W : C.Wf) {g : G} {s : Shared} {D : Addr} {o : Obj} (S : St C own ρ g s) (F : Fresh C own g D) (ho : s.heap.get? D = some o) : Le g (gext g D o) ∧ St C own ρ (gext g D o) s := by
  have hl : Le g (gext g D o) := fun a o' e => by
    unfold gext
    by_cases q : a = D
    · rw [q, F.gn] at e; cases e
    · rw [if_neg q]; exact e
  have hne : ∀ {a : Addr}, a ≠ D → gext g D o a = g a := fun q => if_neg q
  refine ⟨hl, ⟨S.step.dom, S.step.keep, fun a ha => ?_, fun a o' e => ?_, S.step.gens, S.step.drawn, S.step.os⟩, ?_, S.frs, fun a ha => ?_, ?_, S.lown, fun x c hc => ?_, ?_, fun p hp => ?_, S.whole⟩
  · rw [hne fun (q : a = D) => ha (by rw [q]; exact F.s0)]; exact S.step.frz a ha
  · by_cases q : a = D
    · subst q
      unfold gext at e
      rw [if_pos rfl] at e
      cases e
      exact ho
    · rw [hne q] at e; exact S.le a o' e
  · exact S.hown.move hl (fun a m _ q => (hne fun e => F.own (by rw [← e]; exact m)).trans q) (fun _ _ q => q) fun _ _ _ _ e => e
  · rw [hne fun (q : a = D) => F.frs (by rw [← q]; exact ha)]; exact S.frf a ha
  · rw [hne (Ne.symm F.loc)]; exact S.lfree
  · obtain ⟨c1, c2, c3, r⟩ := S.cells x c hc
    refine ⟨?_, c2, c3, r⟩
    rw [hne fun (q : c = D) => F.cells x (by rw [← q]; exact hc)]; exact c1
  · obtain ⟨m, hn, hv⟩ := S.vars
    refine ⟨m, hn, fun i y d h1 h2 => ?_⟩
    obtain ⟨v, h3, h4⟩ := hv i y d h1 h2
    exact ⟨v, h3, h4.mono hl⟩
  · obtain ⟨h1, h2, h3⟩ := S.prot p hp
    refine ⟨h1, ?_, h3⟩
    rw [hne (F.prot p hp)]; exact h2
end

end
section

open PySem PySem.W PySem.Calls PyProof.Rows PySem.SeqAt

section
variable {prog : Program} {w : World} {A : Around} {E : Value → Shared → Prop} {R : Result → Shared → Prop} {s : Shared}
theorem compLoop_any {elt target iter : Expr} {ifs : List Expr} {scope : Scope} {pos : Pos} {it acc : Value} {env : Env} (I : Nat → Shared → Prop)
    (turn : ∀ n s E', I n s → wpAny (model prog w) A (pyNext it) (fun r s₁ => match r with
      | none => R (.ok .next) s₁
      | some v => wpAny (model prog w) A (letOwnedTupleGo target it v) (fun _ s₁' => wpAny (model prog w) A (assign target env v) (fun _ s₂ =>
          wpAny (model prog w) A (forIn ifs true fun c r => if r = true then do let ok ← isTrue c env (eval c env); pure (ForInStep.yield ok) else pure (ForInStep.yield r)) (fun ok s₃ =>
            if ok = true then wpAny (model prog w) A (eval elt env) (fun x s₄ =>
              wpAny (model prog w) A (call (.builtin "list.append") [acc, x]) (fun _ s₅ => ∃ m, m < n ∧ I m s₅) E' s₄) E' s₃
            else ∃ m, m < n ∧ I m s₃) E' s₂) E' s₁') E' s₁) E' s)
    (n : Nat) (h : I n s) :
    codeAny (model prog w) A (.compLoop (.ListComp elt [⟨target, iter, ifs, 0⟩] scope pos) 0 it acc env) R s := by
  refine codeAny_loop rfl I (fun n s hI => ?_) n h
  show wpAny _ A ((compTurn (.ListComp elt [⟨target, iter, ifs, 0⟩] scope pos) 0 it acc env).onRaise (fun x => do noteFrame x env; theTreesLotGoes x)) _ _ s
  refine wpAny_noted ?_
  rw [compTurn_list]
  refine wpAny_bind (wpAny_standAt (wpAny_bind (wpAny_mono (turn n s _ hI) (fun r s₁ h₁ => ?_) fun _ _ h' => h')))
  cases r with
  | none => exact wpAny_pure h₁
  | some v =>
    refine wpAny_bind (wpAny_mono h₁ (fun _ s₁' h₁' => ?_) fun _ _ h' => h')
    refine wpAny_bind (wpAny_mono h₁' (fun _ s₂ h₂ => wpAny_bind (wpAny_mono h₂ (fun ok s₃ h₃ => ?_) fun _ _ h' => h')) fun _ _ h' => h')
    cases ok with
    | false => exact wpAny_pure ⟨rfl, h₃⟩
    | true =>
      refine wpAny_bind (wpAny_bind (wpAny_mono h₃ (fun x s₄ h₄ => wpAny_bind (wpAny_mono h₄ (fun _ s₅ h₅ => wpAny_pure (wpAny_pure ⟨rfl, h₅⟩)) fun _ _ h' => h')) fun _ _ h' => h'))
end

/-- the values that a comprehension sees of its function's names -/
noncomputable def capt (ns : List Str) (ρ : Locals) (cs : List Str) : Locals := cs.map fun x => match idx ns x 0 with | some j => (ρ[j]?).join | none => none

theorem idx_of : ∀ {l : List Str} {x : Str} {i k : Nat}, l.Nodup → l[i]? = some x → idx l x k = some (k + i) := by
  intro l
  induction l with
  | nil => intro x i k _ h; simp at h
  | cons y l ih =>
    intro x i k hn h
    rw [List.nodup_cons] at hn
    unfold idx
    cases i with
    | zero => simp at h; rw [if_pos h.symm]; rfl
    | succ i =>
      simp at h
      rw [if_neg (fun (e : x = y) => hn.1 (by rw [← e]; exact List.mem_of_getElem? h)), ih hn.2 h]
      congr 1
      omega

section
variable {C : Cx} {E : Value → Shared → Prop} {own : Own} {ρ : Locals}

noncomputable def WQ (C : Cx) (E : Value → Shared → Prop) (own : Own) (ρ : Locals) : List Expr → (Bool → Prop) → Prop
  | [], P => P true
  | [c], P => WT C E own ρ c P
  | _, _ => False

theorem wq_run {cs : List Expr} {P : Bool → Prop} {g : G} {s : Shared} (h : WQ C E own ρ cs P) (S : St C own ρ g s) :
    wpAny (model C.X.prog C.X.w) C.A (forIn cs true fun c r => if r = true then do let ok ← isTrue c C.env (eval c C.env); pure (ForInStep.yield ok) else pure (ForInStep.yield r)) (TP C own ρ g P) E s := by
  match cs, h with
  | [], h => exact wpAny_tests_nil ⟨g, Le.refl _, S, h⟩
  | [c], h => exact wpAny_tests_one (h g s S)

/-- the surroundings of a comprehension's turns -/
noncomputable def Cx.comp (C : Cx) (scope : Scope) (cl : List (Str × Addr)) (K : Addr) (names : List Str) (pr : List (Addr × Obj)) : Cx :=
  { C with env := compEnvC scope cl K C.env, names := names, prot := pr ++ C.prot }

/-- the cells that a comprehension does not see -/
noncomputable def unseen (C : Cx) (cl : List (Str × Addr)) (h : Heap) : List (Addr × Obj) :=
  C.env.cells.filterMap fun p => if C.env.cells.lookup p.1 = some p.2 ∧ cl.lookup p.1 ≠ some p.2 then (h.get? p.2).map fun o => (p.2, o) else none

theorem unseen_mem {cl : List (Str × Addr)} {h : Heap} {p : Addr × Obj} (hp : p ∈ unseen C cl h) : (∃ x, C.env.cells.lookup x = some p.1 ∧ cl.lookup x ≠ some p.1) ∧ h.get? p.1 = some p.2 := by
  obtain ⟨⟨x, c⟩, h1, h2⟩ := List.mem_filterMap.mp hp
  dsimp only at h2
  split at h2
  · rename_i hc
    cases e : h.get? c with
    | none => rw [e] at h2; cases h2
    | some o =>
      rw [e] at h2
      simp only [Option.map_some, Option.some.injEq] at h2
      subst h2
      exact ⟨⟨x, hc.1, hc.2⟩, e⟩
  · cases h2
theorem mem_unseen {cl : List (Str × Addr)} {h : Heap} {x : Str} {c : Addr} {o : Obj} (h1 : C.env.cells.lookup x = some c) (h2 : cl.lookup x ≠ some c) (h3 : h.get? c = some o) : (c, o) ∈ unseen C cl h := by
  refine List.mem_filterMap.mpr ⟨(x, c), lookup_mem' h1, ?_⟩
  dsimp only
  rw [if_pos ⟨h1, h2⟩, h3]
  rfl

theorem comp_wfC (W : C.Wf) {scope : Scope} {cl : List (Str × Addr)} {K : Addr} {names : List Str} {g : G} {s : Shared} {oL : Obj} (S : St C own ρ g s) (hK : Fresh C own g K) (hk : scope.kind = .function) (hcell : ∀ x c, scope.names.lookup x = some .cell → cl.lookup x = some c → C.s0.heap.get? c = none)
    (hcl : ∀ x c, cl.lookup x = some c → C.env.cells.lookup x = some c) (hnd : names.Nodup) : (C.comp scope cl K names ((C.env.locals, oL) :: unseen C cl s.heap)).Wf := by
  refine ⟨W.wf, W.base, W.le0, hk, W.globals, W.builtins, hnd, W.frame, fun x y c a b => W.cinj x y c (hcl _ _ a) (hcl _ _ b), hK.s0, fun x c h1 h2 => ?_, fun x c h => W.cfr x c (hcl _ _ h), W.frs0, W.stack, W.handled, W.roomy, fun p hp => ?_⟩
  · have h1 : (relabel scope C.env).names.lookup x = some .cell := h1
    rw [relabel_eq rfl W.kind] at h1
    rcases lookup_relabel h1 with q | ⟨_, _, q⟩
    · exact hcell x c q h2
    · exact W.cnew x c q (hcl _ _ h2)
  · show p.1 ≠ K ∧ ∀ x, cl.lookup x ≠ some p.1
    rcases List.mem_append.mp hp with hp | hp
    · rcases List.mem_cons.mp hp with e | hp
      · rw [e]
        refine ⟨Ne.symm hK.loc, fun x hx => ?_⟩
        exact (S.cells x _ (hcl _ _ hx)).nl rfl
      · obtain ⟨⟨x, h1, h2⟩, h3⟩ := unseen_mem hp
        refine ⟨fun e => hK.cells x (e ▸ h1), fun y hy => ?_⟩
        have := W.cinj y x _ (hcl _ _ hy) h1
        rw [this] at hy
        exact h2 hy
    · exact ⟨hK.prot p hp, fun x hx => (W.prot p hp).2 x (hcl _ _ hx)⟩

theorem comp_in (W : C.Wf) {scope : Scope} {cl : List (Str × Addr)} {K : Addr} {ts cs : List Str} {g : G} {s : Shared} {oL : Obj} {mK : Str → Option Value} (S : St C own ρ g s) (hg : g K = none) (ho : K ∉ own.addrs) (hkc : ∀ x, C.env.cells.lookup x ≠ some K)
    (hL : s.heap.get? C.env.locals = some oL) (hcl : ∀ x c, cl.lookup x = some c → C.env.cells.lookup x = some c) (hfree : ∀ x ∈ scope.names, x.2 = .free → cl.lookup x.1 = C.env.cells.lookup x.1)
    (hN : s.heap.Ns K mK) (hcs : ∀ x ∈ cs, scope.names.lookup x = some .free ∧ (C.env.kindOf x = some .cell ∨ C.env.kindOf x = some .free)) :
    St (C.comp scope cl K (ts ++ cs) ((C.env.locals, oL) :: unseen C cl s.heap)) own (List.replicate ts.length none ++ capt C.names ρ cs) g s := by
  refine ⟨S.step, S.hown, S.frs, S.frf, hg, ho, fun x c hc => ?_, ⟨mK, hN, fun i x d h1 h2 => ?_⟩, fun p hp => ?_, S.whole⟩
  · obtain ⟨c1, c2, c3, r⟩ := S.cells x c (hcl _ _ hc)
    exact ⟨c1, fun e => hkc x (by rw [← show c = K from e]; exact hcl _ _ hc), c3, r⟩
  · by_cases hi : i < ts.length
    · rw [List.getElem?_append_left (by simpa using hi), List.getElem?_replicate, if_pos hi] at h2
      cases h2
    · have h1 : (ts ++ cs)[i]? = some x := h1
      rw [List.getElem?_append_right (by simpa using Nat.le_of_not_lt hi)] at h1 h2
      rw [List.length_replicate] at h2
      unfold capt at h2
      rw [List.getElem?_map, h1] at h2
      simp only [Option.map_some, Option.some.injEq] at h2
      cases hx : idx C.names x 0 with
      | none => rw [hx] at h2; cases h2
      | some j =>
        rw [hx] at h2
        have hj : C.names[j]? = some x := by
          obtain ⟨j', e1, e2⟩ := idx_spec hx
          rw [e1, Nat.zero_add]; exact e2
        have hd : ρ[j]? = some (some d) := by
          revert h2
          dsimp only
          cases ρ[j]? with
          | none => intro q; cases q
          | some z => intro q; rw [show z = some d from q]
        obtain ⟨m, _, hv⟩ := S.vars
        obtain ⟨v, h3, h4⟩ := hv j x d hj hd
        obtain ⟨q1, q2⟩ := hcs x (List.mem_of_getElem? h1)
        refine ⟨v, .inr ⟨?_, ?_⟩, h4⟩
        · show (relabel scope C.env).names.lookup x = _ ∨ (relabel scope C.env).names.lookup x = _
          rw [relabel_eq rfl W.kind]
          exact lookup_free q1
        · rcases h3 with ⟨h3, _⟩ | ⟨_, c, o, h5, h6, h7⟩
          · rcases q2 with q2 | q2 <;> (rw [h3] at q2; cases q2)
          · exact ⟨c, o, (hfree _ (lookup_mem' q1) rfl).trans h5, h6, h7⟩
  · rcases List.mem_append.mp hp with hp | hp
    · rcases List.mem_cons.mp hp with e | hp
      · rw [e]; exact ⟨.of hL, S.lfree, S.lown⟩
      · obtain ⟨⟨x, h1, h2⟩, h3⟩ := unseen_mem hp
        obtain ⟨c1, c2, c3, r⟩ := S.cells x _ h1
        exact ⟨.of h3, c1, c3⟩
    · exact S.prot p hp

theorem comp_outC (W : C.Wf) {scope : Scope} {cl : List (Str × Addr)} {K : Addr} {ts cs : List Str} {g0 g : G} {s0 s : Shared} {oL : Obj} {tv : Locals} (S0 : St C own ρ g0 s0) (hl : Le g0 g) (hL : s0.heap.get? C.env.locals = some oL)
    (hcl : ∀ x c, cl.lookup x = some c → C.env.cells.lookup x = some c) (ht : tv.length = ts.length)
    (hcs : ∀ x c, x ∈ C.names → cl.lookup x = some c → x ∈ cs) (hcf : ∀ x ∈ cs, scope.names.lookup x = some .free)
    (S : St (C.comp scope cl K (ts ++ cs) ((C.env.locals, oL) :: unseen C cl s0.heap)) own (tv ++ capt C.names ρ cs) g s) : St C own ρ g s := by
  have hp0 := S.prot _ (List.mem_append_left _ List.mem_cons_self)
  refine ⟨S.step, S.hown, S.frs, S.frf, hp0.2.1, hp0.2.2, fun x c hc => ?_, ?_, fun p hp => S.prot p (List.mem_append_right _ hp), S.whole⟩
  · obtain ⟨c1, c2, c3, o, v, c4, c5⟩ := S0.cells x c hc
    by_cases hx : cl.lookup x = some c
    · obtain ⟨d1, d2, d3, r⟩ := S.cells x c hx
      exact ⟨d1, c2, d3, r⟩
    · obtain ⟨⟨sl, e1, _⟩, e2, e3⟩ := S.prot _ (List.mem_append_left _ (List.mem_cons_of_mem _ (mem_unseen hc hx c4)))
      exact ⟨e2, c2, e3, _, v, e1, c5⟩
  · obtain ⟨m, hn, hv⟩ := S0.vars
    obtain ⟨m', hn', hv'⟩ := S.vars
    refine ⟨m, ns_upTo hn fun o ho => ?_, fun i x d h1 h2 => ?_⟩
    · rw [hL] at ho; cases ho
      obtain ⟨sl, e, _⟩ := hp0.1
      exact ⟨sl, e⟩
    · obtain ⟨v, h3, h4⟩ := hv i x d h1 h2
      rcases h3 with h3 | ⟨k1, c, o, h5, h6, h7⟩
      · exact ⟨v, .inl h3, h4.mono hl⟩
      · by_cases hx : cl.lookup x = some c
        · have hxc := hcs x c (List.mem_of_getElem? h1) hx
          obtain ⟨j, hj⟩ := List.getElem?_of_mem hxc
          have hcap : (capt C.names ρ cs)[j]? = some (some d) := by
            unfold capt
            rw [List.getElem?_map, hj]
            simp only [Option.map_some, Option.some.injEq]
            have hidx := idx_of (k := 0) W.nodup h1
            rw [Nat.zero_add] at hidx
            rw [hidx]
            dsimp only
            rw [h2]; rfl
          obtain ⟨v', e3, e4⟩ := hv' (ts.length + j) x d (by
            show (ts ++ cs)[ts.length + j]? = _
            rw [List.getElem?_append_right (Nat.le_add_right _ _), Nat.add_sub_cancel_left]; exact hj) (by
            rw [← ht, List.getElem?_append_right (Nat.le_add_right _ _), Nat.add_sub_cancel_left]; exact hcap)
          rcases e3 with ⟨e3, e5⟩ | ⟨_, c', o', e5, e6, e7⟩
          · exfalso
            have e3 : (relabel scope C.env).names.lookup x = some .local := e3
            rw [relabel_eq rfl W.kind] at e3
            rcases lookup_free (sc := C.env.scope) (hcf x hxc) with q | q <;> (rw [e3] at q; cases q)
          · have : c' = c := by
              have e5 : cl.lookup x = some c' := e5
              rw [hx] at e5; cases e5; rfl
            subst this
            exact ⟨v', .inr ⟨k1, c', o', h5, e6, e7⟩, e4⟩
        · obtain ⟨⟨sl, e1, _⟩, e2, e3⟩ := S.prot _ (List.mem_append_left _ (List.mem_cons_of_mem _ (mem_unseen h5 hx h6)))
          exact ⟨v, .inr ⟨k1, c, _, h5, e1, h7⟩, h4.mono hl⟩

theorem RdL.snoc {g : G} {vs : List Value} {ds : List DV} {v : Value} {d : DV} (h : RdL g vs ds) (hv : Rd g v d) : RdL g (vs ++ [v]) (ds ++ [d]) := h.append (.cons hv .nil)

theorem St.same1 (W : C.Wf) {g : G} {s : Shared} {D : Addr} {h' : Heap} {t : Nat} (S : St C own ρ g s) (F : Fresh C own g D) (hs : Heap.SameBut D s.heap h') : St C own ρ g { s with heap := h', toks := t } :=
  S.at1 W F fun b o hb e => (hs.2 b (by simpa using hb)).trans e
theorem Fresh.mono {g g' : G} {I : Addr} (F : Fresh C own g I) (h : g' I = none) : Fresh C own g' I := ⟨h, F.own, F.loc, F.cells, F.frs, F.s0, F.prot⟩
/-- what stands after a part of a turn -/
inductive TK (C : Cx) (own : Own) (r : Locals) (I D : Addr) (oD : Obj) (Sx : Heap → Prop) (g : G) (s : Shared) : Prop
  | mk (S : St C own r g s) (F1 : Fresh C own g I) (D1 : Fresh C own g D) (hx : Sx s.heap) (hD : s.heap.get? D = some oD)
theorem turn_keep {I D : Addr} {obj oD : Obj} {r r6 : Locals} {fp : List Addr} {len i : Nat} {P : Nat → Value → Prop} {Sx : Nat → Heap → Prop} {g0 g g6 : G} {s2 s6 : Shared} (Wk : Walks C.X.prog C.X.w C.A I fp [I] len P Sx) (hfp : ∀ b ∈ fp, b = I ∨ g0 b ≠ none)
    (F1 : Fresh C own g I) (D1 : Fresh C own g D) (hobj : s2.heap.get? I = some obj) (S2 : St C own r g s2) (l0 : Le g0 g) (hx : Sx i s2.heap) (l6 : Le g g6) (S6 : St ((C.add (I, obj)).add (D, oD)) own r6 g6 s6) : TK C own r6 I D oD (Sx i) g6 s6 := by
  have dd := S6.dropped D1.frs
  have ii := S6.drop.dropped F1.frs
  refine ⟨S6.drop.drop, F1.mono ii.2.1, D1.mono dd.2.1, Wk.frame _ _ _ hx fun b hb ob e => ?_, dd.1⟩
  rcases hfp b hb with q | q
  · rw [q, hobj] at e
    rw [q, ← Option.some.inj e]
    exact ii.1
  · obtain ⟨ob', q⟩ := Option.ne_none_iff_exists'.mp q
    rw [S2.le _ _ (l0 _ _ q)] at e
    rw [← Option.some.inj e]
    exact S6.le _ _ (l6 _ _ (l0 _ _ q))
theorem turn_frame {I D : Addr} {fp : List Addr} {len i : Nat} {P : Nat → Value → Prop} {Sx : Nat → Heap → Prop} {g0 g : G} {h h' : Heap} (Wk : Walks C.X.prog C.X.w C.A I fp [I] len P Sx) (hfp : ∀ b ∈ fp, b = I ∨ g0 b ≠ none) (hne : D ≠ I) (l0 : Le g0 g) (D1 : Fresh C own g D) (hx : Sx i h) (hs : Heap.SameBut D h h') : Sx i h' :=
  Wk.frame _ _ _ hx fun b hb ob e => (hs.2 b fun q => by
    rcases hfp b hb with z | z
    · exact hne (q.symm.trans z)
    · obtain ⟨o, w⟩ := Option.ne_none_iff_exists'.mp z
      have := l0 _ _ w
      rw [q, D1.gn] at this
      cases this).trans e

inductive LT (C : Cx) (own : Own) (I D : Addr) (k0 : Nat) (cv : Locals) (L : List DV) (F : DV → Option DV) (g0 : G) (Sx : Nat → Heap → Prop) (k : Nat) (s : Shared) : Prop
  | mk (g : G) (i : Nat) (tv : Locals) (ys : Array Value) (l1 : Le g0 g) (htv : tv.length = k0) (S : St C own (tv ++ cv) g s) (F1 : Fresh C own g I) (D1 : Fresh C own g D) (hx : Sx i s.heap) (n : Nat) (hp : s.heap.get? D = some { cls := .type "list", data := .seq ys n }) (hr : RdL g ys.toList ((L.take i).filterMap F)) (hi : i ≤ L.length) (hk : k = L.length + 1 - i)
theorem take_fm {L : List DV} {F : DV → Option DV} {i : Nat} {d : DV} (hd : L[i]? = some d) : (L.take (i + 1)).filterMap F = (L.take i).filterMap F ++ (F d).toList := by
  rw [List.take_add_one, hd, List.filterMap_append]
  congr 1
theorem sub_step {l i : Nat} (h : i ≤ l) : l + 1 - (i + 1) < l + 1 - i := Nat.sub_lt_sub_left (Nat.lt_succ_of_le h) (Nat.lt_succ_self i)
inductive TurnP (C : Cx) (own : Own) (k0 : Nat) (cv : Locals) (Q : Locals → Prop) (r : Locals) : Prop
  | mk (tv : Locals) (ht : tv.length = k0) (hr : r = tv ++ cv) (q : Q tv)
/-- the turns of a list comprehension -/
theorem comp_turns (W : C.Wf) {E' : Value → Shared → Prop} {RR : Result → Shared → Prop} {elt target iter : Expr} {ifs : List Expr} {scope : Scope} {pos : Pos} {k0 : Nat} {cv : Locals} {g0 : G} {s0 : Shared} {I D : Addr} {L : List DV} {Sx : Nat → Heap → Prop} {F : DV → Option DV}
    (S0 : St C own (List.replicate k0 none ++ cv) g0 s0) (hI : Fresh C own g0 I) (hD : Fresh C own g0 D) (hne : D ≠ I) (hx0 : Sx 0 s0.heap) (hIt : ItW C I L g0 Sx) (hP : s0.heap.PlainList D #[]) (hlen : L.length ≤ 1000)
    (step : ∀ p q E', (C.add p).Wf → ((C.add p).add q).Wf → ∀ (i : Nat) (d : DV) (tv : Locals), L[i]? = some d → tv.length = k0 → WA ((C.add p).add q) E' own (tv ++ cv) target d fun r => ∃ tv', tv'.length = k0 ∧ r = tv' ++ cv ∧
      WQ ((C.add p).add q) E' own (tv' ++ cv) ifs fun b => (b = true → WE ((C.add p).add q) E' own (tv' ++ cv) elt fun y => F d = some y) ∧ (b = false → F d = none))
    (fin : ∀ g s tv ys, Le g0 g → tv.length = k0 → St C own (tv ++ cv) g s → Fresh C own g D → s.heap.PlainList D ys → RdL g ys.toList (L.filterMap F) → RR (.ok .next) s) :
    codeAny (model C.X.prog C.X.w) C.A (.compLoop (.ListComp elt [⟨target, iter, ifs, 0⟩] scope pos) 0 (.ref I) (.ref D) C.env) RR s0 := by
  cases hIt with
  | mk fp P Wk hfp hPv hIo hgo =>
  obtain ⟨nP, hP⟩ := hP
  refine compLoop_any (LT C own I D k0 cv L F g0 Sx) ?_ (L.length + 1)
    ⟨g0, 0, List.replicate k0 none, #[], Le.refl _, List.length_replicate, S0, hI, hD, hx0, nP, hP, .nil, Nat.zero_le _, rfl⟩
  intro k s E2 hT
  cases hT with
  | mk g i tv ys l1 htv S1 F1 D1 hx nD hp hr hi hkk =>
  subst hkk
  have memD : D ∉ [I] := fun q => hne (List.mem_singleton.mp q)
  by_cases hlt : i < L.length
  · refine Wk.item i _ _ _ hlt hx fun v h' tk hpv hx' hk => ?_
    obtain ⟨obj, hobj⟩ := hIo _ _ hx'
    have S2 := S1.at1 W F1 (t := tk) hk
    obtain ⟨d, hd, hrd⟩ := hPv i v hpv
    have hDo := hk _ _ memD hp
    have Wp : (C.add (I, obj)).Wf := add_wf W ⟨F1.loc, F1.cells⟩
    have Wq : ((C.add (I, obj)).add (D, _)).Wf := add_wf (p := (D, { cls := .type "list", data := .seq ys nD })) Wp ⟨D1.loc, D1.cells⟩
    have S3 : St ((C.add (I, obj)).add (D, { cls := .type "list", data := .seq ys nD })) own (tv ++ cv) g { s with heap := h', toks := tk } := (S2.add (p := (I, obj)) ⟨hobj, F1.gn, F1.own⟩).add (p := (D, _)) ⟨hDo, D1.gn, D1.own⟩
    refine hgo (i + 1) _ _ _ _ _ hx' ?_
    refine wpAny_mono (step (I, obj) (D, _) E2 Wp Wq i d tv hd htv g _ v S3 (hrd.mono l1)) (fun _ s4 q4 => ?_) fun _ _ x => x
    cases q4 with
    | mk r' S4 q4 =>
    obtain ⟨tv', ht', hr', hq⟩ := q4
    subst hr'
    refine TP.on (C := (C.add (I, obj)).add (D, _)) (wq_run (C := (C.add (I, obj)).add (D, _)) hq S4) (fun ok s5 g5 l5 S5 hh => ?_)
    have keep : ∀ {g6 : G} {s6 : Shared}, Le g g6 → St ((C.add (I, obj)).add (D, { cls := .type "list", data := .seq ys nD })) own (tv' ++ cv) g6 s6 → TK C own (tv' ++ cv) I D { cls := .type "list", data := .seq ys nD } (Sx (i + 1)) g6 s6 := fun l6 S6 =>
      turn_keep Wk hfp F1 D1 hobj S2 l1 hx' l6 S6
    cases ok with
    | false =>
      rw [if_neg Bool.false_ne_true]
      cases keep l5 S5 with
      | mk k1 k2 k3 k4 k5 =>
      refine ⟨_, sub_step hi, g5, i + 1, tv', ys, l1.trans l5, ht', k1, k2, k3, k4, nD, k5, ?_, hlt, rfl⟩
      rw [take_fm hd, hh.2 rfl]
      exact (List.append_nil _).symm ▸ hr.mono l5
    | true =>
      rw [if_pos rfl]
      refine WE.on (C := (C.add (I, obj)).add (D, _)) (hh.1 rfl) S5 (fun x s6 g6 y l6 S6 hy hF => ?_)
      cases keep (l5.trans l6) S6 with
      | mk k1 k2 k3 k4 k5 =>
      have hlen' : ys.size ≤ 1000 := by
        rw [← Array.length_toList, hr.length]
        exact Nat.le_trans (Nat.le_trans (List.length_filterMap_le ..) (List.length_take_le' ..)) hlen
      refine wpAny_list_append_plain ⟨nD, k5⟩ (fun h7 hp7 hs7 => ?_) (by rw [sizeLine_eq]; exact Nat.le_trans hlen' (by decide))
      obtain ⟨n7, hp7⟩ := hp7
      refine ⟨_, sub_step hi, g6, i + 1, tv', ys.push x, (l1.trans l5).trans l6, ht', k1.same1 W k3 (t := s6.toks) hs7, k2, k3, turn_frame Wk hfp hne ((l1.trans l5).trans l6) k3 k4 hs7, n7, hp7, ?_, hlt, rfl⟩
      rw [take_fm hd, hF, Array.toList_push]
      exact (hr.mono (l5.trans l6)).snoc hy
  · have hi' : i = L.length := Nat.le_antisymm hi (Nat.le_of_not_lt hlt)
    refine Wk.done _ _ _ (hi' ▸ hx) fun h' tk hk => ?_
    rw [hi', List.take_length] at hr
    exact fin g _ tv ys l1 htv (S1.at1 W F1 (t := tk) hk) D1 ⟨nD, hk _ _ memD hp⟩ hr
end

end
section

open PySem PySem.W PySem.Calls PyProof.Rows PySem.SeqAt

section
variable {C : Cx} {E : Value → Shared → Prop} {own : Own} {ρ : Locals} {X : Stx} {ns : List Str} {sc : Scope} {n : Nat}

theorem comp_is (I : C.Is X ns sc n) {scope : Scope} {cl : List (Str × Addr)} {K : Addr} {names : List Str} {pr : List (Addr × Obj)} (W : (C.comp scope cl K names pr).Wf) (hcell : ∀ x ∈ scope.names, x.2 ≠ .cell)
    (hf : ∀ x ∈ scope.names, x.2 = .free → ∃ c, cl.lookup x.1 = some c) : (C.comp scope cl K names pr).Is X names (relabelS scope sc) n := by
  refine ⟨W, I.X, rfl, relabel_eq I.scope I.wf.kind, I.room, I.sub, fun x hx => ?_⟩
  have : scope.names.lookup x = some .free := by
    rcases hx with q | q
    · rcases lookup_relabel q with q | q
      · exact absurd rfl (hcell _ (lookup_mem' q))
      · exact q.2.1
    · rcases lookup_relabel q with q | q
      · exact q
      · exact q.2.1
  exact hf _ (lookup_mem' this) rfl

inductive Entered (C : Cx) (own : Own) (ρ : Locals) (cs ts : List Str) (X : Stx) (sc' : Scope) (n : Nat) (scope : Scope) (cl : List (Str × Addr)) (g2 : G) (IA D K : Addr) (s' : Shared) : Prop
  | mk (pr : List (Addr × Obj)) (Ic : (C.comp scope cl K (ts ++ cs) pr).Is X (ts ++ cs) sc' n) (Sc : St (C.comp scope cl K (ts ++ cs) pr) own (List.replicate ts.length none ++ capt C.names ρ cs) g2 s')
    (FI : Fresh (C.comp scope cl K (ts ++ cs) pr) own g2 IA) (FD : Fresh (C.comp scope cl K (ts ++ cs) pr) own g2 D)
    (back : ∀ g3 s3 tv, Le g2 g3 → tv.length = ts.length → St (C.comp scope cl K (ts ++ cs) pr) own (tv ++ capt C.names ρ cs) g3 s3 → St C own ρ g3 s3 ∧ Fresh C own g3 K)
/-- a comprehension's surroundings -/
theorem comp_enter (I : C.Is X ns sc n) {scope : Scope} (ts cs : List Str) {cl : List (Str × Addr)}
    (hcell : ∀ x ∈ scope.names, x.2 ≠ .cell) (hkind : scope.kind = .function)
    (hcs : ∀ x ∈ cs, scope.names.lookup x = some .free ∧ (sc.names.lookup x = some .cell ∨ sc.names.lookup x = some .free)) (hcs2 : ∀ x ∈ scope.names, x.2 = .free → x.1 ∈ cs) (hnd : (ts ++ cs).Nodup)
    (hcl : ∀ x c, cl.lookup x = some c → C.env.cells.lookup x = some c) (hfr : ∀ x ∈ scope.names, x.2 = .free → cl.lookup x.1 = C.env.cells.lookup x.1) (hin : ∀ x c, cl.lookup x = some c → (x, NameKind.free) ∈ scope.names)
    {g2 : G} {s2 : Shared} {IA D K : Addr} {h₁ : Heap} {t : Nat} (S2 : St C own ρ g2 s2) (F2 : Fresh C own g2 IA) (hK0 : s2.heap.get? K = none) (hD0 : s2.heap.get? D = none) (hKI : K ≠ IA) (hKD : K ≠ D)
    (old : ∀ b o, s2.heap.get? b = some o → h₁.get? b = some o) (hns₁ : h₁.Ns K (fun _ => none)) : Entered C own ρ cs ts X (relabelS scope sc) n scope cl g2 IA D K { s2 with heap := h₁, toks := t } := by
  have W := I.wf
  have hK := fresh_new W S2 hK0
  have S3 : St C own ρ g2 { s2 with heap := h₁, toks := t } := S2.keep W old
  obtain ⟨oL, hL⟩ : ∃ oL, h₁.get? C.env.locals = some oL := by
    cases S3.vars with
    | mk m hn => exact let ⟨o, _, _, ho, _⟩ := hn; ⟨o, ho⟩
  have Wc := comp_wfC (scope := scope) (cl := cl) (K := K) (names := ts ++ cs) (oL := oL) W S3 hK hkind (fun x c q _ => absurd rfl (hcell _ (lookup_mem' q))) hcl hnd
  have pr : ∀ {A : Addr}, Fresh C own g2 A → K ≠ A → Fresh (C.comp scope cl K (ts ++ cs) ((C.env.locals, oL) :: unseen C cl h₁)) own g2 A := fun {A} FA hKA =>
    ⟨FA.gn, FA.own, Ne.symm hKA, fun x hx => FA.cells x (hcl _ _ hx), FA.frs, FA.s0, fun p hp => by
      rcases List.mem_append.mp hp with hp | hp
      · rcases List.mem_cons.mp hp with e | hp
        · rw [e]; exact Ne.symm FA.loc
        · obtain ⟨⟨x, h1, h2⟩, h3⟩ := unseen_mem hp
          exact fun e => FA.cells x (by rw [← e]; exact h1)
      · exact FA.prot p hp⟩
  exact ⟨_, comp_is I Wc hcell fun x hx hf => by rw [hfr x hx hf]; exact I.cells _ (hcs x.1 (hcs2 x hx hf)).2,
    comp_in (scope := scope) (ts := ts) (cs := cs) (oL := oL) W S3 hK.gn hK.own hK.cells hL hcl hfr hns₁ fun x hx => ⟨(hcs x hx).1, (hcs x hx).2.imp I.kind I.kind⟩,
    pr F2 hKI, pr (fresh_new W S2 hD0) hKD, fun g3 s3 tv l3 htv S3' => ⟨comp_outC W S3 l3 hL hcl htv (fun x c _ hx => hcs2 _ (hin x c hx) rfl) (fun x hx => (hcs x hx).1) S3', hK.mono S3'.lfree⟩⟩

theorem ItW.ne {I : Addr} {L : List DV} {g : G} {Sx : Nat → Heap → Prop} {h : Heap} (x : ItW C I L g Sx) (hx : Sx 0 h) : h.get? I ≠ none := by
  cases x with
  | mk fp P Wk hfp hP hI hgo => exact let ⟨o, e⟩ := hI _ _ hx; isn e
theorem ItW.move {I : Addr} {L : List DV} {g : G} {Sx : Nat → Heap → Prop} {h h' : Heap} (x : ItW C I L g Sx) (hx : Sx 0 h) (k : ∀ b o, h.get? b = some o → h'.get? b = some o) : Sx 0 h' := by
  cases x with
  | mk fp P Wk hfp hP hI hgo => exact Wk.frame _ _ _ hx fun b hb o e => k b o e
theorem ItW.comp {scope : Scope} {cl : List (Str × Addr)} {K : Addr} {names : List Str} {pr : List (Addr × Obj)} {I : Addr} {L : List DV} {g : G} {Sx : Nat → Heap → Prop} (x : ItW C I L g Sx) : ItW (C.comp scope cl K names pr) I L g Sx := by
  cases x with
  | mk fp P Wk hfp hP hI hgo => exact ⟨fp, P, Wk, hfp, hP, hI, hgo⟩

/-- the heap where a comprehension starts: its result, its names -/
inductive CH (s2 : Shared) (od : Obj) (h₁ : Heap) (K : Addr) : Prop
  | mk (hDK : s2.heap.objs.size ≠ K) (hK : s2.heap.get? K = none) (old : ∀ b o, s2.heap.get? b = some o → h₁.get? b = some o) (hD : h₁.get? s2.heap.objs.size = some od)
theorem ch_of {s2 : Shared} {od oe : Obj} {h₁ : Heap} (hf : od.isFreed = false) (hs : Heap.SameBut (s2.heap.push od).objs.size ((s2.heap.push od).push oe) h₁) : CH s2 od h₁ (s2.heap.push od).objs.size := by
  have hC : (s2.heap.push od).objs.size = s2.heap.objs.size + 1 := Heap.size_push ..
  have hDC : s2.heap.objs.size ≠ (s2.heap.push od).objs.size := by rw [hC]; exact Nat.ne_of_lt (Nat.lt_succ_self _)
  refine ⟨hDC, ?_, fun b o e => hs.extBut b o (Nat.ne_of_lt (by rw [hC]; exact Nat.lt_succ_of_lt (Heap.lt_size e))) (Heap.get?_push_of_some _ (Heap.get?_push_of_some _ e)), hs.extBut _ _ hDC (Heap.get?_push_of_some _ (Heap.get?_push_size _ hf))⟩
  cases e : s2.heap.get? (s2.heap.push od).objs.size with
  | none => rfl
  | some o' => exact absurd (Heap.lt_size e) (Nat.not_lt.mpr (by rw [hC]; exact Nat.le_succ _))

theorem we_lcomp (I : C.Is X ns sc n) {elt target iter : Expr} {ifs : List Expr} {scope : Scope} {pos : Pos} {P : DV → Prop} (ts cs : List Str)
    (hcell : ∀ x ∈ scope.names, x.2 ≠ .cell) (hkind : scope.kind = .function) (hnames : ∀ x ∈ scope.names, x.2 = .local → scope.names.lookup x.1 = some .local)
    (hcs : ∀ x ∈ cs, scope.names.lookup x = some .free ∧ (sc.names.lookup x = some .cell ∨ sc.names.lookup x = some .free)) (hcs2 : ∀ x ∈ scope.names, x.2 = .free → x.1 ∈ cs) (hnd : (ts ++ cs).Nodup)
    (h : WI C E own ρ iter fun L => L.length ≤ 1000 ∧ ∃ F : DV → Option DV, (∀ (C' : Cx) (E' : Value → Shared → Prop), C'.Is X (ts ++ cs) (relabelS scope sc) n → ∀ (i : Nat) (d : DV) (tv : Locals), L[i]? = some d → tv.length = ts.length →
      WA C' E' own (tv ++ capt ns ρ cs) target d fun r => ∃ tv', tv'.length = ts.length ∧ r = tv' ++ capt ns ρ cs ∧
        WQ C' E' own (tv' ++ capt ns ρ cs) ifs fun b => (b = true → WE C' E' own (tv' ++ capt ns ρ cs) elt fun y => F d = some y) ∧ (b = false → F d = none)) ∧ P (.lst (L.filterMap F)))
    (hs : ∀ x, foldedSetIterable iter C.env x = pure x := by intro _; rfl) :
    WE C E own ρ (.ListComp elt [⟨target, iter, ifs, 0⟩] scope pos) P := by
  intro g s S
  have W := I.wf
  obtain ⟨cl, hclos, hcl, hfr, hin⟩ := closure_ok (scope := scope) (env := C.env) fun x hx hf => I.cells _ (hcs x.1 (hcs2 x hx hf)).2
  rw [eval_ListComp]
  refine wpAny_comprehension_free (use := none) rfl hs hclos hkind hnames (wpAny_mono (h g s S) (fun v s1 h1 => wpAny_mono h1 (fun it s2 h2 => ?_) fun _ _ e => e) fun _ _ e => e)
  cases h2 with
  | mk g2 IA L Sx l2 S2 F2 hIt hx2 hp =>
  refine wpAny_newObj_type (wpAny_newFunctionEnv hcell (fun y hy => nomatch hy) (fun h₁ hns₁ hsb₁ => ?_) hkind)
  dsimp only at hns₁ hsb₁ ⊢
  generalize hod : ({ cls := .type "list", dict := none, data := .seq ([] : List Value).toArray } : Obj) = od at hns₁ hsb₁ ⊢
  have hf : od.isFreed = false := by rw [← hod]; rfl
  cases ch_of hf hsb₁ with
  | mk hDK hK0 old hDh =>
  generalize (s2.heap.push od).objs.size = K at *
  have hD0 := fresh_none s2.heap
  generalize s2.heap.objs.size = D at *
  have hDI : D ≠ IA := fun e => hIt.ne hx2 (e ▸ hD0)
  have hKI : K ≠ IA := fun e => hIt.ne hx2 (e ▸ hK0)
  have hD := fresh_new W S2 hD0
  cases comp_enter I ts cs hcell hkind hcs hcs2 hnd hcl hfr hin (t := s2.toks + ([] : List (Str × Value)).length) S2 F2 hK0 hD0 hKI (Ne.symm hDK) old hns₁ with
  | mk pr Ic Sc FI FD back =>
  obtain ⟨hlen, F, hstep, hfin⟩ := hp
  have hx1 := hIt.move hx2 old
  rw [I.names] at Sc back
  have loop := comp_turns (C := C.comp scope cl K (ts ++ cs) pr) (own := own) (k0 := ts.length) (cv := capt ns ρ cs) (elt := elt) (target := target) (iter := iter) (ifs := ifs) (scope := scope) (pos := pos) (F := F)
    (E' := E) (RR := compPost (model C.X.prog C.X.w) C.A E none (VP C own ρ g P) (.ref D) K) Ic.wf
    Sc FI FD hDI hx1 hIt.comp ⟨_, hod ▸ hDh⟩ hlen
    (fun p q E' Wp Wq i d tv h1 h2 => hstep _ E' (add_is (add_is Ic Wp) Wq) i d tv h1 h2)
    (fun g3 s3 tv ys l3 htv S3' F3 hp3 hr3 => by
      cases S3'.vars with
      | mk mK hnK _ =>
      refine ⟨mK, hnK, fun h' hs' => ?_⟩
      have bk := back g3 s3 tv l3 htv S3'
      have S4 := bk.1.same1 W (t := s3.toks) bk.2 hs'
      obtain ⟨nD, hD'⟩ := hp3
      have hD2 : h'.get? D = some { cls := .type "list", data := .seq ys nD } := (hs'.2 _ hDK).trans hD'
      have fz := S4.freeze W (hD.mono F3.gn) hD2
      exact ⟨_, _, (l2.trans l3).trans fz.1, fz.2, .lst (if_pos rfl) rfl rfl (hr3.mono fz.1), hfin⟩)
  exact codeAny_compStart_list loop (by
    cases hIt with
    | mk fp P Wk => exact Wk.self 0 _ _ _ hx1 loop)
end

end
section

open PySem PySem.W PySem.Calls PyProof.Rows PySem.SeqAt

inductive VRL (g : G) (own : Own) : List Value → List LV → Prop
  | nil : VRL g own [] []
  | cons {v : Value} {d : LV} {vs : List Value} {ds : List LV} : VR g own v d → VRL g own vs ds → VRL g own (v :: vs) (d :: ds)
theorem VRL.length {g : G} {own : Own} {vs : List Value} : ∀ {ds : List LV}, VRL g own vs ds → vs.length = ds.length := by
  induction vs with
  | nil => intro ds h; cases h; rfl
  | cons v vs ih => intro ds h; cases h with | cons _ r => simp [ih r]
theorem VRL.get {g : G} {own : Own} : ∀ {vs : List Value} {ds : List LV}, VRL g own vs ds → ∀ {i : Nat} {d : LV}, ds[i]? = some d → ∃ v, vs[i]? = some v ∧ VR g own v d := by
  intro vs
  induction vs with
  | nil => intro ds h i d e; cases h; cases e
  | cons v vs ih =>
    intro ds h i d e
    cases h with
    | cons x r =>
      cases i with
      | zero => cases e; exact ⟨v, rfl, x⟩
      | succ i => exact ih r e
theorem RdL.vrl {g : G} {own : Own} {vs : List Value} : ∀ {ds : List DV}, RdL g vs ds → VRL g own vs (ds.map .fz) := by
  induction vs with
  | nil => intro ds h; cases h; exact .nil
  | cons v vs ih => intro ds h; cases h with | cons x r => exact .cons x (ih r)

noncomputable abbrev Kx := Shared → Value → G → Shared → Prop
noncomputable def noK : Kx := fun _ _ _ _ => False

/-- what a call of a def yields: nothing that stood is changed but what is its own -/
inductive GPost (fr : List Addr) (o : Own) (g : G) (s : Shared) (P : Own → DV → Prop) (v : Value) (s' : Shared) : Prop
  | mk (g' : G) (o' : Own) (d : DV) (st : Step fr o.addrs g s g' s') (ok : OwnOk g' s'.heap fr o') (r : Rd g' v d) (p : P o' d)
noncomputable def FnG (X : Stx) (n : Nat) (f : Addr) (o : Own) (args : List LV) (P : Own → DV → Prop) (K : Kx) : Prop :=
  ∀ (A : Around) (stk : List Env) (E : Value → Shared → Prop) (g : G) (s : Shared) (vs : List Value),
    A.frames = some stk → A.handled = none → s.heap.FunFrames X.h0 stk → Roomy A n → Le X.h0.get? g → Le g s.heap.get? → (∀ a ∈ framesOf stk, g a = none) → OwnOk g s.heap (framesOf stk) o → VRL g o vs args →
    (∀ e g' s', Step (framesOf stk) o.addrs g s g' s' → K s e g' s' → E e s') →
    wpAny (model X.prog X.w) A (call (.ref f) vs) (GPost (framesOf stk) o g s P) E s

noncomputable def start' (ds : List LV) (k : Nat) : Locals := ds.map some ++ List.replicate k none

theorem OwnOk.addFr {g : G} {h : Heap} {fr : List Addr} {own : Own} {L : Addr} (x : OwnOk g h fr own) (hL : L ∉ own.addrs) : OwnOk g h (L :: fr) own :=
  x.move (Le.refl g) (fun _ _ _ q => q) (fun a m q w => (List.mem_cons.mp w).elim (fun e => hL (e ▸ m)) q) fun _ _ _ _ e => e

theorem bindL_skip (kindOf : Str → Option NameKind) : ∀ (binds : List (Str × Value)) (m : Str → Option Value) (y : Str), (∀ x ∈ binds, x.1 ≠ y) → bindL kindOf binds m y = m y := by
  intro binds
  induction binds with
  | nil => intro m y _; rfl
  | cons b r ih =>
    intro m y h
    obtain ⟨nb, v⟩ := b
    unfold bindL
    rw [ih _ _ fun x hx => h x (List.mem_cons_of_mem _ hx)]
    split
    · exact if_neg fun e => h (nb, v) List.mem_cons_self e.symm
    · rfl
theorem bindC_skip (kindOf : Str → Option NameKind) : ∀ (binds : List (Str × Value)) (m : Str → Option Value) (y : Str), (∀ x ∈ binds, x.1 ≠ y) → bindC kindOf binds m y = m y := by
  intro binds
  induction binds with
  | nil => intro m y _; rfl
  | cons b r ih =>
    intro m y h
    obtain ⟨nb, v⟩ := b
    unfold bindC
    rw [ih _ _ fun x hx => h x (List.mem_cons_of_mem _ hx)]
    split
    · rfl
    · exact if_neg fun e => h (nb, v) List.mem_cons_self e.symm
theorem bind_at (kindOf : Str → Option NameKind) : ∀ {pn : List Str} {vs : List Value} (m cm : Str → Option Value) {i : Nat} {y : Str} {v : Value}, pn.Nodup → pn[i]? = some y → vs[i]? = some v →
    (kindOf y = some .local → bindL kindOf (pn.zip vs) m y = some v) ∧ (kindOf y = some .cell → bindC kindOf (pn.zip vs) cm y = some v) := by
  intro pn
  induction pn with
  | nil => intro vs m cm i y v _ h; simp at h
  | cons x pn ih =>
    intro vs m cm i y v hn h1 h2
    cases vs with
    | nil => simp at h2
    | cons u vs =>
      rw [List.nodup_cons] at hn
      rw [List.zip_cons_cons]
      unfold bindL bindC
      cases i with
      | zero =>
        simp at h1 h2
        subst h1 h2
        have hs : ∀ q ∈ pn.zip vs, q.1 ≠ x := fun q hq e => hn.1 (e ▸ (List.of_mem_zip (show (q.1, q.2) ∈ _ from hq)).1)
        refine ⟨fun hk => ?_, fun hk => ?_⟩
        · rw [bindL_skip _ _ _ _ hs, if_pos hk]; exact if_pos rfl
        · rw [bindC_skip _ _ _ _ hs, if_neg (by rw [hk]; decide)]; exact if_pos rfl
      | succ i => exact ih _ _ hn.2 (by simpa using h1) (by simpa using h2)

theorem cellsFrom_get : ∀ (names : List (Str × NameKind)) (k : Nat) (acc : List (Str × Addr)) (x : Str), ((∃ c, acc.lookup x = some c) ∨ (x, NameKind.cell) ∈ names) → ∃ c, (cellsFrom k names acc).lookup x = some c := by
  intro names
  induction names with
  | nil => intro k acc x h; rcases h with h | h; exact h; cases h
  | cons y r ih =>
    obtain ⟨nm, kd⟩ := y
    intro k acc x h
    unfold cellsFrom
    split
    · rename_i hk
      refine ih _ _ _ ?_
      rcases h with ⟨c, h⟩ | h
      · rw [List.lookup_cons]
        cases e : x == nm with
        | true => exact .inl ⟨_, rfl⟩
        | false => exact .inl ⟨c, h⟩
      · rcases List.mem_cons.mp h with e | h
        · cases e
          rw [List.lookup_cons, beq_self_eq_true]
          exact .inl ⟨_, rfl⟩
        · exact .inr h
    · rename_i hk
      refine ih _ _ _ ?_
      rcases h with h | h
      · exact .inl h
      · rcases List.mem_cons.mp h with e | h
        · cases e; exact absurd rfl hk
        · exact .inr h

theorem fn_enterE {X : Stx} (hw : X.Wf) {x : Str} {f : Addr} {ps : Arguments} {body : List Stmt} {sc : Scope} (hd : DefAt X x f ps body sc) {n : Nat} {o : Own} {args : List LV} {P : Own → DV → Prop} {K : Kx} (pn ns : List Str)
    (hb : ∀ vs pm cd doc, vs.length = args.length → bindArgs (docDef x ps body sc pm cd doc) ⟨vs, []⟩ = pure (pn.zip vs))
    (hl : pn.length = args.length) (hpre : ns.take pn.length = pn) (hnd : ns.Nodup) (hloc : ∀ y ∈ pn, sc.names.lookup y = some .local ∨ sc.names.lookup y = some .cell)
    (hfree : ∀ x ∈ sc.names, x.2 ≠ .free) (hco : sc.isCoroutine = false) (hgen : sc.isGenerator = false) (hk : sc.kind = .function)
    (hK : ∀ (C : Cx) (e : Value) (g' : G) (s' : Shared), C.Is X ns sc n → Step C.fr C.D C.g0 C.s0 g' s' → (s'.heap.FunFrames X.h0 C.stk ∧ ∀ a ∈ C.frs, g' a = none) → K C.s0 e g' s' → (∃ outer, C.stk = C.env :: outer) →
      wpAny (model C.X.prog C.X.w) C.A (leaving C.env e) (fun _ s'' => ∃ g'', Step C.fr C.D C.g0 C.s0 g'' s'' ∧ K C.s0 e g'' s'') (fun _ _ => False) s')
    (h : ∀ (C : Cx) (E : Value → Shared → Prop), C.Is X ns sc n → C.D = o.addrs → (∃ L ob pm cd doc, X.h0.get? f = some ob ∧ ob.data = .func (docDef x ps body sc pm cd doc) ∧ C.env = callEnvC (docDef x ps body sc pm cd doc) L f) → (∃ outer, C.stk = C.env :: outer) → (∀ e g' s', Step C.fr C.D C.g0 C.s0 g' s' → (s'.heap.FunFrames X.h0 C.stk ∧ ∀ a ∈ C.frs, g' a = none) → K C.s0 e g' s' → E e s') →
      WS C E o (start' args (ns.length - args.length)) body (fun o' _ => P o' .none) (fun o' d => P o' d)) : FnG X (n + 1) f o args P K := by
  intro A stk E g s vs a1 a2 a3 a4 a5 a6 a7 aO a8 aE
  obtain ⟨ob, pm, cd, doc, ho, hdat, hcd⟩ := hd.obj
  have kst : ∀ b o, X.h0.get? b = some o → s.heap.get? b = some o := fun b o e => a6 b o (a5 b o e)
  have hlen : vs.length = args.length := a8.length
  have hfresh : s.heap.get? s.heap.objs.size = none := fresh_none _
  have hge : ∀ b, s.heap.objs.size ≤ b → s.heap.get? b = none := fun b hb => by
    cases q : s.heap.get? b with
    | none => rfl
    | some o => exact absurd (Heap.lt_size q) (Nat.not_lt.mpr hb)
  have hgn : ∀ {b}, s.heap.get? b = none → g b = none := fun {b} h => by
    cases q : g b with
    | none => rfl
    | some o => rw [a6 _ _ q] at h; cases h
  have h0n : ∀ {b}, s.heap.get? b = none → X.h0.get? b = none := fun {b} h => by
    cases q : X.h0.get? b with
    | none => rfl
    | some o => rw [kst _ _ q] at h; cases h
  have hpd : pn.Nodup := by rw [← hpre]; exact hnd.sublist (List.take_sublist _ _)
  have hfrlt : ∀ a ∈ framesOf stk, s.heap.get? a ≠ none := fun a ha => by obtain ⟨_, o, e, _⟩ := a3.mem ha; exact isn e
  have hcg : ∀ y, sc.names.lookup y = some .cell → ∃ c, (cellsFrom (s.heap.objs.size + 1) sc.names []).lookup y = some c := fun y hy => cellsFrom_get _ _ _ _ (.inr (lookup_mem' hy))
  refine wpAny_call (codeAny_call_cells (by have := a4.1; omega) (kst _ _ ho) hdat (hw.nolimit.keeps kst) (hcd.keeps kst) rfl (hb vs pm cd doc hlen) rfl
    (fun y hy => ?_) (fun s₁ F => ?_) hco hgen hk)
  · rcases hloc y.1 (List.of_mem_zip (show (y.1, y.2) ∈ _ from hy)).1 with q | q
    · exact .inl q
    · obtain ⟨c, hc⟩ := hcg _ q
      exact .inr ⟨q, by show ((cellsFrom (s.heap.objs.size + 1) sc.names []).lookup y.1).isSome = true; rw [hc]; rfl⟩
  let env := callEnvC (docDef x ps body sc pm cd doc) s.heap.objs.size f
  let C : Cx := { X := X, A := A.deeper env, env := env, stk := env :: stk, fr := framesOf stk, g0 := g, s0 := s, D := o.addrs, names := ns, room := n }
  have hfrs : C.frs = s.heap.objs.size :: framesOf stk := rfl
  have hca : ∀ y c, C.env.cells.lookup y = some c → s.heap.objs.size < c := fun y c hc => F.above y c (mem_of_lookup hc)
  have hcn : ∀ y c, C.env.cells.lookup y = some c → s.heap.get? c = none := fun y c hc => hge c (Nat.le_of_lt (hca y c hc))
  obtain ⟨h₁, tk, rfl, keep⟩ := F.done
  have hI : C.Is X ns sc n := by
    refine ⟨⟨hw, a5, a6, hk, rfl, rfl, hnd, fun L hL => ?_, fun y z c e1 e2 => name_of_addr F.apart (mem_of_lookup e1) (mem_of_lookup e2), hfresh, fun y c _ e => hcn y c e, fun y c e m => ?_, fun a ha => ⟨hfrlt a ha, a7 a ha⟩, Around.frames_deeper a1, a2, ⟨?_, ?_⟩, fun _ h => nomatch h⟩, rfl, rfl, rfl, rfl, fun a ha => ?_, fun y hy => ?_⟩
    · rw [hfrs] at hL
      rcases List.mem_cons.mp hL with e | e
      · rw [e]; exact .inl hfresh
      · exact .inr e
    · rw [hfrs] at m
      rcases List.mem_cons.mp m with q | q
      · exact absurd (hca y c e) (by rw [q]; exact Nat.lt_irrefl _)
      · exact hfrlt c q (hcn y c e)
    · show A.depth + 1 + n < _; have := a4.1; omega
    · show A.units + 3 + 4 * n + 50 < _; have := a4.2; omega
    · rw [hfrs]; exact List.mem_cons_of_mem _ ha
    · rcases hy with q | q
      · exact hcg y q
      · exact absurd rfl (hfree _ (lookup_mem' q))
  have hstep : Step (framesOf stk) o.addrs g s g { s with heap := h₁, toks := tk } :=
    ⟨fun a ha => by obtain ⟨o, e⟩ := Option.ne_none_iff_exists'.mp ha; exact isn (keep a o e), fun a o e _ => .inl (keep a o e), fun _ _ => rfl, fun a o e => keep a o (a6 a o e), rfl, rfl, rfl⟩
  have hLo : s.heap.objs.size ∉ o.addrs := fun m => aO.held _ m hfresh
  have hO1 : OwnOk g h₁ (framesOf stk) o := aO.mono (s := s) (s' := { s with heap := h₁, toks := tk }) (D := []) (fr' := framesOf stk) a6 ⟨fun a o e _ => .inl (keep a o e), fun _ _ => rfl, fun a o e => keep a o (a6 a o e), rfl, rfl, rfl⟩ (fun _ h => h) (fun _ h => nomatch h)
  have S : St C o (start' args (ns.length - args.length)) g { s with heap := h₁, toks := tk } := by
    refine ⟨hstep, ?_, ?_, fun a ha => ?_, hgn hfresh, hLo, fun y c e => ⟨hgn (hcn y c e), Ne.symm (Nat.ne_of_lt (hca y c e)), fun m => aO.held _ m (hcn y c e), ?_⟩, ⟨_, F.toInCall.ns, fun i y d h1 h2 => ?_⟩, fun _ h => (nomatch h), fun a ha => .inl ha⟩
    · rw [hfrs]; exact hO1.addFr hLo
    · exact Heap.FunFrames.cons (by show sc.kind ≠ .module; rw [hk]; decide) rfl F.toInCall.ns (h0n hfresh) (a3.of_keeps fun b o e _ => ⟨o, keep b o e, rfl⟩)
    · rw [hfrs] at ha
      rcases List.mem_cons.mp ha with e | e
      · rw [e]; exact hgn hfresh
      · exact a7 a e
    · obtain ⟨oc, e1, e2⟩ := F.cell y c e
      exact ⟨oc, _, e1, e2⟩
    · unfold start' at h2
      by_cases hi : i < args.length
      · rw [List.getElem?_append_left (by simpa using hi), List.getElem?_map] at h2
        cases hdi : args[i]? with
        | none => rw [hdi] at h2; cases h2
        | some e =>
          rw [hdi] at h2
          simp only [Option.map_some, Option.some.injEq] at h2
          subst h2
          obtain ⟨v, hv, hr⟩ := a8.get hdi
          have hy : pn[i]? = some y := by rw [← hpre, List.getElem?_take, if_pos (by omega)]; exact h1
          have hba := bind_at (callEnvC (docDef x ps body sc pm cd doc) s.heap.objs.size f).kindOf (fun _ => none) (fun _ => none) hpd hy hv
          refine ⟨v, ?_, hr⟩
          rcases hloc y (List.mem_of_getElem? hy) with q | q
          · exact .inl ⟨q, hba.1 q⟩
          · obtain ⟨c, hc⟩ := hcg y q
            obtain ⟨oc, e1, e2⟩ := F.cell y c hc
            refine .inr ⟨.inl q, c, oc, hc, e1, e2.trans ?_⟩
            rw [hba.2 q]
      · rw [List.getElem?_append_right (by simpa using Nat.le_of_not_lt hi)] at h2
        rw [List.getElem?_replicate] at h2
        split at h2 <;> cases h2
  refine wpAny_mono (h C _ hI rfl ⟨_, ob, pm, cd, doc, ho, hdat, rfl⟩ ⟨_, rfl⟩ (fun e g' s' hs hff hk' => ?_) g _ S) (fun fl s' x => ?_) fun e s' x => x
  · exact wpAny_mono (hK C e g' s' hI hs hff hk' ⟨_, rfl⟩) (fun _ s'' ⟨g'', h1, h2⟩ => aE e g'' s'' h1 h2) fun _ _ x => x.elim
  · cases x with
    | next g' own' ρ' _ S' hp => exact ⟨g', own', .none, S'.step, S'.hown.weaken hI.sub, .none, hp⟩
    | ret v g' own' d hr hrd hp => exact ⟨g', own', d, hr.1, hr.2, hrd, hp⟩

theorem fn_enter {X : Stx} (hw : X.Wf) {x : Str} {f : Addr} {ps : Arguments} {body : List Stmt} {sc : Scope} (hd : DefAt X x f ps body sc) {n : Nat} {o : Own} {args : List LV} {P : Own → DV → Prop} {K : Kx} (pn ns : List Str)
    (hb : ∀ vs pm cd doc, vs.length = args.length → bindArgs (docDef x ps body sc pm cd doc) ⟨vs, []⟩ = pure (pn.zip vs))
    (hl : pn.length = args.length) (hpre : ns.take pn.length = pn) (hnd : ns.Nodup) (hloc : ∀ y ∈ pn, sc.names.lookup y = some .local ∨ sc.names.lookup y = some .cell)
    (hfree : ∀ x ∈ sc.names, x.2 ≠ .free) (hco : sc.isCoroutine = false) (hgen : sc.isGenerator = false) (hk : sc.kind = .function)
    (hK : ∀ (C : Cx) (e : Value) (g' : G) (s' : Shared), C.Is X ns sc n → Step C.fr C.D C.g0 C.s0 g' s' → (s'.heap.FunFrames X.h0 C.stk ∧ ∀ a ∈ C.frs, g' a = none) → K C.s0 e g' s' → (∃ outer, C.stk = C.env :: outer) →
      wpAny (model C.X.prog C.X.w) C.A (leaving C.env e) (fun _ s'' => ∃ g'', Step C.fr C.D C.g0 C.s0 g'' s'' ∧ K C.s0 e g'' s'') (fun _ _ => False) s')
    (h : ∀ (C : Cx) (E : Value → Shared → Prop), C.Is X ns sc n → C.D = o.addrs → (∀ e g' s', Step C.fr C.D C.g0 C.s0 g' s' → (s'.heap.FunFrames X.h0 C.stk ∧ ∀ a ∈ C.frs, g' a = none) → K C.s0 e g' s' → E e s') →
      WS C E o (start' args (ns.length - args.length)) body (fun o' _ => P o' .none) (fun o' d => P o' d)) : FnG X (n + 1) f o args P K :=
  fn_enterE hw hd pn ns hb hl hpre hnd hloc hfree hco hgen hk hK fun C E I hD _ _ hE => h C E I hD hE

theorem start_map (ds : List DV) (k : Nat) : start' (ds.map .fz) k = start ds k := by
  unfold start' start
  rw [List.map_map]
  rfl
theorem fn_of_g {X : Stx} {n : Nat} {f : Addr} {ds : List DV} {P : DV → Prop} (h : FnG X n f .no (ds.map .fz) (fun _ d => P d) noK) : Fn X n f ds P := by
  intro A stk E g s vs a1 a2 a3 a4 a5 a6 a7 a8
  exact wpAny_mono (h A stk E g s vs a1 a2 a3 a4 a5 a6 a7 trivial a8.vrl (fun _ _ _ _ q => q.elim)) (fun _ _ p => GPost.casesOn p fun g' o' d x _ y z => ⟨g', d, x, y, z⟩) fun _ _ x => x
theorem fn_plain {X : Stx} (hw : X.Wf) {x : Str} {f : Addr} {ps : Arguments} {body : List Stmt} {sc : Scope} (hd : DefAt X x f ps body sc) {n : Nat} {ds : List DV} {P : DV → Prop} (pn ns : List Str)
    (hb : ∀ vs pm cd doc, vs.length = ds.length → bindArgs (docDef x ps body sc pm cd doc) ⟨vs, []⟩ = pure (pn.zip vs))
    (hl : pn.length = ds.length) (hpre : ns.take pn.length = pn) (hnd : ns.Nodup) (hloc : ∀ y ∈ pn, sc.names.lookup y = some .local)
    (hcell : ∀ x ∈ sc.names, x.2 ≠ .cell ∧ x.2 ≠ .free) (hco : sc.isCoroutine = false) (hgen : sc.isGenerator = false) (hk : sc.kind = .function)
    (h : ∀ (C : Cx) (E : Value → Shared → Prop), C.Is X ns sc n → C.D = [] → WS C E .no (start ds (ns.length - ds.length)) body (fun _ _ => P .none) (fun _ d => P d)) : Fn X (n + 1) f ds P :=
  fn_of_g (fn_enter hw hd pn ns (fun vs pm cd doc h => hb vs pm cd doc (h.trans (List.length_map _))) (hl.trans (List.length_map _).symm) hpre hnd (fun y hy => .inl (hloc y hy)) (fun x hx => (hcell x hx).2) hco hgen hk (fun _ _ _ _ _ _ _ h => h.elim) fun C E I hD _ => by
    rw [start_map, List.length_map]
    exact h C E I hD)

end
section

open PySem PySem.W PySem.Calls PyProof.Rows PySem.SeqAt

noncomputable def look {α : Type} [DecidableEq α] (l : List (α × Rt)) (k : α) : Option Rt := (l.find? fun e => e.1 = k).map (·.2)
noncomputable def put {α : Type} [DecidableEq α] (l : List (α × Rt)) (k : α) (r : Rt) : List (α × Rt) := if l.any (fun e => e.1 = k) then l.map (fun e => if e.1 = k then (e.1, r) else e) else l ++ [(k, r)]

inductive IKV (g : G) : List (Int × Value) → List (Int × Rt) → Prop
  | nil : IKV g [] []
  | cons {k : Int} {v : Value} {r : Rt} {kvs : List (Int × Value)} {l : List (Int × Rt)} : Rd g v (rd r) → IKV g kvs l → IKV g ((k, v) :: kvs) ((k, r) :: l)

section
variable {g : G} {kvs : List (Int × Value)} {l : List (Int × Rt)}
theorem IKV.length (x : IKV g kvs l) : kvs.length = l.length := by
  induction x with
  | nil => rfl
  | cons _ _ ih => simp [ih]
theorem IKV.keys (x : IKV g kvs l) : kvs.map (·.1) = l.map (·.1) := by
  induction x with
  | nil => rfl
  | cons _ _ ih => simp [ih]
theorem IKV.at (x : IKV g kvs l) (k : Int) : (∃ v r, valueAt kvs k = some v ∧ look l k = some r ∧ Rd g v (rd r)) ∨ (valueAt kvs k = none ∧ look l k = none) := by
  induction x with
  | nil => exact .inr ⟨rfl, rfl⟩
  | @cons k' v r kvs l a _ ih =>
    by_cases e : k' = k
    · exact .inl ⟨v, r, by simp [valueAt, e], by simp [look, e], a⟩
    · simpa [valueAt, look, e] using ih
theorem IKV.any (x : IKV g kvs l) (k : Int) : kvs.any (fun kv => decide (kv.1 = k)) = l.any fun e => decide (e.1 = k) := by
  induction x with
  | nil => rfl
  | cons _ _ ih => simp [ih]
theorem IKV.append {kvs' : List (Int × Value)} {l' : List (Int × Rt)} (x : IKV g kvs l) (y : IKV g kvs' l') : IKV g (kvs ++ kvs') (l ++ l') := by
  induction x with
  | nil => exact y
  | cons a _ ih => exact .cons a ih
theorem IKV.put (x : IKV g kvs l) {k : Int} {v : Value} {r : Rt} (h : Rd g v (rd r)) : IKV g (stored kvs k v) (put l k r) := by
  unfold stored GP.put
  rw [x.any k]
  split
  · rename_i q
    clear q
    induction x with
    | nil => exact .nil
    | @cons k' v' r' kvs l a _ ih =>
      rw [List.map_cons, List.map_cons]
      by_cases e : k' = k
      · simp only [e, if_true]; exact .cons h ih
      · simp only [e, if_false]; exact .cons a ih
  · exact x.append (.cons h .nil)

theorem RdI.pairs {prog : Program} {w : World} {es : List DictEntry} (x : RdI g es l) : ∃ kvs, IKV g kvs l ∧ Pairs (intKind prog w) es kvs ∧ ∀ e ∈ es, ∃ k, (intKind prog w).is k e.key = true ∧ e.hash = (intKind prog w).hash k := by
  induction x with
  | nil => exact ⟨[], .nil, .nil, fun _ h => nomatch h⟩
  | @cons e k r es l t h1 h2 h3 _ ih =>
    obtain ⟨kvs, a, b, c⟩ := ih
    have hk : (intKind prog w).is k e.key = true := by rw [h1]; exact intKind_is ..
    refine ⟨(k, e.val) :: kvs, .cons h2 a, .cons hk rfl b, fun e' he' => ?_⟩
    rcases List.mem_cons.mp he' with q | q
    · rw [q]; exact ⟨k, hk, h3⟩
    · exact c e' q
theorem pairs_rdi {prog : Program} {w : World} {es : List DictEntry} (x : IKV g kvs l) (p : Pairs (intKind prog w) es kvs) (h : ∀ e ∈ es, ∃ k, (intKind prog w).is k e.key = true ∧ e.hash = (intKind prog w).hash k) : RdI g es l := by
  induction p generalizing l with
  | nil => cases x; exact .nil
  | @cons e kv es kvs a b _ ih =>
    cases x with
    | @cons k v r kvs l c d =>
      obtain ⟨t, e1⟩ := Value.isInt_shape a
      obtain ⟨k', e2, e3⟩ := h e List.mem_cons_self
      have : k' = k := (intKind prog w).inj _ _ _ e2 a
      subst this
      exact .cons e1 (by rw [b]; exact c) e3 (ih d fun e he => h e (List.mem_cons_of_mem _ he))
end

theorem IsI.dict {g : G} {h : Heap} {a : Addr} {l : List (Int × Rt)} (prog : Program) (w : World) (x : IsI g h a l) : ∃ kvs, IKV g kvs l ∧ h.DictOf (intKind prog w) a kvs := by
  obtain ⟨o, es, n, h1, h2, h3, h4, h5, _⟩ := x
  obtain ⟨kvs, a1, a2, a3⟩ := h4.pairs (prog := prog) (w := w)
  exact ⟨kvs, a1, o, es, n, h1, h2, h3, fun e he => a3 e (by simpa using he), a2, by rw [a1.keys]; exact h5⟩
theorem IsI.of {g : G} {h : Heap} {a : Addr} {l : List (Int × Rt)} {prog : Program} {w : World} {kvs : List (Int × Value)} (x : IKV g kvs l) (d : h.DictOf (intKind prog w) a kvs) (hm : (a == sysModules) = false) : IsI g h a l := by
  obtain ⟨o, es, n, h1, h2, h3, h4, h5, h6⟩ := d
  exact ⟨o, es, n, h1, h2, h3, pairs_rdi x h5 fun e he => h4 e (by simpa using he), by rw [← x.keys]; exact h6, hm⟩

section
variable {C : Cx} {E : Value → Shared → Prop} {own own' : Own} {ρ : Locals} {N : Own → Locals → Prop} {R : Own → DV → Prop} {l : List (Int × Rt)} {a : Addr}

/-- the frame's own object is changed -/
theorem St.ownSet (W : C.Wf) {g : G} {s : Shared} {b : Addr} {h' : Heap} {t : Nat} (S : St C own ρ g s) (hb : b ∈ own.addrs) (hs : Heap.SameBut b s.heap h') (hx : h'.get? b ≠ none) (ha : own'.addrs = own.addrs) (ha2 : own'.addr = own.addr)
    (hf : b ∉ C.frs) (hO : OwnOk g h' C.frs own') (hg : g b = none) : St C own' ρ g { s with heap := h', toks := t } := by
  have hne : ∀ {c}, c ∉ own.addrs → h'.get? c = s.heap.get? c := fun hc => hs.2 _ fun e => hc (e ▸ hb)
  have vr : ∀ {v : Value} {d : LV}, VR g own v d → VR g own' v d := fun {v d} x => by
    cases d with
    | fz d => exact x
    | own => obtain ⟨c, e, r⟩ := x; exact ⟨c, ha2.trans e, r⟩
    | fn f H => exact x
  refine ⟨⟨fun c hc => ?_, fun c o e hD => ?_, S.step.frz, fun c o e => (hs.2 c fun q => by rw [q, hg] at e; cases e).trans (S.step.le c o e), S.step.gens, S.step.drawn, S.step.os⟩, hO, funFrames_but hs S.frs (fun m => absurd m hf), S.frf, S.lfree, by rw [ha]; exact S.lown, fun x c hc => ?_, ?_, fun p hp => ?_, by rw [ha]; exact S.whole⟩
  · by_cases e : c = b
    · rw [e]; exact hx
    · show h'.get? c ≠ none
      rw [hs.2 c e]; exact S.step.dom c hc
  · have e1 : c ≠ b := fun q => by
      rcases S.whole b hb with m | m
      · exact hD (q ▸ m)
      · rw [q, m] at e; cases e
    rcases S.step.keep c o e hD with q | ⟨m, sl, q⟩
    · exact .inl ((hs.2 c e1).trans q)
    · exact .inr ⟨m, sl, (hs.2 c e1).trans q⟩
  · obtain ⟨c1, c2, c3, o, v, c4, c5⟩ := S.cells x c hc
    exact ⟨c1, c2, by rw [ha]; exact c3, o, v, (hne c3).trans c4, c5⟩
  · obtain ⟨m, hn, hv⟩ := S.vars
    refine ⟨m, hn.sameBut hs fun e => S.lown (e ▸ hb), fun i x d h1 h2 => ?_⟩
    obtain ⟨v, h3, h4⟩ := hv i x d h1 h2
    refine ⟨v, ?_, vr h4⟩
    rcases h3 with h3 | ⟨k1, c, o, k2, k3, k4⟩
    · exact .inl h3
    · exact .inr ⟨k1, c, o, k2, (hne (S.cells x c k2).no).trans k3, k4⟩
  · obtain ⟨h1, h2, h3⟩ := S.prot p hp
    exact ⟨h1.same (hne h3), h2, by rw [ha]; exact h3⟩

theorem loadOwn (W : C.Wf) {i : Nat} {x : Str} {pos : Pos} {g : G} {s : Shared} {Q : Value → Shared → Prop} (S : St C own ρ g s) (hi : C.names[i]? = some x) (hd : ρ[i]? = some (some .own)) (ha : own.addr = some a) (h : Q (.ref a) s)
    (h1 : (x == ("__debug__" : Str)) = false := by decide) (h2 : (x == ("__classdict__" : Str)) = false := by decide) : wpAny (model C.X.prog C.X.w) C.A (eval (.Name x pos) C.env) Q E s :=
  wpAny_Name (loadVar W S hi hd h2 fun v ⟨b, hb, hv⟩ => by
    rw [ha] at hb; cases hb; rw [hv]; exact h) h1
end

end
section

open PySem PySem.W PySem.Calls PyProof.Rows PySem.SeqAt

section
variable {C : Cx} {E : Value → Shared → Prop} {own own' : Own} {ρ : Locals} {N : Own → Locals → Prop} {R : Own → DV → Prop} {l : List (Int × Rt)} {a : Addr} {X : Stx} {ns : List Str} {sc : Scope} {n : Nat}

theorem idict_is {g : G} {s : Shared} (S : St C (.idict a l) ρ g s) : IsI g s.heap a l := let ⟨_, _, r⟩ := S.hown; r

/-- the dict's entry at a whole number -/
theorem iw_item (I : C.Is X ns sc n) {i : Nat} {x : Str} {p1 ps : Pos} {e : Expr} {P : DV → Prop} (hi : idx ns x 0 = some i) (hd : ρ[i]? = some (some .own))
    (h : WE C E (.idict a l) ρ e fun d => ∃ k r, d = .int k ∧ look l k = some r ∧ P (rd r))
    (hs : ∀ t k u, subscripted e false (.ref t) (.int k u) = operate [.ref t, .int k u] (getItem (.ref t) (.int k u)) := by intro _ _ _; with_unfolding_all rfl)
    (h1 : (x == ("__debug__" : Str)) = false := by decide) (h2 : (x == ("__classdict__" : Str)) = false := by decide) :
    WE C E (.idict a l) ρ (.Subscript (.Name x p1) e ps) P := fun g s S =>
  Subscript_ (loadOwn I.wf S (I.at_ hi) hd rfl (WE.on h S (fun u s2 g2 d l2 S2 r2 ⟨k, r, hk, hl, hp⟩ => by
    subst hk
    cases r2 using Rd.intE with
    | int t =>
    obtain ⟨kvs, hx, hD⟩ := (idict_is S2).dict C.X.prog C.X.w
    rcases hx.at k with ⟨v, r', e1, e2, e3⟩ | ⟨_, e2⟩
    · rw [hl] at e2; cases e2
      exact tail_any (T := "dict") hD.typeIs slot_dict_getitem.lookup (wpAny_getItem_of (knd := intKind C.X.prog C.X.w) (intKind_is ..) hD.mapOf e1 ⟨g2, rd r, l2, S2.toks, e3, hp⟩) (hs _ _ _)
    · rw [hl] at e2; cases e2)) h1 h2)

noncomputable def orD (o : Option Rt) (z : DV) : DV := match o with | some r => rd r | none => z
/-- d.get(k, other) -/
theorem iw_get (I : C.Is X ns sc n) {i : Nat} {x : Str} {p1 pa p2 : Pos} {e f : Expr} {P : DV → Prop} (hi : idx ns x 0 = some i) (hd : ρ[i]? = some (some .own))
    (h : WE C E (.idict a l) ρ e fun d => ∃ k, d = .int k ∧ WE C E (.idict a l) ρ f fun z => P (orD (look l k) z))
    (hbase : attributeBase (.Name x p1) "get" C.env (eval (.Name x p1) C.env) = eval (.Name x p1) C.env := by rfl) (hline : (pa.endLine == p2.line) = true := by rfl)
    (hfew : ((backTo p2 (starEach [e, f] C.env)).all (fun x => !x.1) && (backToKw p2 (keywordEach [] C.env)).all (fun x => x.1.isSome) && decide ([e, f].length + ([] : List Keyword).length + (if ([] : List Keyword).isEmpty then 0 else 1) < 30)) = true := by rfl)
    (htr : backTo p2 (starEach [e, f] C.env) = [(false, eval e C.env), (false, eval f C.env)] := by rfl)
    (h1 : (x == ("__debug__" : Str)) = false := by decide) (h2 : (x == ("__classdict__" : Str)) = false := by decide) :
    WE C E (.idict a l) ρ (.Call (.Attribute (.Name x p1) "get" pa) [e, f] [] p2) P := fun g s S => by
  refine wpAny_Call_method (T := "dict") (id := "dict.get") hbase hfew hline F.plainAttrs_dict F.slot_dict_get F.type_dict_get (loadOwn I.wf S (I.at_ hi) hd rfl ?_ h1 h2)
  obtain ⟨kvs0, hx0, hD0⟩ := (idict_is S).dict C.X.prog C.X.w
  refine ⟨hD0.typeIs, hD0.mapOf.noDict, ?_⟩
  rw [htr]
  refine wpAny_dict_get2 (knd := intKind C.X.prog C.X.w) (idict_is S).mods (WE.on h S (fun u s2 g2 d l2 S2 r2 ⟨k, hk, h3⟩ => WE.on h3 S2 (fun z s3 g3 d3 l3 S3 r3 hp => ?_)))
  subst hk
  cases r2 using Rd.intE with
  | int t =>
  obtain ⟨kvs, hx, hD⟩ := (idict_is S3).dict C.X.prog C.X.w
  refine ⟨k, _, intKind_is .., hD.mapOf, ?_⟩
  rcases hx.at k with ⟨v, r, e1, e2, e3⟩ | ⟨e1, e2⟩
  · rw [e1]
    rw [e2] at hp
    exact ⟨g3, _, l2.trans l3, S3.toks, e3, hp⟩
  · rw [e1]
    rw [e2] at hp
    exact ⟨g3, _, l2.trans l3, S3.toks, r3, hp⟩

/-- d[k] = e -/
theorem ix_set (I : C.Is X ns sc n) {i : Nat} {x : Str} {p1 ps pos : Pos} {k e : Expr} (hi : idx ns x 0 = some i) (hd : ρ[i]? = some (some .own)) (hlen : l.length ≤ 1000)
    (h : WE C E (.idict a l) ρ e fun d => ∃ r, d = rd r ∧ WE C E (.idict a l) ρ k fun z => ∃ i, z = .int i ∧ N (.idict a (put l i r)) ρ)
    (hs : swapsWith e (some (.Subscript (.Name x p1) k ps)) pos.line C.env = pure false := by rfl)
    (h1 : (x == ("__debug__" : Str)) = false := by decide) (h2 : (x == ("__classdict__" : Str)) = false := by decide) :
    WX C E (.idict a l) ρ (.Assign [.Subscript (.Name x p1) k ps] e pos) N R := fun g s S =>
  wpAny_Assign_Subscript (WE.on h S (fun v s1 g1 d l1 S1 r1 ⟨r, hr, h3⟩ => loadOwn I.wf S1 (I.at_ hi) hd rfl (WE.on h3 S1 (fun u s2 g2 z l2 S2 r2 ⟨i, hz, hp⟩ => by
    subst hz hr
    cases r2 using Rd.intE with
    | int t =>
    obtain ⟨kvs, hx, hD⟩ := (idict_is S2).dict C.X.prog C.X.w
    refine wpAny_setItem_pairs (knd := intKind C.X.prog C.X.w) (intKind_is ..) hD (fun h' hd' hs' => ?_) (by rw [hx.length, sizeLine_eq]; omega)
    have hI : IsI g2 h' a (put l i r) := IsI.of (hx.put (r1.mono l2)) hd' (idict_is S2).mods
    exact .next g2 _ _ (l1.trans l2) (S2.ownSet I.wf (b := a) (own' := .idict a (put l i r)) List.mem_cons_self hs' hI.ne rfl rfl S2.hown.2.1 ⟨S2.hown.1, S2.hown.2.1, hI⟩ S2.hown.1) hp)) h1 h2)) hs
end

end
section

open PySem PySem.W PySem.Calls PyProof.Rows PySem.SeqAt

theorem ints_of {kvs : List (Int × Value)} {prog : Program} {w : World} : ∀ {vs : List Value}, vs.length = kvs.length → (∀ (j : Nat) (v : Value), vs[j]? = some v → ∃ k x, kvs[j]? = some (k, x) ∧ (intKind prog w).is k v = true) → IntsAre vs (kvs.map (·.1)) := by
  induction kvs with
  | nil => intro vs h _; cases vs with | nil => exact .nil | cons _ _ => simp at h
  | cons q kvs ih =>
    intro vs h hv
    cases vs with
    | nil => simp at h
    | cons v vs =>
      obtain ⟨k, x, e1, e2⟩ := hv 0 v rfl
      simp at e1
      subst e1
      obtain ⟨t, rfl⟩ := Value.isInt_shape e2
      exact .cons _ t (ih (by simpa using h) fun j v hj => by simpa using hv (j + 1) v (by simpa using hj))
theorem ints_rd {g : G} : ∀ {vs : List Value} {ks : List Int}, IntsAre vs ks → RdL g vs (ks.map .int)
  | _, _, .nil => .nil
  | _, _, .cons n t r => .cons (.int n t) (ints_rd r)

section
variable {C : Cx} {E : Value → Shared → Prop} {own own' : Own} {ρ : Locals} {N : Own → Locals → Prop} {R : Own → DV → Prop} {l : List (Int × Rt)} {a : Addr} {X : Stx} {ns : List Str} {sc : Scope} {n : Nat}

theorem St.push1 (W : C.Wf) {g : G} {s : Shared} {A : Addr} {o : Obj} {h' : Heap} {t : Nat} (S : St C own ρ g s) (hk : ∀ b o, s.heap.get? b = some o → h'.get? b = some o) (hA : s.heap.get? A = none) (ho : h'.get? A = some o) :
    Le g (gext g A o) ∧ St C own ρ (gext g A o) { s with heap := h', toks := t } := by
  have F := fresh_new W S hA
  exact (S.keep W (h' := h') (t := t) hk).freeze W F ho

/-- sorted(d): the whole numbers, in order -/
theorem iw_sorted (I : C.Is X ns sc n) {i : Nat} {x : Str} {p0 p1 p2 : Pos} {P : DV → Prop} (hm : X.mg ("sorted" : Str) = none) (hk : sc.names.lookup ("sorted" : Str) = some .globalImplicit) (hi : idx ns x 0 = some i) (hd : ρ[i]? = some (some .own)) (hl : l.length < 64)
    (h : ∀ ks : List Int, ks.Perm (l.map (·.1)) → ks.Pairwise (· ≤ ·) → P (.lst (ks.map .int)))
    (he : starEach [.Name x p1] C.env = (false, eval (.Name x p1) C.env) :: starEach [] C.env := by rfl)
    (h1 : (x == ("__debug__" : Str)) = false := by decide) (h2 : (x == ("__classdict__" : Str)) = false := by decide) :
    WE C E (.idict a l) ρ (.Call (.Name ("sorted" : Str) p0) [.Name x p1] [] p2) P := fun g s S => by
  have W := I.wf
  refine Call_ (loadBi W S (I.kind hk) (I.X ▸ hm) boot_sorted (PyProof.Rows.callWith_builtin1 (spliced_more (loadOwn W S (I.at_ hi) hd rfl (spliced_none ?_) h1 h2) he) he rfl) (by decide) (by decide))
  obtain ⟨kvs, hx, hD⟩ := (idict_is S).dict C.X.prog C.X.w
  have hlo : (a == sysModules) = false := let ⟨_, _, _, _, _, _, _, _, q⟩ := idict_is S; q
  obtain ⟨ep, hat⟩ := hD.dictAt
  refine call_function_entry kind_sorted plain_sorted entry_sorted (args_sorted1 _) ?_
  unfold Builtin.«sorted»
  refine wpAny_bind (m := checkCount "sorted" 1 1 _) (wpAny_pure ?_)
  refine wpAny_bind (kdu_collect (A := C.A.in1) (kdl_dict (knd := intKind C.X.prog C.X.w) (kvs := kvs) (ep := ep) hlo) W.handled hat (by rw [hx.length, sizeLine_eq]; omega) fun h' tk acc hkk hacc => ?_)
  have hlen : acc.toList.length = kvs.length := by rw [Array.length_toList]; exact hacc.1
  have hI : IntsAre acc.toList (kvs.map (·.1)) := ints_of (prog := C.X.prog) (w := C.X.w) hlen fun j v e => hacc.2 j v (by rw [← Array.getElem?_toList]; exact e)
  refine wpAny_bind (wpAny_newList ?_ (by rw [hlen, hx.length, sizeLine_eq]; omega))
  have hoL : (h'.push { cls := .type "list", data := .seq acc.toList.toArray }).get? h'.objs.size = some (seqObj "list" acc.toList.toArray 0) := Heap.get?_push_size _ rfl
  refine wpAny_bind (wpAny_holding (wpAny_call_entry slot_list_sort ⟨_, hoL, rfl⟩ entry_list_sort (list_sort_tree (s := { s with heap := h'.push { cls := .type "list", data := .seq acc.toList.toArray }, toks := tk }) hoL hI (by rw [hlen, hx.length]; exact hl) fun out ns' a1 a2 a3 => ⟨_, rfl, ?_⟩) (args_list_sort _)))
  refine wpAny_pure ⟨_, rfl, ?_⟩
  have hn : s.heap.get? h'.objs.size = none := by
    cases q : s.heap.get? h'.objs.size with
    | none => rfl
    | some o => exact absurd (Heap.lt_size (hkk _ _ q)) (Nat.lt_irrefl _)
  obtain ⟨e, hout⟩ := sortedHeap_at (h := h'.push { cls := .type "list", data := .seq acc.toList.toArray }) (vs := acc.toList) (out := out) hoL
  obtain ⟨l5, S5⟩ := S.push1 W (t := tk) (h' := sortedHeap (h'.push { cls := .type "list", data := .seq acc.toList.toArray }) h'.objs.size acc.toList out) (fun b o q => by
    have q1 := hkk b o q
    have hlt := Heap.lt_size q1
    rw [sortedHeap_old (Nat.ne_of_lt hlt) (by rw [Heap.size_push]; exact Nat.lt_succ_of_lt hlt), Heap.get?_push_ne _ _ _ (Nat.ne_of_lt hlt)]
    exact q1) hn hout
  exact ⟨_, _, l5, S5, .lst (if_pos rfl) rfl rfl (ints_rd a1), h ns' (by rw [← hx.keys]; exact a2) a3⟩
end

end
section

open PySem PySem.W PySem.Calls PyProof.Rows PySem.SeqAt

theorem miss_keys : typeLookup (.type "list") "keys" = pure none := am_miss_of_fast (by kernel_rfl)

theorem keys_none {prog : Program} {w : World} {A : Around} {E : Value → Shared → Prop} {s : Shared} {a : Addr} {xs : Array Value} {k : Nat} {sl : Array (Option Value)} {Q : Option Value → Shared → Prop}
    (hx : s.heap.get? a = some { cls := .type "list", dict := none, data := .seq xs k, slots := sl }) (hA : A.handled = none)
    (h : ∀ h' tk, (∀ b o, s.heap.get? b = some o → h'.get? b = some o) → Q none { s with heap := h', toks := tk }) : wpAny (model prog w) A (getAttr? (.ref a) "keys") Q E s := by
  obtain ⟨hp, g, d, tk, os⟩ := s
  have hT : ∀ tk', (⟨hp, g, d, tk', os⟩ : Shared).TypeIs (.ref a) "list" := fun _ => ⟨_, hx, rfl⟩
  have f1 := sub_AttributeError
  have f3 := F.slot_list_getattribute.lookup
  have f4 := F.slot_list_getattribute.bind (.ref a)
  have f5 := am_list_getattr_none
  unfold getAttr? getAttrBy? getAttrBy
  repeat (any_goals (first | assumption | exact hT _ | ((with_reducible show wpAny _ _ (call (Value.builtin "list.__getattribute__") _ _) _ _ _); refine call_meets F.slot_list_getattribute (hT _) am_entry_list_getattribute (F.args_list_getattribute_2 _ _) (meets_getattribute_miss_list a xs k sl _ _ miss_keys (by decide) (by size_fits)) ⟨hx, hA, fun h' tk' e hx' => ?_⟩) | wp_step))
  obtain ⟨t', u', he⟩ := hx'.there
  show wpAny _ _ (getattributeRaised _ _ _ _ _ _ _) _ _ _
  unfold getattributeRaised
  repeat (any_goals (first | assumption | wp_step))
  exact h _ _ hx'.keeps

theorem entry_upd : entryFor table "dict.update.loop" = some Builtin.«dict.update.loop» := entryFor_of_tree (by kernel_rfl)
theorem plain_upd : plainId "dict.update.loop" = true := by decide +kernel

noncomputable def stAll (acc : List (Int × Value)) : List (Int × Value) → List (Int × Value)
  | [] => acc
  | e :: r => stAll (stored acc e.1 e.2) r
theorem stored_new {acc : List (Int × Value)} {k : Int} {v : Value} (h : k ∉ acc.map (·.1)) : stored acc k v = acc ++ [(k, v)] := by
  unfold stored
  rw [if_neg]
  intro q
  obtain ⟨e, he, hk⟩ := List.any_eq_true.mp q
  exact h (List.mem_map.mpr ⟨e, he, of_decide_eq_true hk⟩)
theorem stAll_nodup : ∀ (q acc : List (Int × Value)), ((acc ++ q).map (·.1)).Nodup → stAll acc q = acc ++ q := by
  intro q
  induction q with
  | nil => intro acc _; simp [stAll]
  | cons e r ih =>
    intro acc h
    obtain ⟨k, v⟩ := e
    have hk : k ∉ acc.map (·.1) := by
      rw [List.map_append, List.nodup_append] at h
      intro m
      exact h.2.2 k m k (by simp) rfl
    unfold stAll
    rw [stored_new hk, ih (acc ++ [(k, v)]) (by simpa using h)]
    simp

section
variable {prog : Program} {w : World} {A : Around} {R : Result → Shared → Prop}
theorem update_loop (hh : A.handled = none) {I lx D : Addr} (h1 : lx ≠ I) (h2 : D ≠ I) (h3 : D ≠ lx) {items : Array Value} {pt : Nat → Addr} (hsz : items.size ≤ 1000) :
    ∀ (q : List (Int × Value)) (i : Nat) (acc : List (Int × Value)) (s : Shared), i + q.length = items.size → acc.length ≤ i →
      s.heap.IsListIter I lx i → s.heap.IsList lx items → s.heap.DictOf (intKind prog w) D acc →
      (∀ (j : Nat) (e : Int × Value), q[j]? = some e → ∃ t u, items[i + j]? = some (.ref t) ∧ s.heap.IsTuple t #[.int e.1 u, e.2] ∧ t ≠ I ∧ t ≠ D) →
      (∀ h' tk, (∀ b o, b ≠ D → b ≠ I → s.heap.get? b = some o → h'.get? b = some o) → h'.DictOf (intKind prog w) D (stAll acc q) → R (.ok (.ret .none)) { s with heap := h', toks := tk }) →
      codeAny (model prog w) A (.builtin "dict.update.loop" ⟨[.ref D, .ref I, rawInt i, .none], []⟩) R s := by
  intro q
  have W := Walks.list (prog := prog) (w := w) (A := A.in1) hh I lx h1 items
  induction q with
  | nil =>
    intro i acc s hi _ a1 a2 a3 _ hR
    have hin : i = items.size := by simpa using hi
    subst hin
    refine codeAny_builtin entry_upd ?_
    rw [Around.under_plainId plain_upd _]
    show wpAny _ A.in1 (pyNext (.ref I) >>= _) _ _ s
    refine wpAny_bind (W.done s _ _ ⟨a1, a2⟩ fun h' tk hk => ?_)
    show wpAny _ A.in1 (Builtin.Dict.addKeywords D [] >>= _) _ _ _
    refine wpAny_bind (wpAny_pure (wpAny_pure (hR h' tk (fun b o _ hb e => hk b o (by simpa using hb) e) ?_)))
    obtain ⟨o, es, ep, ho, r⟩ := a3
    exact ⟨o, es, ep, hk D o (by simpa using h2) ho, r⟩
  | cons e r ih =>
    intro i acc s hi hal a1 a2 a3 hq hR
    have hlt : i < items.size := by simp at hi; omega
    refine codeAny_builtin entry_upd ?_
    rw [Around.under_plainId plain_upd _]
    show wpAny _ A.in1 (pyNext (.ref I) >>= _) _ _ s
    refine wpAny_bind (W.item i s _ _ hlt ⟨a1, a2⟩ fun v h' tk hv hst' hk => ?_)
    obtain ⟨t, u, e1, e2, e3, e4⟩ := hq 0 e rfl
    rw [Nat.add_zero] at e1
    have hve : v = .ref t := by rw [e1] at hv; exact (Option.some.inj hv).symm
    subst hve
    have ht : h'.IsTuple t #[.int e.1 u, e.2] := by obtain ⟨o, ho, r⟩ := e2; exact ⟨o, hk t o (by simpa using e3) ho, r⟩
    have hD : h'.DictOf (intKind prog w) D acc := by obtain ⟨o, es, ep, ho, r⟩ := a3; exact ⟨o, es, ep, hk D o (by simpa using h2) ho, r⟩
    obtain ⟨ot, ho, hc, nt, hd⟩ := ht
    refine wpAny_bind (wpAny_holding (wpAny_bind (wpAny_tryCatch ?_)))
    unfold Builtin.Dict.pairItems
    refine wpAny_bind (wpAny_typeOf (T := "tuple") ⟨ot, ho, hc⟩ ?_)
    rw [if_pos (by decide)]
    unfold seqItems?
    refine wpAny_bind (wpAny_bind (wpAny_load ho ?_))
    rw [hd]
    refine wpAny_pure (wpAny_pure ?_)
    show wpAny _ A.in1 (holding [.int e.1 u, e.2] (dictSet D (.int e.1 u) e.2)) _ _ _
    refine wpAny_holding (wpAny_dictSet_pairs (knd := intKind prog w) (intKind_is ..) hD (fun h2' hD' hs' => ?_) (by rw [sizeLine_eq]; omega))
    refine wpAny_pure ⟨plainId_quiet plain_upd _, ?_⟩
    have hrel : ∀ b o, b ≠ D → b ≠ I → s.heap.get? b = some o → h2'.get? b = some o := fun b o hb1 hb2 eo => (hs'.2 b hb1).trans (hk b o (by simpa using hb2) eo)
    refine ih (i + 1) (stored acc e.1 e.2) _ (by simp at hi; omega) ?_ ?_ ?_ hD' (fun j e' he' => ?_) fun h3' tk3 hk3 hD3 => ?_
    · unfold stored; split
      · simpa using Nat.le_succ_of_le hal
      · simp; omega
    · exact hst'.1.at fun o eo => (hs'.2 I (Ne.symm h2)).trans eo
    · exact hst'.2.at fun o eo => (hs'.2 lx (Ne.symm h3)).trans eo
    · obtain ⟨t', u', f1, ⟨o', f2, f3⟩, f4, f5⟩ := hq (j + 1) e' (by simpa using he')
      exact ⟨t', u', by rw [← f1]; congr 1; omega, ⟨o', hrel t' o' f5 f4 f2, f3⟩, f4, f5⟩
    · exact hR h3' tk3 (fun b o hb1 hb2 eo => hk3 b o hb1 hb2 (hrel b o hb1 hb2 eo)) hD3
end

end
section

open PySem PySem.W PySem.Calls PyProof.Rows PySem.SeqAt

section
variable {C : Cx} {E : Value → Shared → Prop} {own own' : Own} {ρ : Locals} {N : Own → Locals → Prop} {R : Own → DV → Prop} {l : List (Int × Rt)} {a : Addr} {X : Stx} {ns : List Str} {sc : Scope} {n : Nat}

/-- a fresh object becomes the frame's own -/
theorem St.newOwn (W : C.Wf) {g : G} {s : Shared} {D : Addr} (S : St C .no ρ g s) (F : Fresh C .no g D) (ha : own'.addrs = [D]) (hO : OwnOk g s.heap C.frs own') : St C own' ρ g s := by
  have hne : ∀ {c}, c ≠ D → c ∉ own'.addrs := fun h => by rw [ha]; simpa using h
  have hρ : ∀ {v : Value} {d : LV}, VR g .no v d → VR g own' v d := fun {v d} x => by
    cases d with
    | fz d => exact x
    | own => obtain ⟨_, e, _⟩ := x; cases e
    | fn f H => exact x
  refine ⟨S.step, hO, S.frs, S.frf, S.lfree, hne (Ne.symm F.loc), fun x c hc => ?_, ?_, fun p hp => ?_, fun c hc => ?_⟩
  · obtain ⟨c1, c2, c3, r⟩ := S.cells x c hc
    exact ⟨c1, c2, hne fun e => F.cells x (e ▸ hc), r⟩
  · obtain ⟨m, hn, hv⟩ := S.vars
    refine ⟨m, hn, fun i x d h1 h2 => ?_⟩
    obtain ⟨v, h3, h4⟩ := hv i x d h1 h2
    exact ⟨v, h3, hρ h4⟩
  · obtain ⟨h1, h2, h3⟩ := S.prot p hp
    exact ⟨h1, h2, hne (F.prot p hp)⟩
  · rw [ha] at hc
    rw [List.mem_singleton.mp hc]
    exact .inr F.s0

theorem pairs_in {g : G} : ∀ {vs : List Value} {l : List (Int × Rt)}, RdL g vs (l.map fun e => .tup [.int e.1, rd e.2]) →
    ∃ q, IKV g q l ∧ ∀ (j : Nat) (e : Int × Value), q[j]? = some e → ∃ t u o n, vs[j]? = some (.ref t) ∧ g t = some o ∧ o.cls = .type "tuple" ∧ o.data = .seq #[.int e.1 u, e.2] n
  | _, [], h => by cases h using RdL.nilE; exact ⟨[], .nil, fun j e h => by simp at h⟩
  | _, (k, r) :: l, h => by
    cases h using RdL.consE with
    | cons a b =>
    obtain ⟨q, h1, h2⟩ := pairs_in b
    cases a using Rd.tupE with
    | @tup t o its n a1 a2 a3 a4 =>
    obtain ⟨its⟩ := its
    cases a4 using RdL.consE with
    | cons c a4 =>
    cases a4 using RdL.consE with
    | cons d a4 =>
    cases a4
    cases c using Rd.intE with
    | int u =>
    refine ⟨(k, _) :: q, .cons d h1, fun j e he => ?_⟩
    cases j with
    | zero => cases he; exact ⟨t, u, o, n, rfl, a1, a2, a3⟩
    | succ j => simp at he; simpa using h2 j e he

theorem call_dict_pairs {prog : Program} {w : World} {A : Around} {s : Shared} {Q : Value → Shared → Prop} {lx : Addr} {items : Array Value} {c : Nat} {q : List (Int × Value)} (hh : A.handled = none) (hlim : s.heap.NoLimit)
    (hl : s.heap.get? lx = some { cls := .type "list", dict := none, data := .seq items c, slots := #[] }) (hsz : items.size ≤ 1000) (hq : q.length = items.size) (hn : (q.map (·.1)).Nodup)
    (hp : ∀ (j : Nat) (e : Int × Value), q[j]? = some e → ∃ t u, items[j]? = some (.ref t) ∧ s.heap.IsTuple t #[.int e.1 u, e.2])
    (h : ∀ h' tk, (∀ b o, s.heap.get? b = some o → h'.get? b = some o) → h'.DictOf (intKind prog w) s.heap.objs.size q → Q (.ref s.heap.objs.size) { s with heap := h', toks := tk }) :
    wpAny (model prog w) A (call (.type "dict") [.ref lx]) Q E s := by
  refine callType_codes (Q₁ := fun obj s₁ => obj = .ref s.heap.objs.size ∧ s₁ = { s with heap := s.heap.push { cls := .type "dict", data := .dict #[] } }) F.kt_called_dict (F.kt_typeCall_dict_1 _) F.entry_dict_init (PySem.kt_code_dict_new _ ⟨rfl, rfl⟩) ?_
  rintro obj s₁ ⟨rfl, rfl⟩
  have hnew : (s.heap.push { cls := .type "dict", data := .dict #[] }).DictOf (intKind prog w) s.heap.objs.size [] := Heap.DictOf.new s.heap
  have hl1 : (s.heap.push { cls := .type "dict", data := .dict #[] }).get? lx = some { cls := .type "list", dict := none, data := .seq items c, slots := #[] } := Heap.get?_push_of_some _ hl
  have hlt := Heap.lt_size hl
  refine ⟨hnew.typeIs, F.args_dict_init_2 _ _, ?_⟩
  unfold Builtin.«dict.__init__»
  refine wpAny_bind ?_
  unfold Builtin.Dict.selfAndRest
  refine wpAny_bind (wpAny_notOrdered_dict hnew.typeIs ?_)
  show wpAny _ _ (pure (s.heap.objs.size, [Value.ref lx])) _ _ _
  refine wpAny_pure ?_
  show wpAny _ _ (Builtin.Dict.updateFrom "dict.__init__" s.heap.objs.size (.ref lx) [] .none) _ _ _
  unfold Builtin.Dict.updateFrom
  refine wpAny_bind (wpAny_typeOf (T := "list") ⟨_, hl1, rfl⟩ ?_)
  rw [if_pos (by decide)]
  refine wpAny_bind (keys_none hl1 hh fun h' tk hk => ?_)
  show wpAny _ _ (do rule _; _) _ _ _
  refine wpAny_bind (wpAny_rule (wpAny_bind (wpAny_pyIter_list (l := lx) ⟨_, hk _ _ hl1, rfl, _, rfl⟩ ?_)))
  have hD' : s.heap.objs.size < h'.objs.size := Heap.lt_size (hk _ _ (Heap.get?_push_size _ rfl))
  refine wpAny_pure ⟨plainId_quiet plain_upd _, ?_⟩
  have up : ∀ b o, s.heap.get? b = some o → (h'.push { cls := .type "list_iterator", data := .fields #[.ref lx, .int 0 0] }).get? b = some o := fun b o e => Heap.get?_push_of_some _ (hk b o (Heap.get?_push_of_some _ e))
  have hnD : (h'.push { cls := .type "list_iterator", data := .fields #[.ref lx, .int 0 0] }).DictOf (intKind prog w) s.heap.objs.size [] := by
    obtain ⟨o, es, ep, ho, r⟩ := hnew
    exact ⟨o, es, ep, Heap.get?_push_of_some _ (hk _ _ ho), r⟩
  refine update_loop (A := A.in1) (prog := prog) (w := w) hh (I := h'.objs.size) (lx := lx) (D := s.heap.objs.size) (Nat.ne_of_lt (Nat.lt_trans hlt hD')) (Nat.ne_of_lt hD') (Nat.ne_of_gt hlt) (pt := fun _ => 0) hsz q 0 [] _ (by simpa using hq) (Nat.le_refl _)
    ⟨_, Heap.get?_push_size _ rfl, rfl, rfl⟩ ⟨_, up _ _ hl, rfl, _, rfl⟩ hnD (fun j e he => ?_) fun h2 tk2 hk2 hD2 => ?_
  · obtain ⟨t, u, e1, e2⟩ := hp j e he
    obtain ⟨o, ho, r⟩ := e2
    have := Heap.lt_size ho
    exact ⟨t, u, by rw [Nat.zero_add]; exact e1, ⟨o, up _ _ ho, r⟩, Nat.ne_of_lt (Nat.lt_trans this hD'), Nat.ne_of_lt this⟩
  · rw [stAll_nodup q [] (by simpa using hn), List.nil_append] at hD2
    exact ⟨rfl, h h2 tk2 (fun b o e => hk2 b o (Nat.ne_of_lt (Heap.lt_size e)) (Nat.ne_of_lt (Nat.lt_trans (Heap.lt_size e) hD')) (up b o e)) hD2⟩

theorem notMods (W : C.Wf) {g : G} {s : Shared} (S : St C own ρ g s) {D : Addr} (h : s.heap.get? D = none) (hD : s.heap.objs.size ≤ D) : (D == sysModules) = false := by
  have := modules_low (W.wf.nolimit.keeps (S.stat W))
  have h2 : D ≠ sysModules := Nat.ne_of_gt (Nat.lt_of_lt_of_le this hD)
  simpa using h2

/-- x = dict(list(e)) -/
theorem ix_dictList (I : C.Is X ns sc n) {i : Nat} {x : Str} {p0 p1 p2 p3 p4 pos : Pos} {e : Expr} (hm1 : X.mg ("dict" : Str) = none) (hk1 : sc.names.lookup ("dict" : Str) = some .globalImplicit) (hm2 : X.mg ("list" : Str) = none) (hk2 : sc.names.lookup ("list" : Str) = some .globalImplicit)
    (hi : idx ns x 0 = some i) (hk : sc.names.lookup x = some .local ∨ sc.names.lookup x = some .cell)
    (h : WE C E .no ρ e fun d => ∃ l : List (Int × Rt), d = .tup (l.map fun e => .tup [.int e.1, rd e.2]) ∧ (l.map (·.1)).Nodup ∧ l.length ≤ 1000 ∧ ∀ a, N (.idict a l) (ρ.set i (some .own)))
    (he : starEach [e] C.env = (false, eval e C.env) :: starEach [] C.env := by rfl)
    (he2 : starEach [.Call (.Name ("list" : Str) p1) [e] [] p2] C.env = (false, eval (.Call (.Name ("list" : Str) p1) [e] [] p2) C.env) :: starEach [] C.env := by rfl)
    (hs : swapsWith (.Call (.Name ("dict" : Str) p3) [.Call (.Name ("list" : Str) p1) [e] [] p2] [] p4) (some (.Name x p0)) pos.line C.env = pure false := by rfl) :
    WX C E .no ρ (.Assign [.Name x p0] (.Call (.Name ("dict" : Str) p3) [.Call (.Name ("list" : Str) p1) [e] [] p2] [] p4) pos) N R := fun g s S => by
  have W := I.wf
  refine wpAny_Assign_Name (Call_ (loadBi W S (I.kind hk1) (I.X ▸ hm1) PyProof.Rows.boot_dict (PyProof.Rows.callWith_type1 (spliced_more ?_ he2) he2 rfl) (by decide) (by decide))) hs
  refine Call_ (loadBi W S (I.kind hk2) (I.X ▸ hm2) PyProof.Rows.boot_list (PyProof.Rows.callWith_type1 (spliced_more (WE.on h S (fun v s1 g1 d l1 S1 r1 ⟨l, hd, hnd, hlen, hN⟩ => spliced_none ?_)) he) he rfl) (by decide) (by decide))
  subst hd
  cases r1 using Rd.tupE with
  | @tup t o its nn a1 a2 a3 a4 =>
  obtain ⟨q, hq1, hq2⟩ := pairs_in a4
  have hsz : its.size = l.length := by rw [← Array.length_toList, a4.length, List.length_map]
  refine call_list_seq t (.inr rfl) (S1.le _ _ a1) a2 a3 (fun h' c' hk' hD => ?_) (by rw [hsz, sizeLine_eq]; omega)
  refine spliced_none ?_
  have S2 : St C .no ρ g1 { s1 with heap := h' } := S1.keep W hk' (t := s1.toks)
  have hqn : (q.map (·.1)).Nodup := by rw [hq1.keys]; exact hnd
  refine call_dict_pairs W.handled (W.wf.nolimit.keeps (S2.stat W)) hD (by rw [hsz]; omega) (by rw [hq1.length, hsz]) hqn (fun j e he => ?_) fun h2 tk2 hk2 hD2 => ?_
  · obtain ⟨t', u, o', n', e1, e2, e3, e4⟩ := hq2 j e he
    exact ⟨t', u, by rw [← Array.getElem?_toList]; exact e1, ⟨o', S2.le _ _ e2, e3, _, e4⟩⟩
  have hfr : h'.get? h'.objs.size = none := fresh_none _
  have F2 := fresh_new W S2 hfr
  have S3 : St C .no ρ g1 { s1 with heap := h2, toks := tk2 } := S2.keep W hk2 (t := tk2)
  have hII : IsI g1 h2 h'.objs.size l := IsI.of hq1 hD2 (notMods W S2 hfr (Nat.le_refl _))
  have S4 : St C (.idict h'.objs.size l) ρ g1 { s1 with heap := h2, toks := tk2 } := S3.newOwn W F2 rfl ⟨F2.gn, F2.frs, hII⟩
  exact wpAny_mono (st_store W S4 (I.at_ hi) (hk.imp (fun q => I.kind q) fun q => ⟨I.kind q, by obtain ⟨c, hc⟩ := I.cells x (.inl q); rw [hc]; rfl⟩) (d := .own) ⟨_, rfl, rfl⟩) (fun _ s2 S5 => .next g1 _ _ l1 S5 (hN _)) fun _ _ x => x

/-- list(e), tuple(e) of a tuple or a list -/
theorem w_list (I : C.Is X ns sc n) {p1 p2 : Pos} {e : Expr} {P : DV → Prop} (hm2 : X.mg ("list" : Str) = none) (hk2 : sc.names.lookup ("list" : Str) = some .globalImplicit)
    (h : WE C E own ρ e fun d => ∃ L, (d = .tup L ∨ d = .lst L) ∧ L.length ≤ 1000 ∧ P (.lst L)) (he : starEach [e] C.env = (false, eval e C.env) :: starEach [] C.env := by rfl) :
    WE C E own ρ (.Call (.Name ("list" : Str) p1) [e] [] p2) P := fun g s S => by
  have W := I.wf
  refine Call_ (loadBi W S (I.kind hk2) (I.X ▸ hm2) PyProof.Rows.boot_list (PyProof.Rows.callWith_type1 (spliced_more (WE.on h S (fun v s1 g1 d l1 S1 r1 ⟨L, hd, hlen, hP⟩ => spliced_none ?_)) he) he rfl) (by decide) (by decide))
  obtain ⟨t, o, its, nn, T, hT, rfl, a1, a2, a3, a4⟩ : ∃ t o its nn T, (T = "list" ∨ T = "tuple") ∧ v = .ref t ∧ g1 t = some o ∧ o.cls = .type T ∧ o.data = .seq its nn ∧ RdL g1 its.toList L := by
    rcases hd with rfl | rfl
    · cases r1 with | tup a1 a2 a3 a4 => exact ⟨_, _, _, _, _, .inr rfl, rfl, a1, a2, a3, a4⟩
    · cases r1 with | lst a1 a2 a3 a4 => exact ⟨_, _, _, _, _, .inl rfl, rfl, a1, a2, a3, a4⟩
  have hsz : its.size = L.length := by rw [← Array.length_toList, a4.length]
  refine call_list_seq t hT (S1.le _ _ a1) a2 a3 (fun h' c' hk' hD => ?_) (by rw [hsz, sizeLine_eq]; omega)
  obtain ⟨l5, S5⟩ := S1.push1 W (t := s1.toks) hk' (fresh_none _) hD
  exact ⟨_, _, l1.trans l5, S5, .lst (if_pos rfl) rfl rfl (a4.mono l5), hP⟩
theorem w_tuple (I : C.Is X ns sc n) {p1 p2 : Pos} {e : Expr} {P : DV → Prop} (hm2 : X.mg ("tuple" : Str) = none) (hk2 : sc.names.lookup ("tuple" : Str) = some .globalImplicit)
    (h : WE C E own ρ e fun d => ∃ L, d = .lst L ∧ L.length ≤ 1000 ∧ P (.tup L)) (he : starEach [e] C.env = (false, eval e C.env) :: starEach [] C.env := by rfl) :
    WE C E own ρ (.Call (.Name ("tuple" : Str) p1) [e] [] p2) P := fun g s S => by
  have W := I.wf
  refine Call_ (loadBi W S (I.kind hk2) (I.X ▸ hm2) PyProof.Rows.boot_tuple (PyProof.Rows.callWith_type1 (spliced_more (WE.on h S (fun v s1 g1 d l1 S1 r1 ⟨L, hd, hlen, hP⟩ => spliced_none ?_)) he) he rfl) (by decide) (by decide))
  subst hd
  cases r1 using Rd.lstE with
  | @lst t o its nn a1 a2 a3 a4 =>
  have hsz : its.size = L.length := by rw [← Array.length_toList, a4.length]
  refine call_tuple_list ⟨o, S1.le _ _ a1, a2, _, a3⟩ (fun h' hk' => ?_) (by rw [hsz, sizeLine_eq]; omega)
  have hfr : s1.heap.get? h'.objs.size = none := by
    cases q : s1.heap.get? h'.objs.size with
    | none => rfl
    | some o' => exact absurd (Heap.lt_size (hk' _ _ q)) (Nat.lt_irrefl _)
  obtain ⟨l5, S5⟩ := S1.push1 W (t := s1.toks) (h' := h'.push { cls := .type "tuple", data := .seq its }) (fun b o q => Heap.get?_push_of_some _ (hk' b o q)) hfr (Heap.get?_push_size _ rfl)
  exact ⟨_, _, l1.trans l5, S5, .tup (if_pos rfl) rfl rfl (a4.mono l5), hP⟩

theorem a_name (I : C.Is X ns sc n) {i : Nat} {x : Str} {p : Pos} {d : DV} {Nn : Locals → Prop} (hi : idx ns x 0 = some i) (hk : sc.names.lookup x = some .local) (h : Nn (ρ.set i (some (.fz d)))) : WA C E own ρ (.Name x p) d Nn :=
  wa_name I.wf i (I.at_ hi) (.inl (I.kind hk)) h
theorem a_tup2 (I : C.Is X ns sc n) {i j : Nat} {x y : Str} {p1 p2 p3 : Pos} {k : Nat} {d1 d2 : DV} {Nn : Locals → Prop} (hi : idx ns x 0 = some i) (hk : sc.names.lookup x = some .local) (hj : idx ns y 0 = some j) (hk2 : sc.names.lookup y = some .local)
    (h : Nn ((ρ.set i (some (.fz d1))).set j (some (.fz d2)))) : WA C E own ρ (.Tuple [.Name x p1, .Name y p2] k p3) (.tup [d1, d2]) Nn := wa_tup2 I.wf i j (I.at_ hi) (I.kind hk) (I.at_ hj) (I.kind hk2) h
theorem x_for (I : C.Is X ns sc n) {target iter : Expr} {body : List Stmt} {pos : Pos}
    (h : WI C E own ρ iter fun L => ∃ J : Nat → Own → Locals → Prop, J 0 own ρ ∧
      (∀ (C' : Cx) (E' : Value → Shared → Prop), C'.Is X ns sc n → ∀ (i : Nat) (d : DV) (o : Own) (r : Locals), L[i]? = some d → J i o r → WA C' E' o r target d fun r' => WS C' E' o r' body (fun o2 r2 => J (i + 1) o2 r2) R) ∧ (∀ o r, J L.length o r → N o r))
    (hs : ∀ x, foldedSetIterable iter C.env x = pure x := by intro _; rfl) : WX C E own ρ (.For target iter body [] pos) N R :=
  wx_for I.wf (E0 := fun _ _ => False) (fun _ _ h => h.elim) (WI.mono h fun L ⟨J, b1, b2, b3⟩ => ⟨J, b1, fun p Wp i d o r e j => b2 (C.add p) _ (add_is I Wp) i d o r e j, b3⟩) hs

theorem c_eqrd (I : C.Is X ns sc n) {x y : Rt} {P : DV → Prop} (h : P (.bool (decide (x = y)))) : Bin C.X C.A (compareOp .Eq) (rd x) (rd y) P := by
  refine cmp_eqD (by simp [rd, shp, shpL]) ?_ (by rw [eqD_rd]; exact h)
  have := I.wf.roomy.2
  simp only [rd, deepD, deepL]
  omega
theorem c_nerd (I : C.Is X ns sc n) {x y : Rt} {P : DV → Prop} (h : P (.bool (decide (x ≠ y)))) : Bin C.X C.A (compareOp .NotEq) (rd x) (rd y) P := by
  refine cmp_neTup (by simp [shp, shpL]) ?_ ?_
  · have := I.wf.roomy.2
    simp only [deepD, deepL]
    omega
  · have e : eqDL [DV.int x.1, .int x.2] [.int y.1, .int y.2] = eqD (rd x) (rd y) := rfl
    rw [e, eqD_rd, ← decide_not]
    exact h
end

end
section

open PySem PySem.W PySem.Calls PyProof.Rows PySem.SeqAt

theorem rd_ref {g : G} {u : Value} {k : Kind} (r : Rd g u (kd k)) : ∃ t, u = .ref t := by
  cases r using Rd.tupE with | tup => exact ⟨_, rfl⟩
inductive KKV (g : G) : List (Kind × Addr × Value) → GD → Prop
  | nil : KKV g [] []
  | cons {k : Kind} {a : Addr} {v : Value} {r : Rt} {xs : List (Kind × Addr × Value)} {l : GD} : Rd g (.ref a) (kd k) → Rd g v (rd r) → KKV g xs l → KKV g ((k, a, v) :: xs) ((k, r) :: l)

section
variable {g : G} {xs : List (Kind × Addr × Value)} {l : GD}
theorem KKV.length (x : KKV g xs l) : xs.length = l.length := by
  induction x with
  | nil => rfl
  | cons _ _ _ ih => simp [ih]
theorem KKV.keys (x : KKV g xs l) : xs.map (·.1) = l.map (·.1) := by
  induction x with
  | nil => rfl
  | cons _ _ _ ih => simp [ih]
theorem KKV.at (x : KKV g xs l) (k : Kind) : (∃ a v r, atKey xs k = some (a, v) ∧ look l k = some r ∧ Rd g v (rd r)) ∨ (atKey xs k = none ∧ look l k = none) := by
  induction x with
  | nil => exact .inr ⟨rfl, rfl⟩
  | @cons k' a v r xs l _ b _ ih =>
    by_cases e : k' = k
    · exact .inl ⟨a, v, r, by simp [atKey, e], by simp [look, e], b⟩
    · simpa [atKey, look, e] using ih
theorem KKV.get (x : KKV g xs l) {k : Kind} {r : Rt} (h : look l k = some r) : ∃ a v, atKey xs k = some (a, v) ∧ Rd g v (rd r) := by
  rcases x.at k with ⟨a, v, r', e1, e2, e3⟩ | ⟨_, e2⟩
  · rw [h] at e2; cases e2; exact ⟨a, v, e1, e3⟩
  · rw [h] at e2; cases e2
theorem look_any {α : Type} [DecidableEq α] (l : List (α × Rt)) (k : α) : l.any (fun e => decide (e.1 = k)) = (look l k).isSome := by
  induction l with
  | nil => rfl
  | cons e r ih =>
    by_cases q : e.1 = k
    · simp [look, q]
    · simpa [look, q] using ih
theorem KKV.append {xs' : List (Kind × Addr × Value)} {l' : GD} (x : KKV g xs l) (y : KKV g xs' l') : KKV g (xs ++ xs') (l ++ l') := by
  induction x with
  | nil => exact y
  | cons a b _ ih => exact .cons a b ih
theorem KKV.put (x : KKV g xs l) {k : Kind} {a : Addr} {v : Value} {r : Rt} (ha : Rd g (.ref a) (kd k)) (h : Rd g v (rd r)) : KKV g (storedH xs k a v) (put l k r) := by
  unfold storedH GP.put
  rw [look_any l k]
  rcases x.at k with ⟨a', v', r', e1, e2, _⟩ | ⟨e1, e2⟩
  · rw [e1, e2]
    simp only [Option.isSome_some, if_true]
    clear e1 e2
    induction x with
    | nil => exact .nil
    | @cons k' a2 v2 r2 xs l p q _ ih =>
      rw [List.map_cons, List.map_cons]
      by_cases e : k' = k
      · simp only [putAt, e, if_true]; exact .cons (e ▸ p) h ih
      · simp only [putAt, e, if_false]; exact .cons p q ih
  · rw [e1, e2]
    simp only [Option.isSome_none, Bool.false_eq_true, if_false]
    exact x.append (.cons ha h .nil)

theorem RdE.kkv {prog : Program} {w : World} : ∀ {es : List DictEntry} {l : GD}, RdE g es l → ∃ xs, KKV g xs l ∧ es = xs.map (entryOfKey (kindK prog w)) := by
  intro es
  induction es with
  | nil => intro l h; cases h; exact ⟨[], .nil, rfl⟩
  | cons e es ih =>
    intro l h
    cases h with
    | @cons _ k r _ l a b c d =>
      obtain ⟨xs, h1, h2⟩ := ih d
      obtain ⟨h, key, val⟩ := e
      dsimp only at a b c
      obtain ⟨t, rfl⟩ := rd_ref a
      exact ⟨(k, t, val) :: xs, .cons a b h1, by rw [h2, c]; rfl⟩
theorem KKV.rde {prog : Program} {w : World} (x : KKV g xs l) : RdE g (xs.map (entryOfKey (kindK prog w))) l := by
  induction x with
  | nil => exact .nil
  | cons a b _ ih => exact .cons a b rfl ih
theorem KKV.is {h : Heap} {prog : Program} {w : World} (hg : Le g h.get?) (x : KKV g xs l) : ∀ y ∈ xs, (kindK prog w).is h y.1 y.2.1 := by
  induction x with
  | nil => exact fun _ h => nomatch h
  | cons a b _ ih =>
    intro y hy
    rcases List.mem_cons.mp hy with e | e
    · rw [e]; exact a.mono hg
    · exact ih y e
end

theorem IsK.typ {g : G} {s : Shared} {a : Addr} {l : GD} (x : IsK g s.heap a l) : s.TypeIs (.ref a) "dict" := by
  cases x with | mk o es n ho hx => exact ⟨o, ho, hx.1⟩
theorem IsK.dictH {g : G} {h : Heap} {a : Addr} {l : GD} (prog : Program) (w : World) (hg : Le g h.get?) (x : IsK g h a l) : ∃ xs, KKV g xs l ∧ h.DictOfH (kindK prog w) a xs := by
  obtain ⟨o, es, n, h1, h2, h3, h4, h5, _⟩ := x
  obtain ⟨xs, a1, a2⟩ := h4.kkv (prog := prog) (w := w)
  exact ⟨xs, a1, o, es, n, h1, h2, h3, a2, a1.is hg, by rw [a1.keys]; exact h5⟩
theorem IsK.of {g : G} {h : Heap} {a : Addr} {l : GD} {prog : Program} {w : World} {xs : List (Kind × Addr × Value)} (x : KKV g xs l) (d : h.DictOfH (kindK prog w) a xs) (hm : (a == sysModules) = false) : IsK g h a l := by
  obtain ⟨o, es, n, h1, h2, h3, h4, h5, h6⟩ := d
  exact ⟨o, es, n, h1, h2, h3, by rw [h4]; exact x.rde, by rw [← x.keys]; exact h6, hm⟩

section
variable {prog : Program} {w : World} {A : Around} {E : Value → Shared → Prop} {s : Shared}
theorem meets_len_raw {d : Addr} (hd : (d == sysModules) = false) :
    MeetsIn prog w (Builtin.«dict.__len__» ⟨[.ref d], []⟩) (fun _ R s => ∃ o es ep, s.heap.get? d = some o ∧ o.data = .dict es ep ∧ R (.ok (.ret (.int es.size s.toks))) { s with toks := s.toks + 1 }) :=
  .of_wp fun A R s ⟨o, es, ep, ho, hdat, h⟩ => by
    show wpAny _ _ (dictSize d >>= _) _ _ s
    unfold dictSize
    refine wpAny_bind (wpAny_bind (wpAny_dictEntries ho hdat (wpAny_pure ?_)))
    show wpAny _ _ (Builtin.Dict.pendingCount d >>= _) _ _ s
    refine wpAny_bind (wpAny_pendingCount_other hd ?_)
    refine wpAny_ret_mkInt ?_
    rw [Nat.add_zero]; exact h
theorem len_raw {d : Addr} {o : Obj} {es : Array DictEntry} {ep : Nat} {Q : Value → Shared → Prop} (hd : (d == sysModules) = false) (ho : s.heap.get? d = some o) (hc : o.ExactDict) (hdat : o.data = .dict es ep) (hfit : (es.size : Int) < 2 ^ 63)
    (h : Q (.int es.size (s.toks + 1)) { s with toks := s.toks + 1 + 1 }) : wpAny (model prog w) A (call (.builtin "len") [.ref d]) Q E s := by
  have hT : s.TypeIs (.ref d) "dict" := ⟨o, ho, hc.1⟩
  refine Calls.call_function_entry kind_len plain_len entry_len (args_len1 _) ?_
  unfold Builtin.«len»
  refine wpAny_bind (m := oneArg "len" _) (wpAny_pure ?_)
  refine wpAny_bind (m := callSpecial? (.ref d) (Str.ofString "__len__")) (wpAny_callSpecial?_slot (name := Str.ofString "__len__") hT F.slot_dict_len
    (call_meetsIn F.slot_dict_len hT F.entry_dict_len (F.args_dict_len_1 _) (meets_len_raw hd) ⟨o, es, ep, ho, hdat, ?_⟩))
  show wpAny _ _ _ _ _ { s with toks := s.toks + 1 }
  refine wpAny_bind (wpAny_holding (wpAny_pure ?_))
  refine wpAny_bind (wpAny_letGo ?_)
  show wpAny _ _ (if ((es.size : Nat) : Int) < 0 then _ else _) _ _ _
  rw [if_neg (by omega)]
  show wpAny _ _ (if ((es.size : Nat) : Int) ≥ 2 ^ 63 then _ else _) _ _ _
  rw [if_neg (by omega)]
  exact wpAny_bind (wpAny_mkInt (wpAny_pure ⟨_, rfl, h⟩))
end

section
variable {C : Cx} {E : Value → Shared → Prop} {own own' : Own} {ρ : Locals} {N : Own → Locals → Prop} {R : Own → DV → Prop} {l : GD} {a : Addr} {X : Stx} {ns : List Str} {sc : Scope} {n : Nat}

theorem kdict_is {g : G} {s : Shared} (S : St C (.kdict a l) ρ g s) : IsK g s.heap a l := let ⟨_, _, r⟩ := S.hown; r
theorem roomK (I : C.Is X ns sc n) : (kindK C.X.prog C.X.w).room C.A.in1 := by
  have := I.wf.roomy.2
  show C.A.units + 1 + 8 < cLine
  omega
theorem roomK0 (I : C.Is X ns sc n) : (kindK C.X.prog C.X.w).room C.A := by
  have := I.wf.roomy.2
  show C.A.units + 8 < cLine
  omega

/-- d.get(k, other) -/
theorem kw_get (I : C.Is X ns sc n) {i : Nat} {x : Str} {p1 pa p2 : Pos} {e f : Expr} {P : DV → Prop} (hi : idx ns x 0 = some i) (hd : ρ[i]? = some (some .own))
    (h : WE C E (.kdict a l) ρ e fun d => ∃ k, d = kd k ∧ WE C E (.kdict a l) ρ f fun z => P (orD (look l k) z))
    (hbase : attributeBase (.Name x p1) "get" C.env (eval (.Name x p1) C.env) = eval (.Name x p1) C.env := by rfl) (hline : (pa.endLine == p2.line) = true := by rfl)
    (hfew : ((backTo p2 (starEach [e, f] C.env)).all (fun x => !x.1) && (backToKw p2 (keywordEach [] C.env)).all (fun x => x.1.isSome) && decide ([e, f].length + ([] : List Keyword).length + (if ([] : List Keyword).isEmpty then 0 else 1) < 30)) = true := by rfl)
    (htr : backTo p2 (starEach [e, f] C.env) = [(false, eval e C.env), (false, eval f C.env)] := by rfl)
    (h1 : (x == ("__debug__" : Str)) = false := by decide) (h2 : (x == ("__classdict__" : Str)) = false := by decide) :
    WE C E (.kdict a l) ρ (.Call (.Attribute (.Name x p1) "get" pa) [e, f] [] p2) P := fun g s S => by
  refine wpAny_Call_method (T := "dict") (id := "dict.get") hbase hfew hline F.plainAttrs_dict F.slot_dict_get F.type_dict_get (loadOwn I.wf S (I.at_ hi) hd rfl ?_ h1 h2)
  obtain ⟨o, es, ep, ho, hc, hdat, _, _, hmods⟩ := kdict_is S
  refine ⟨⟨o, ho, hc.1⟩, fun b hb => ?_, ?_⟩
  · cases hb; exact ⟨o, ho, hc.2.1⟩
  rw [htr]
  refine wpAny_dict_get2_heap (knd := kindK C.X.prog C.X.w) (roomK I) hmods (WE.on h S (fun u s2 g2 d l2 S2 r2 ⟨k, hk, h3⟩ => WE.on h3 S2 (fun z s3 g3 d3 l3 S3 r3 hp => ?_)))
  subst hk
  obtain ⟨t, rfl⟩ := rd_ref r2
  obtain ⟨xs, hx, hD⟩ := (kdict_is S3).dictH C.X.prog C.X.w S3.le
  refine ⟨t, k, xs, rfl, (r2.mono l3).mono S3.le, hD, ?_⟩
  rcases hx.at k with ⟨ka, v, r, e1, e2, e3⟩ | ⟨e1, e2⟩
  · rw [e1]
    rw [e2] at hp
    exact ⟨g3, _, l2.trans l3, S3.toks, e3, hp⟩
  · rw [e1]
    rw [e2] at hp
    exact ⟨g3, _, l2.trans l3, S3.toks, r3, hp⟩

/-- d[k] = e -/
theorem kx_set (I : C.Is X ns sc n) {i : Nat} {x : Str} {p1 ps pos : Pos} {k e : Expr} (hi : idx ns x 0 = some i) (hd : ρ[i]? = some (some .own)) (hlen : l.length ≤ 1000000)
    (h : WE C E (.kdict a l) ρ e fun d => ∃ r, d = rd r ∧ WE C E (.kdict a l) ρ k fun z => ∃ i, z = kd i ∧ N (.kdict a (put l i r)) ρ)
    (hs : swapsWith e (some (.Subscript (.Name x p1) k ps)) pos.line C.env = pure false := by rfl)
    (h1 : (x == ("__debug__" : Str)) = false := by decide) (h2 : (x == ("__classdict__" : Str)) = false := by decide) :
    WX C E (.kdict a l) ρ (.Assign [.Subscript (.Name x p1) k ps] e pos) N R := fun g s S =>
  wpAny_Assign_Subscript (WE.on h S (fun v s1 g1 d l1 S1 r1 ⟨r, hr, h3⟩ => loadOwn I.wf S1 (I.at_ hi) hd rfl (WE.on h3 S1 (fun u s2 g2 z l2 S2 r2 ⟨i, hz, hp⟩ => by
    subst hz hr
    obtain ⟨t, rfl⟩ := rd_ref r2
    obtain ⟨xs, hx, hD⟩ := (kdict_is S2).dictH C.X.prog C.X.w S2.le
    refine wpAny_setItem_heap (knd := kindK C.X.prog C.X.w) (roomK I) (r2.mono S2.le) hD (fun h' hd' hs' => ?_) (by rw [hx.length, sizeLine_eq]; omega)
    have hI : IsK g2 h' a (put l i r) := IsK.of (hx.put r2 (r1.mono l2)) hd' (kdict_is S2).mods
    exact .next g2 _ _ (l1.trans l2) (S2.ownSet I.wf (b := a) (own' := .kdict a (put l i r)) List.mem_cons_self hs' hI.ne rfl rfl S2.hown.2.1 ⟨S2.hown.1, S2.hown.2.1, hI⟩ S2.hown.1) hp)) h1 h2)) hs

theorem isK_new {g : G} {h : Heap} (hm : (h.objs.size == sysModules) = false) : IsK g (h.push { cls := .type "dict", data := .dict #[] }) h.objs.size [] :=
  ⟨_, #[], 0, Heap.get?_push_size _ rfl, ⟨rfl, rfl, rfl⟩, rfl, .nil, List.nodup_nil, hm⟩

/-- x = {} -/
theorem kx_new (I : C.Is X ns sc n) {i : Nat} {x : Str} {p1 p2 pos : Pos} (hi : idx ns x 0 = some i) (hk : sc.names.lookup x = some .local) (h : ∀ a, N (.kdict a []) (ρ.set i (some .own)))
    (hs : swapsWith (.Dict [] [] p2) (some (.Name x p1)) pos.line C.env = pure false := by rfl) : WX C E .no ρ (.Assign [.Name x p1] (.Dict [] [] p2) pos) N R := fun g s S =>
  wpAny_Assign_Name (wpAny_Dict_empty (by
    have W := I.wf
    have S2 : St C .no ρ g { s with heap := s.heap.push { cls := .type "dict", data := .dict #[] } } := S.keep W (t := s.toks) fun _ _ e => Heap.get?_push_of_some _ e
    have F := fresh_new W S (fresh_none s.heap)
    have S3 := S2.newOwn (own' := .kdict s.heap.objs.size []) W F rfl ⟨F.gn, F.frs, isK_new (notMods W S (fresh_none _) (Nat.le_refl _))⟩
    exact wpAny_mono (st_store W S3 (I.at_ hi) (.inl (I.kind hk)) (d := .own) ⟨_, rfl, rfl⟩) (fun _ s2 S5 => .next g _ _ (Le.refl _) S5 (h _)) fun _ _ x => x)) hs

/-- the frame's own dict is frozen -/
noncomputable def frzL (l : GD) : Option LV → Option LV
  | some .own => some (.fz (.gd l))
  | x => x
theorem St.freezeOwn (W : C.Wf) {g : G} {s : Shared} (S : St C (.kdict a l) ρ g s) (ha : C.s0.heap.get? a = none) : ∃ g', Le g g' ∧ St C .no (ρ.map (frzL l)) g' s := by
  obtain ⟨hg, hf, o, es, n, ho, hc, hdat, hE, hnd, hmods⟩ := S.hown
  have hl : Le g (gext g a o) := fun b o' e => by
    unfold gext
    by_cases q : b = a
    · rw [q, hg] at e; cases e
    · rw [if_neg q]; exact e
  have hne : ∀ {b : Addr}, b ≠ a → gext g a o b = g b := fun q => if_neg q
  have hin : a ∈ (Own.kdict a l).addrs := List.mem_cons_self
  refine ⟨gext g a o, hl, ⟨S.step.dom, S.step.keep, fun b hb => ?_, fun b o' e => ?_, S.step.gens, S.step.drawn, S.step.os⟩, trivial, S.frs, fun b hb => ?_, ?_, fun h => (nomatch h), fun x c hc' => ?_, ?_, fun p hp => ?_, fun _ h => (nomatch h)⟩
  · rw [hne fun (q : b = a) => hb (by rw [q]; exact ha)]; exact S.step.frz b hb
  · by_cases q : b = a
    · subst q
      unfold gext at e
      rw [if_pos rfl] at e
      cases e
      exact ho
    · rw [hne q] at e; exact S.le b o' e
  · rw [hne fun (q : b = a) => hf (by rw [← q]; exact hb)]; exact S.frf b hb
  · rw [hne fun (q : C.env.locals = a) => S.lown (by rw [q]; exact hin)]; exact S.lfree
  · obtain ⟨c1, c2, c3, r⟩ := S.cells x c hc'
    refine ⟨?_, c2, fun h => (nomatch h), r⟩
    rw [hne fun (q : c = a) => c3 (by rw [q]; exact hin)]; exact c1
  · obtain ⟨m, hn, hv⟩ := S.vars
    refine ⟨m, hn, fun i x d h1 h2 => ?_⟩
    rw [List.getElem?_map] at h2
    cases hr : ρ[i]? with
    | none => rw [hr] at h2; cases h2
    | some z =>
      rw [hr] at h2
      simp only [Option.map_some, Option.some.injEq] at h2
      cases z with
      | none => cases h2
      | some z =>
        obtain ⟨v, h3, h4⟩ := hv i x z h1 hr
        cases z with
        | fz dd =>
          cases h2
          exact ⟨v, h3, Rd.mono hl h4⟩
        | own =>
          cases h2
          obtain ⟨b, hb, rfl⟩ := h4
          cases hb
          exact ⟨_, h3, .gd (if_pos rfl) hc hdat (hE.mono hl) hmods hnd⟩
        | fn f H =>
          cases h2
          exact ⟨v, h3, h4.1, H.2 _ _ hl h4.2⟩
  · obtain ⟨h1, h2, h3⟩ := S.prot p hp
    refine ⟨h1, ?_, fun h => (nomatch h)⟩
    rw [hne fun (q : p.1 = a) => h3 (by rw [q]; exact hin)]; exact h2
theorem ws_freeze (I : C.Is X ns sc n) (hD : C.D = []) {ss : List Stmt} (h : WS C E .no (ρ.map (frzL l)) ss N R) : WS C E (.kdict a l) ρ ss N R := fun g s S => by
  have ha : C.s0.heap.get? a = none := by
    rcases S.whole a List.mem_cons_self with q | q
    · rw [hD] at q; cases q
    · exact q
  obtain ⟨g', hl, S'⟩ := S.freezeOwn I.wf ha
  exact wpAny_mono (h g' s S') (fun _ _ y => y.le hl) fun _ _ y => y

theorem OwnOk.notFr {g : G} {h : Heap} {fr : List Addr} {own : Own} (x : OwnOk g h fr own) : ∀ a ∈ own.addrs, a ∉ fr ∧ g a = none := by
  intro a ha
  cases own with
  | no => cases ha
  | kdict b l => rw [List.mem_singleton.mp ha]; exact ⟨x.2.1, x.1⟩
  | idict b l => rw [List.mem_singleton.mp ha]; exact ⟨x.2.1, x.1⟩
  | law b oi t =>
    rcases List.mem_cons.mp ha with q | q
    · rw [q]; exact ⟨x.2.1, x.1⟩
    · obtain ⟨p, hp, rfl⟩ := List.mem_map.mp q
      exact ⟨(x.2.2.2 p hp).2.2.1, (x.2.2.2 p hp).1⟩
  | tb t =>
    obtain ⟨p, hp, rfl⟩ := List.mem_map.mp ha
    exact ⟨(x p hp).2.1, (x p hp).1⟩
theorem St.subOwn (W : C.Wf) {g g' : G} {s s' : Shared} (S : St C own ρ g s) (x : Step C.frs own.addrs g s g' s') (hO : OwnOk g' s'.heap C.frs own') (ha : own'.addrs = own.addrs) (ha2 : own'.addr = own.addr) : St C own' ρ g' s' := by
  have hm := x.mono S.le
  have nf := S.hown.notFr
  have vr : ∀ {v : Value} {d : LV}, VR g own v d → VR g' own' v d := fun {v d} y => by
    cases d with
    | fz d => exact Rd.mono hm y
    | own => obtain ⟨c, e, r⟩ := y; exact ⟨c, ha2.trans e, r⟩
    | fn f H => exact ⟨y.1, H.2 _ _ hm y.2⟩
  refine ⟨S.step.trans x (fun a h hl => ?_) (fun a h hl => ?_), hO, funFrames_step x.part S.frs (fun a h => (nf a h).1), fun a h => ?_, ?_, by rw [ha]; exact S.lown, fun y c hc => ?_, ?_, fun p hp => ?_, by rw [ha]; exact S.whole⟩
  · rcases W.frame a h with q | q
    · exact absurd q hl
    · exact q
  · rcases S.whole a h with q | q
    · exact q
    · exact absurd q hl
  · obtain ⟨_, o, ho, _⟩ := S.frs.mem h
    exact (x.frz a (isn ho)).trans (S.frf a h)
  · obtain ⟨m, hn, _⟩ := S.vars
    obtain ⟨o, _, _, ho, _⟩ := hn
    exact (x.frz _ (isn ho)).trans S.lfree
  · obtain ⟨h1, h2, h3, o, v, h4, h5⟩ := S.cells y c hc
    obtain ⟨sl, e⟩ := x.part.upTo h4 h3
    exact ⟨(x.frz c (isn h4)).trans h1, h2, by rw [ha]; exact h3, _, v, e, h5⟩
  · obtain ⟨m, hn, hv⟩ := S.vars
    refine ⟨m, ns_upTo hn fun o ho => x.part.upTo ho S.lown, fun i y d h1 h2 => ?_⟩
    obtain ⟨v, h3, h4⟩ := hv i y d h1 h2
    refine ⟨v, ?_, vr h4⟩
    rcases h3 with h3 | ⟨k1, c, o, k2, k3, k4⟩
    · exact .inl h3
    · obtain ⟨sl, e⟩ := x.part.upTo k3 (S.cells y c k2).no
      exact .inr ⟨k1, c, _, k2, e, k4⟩
  · obtain ⟨h1, h2, h3⟩ := S.prot p hp
    obtain ⟨sl, e1, e2⟩ := h1
    refine ⟨?_, (x.frz _ (isn e1)).trans h2, by rw [ha]; exact h3⟩
    rcases x.keep _ _ e1 h3 with q | ⟨q, sl', q'⟩
    · exact ⟨sl, q, e2⟩
    · exact ⟨sl', q', fun hh => absurd q hh⟩

/-- a call as a statement, the frame's own dict first among its arguments -/
theorem kx_call3 (I : C.Is X ns sc n) {i : Nat} {x f : Str} {fa : Addr} {ps : Arguments} {body : List Stmt} {fsc : Scope} (hd : DefAt X f fa ps body fsc) {e2 e3 : Expr} {p0 p1 p2 pos : Pos} (hk : sc.names.lookup f = some .globalImplicit)
    (hi : idx ns x 0 = some i) (hρ : ρ[i]? = some (some .own))
    (h : WE C E (.kdict a l) ρ e2 fun d2 => WE C E (.kdict a l) ρ e3 fun d3 => ∃ l', FnG X n fa (.kdict a l) [.own, .fz d2, .fz d3] (fun o' d => o' = .kdict a l' ∧ d = .none) noK ∧ N (.kdict a l') ρ)
    (he1 : starEach [.Name x p1, e2, e3] C.env = (false, eval (.Name x p1) C.env) :: starEach [e2, e3] C.env := by rfl) (he2 : starEach [e2, e3] C.env = (false, eval e2 C.env) :: starEach [e3] C.env := by rfl) (he3 : starEach [e3] C.env = (false, eval e3 C.env) :: starEach [] C.env := by rfl)
    (hs : swapsWith (.Call (.Name f p0) [.Name x p1, e2, e3] [] p2) none pos.line C.env = pure false := by rfl)
    (h0 : (f == ("__debug__" : Str)) = false := by decide) (h1 : (x == ("__debug__" : Str)) = false := by decide) (h2 : (x == ("__classdict__" : Str)) = false := by decide) :
    WX C E (.kdict a l) ρ (.Expr (.Call (.Name f p0) [.Name x p1, e2, e3] [] p2) pos) N R := by
  obtain ⟨W, rfl, _, _, hroom, _, _⟩ := id I
  intro g s S
  obtain ⟨o, pm, cd, doc, ho, hdat, hcd⟩ := hd.obj
  refine wpAny_Expr (Call_ (loadGlob W S (I.kind hk) hd.at_ (callWith_def hdat (spliced_more (loadOwn W S (I.at_ hi) hρ rfl (spliced_more (WE.on h S (fun u s2 g2 d2 l2 S2 r2 h3 => spliced_more (WE.on h3 S2 (fun z s3 g3 d3 l3 S3 r3 ⟨l', hF, hN⟩ => spliced_none ⟨S3.stat W _ _ ho, ?_⟩)) he3)) he2) h1 h2) he1) he1) h0)) I.inter hs
  refine wpAny_mono (hF C.A C.stk E g3 s3 _ W.stack W.handled S3.frs (hroom ▸ W.roomy) (S3.h0 W) S3.le S3.frf S3.hown (.cons ⟨a, rfl, rfl⟩ (.cons (r2.mono l3) (.cons r3 .nil))) (fun _ _ _ _ q => q.elim)) (fun v s4 q4 => ?_) fun _ _ x => x
  cases q4 with
  | mk g4 o4 d4 a1 a2 a3 a45 =>
  obtain ⟨a4, a5⟩ := a45
  subst a4 a5
  cases a3 using Rd.noneE
  exact .next g4 _ ρ ((l2.trans l3).trans (a1.mono S3.le)) (S3.subOwn W a1 a2 rfl rfl) hN

noncomputable def itemX (d i : DV) (P : DV → Prop) : Prop := match d with
  | .gd l => ∃ k r, i = kd k ∧ look l k = some r ∧ P (rd r)
  | d => itemOf P d i
inductive ItemsX (P : DV → Prop) : DV → DV → Prop
  | tup (ds : List DV) (k : Int) (h1 : -(2 ^ 63) ≤ k) (h2 : k < 2 ^ 63) (j : Nat) (e : DV) (h3 : seqIndex? k ds.length = some j) (h4 : ds[j]? = some e) (h : P e) : ItemsX P (.tup ds) (.int k)
  | lst (ds : List DV) (k : Int) (h1 : 0 ≤ k) (h2 : k < 2 ^ 63) (e : DV) (h4 : ds[k.toNat]? = some e) (h : P e) : ItemsX P (.lst ds) (.int k)
  | gd (l : GD) (k : Kind) (r : Rt) (hl : look l k = some r) (hp : P (rd r)) : ItemsX P (.gd l) (kd k)
theorem itemX.inv {d i : DV} {P : DV → Prop} (h : itemX d i P) : ItemsX P d i := by
  cases d with
  | gd l => exact let ⟨k, r, e, hl, hp⟩ := h; e ▸ .gd l k r hl hp
  | tup l => cases h with | tup _ k h1 h2 j e h3 h4 h => exact .tup l k h1 h2 j e h3 h4 h
  | lst l => cases h with | lst _ k h1 h2 e h4 h => exact .lst l k h1 h2 e h4 h
  | _ => exact nomatch h
theorem w_sub (I : C.Is X ns sc n) {value slice : Expr} {pos : Pos} {P : DV → Prop} (h : WE C E own ρ value fun d => WE C E own ρ slice fun i => itemX d i P)
    (hs : ∀ t k u, subscripted slice false (.ref t) (.int k u) = operate [.ref t, .int k u] (getItem (.ref t) (.int k u)) := by intro _ _ _; with_unfolding_all rfl)
    (hs2 : ∀ t u, subscripted slice false (.ref t) (.ref u) = operate [.ref t, .ref u] (getItem (.ref t) (.ref u)) := by intro _ _; with_unfolding_all rfl) : WE C E own ρ (.Subscript value slice pos) P := fun g s S =>
  Subscript_ (WE.on h S (fun v s1 g1 d l1 S1 r1 h1 => WE.on h1 S1 (fun u s2 g2 i l2 S2 r2 h2 => by
    cases h2.inv with
    | tup ds k k1 k2 j e k3 k4 k5 =>
      cases r2 using Rd.intE with
      | int t =>
      cases r1.mono l2 using Rd.tupE with
      | @tup a o its n a1 a2 a3 a4 =>
      obtain ⟨x, x1, x2⟩ := a4.get k4
      have ht : s2.heap.IsTuple a its := ⟨o, S2.le _ _ a1, a2, _, a3⟩
      rw [← a4.length, Array.length_toList] at k3
      rw [Array.getElem?_toList] at x1
      exact tail_any (T := "tuple") ⟨o, S2.le _ _ a1, a2⟩ slot_tuple_getitem.lookup (getItem_tuple (x := x) ht k1 k2 k3 x1 ⟨g2, e, l1.trans l2, S2, x2, k5⟩) (hs _ _ _)
    | lst ds k k1 k2 e k4 k5 =>
      cases r2 using Rd.intE with
      | int t =>
      cases r1.mono l2 using Rd.lstE with
      | @lst a o its n a1 a2 a3 a4 =>
      obtain ⟨x, x1, x2⟩ := a4.get k4
      rw [Array.getElem?_toList] at x1
      exact tail_any (T := "list") ⟨o, S2.le _ _ a1, a2⟩ slot_list_getitem.lookup (wpAny_getItem_list (x := x) ⟨o, S2.le _ _ a1, a2, _, a3⟩ k1 k2 x1 ⟨g2, e, l1.trans l2, S2, x2, k5⟩) (hs _ _ _)
    | gd l k r hl hp =>
      cases r1.mono l2 using Rd.gdE with
      | @gd b o es n a1 a2 a3 a4 a5 a6 =>
      have hI : IsK g2 s2.heap b l := ⟨o, es, n, S2.le _ _ a1, a2, a3, a4, a6, a5⟩
      cases r2 using Rd.tupE with
      | @tup t ot its nt b1 b2 b3 b4 =>
      obtain ⟨xs, hx, hD⟩ := hI.dictH C.X.prog C.X.w S2.le
      obtain ⟨ka, v', e1, e3⟩ := hx.get hl
      exact tail_any (T := "dict") hD.typeIs slot_dict_getitem.lookup (wpAny_getItem_heap (knd := kindK C.X.prog C.X.w) (roomK I) (Rd.mono S2.le (.tup b1 b2 b3 b4)) hD e1 ⟨g2, rd r, l1.trans l2, S2.toks, e3, hp⟩) (hs2 _ _))))


noncomputable def lenOf : DV → Option Nat
  | .tup l => some l.length
  | .lst l => some l.length
  | .gd l => some l.length
  | _ => none
theorem w_lenX (I : C.Is X ns sc n) {e : Expr} {p1 p2 : Pos} {P : DV → Prop} (hm : X.mg ("len" : Str) = none) (hk : sc.names.lookup ("len" : Str) = some .globalImplicit)
    (h : WE C E own ρ e fun d => ∃ m, lenOf d = some m ∧ m < 2 ^ 62 ∧ P (.int m)) (he : starEach [e] C.env = (false, eval e C.env) :: starEach [] C.env := by rfl) :
    WE C E own ρ (.Call (.Name ("len" : Str) p1) [e] [] p2) P := by
  refine w_bi1 I hm hk boot_len ?_ he
  intro g s S
  refine WE.on h S (fun v s1 g1 d l1 S1 r1 ⟨m, hc, hl, hp⟩ => ⟨g1, d, l1, S1, r1, fun {g s v} S2 r2 => ?_⟩)
  cases d with
  | tup l =>
    cases hc
    exact bi_lenT I.wf S2 (.cons r2 .nil) hl hp
  | lst l =>
    cases hc
    cases r2 using Rd.lstE with
    | @lst a o its n a1 a2 a3 a4 =>
    have hs := a4.length
    rw [Array.length_toList] at hs
    refine PySem.Calls.call_len_list ⟨o, S2.le _ _ a1, a2, _, a3⟩ (by omega) ?_
    rw [hs]
    exact ⟨g, _, Le.refl _, S2.toks, .int _ _, hp⟩
  | gd l =>
    cases hc
    cases r2 using Rd.gdE with
    | gd a1 a2 a3 a4 a5 a6 =>
    have hs : _ = l.length := a4.length
    rw [Array.length_toList] at hs
    refine len_raw a5 (S2.le _ _ a1) a2 a3 (by omega) ?_
    rw [hs]
    exact ⟨g, _, Le.refl _, S2.toks, .int _ _, hp⟩
  | _ => cases hc

noncomputable def isNo : DV → Bool
  | .none => true
  | _ => false
theorem bin_isNone {A : Around} {d : DV} {P : DV → Prop} (h : P (.bool (isNo d))) : Bin X A (compareOp .Is) d .none P := fun {E Q g s v u} _ _ r1 r2 k => by
  cases r2 using Rd.noneE
  refine wpAny_is_plain ?_ ?_
  · cases r1 <;> rfl
  · have e : (v == Value.none) = isNo d := by cases r1 <;> rfl
    rw [e]
    exact k _ _ s.toks (.bool _) h
end

end
section

open PySem PySem.W PySem.Calls PyProof.Rows PySem.SeqAt

/-- a dict of members that says its kind -/
noncomputable def KindIs (D : Addr) (oD : Obj) (k : Str) : Prop := ∀ h : Heap, h.get? D = some oD → ∃ m, h.Ns1 D m ∧ ∃ t, m "kind" = some (.str k t)

inductive KindAt (oe : Obj) (a : Addr) (k : Str) (g' : G) : Prop
  | mk (D : Addr) (oD : Obj) (d1 : oe.dict = some D) (d2 : D ≠ a) (d3 : g' D = some oD) (d4 : KindIs D oD k)
inductive TbAt (vs : Array Value) (a : Addr) (g' : G) (h h' : Heap) : Prop
  | mk (T : Addr) (oT : Obj) (ts : Array Value) (q1 : vs[1]? = some (.ref T)) (q2 : T ≠ a) (q3 : g' T = none) (q4 : h.get? T = none) (q5 : h'.get? T = some oT) (q6 : oT.data = .fields ts) (q7 : 3 < ts.size)
inductive FObj (cas : Addr) (k : Str) (b : Bool) (h : Heap) (a : Addr) (g' : G) (h' : Heap) : Prop
  | mk (oe : Obj) (vs : Array Value) (h1 : h'.get? a = some oe) (h2 : oe.cls = .ref cas) (h3 : oe.data = .fields vs) (h4 : vs.size = 6) (h5 : KindAt oe a k g') (h6 : (b = false ∧ vs[1]? = some .none) ∨ TbAt vs a g' h h')
/-- an exception in flight; b: it has met a frame -/
structure FailAt (cas : Addr) (k : Str) (b : Bool) (s : Shared) (a : Addr) (g' : G) (s' : Shared) : Prop where
  gn : g' a = none
  new : s.heap.get? a = none
  obj : FObj cas k b s.heap a g' s'.heap
noncomputable def Fail (cas : Addr) (k : Str) : Kx := fun s e g' s' => ∃ a b, e = .ref a ∧ FailAt cas k b s a g' s'

/-- what is no record stands, up to its slots -/
noncomputable def NonRec (h h' : Heap) : Prop := ∀ b o, h.get? b = some o → (∀ vs, o.data ≠ .fields vs) → ∃ sl, h'.get? b = some { o with slots := sl }
theorem NonRec.refl (h : Heap) : NonRec h h := fun b o e _ => ⟨o.slots, e⟩
theorem NonRec.slots {h h' h2 : Heap} {S : List Addr} (x : NonRec h h') (y : Heap.SlotsOnly S h' h2) : NonRec h h2 := fun b o e n => let ⟨sl, q⟩ := x b o e n; let ⟨sl2, q2⟩ := y.2.2 b _ q; ⟨sl2, q2⟩
theorem NonRec.but {h h' h2 : Heap} {c : Addr} {oc : Obj} {vs : Array Value} (x : NonRec h h') (y : Heap.SameBut c h' h2) (hc : h'.get? c = some oc) (hd : oc.data = .fields vs) : NonRec h h2 := fun b o e n => by
  obtain ⟨sl, q⟩ := x b o e n
  refine ⟨sl, (y.2 b fun w => ?_).trans q⟩
  rw [w, hc] at q
  cases q
  exact n vs hd
theorem NonRec.push {h h' : Heap} (x : NonRec h h') (o : Obj) : NonRec h (h'.push o) := fun b o' e n => let ⟨sl, q⟩ := x b o' e n; ⟨sl, Heap.get?_push_of_some _ q⟩

structure Fly (C : Cx) (cas : Addr) (k : Str) (b : Bool) (a : Addr) (g : G) (s : Shared) (base : Heap) : Prop where
  nr : NonRec base s.heap
  step : Step C.fr C.D C.g0 C.s0 g s
  frs : s.heap.FunFrames C.X.h0 C.stk
  frf : ∀ a ∈ C.frs, g a = none
  fail : FailAt cas k b C.s0 a g s

theorem fields_notFr {C : Cx} {s : Shared} (hf : s.heap.FunFrames C.X.h0 C.stk) {b : Addr} {o : Obj} {vs : Array Value} (ho : s.heap.get? b = some o) (hd : o.data = .fields vs) : b ∉ C.frs := fun m => by
  obtain ⟨_, o', e, h⟩ := hf.mem m
  rw [ho] at e; cases e
  exact h vs hd

theorem Step.slots {C : Cx} (W : C.Wf) {g : G} {s : Shared} {h' : Heap} (x : Step C.fr C.D C.g0 C.s0 g s) (hf : ∀ a ∈ C.frs, g a = none) (hs : Heap.SlotsOnly C.frs s.heap h') : Step C.fr C.D C.g0 C.s0 g { s with heap := h' } := by
  refine ⟨fun a ha => ?_, fun a o e hD => ?_, x.frz, fun a o e => ?_, x.gens, x.drawn, x.os⟩
  · obtain ⟨o, e⟩ := Option.ne_none_iff_exists'.mp (x.dom a ha)
    obtain ⟨sl, q⟩ := hs.2.2 a o e
    exact isn q
  · by_cases m : a ∈ C.frs
    · have mf : a ∈ C.fr := (W.frame a m).resolve_left (isn e)
      rcases x.keep a o e hD with q | ⟨_, sl, q⟩
      · exact .inr ⟨mf, hs.2.2 a _ q⟩
      · obtain ⟨sl2, q2⟩ := hs.2.2 a _ q
        exact .inr ⟨mf, sl2, q2⟩
    · rcases x.keep a o e hD with q | ⟨mf, sl, q⟩
      · exact .inl ((hs.2.1 a m).trans q)
      · exact .inr ⟨mf, sl, (hs.2.1 a m).trans q⟩
  · have m : a ∉ C.frs := fun m => by rw [hf a m] at e; cases e
    exact (hs.2.1 a m).trans (x.le a o e)
theorem Step.push {fr D : List Addr} {g g' : G} {s s' : Shared} (x : Step fr D g s g' s') (o : Obj) : Step fr D g s g' { s' with heap := s'.heap.push o } :=
  ⟨fun a ha => by obtain ⟨o', e⟩ := Option.ne_none_iff_exists'.mp (x.dom a ha); exact isn (Heap.get?_push_of_some _ e), fun a o' e hD => (x.keep a o' e hD).imp (Heap.get?_push_of_some _) fun ⟨m, sl, q⟩ => ⟨m, sl, Heap.get?_push_of_some _ q⟩, x.frz,
    fun a o' e => Heap.get?_push_of_some _ (x.le a o' e), x.gens, x.drawn, x.os⟩

section
variable {C : Cx} {cas : Addr} {k : Str} {b : Bool} {a : Addr} {g : G} {s : Shared} {M : Model} {A : Around} {E : Value → Shared → Prop} {base : Heap}

theorem Fly.slots (W : C.Wf) {h' : Heap} (F : Fly C cas k b a g s base) (hs : Heap.SlotsOnly C.frs s.heap h') : Fly C cas k b a g { s with heap := h' } base := by
  refine ⟨F.nr.slots hs, F.step.slots W F.frf hs, F.frs.of_slotsOnly hs, F.frf, F.fail.gn, F.fail.new, ?_⟩
  obtain ⟨oe, vs, h1, h2, h3, h4, h5, h6⟩ := F.fail.obj
  refine ⟨oe, vs, (hs.2.1 a (fields_notFr F.frs h1 h3)).trans h1, h2, h3, h4, h5, ?_⟩
  rcases h6 with q | ⟨T, oT, ts, q1, q2, q3, q4, q5, q6, q7⟩
  · exact .inl q
  · exact .inr ⟨T, oT, ts, q1, q2, q3, q4, (hs.2.1 T (fields_notFr F.frs q5 q6)).trans q5, q6, q7⟩
theorem Fly.push (F : Fly C cas k b a g s base) (o : Obj) : Fly C cas k b a g { s with heap := s.heap.push o } base := by
  refine ⟨F.nr.push o, F.step.push o, F.frs.of_keeps fun b o' e _ => ⟨o', Heap.get?_push_of_some _ e, rfl⟩, F.frf, F.fail.gn, F.fail.new, ?_⟩
  obtain ⟨oe, vs, h1, h2, h3, h4, h5, h6⟩ := F.fail.obj
  refine ⟨oe, vs, Heap.get?_push_of_some _ h1, h2, h3, h4, h5, ?_⟩
  rcases h6 with q | ⟨T, oT, ts, q1, q2, q3, q4, q5, q6, q7⟩
  · exact .inl q
  · exact .inr ⟨T, oT, ts, q1, q2, q3, q4, Heap.get?_push_of_some _ q5, q6, q7⟩

theorem notFreed {o : Obj} {vs : Array Value} (h : o.data = .fields vs) : o.isFreed = false := Obj.isFreed_of_fields h

/-- setFlight -/
theorem Fly.flight (F : Fly C cas k b a g s base) {x : Option Addr} {Q : Unit → Shared → Prop} (h : ∀ s', Fly C cas k b a g s' base → Q () s') : wpAny M A (setFlight (.ref a) x) Q E s := by
  obtain ⟨oe, vs, h1, h2, h3, h4, h5, h6⟩ := F.fail.obj
  unfold setFlight
  rcases h6 with ⟨rfl, q⟩ | ⟨T, oT, ts, q1, q2, q3, q4, q5, q6, q7⟩
  · refine wpAny_bind (wpAny_field h1 h3 q ?_)
    exact wpAny_pure (h _ F)
  · refine wpAny_bind (wpAny_field h1 h3 q1 ?_)
    rw [if_pos (show (Value.ref T != Value.none) = true from by simp)]
    refine wpAny_setField q5 q6 q7 (h _ ?_)
    have hb : Heap.SameBut T s.heap (s.heap.update T (Obj.mapFields (·.setIfInBounds 3 (x.elim .none fun f => rawInt f)))) := Heap.SameBut.update ..
    have hd := Obj.data_mapFields q6 (·.setIfInBounds 3 (x.elim .none fun f => rawInt f))
    have hT := Heap.get?_update_self (Obj.mapFields (·.setIfInBounds 3 (x.elim .none fun f => rawInt f))) q5 (notFreed hd)
    refine ⟨F.nr.but hb q5 q6, F.step.but (t := s.toks) hb q4 q3, funFrames_but hb F.frs fun m => absurd m (fields_notFr F.frs q5 q6), F.frf, F.fail.gn, F.fail.new, oe, vs, (hb.2 a (Ne.symm q2)).trans h1, h2, h3, h4, h5, .inr ⟨T, _, _, q1, q2, q3, q4, hT, hd, ?_⟩⟩
    simpa using q7

/-- a new traceback entry -/
theorem Fly.entry {bb : Bool} (W : C.Wf) {env : Env} {outer : List Env} {L : Addr} {head : Value} {hadNext : Bool} (hstk : C.stk = env :: outer) (hA : A.frames = some C.stk) (hL : env.frame = some L) (F : Fly C cas k b a g s base) {Q : Unit → Shared → Prop} (h : ∀ s', Fly C cas k true a g s' base → Q () s') :
    wpAny M A (do let a1 ← frameOf env; let pl ← entryPlaceOf L hadNext; let b1 ← EntryCells.newEntry head a1 .none (rawInt L) .none pl; setField (.ref a) 1 b1) Q E s := by
  refine wpAny_bind (wpAny_frameOf_fun (base := C.X.h0) (hstk ▸ hA) (hstk ▸ F.frs) hL fun h1 hs1 => ?_)
  rw [← hstk] at hs1
  have F1 := F.slots W hs1
  refine wpAny_bind (wpAny_entryPlaceOf fun pl hpl => ?_)
  unfold EntryCells.newEntry newFields
  refine wpAny_bind (wpAny_newObj_type ?_ (hpl.sizeOk5 _ _ _ _ _))
  generalize hto : ({ cls := .type "traceback", dict := none, data := .fields ([head, .ref L, .none, rawInt L, .none] ++ (if pl.isEmpty then List.replicate 6 Value.none else pl)).toArray } : Obj) = tb
  have F2 := F1.push tb
  obtain ⟨oe, vs, e1, e2, e3, e4, e5, e6⟩ := F2.fail.obj
  have hTs : ({ s with heap := h1 } : Shared).heap.get? h1.objs.size = none := fresh_none _
  have hT : (h1.push tb).get? h1.objs.size = some tb := Heap.get?_push_size _ (by rw [← hto]; rfl)
  obtain ⟨oa, _, ea, _⟩ := F1.fail.obj
  have hTa : h1.objs.size ≠ a := fun q => by rw [← q, hTs] at ea; cases ea
  have hTg : g h1.objs.size = none := by
    cases q : g h1.objs.size with
    | none => rfl
    | some o => rw [F1.step.le _ _ q] at hTs; cases hTs
  have hT0 : C.s0.heap.get? h1.objs.size = none := by
    cases q : C.s0.heap.get? h1.objs.size with
    | none => rfl
    | some o => exact absurd hTs (F1.step.dom _ (isn q))
  refine wpAny_setField e1 e3 (by omega) (h _ ?_)
  have hb : Heap.SameBut a (h1.push tb) ((h1.push tb).update a (Obj.mapFields (·.setIfInBounds 1 (.ref h1.objs.size)))) := Heap.SameBut.update ..
  have hd := Obj.data_mapFields e3 (·.setIfInBounds 1 (.ref h1.objs.size))
  have hA' := Heap.get?_update_self (Obj.mapFields (·.setIfInBounds 1 (.ref h1.objs.size))) e1 (notFreed hd)
  obtain ⟨D, oD, d1, d2, d3, d4⟩ := e5
  refine ⟨F2.nr.but hb e1 e3, F2.step.but (t := s.toks) hb F.fail.new F.fail.gn, funFrames_but hb F2.frs fun m => absurd m (fields_notFr F2.frs e1 e3), F.frf, F.fail.gn, F.fail.new, _, _, hA', ?_, hd, ?_, ⟨D, oD, ?_, d2, d3, d4⟩, .inr ⟨h1.objs.size, tb, _, ?_, hTa, hTg, hT0, (hb.2 _ hTa).trans hT, by rw [← hto], ?_⟩⟩
  · rw [Obj.cls_mapFields]; exact e2
  · simpa using e4
  · obtain ⟨oc, od, odt, osl⟩ := oe
    dsimp only at d1 e3
    subst d1 e3
    rfl
  · simp [e4]
  · simp only [List.size_toArray, List.length_append, List.length_cons, List.length_nil]; omega

theorem Fly.note (W : C.Wf) {env : Env} {outer : List Env} (hstk : C.stk = env :: outer) (hA : A.frames = some C.stk) (F : Fly C cas k b a g s base) {Q : Unit → Shared → Prop} (h : ∀ s', Fly C cas k true a g s' base → Q () s') : wpAny M A (noteFrame (.ref a) env) Q E s := by
  obtain ⟨L, hL⟩ : ∃ L, env.frame = some L := by
    have hf := F.frs
    rw [hstk] at hf
    obtain ⟨_, ⟨L, o, hf, _⟩, _⟩ := hf
    exact ⟨L, hf⟩
  obtain ⟨oe, vs, h1, h2, h3, h4, h5, h6⟩ := F.fail.obj
  unfold noteFrame
  simp only [hL]
  rcases h6 with ⟨rfl, q⟩ | ⟨T, oT, ts, q1, q2, q3, q4, q5, q6, q7⟩
  · refine wpAny_bind (wpAny_field h1 h3 q ?_)
    rw [if_neg (by decide)]
    exact F.entry (bb := false) W hstk hA hL h
  · refine wpAny_bind (wpAny_field h1 h3 q1 ?_)
    rw [if_pos (show (Value.ref T != Value.none) = true from by simp)]
    obtain ⟨x3, hx3⟩ : ∃ x, ts[3]? = some x := ⟨_, Array.getElem?_eq_getElem q7⟩
    refine wpAny_bind (wpAny_field q5 q6 hx3 ?_)
    by_cases hq : (x3 == rawInt L) = true
    · rw [if_pos hq]
      exact wpAny_pure (h _ ⟨F.nr, F.step, F.frs, F.frf, F.fail.gn, F.fail.new, oe, vs, h1, h2, h3, h4, h5, .inr ⟨T, oT, ts, q1, q2, q3, q4, q5, q6, q7⟩⟩)
    · rw [if_neg hq]
      have hb : Heap.SameBut T s.heap (s.heap.update T (Obj.mapFields (·.setIfInBounds 3 Value.none))) := Heap.SameBut.update ..
      have hd := Obj.data_mapFields q6 (·.setIfInBounds 3 Value.none)
      have hT := Heap.get?_update_self (Obj.mapFields (·.setIfInBounds 3 Value.none)) q5 (notFreed hd)
      refine wpAny_bind (wpAny_setField q5 q6 q7 ?_)
      refine Fly.entry (b := true) (bb := true) W hstk hA hL ?_ h
      refine ⟨F.nr.but hb q5 q6, F.step.but (t := s.toks) hb q4 q3, funFrames_but hb F.frs fun m => absurd m (fields_notFr F.frs q5 q6), F.frf, F.fail.gn, F.fail.new, oe, vs, (hb.2 a (Ne.symm q2)).trans h1, h2, h3, h4, h5, .inr ⟨T, _, _, q1, q2, q3, q4, hT, hd, ?_⟩⟩
      simpa using q7

theorem Fly.leaving (W : C.Wf) {env : Env} {outer : List Env} (hstk : C.stk = env :: outer) (hA : A.frames = some C.stk) (F : Fly C cas k b a g s base) {Q : Unit → Shared → Prop} (h : ∀ s', Fly C cas k true a g s' base → Q () s') : wpAny M A (PySem.leaving env (.ref a)) Q E s := by
  unfold PySem.leaving
  exact wpAny_bind (F.note W hstk hA fun s' F' => F'.flight h)
theorem Fly.back (W : C.Wf) {env : Env} {outer : List Env} (hstk : C.stk = env :: outer) (hA : A.frames = some C.stk) (F : Fly C cas k b a g s base) (h : ∀ s', Fly C cas k true a g s' base → E (.ref a) s') : notedBy M A env (cameBackBy M A env E) (.ref a) s := by
  unfold notedBy cameBackBy
  refine F.note W hstk hA fun s' F' => ?_
  obtain ⟨oe, vs, h1, h2, h3, h4, h5, h6⟩ := F'.fail.obj
  rcases h6 with ⟨q, _⟩ | ⟨T, oT, ts, q1, _⟩
  · cases q
  · refine wpAny_bind (wpAny_field h1 h3 q1 ?_)
    rw [if_neg (by simp)]
    exact F'.flight fun s2 F2 => h _ F2
end

end
section

open PySem PySem.W PySem.Calls PyProof.Rows PySem.SeqAt

/-- the raise's end takes the exception -/
noncomputable def CanFail (C : Cx) (cas : Addr) (k : Str) (E : Value → Shared → Prop) : Prop := ∀ a b g s base, Fly C cas k b a g s base → E (.ref a) s

section
variable {C : Cx} {E : Value → Shared → Prop} {own : Own} {ρ : Locals} {N : Own → Locals → Prop} {R : Own → DV → Prop} {X : Stx} {ns : List Str} {sc : Scope} {n : Nat}

theorem Fail.fly {C : Cx} {own : Own} {ρ : Locals} {g g' : G} {s s' : Shared} {cas a : Addr} {k : Str} {b : Bool} (S : St C own ρ g s) (S' : St C own ρ g' s') (h : FailAt cas k b s a g' s') : Fly C cas k b a g' s' s'.heap := by
  have old : ∀ {x}, s.heap.get? x = none → C.s0.heap.get? x = none := fun {x} h => by
    cases q : C.s0.heap.get? x with
    | none => rfl
    | some o => exact absurd h (S.step.dom _ (isn q))
  refine ⟨.refl _, S'.step, S'.frs, S'.frf, h.gn, old h.new, ?_⟩
  obtain ⟨oe, vs, h1, h2, h3, h4, h5, h6⟩ := h.obj
  refine ⟨oe, vs, h1, h2, h3, h4, h5, ?_⟩
  exact h6.imp id fun ⟨T, oT, ts, q1, q2, q3, q4, q5, q6, q7⟩ => ⟨T, oT, ts, q1, q2, q3, old q4, q5, q6, q7⟩

/-- a call that raises -/
theorem we_callR (I : C.Is X ns sc n) {cas : Addr} {k : Str} (hE : CanFail C cas k E) {x : Str} {f : Addr} {ps : Arguments} {body : List Stmt} {fsc : Scope} (hd : DefAt X x f ps body fsc) {e : Expr} {r : List Expr} {p1 p2 : Pos} {P : DV → Prop}
    (hk : sc.names.lookup x = some .globalImplicit) (h : WL C E own ρ (e :: r) fun ds => FnG X n f .no (ds.map .fz) (fun _ _ => False) (Fail cas k)) (he : starEach (e :: r) C.env = (false, eval e C.env) :: starEach r C.env := by rfl) (h1 : (x == ("__debug__" : Str)) = false := by decide) :
    WE C E own ρ (.Call (.Name x p1) (e :: r) [] p2) P := by
  obtain ⟨W, rfl, _, _, rfl, _, _⟩ := id I
  intro g s S
  obtain ⟨o, pm, cd, doc, ho, hdat, hcd⟩ := hd.obj
  refine Call_ (loadGlob W S (I.kind hk) hd.at_ (callWith_def hdat (WL.on h p2 S (fun vs s1 g1 ds l1 S1 r1 h1 => ⟨S1.stat W _ _ ho, ?_⟩)) he) h1)
  refine wpAny_mono (h1 C.A C.stk E g1 s1 vs W.stack W.handled S1.frs W.roomy (S1.h0 W) S1.le S1.frf trivial r1.vrl fun e g2 s2 hs ⟨a, b, he, hf⟩ => ?_) (fun v s2 q => GPost.casesOn q fun _ _ _ _ _ _ q => q.elim) fun _ _ x => x
  subst he
  exact hE a b g2 s2 _ (Fail.fly S1 (S1.sub W hs) hf)

/-- a loop whose turn may raise -/
theorem x_forE (I : C.Is X ns sc n) {cas : Addr} {k : Str} {outer : List Env} (hstk : C.stk = C.env :: outer) (hE : CanFail C cas k E) {target iter : Expr} {body : List Stmt} {pos : Pos}
    (h : WI C E own ρ iter fun L => ∃ J : Nat → Own → Locals → Prop, J 0 own ρ ∧
      (∀ (C' : Cx) (E' : Value → Shared → Prop), C'.Is X ns sc n → CanFail C' cas k E' → ∀ (i : Nat) (d : DV) (o : Own) (r : Locals), L[i]? = some d → J i o r → WA C' E' o r target d fun r' => WS C' E' o r' body (fun o2 r2 => J (i + 1) o2 r2) R) ∧ (∀ o r, J L.length o r → N o r))
    (hs : ∀ x, foldedSetIterable iter C.env x = pure x := by intro _; rfl) : WX C E own ρ (.For target iter body [] pos) N R :=
  wx_for I.wf (E0 := fun e s => ∃ a b g base, e = .ref a ∧ Fly C cas k b a g s base) (fun e s ⟨a, b, g, base, he, F⟩ => by
    subst he
    exact F.back I.wf hstk I.wf.stack fun s' F' => hE a true g s' _ F') (WI.mono h fun L ⟨J, b1, b2, b3⟩ => ⟨J, b1, fun p Wp i d o r e j => b2 (C.add p) _ (add_is I Wp) (fun a b g s base F => ⟨a, b, g, base, rfl, ⟨F.nr, F.step, F.frs, F.frf, F.fail⟩⟩) i d o r e j, b3⟩) hs
end

/-- a def that raises -/
theorem fn_fails {X : Stx} (hw : X.Wf) {x : Str} {f : Addr} {ps : Arguments} {body : List Stmt} {sc : Scope} (hd : DefAt X x f ps body sc) {n : Nat} {ds : List DV} {cas : Addr} {k : Str} (pn ns : List Str)
    (hb : ∀ vs pm cd doc, vs.length = (ds.map LV.fz).length → bindArgs (docDef x ps body sc pm cd doc) ⟨vs, []⟩ = pure (pn.zip vs))
    (hl : pn.length = (ds.map LV.fz).length) (hpre : ns.take pn.length = pn) (hnd : ns.Nodup) (hloc : ∀ y ∈ pn, sc.names.lookup y = some .local ∨ sc.names.lookup y = some .cell)
    (hfree : ∀ x ∈ sc.names, x.2 ≠ .free) (hco : sc.isCoroutine = false) (hgen : sc.isGenerator = false) (hk : sc.kind = .function)
    (h : ∀ (C : Cx) (E : Value → Shared → Prop), C.Is X ns sc n → C.D = [] → (∃ outer, C.stk = C.env :: outer) → CanFail C cas k E → WS C E .no (start' (ds.map .fz) (ns.length - (ds.map LV.fz).length)) body (fun _ _ => False) (fun _ _ => False)) :
    FnG X (n + 1) f .no (ds.map .fz) (fun _ _ => False) (Fail cas k) :=
  fn_enterE hw hd pn ns hb hl hpre hnd hloc hfree hco hgen hk (fun C e g s I hs hf ⟨a, b, he, F⟩ ⟨outer, hstk⟩ => by
    subst he
    refine Fly.leaving (C := C) (cas := cas) (k := k) (b := b) (a := a) (g := g) I.wf hstk I.wf.stack ⟨.refl _, hs, I.X ▸ hf.1, hf.2, F⟩ fun s' F' => ⟨g, F'.step, a, true, rfl, F'.fail⟩) fun C E I hD _ ho hE => h C E I hD ho fun a b g s _ F => hE _ g s F.step ⟨I.X ▸ F.frs, F.frf⟩ ⟨a, b, rfl, F.fail⟩
theorem fnG_mono {X : Stx} {n m : Nat} {f : Addr} {o : Own} {ds : List LV} {P Q : Own → DV → Prop} {K : Kx} (h : FnG X n f o ds P K) (hm : n ≤ m) (hq : ∀ o d, P o d → Q o d) : FnG X m f o ds Q K := fun A stk E g s vs a1 a2 a3 a4 a5 a6 a7 a8 a9 a10 =>
  wpAny_mono (h A stk E g s vs a1 a2 a3 (a4.le hm) a5 a6 a7 a8 a9 a10) (fun _ _ q => GPost.casesOn q fun g' o' d x y z w => ⟨g', o', d, x, y, z, hq o' d w⟩) fun _ _ x => x

end
section

open PySem PySem.W PySem.Calls PyProof.Rows PySem.SeqAt

inductive KVV (g : G) : List (Value × Value) → GD → Prop
  | nil : KVV g [] []
  | cons {a : Addr} {v : Value} {k : Kind} {r : Rt} {vs : List (Value × Value)} {l : GD} : Rd g (.ref a) (kd k) → Rd g v (rd r) → KVV g vs l → KVV g ((.ref a, v) :: vs) ((k, r) :: l)
section
variable {C : Cx} {E : Value → Shared → Prop} {own own' : Own} {ρ : Locals} {N : Own → Locals → Prop} {R : Own → DV → Prop} {l : GD} {a : Addr} {X : Stx} {ns : List Str} {sc : Scope} {n : Nat}

noncomputable def WP (C : Cx) (E : Value → Shared → Prop) (own : Own) (ρ : Locals) : List (Option Expr) → List Expr → (GD → Prop) → Prop
  | [], [], P => P []
  | some k :: ks, v :: vs, P => WE C E own ρ k fun d => ∃ kk, d = kd kk ∧ WE C E own ρ v fun e => ∃ r, e = rd r ∧ WP C E own ρ ks vs fun l => P ((kk, r) :: l)
  | _, _, _ => False

inductive DP (C : Cx) (own : Own) (ρ : Locals) (g : G) (P : GD → Prop) (xs : List (Value × Value)) (s : Shared) : Prop
  | mk (g' : G) (l : GD) (le : Le g g') (S : St C own ρ g' s) (x : KVV g' xs l) (p : P l)
theorem wp_run : ∀ (ks : List (Option Expr)) (vs : List Expr) (P : GD → Prop) (g : G) (s : Shared) (pos : Pos), WP C E own ρ ks vs P → St C own ρ g s →
    wpAny (model C.X.prog C.X.w) C.A (evalPairs (pairTrees ks vs C.env pos)) (DP C own ρ g P) E s
  | [], [], P, g, s, pos, h, S => evalPairs_nil ⟨g, [], Le.refl _, S, .nil, h⟩
  | some k :: ks, v :: vs, P, g, s, pos, h, S => evalPairs_cons (WE.on h S (fun u s1 g1 d l1 S1 r1 ⟨kk, hk, h2⟩ => by
      subst hk
      refine wpAny_bind (WE.on h2 S1 (fun x s2 g2 e l2 S2 r2 ⟨r, hr, h3⟩ => wpAny_bind (wpAny_standAt (wpAny_pure ?_))))
      subst hr
      refine wpAny_mono (wp_run ks vs _ g2 s2 pos h3 S2) (fun xs s3 q => ?_) fun _ _ q => q
      cases q with
      | mk g3 l l3 S3 hx hp =>
      obtain ⟨t, rfl⟩ := rd_ref r1
      exact ⟨g3, _, (l1.trans l2).trans l3, S3, .cons ((r1.mono l2).mono l3) (r2.mono l3) hx, hp⟩))
  | none :: _, _ :: _, _, _, _, _, h, _ => h.elim
  | some _ :: _, [], _, _, _, _, h, _ => h.elim
  | none :: _, [], _, _, _, _, h, _ => h.elim
  | [], _ :: _, _, _, _, _, h, _ => h.elim

theorem look_none {α : Type} [DecidableEq α] {l : List (α × Rt)} {k : α} (h : k ∉ l.map (·.1)) : look l k = none := by
  unfold look
  rw [List.find?_eq_none.mpr fun e he q => h (List.mem_map.mpr ⟨e, he, of_decide_eq_true q⟩)]
  rfl
theorem store_all (I : C.Is X ns sc n) : ∀ {vs : List (Value × Value)} {l l0 : GD} {xs : List (Kind × Addr × Value)} {g : G} {s : Shared} {D : Addr} {Q : PUnit → Shared → Prop}, KVV g vs l → KKV g xs l0 → Le g s.heap.get? → g D = none → s.heap.DictOfH (kindK C.X.prog C.X.w) D xs → l0.length + l.length ≤ 1000 → ((l0 ++ l).map (·.1)).Nodup →
    (∀ h' tk xs', Heap.SameBut D s.heap h' → KKV g xs' (l0 ++ l) → h'.DictOfH (kindK C.X.prog C.X.w) D xs' → Q PUnit.unit { s with heap := h', toks := tk }) → wpAny (model C.X.prog C.X.w) C.A (storeAll D vs) Q E s := by
  intro vs
  induction vs with
  | nil =>
    intro l l0 xs g s D Q hv hx hg hD hd hlen hnd hQ
    cases hv
    unfold storeAll
    rw [List.forIn_nil]
    exact wpAny_pure (hQ s.heap s.toks xs (.refl ..) (by rw [List.append_nil]; exact hx) hd)
  | cons x vs ih =>
    intro l l0 xs g s D Q hv hx hg hD hd hlen hnd hQ
    cases hv with
    | @cons t v k r vs l ha hb hr =>
    unfold storeAll
    rw [List.forIn_cons]
    have hnew : k ∉ l0.map (·.1) := by
      rw [List.map_append, List.nodup_append] at hnd
      intro m
      exact hnd.2.2 k m k (by simp) rfl
    have hat : atKey xs k = none := by
      rcases hx.at k with ⟨_, _, _, _, e, _⟩ | ⟨e, _⟩
      · rw [look_none hnew] at e; cases e
      · exact e
    refine wpAny_bind (wpAny_bind (wpAny_dictSet_heap (knd := kindK C.X.prog C.X.w) (roomK0 I) (ha.mono hg) hd (fun h' hd' hs' => wpAny_pure ?_) (by rw [hx.length, sizeLine_eq]; simp only [List.length_cons] at hlen; omega)))
    rw [storedH_new hat] at hd'
    refine ih (l0 := l0 ++ [(k, r)]) (xs := xs ++ [(k, t, v)]) (s := { s with heap := h', toks := _ }) hr (hx.append (.cons ha hb .nil)) (fun b o e => (hs'.2 b fun q => by rw [q, hD] at e; cases e).trans (hg b o e)) hD hd' (by simp only [List.length_append, List.length_cons, List.length_nil] at hlen ⊢; omega) (by simpa using hnd) fun h2 tk2 xs2 hs2 hx2 hd2 => ?_
    exact hQ h2 tk2 xs2 (hs'.trans hs2) (by simpa using hx2) hd2

/-- a display of kinds and numbers -/
theorem we_dict (I : C.Is X ns sc n) {keys : List (Option Expr)} {values : List Expr} {pos : Pos} {P : DV → Prop} (hall : keys.all (·.isSome) = true) (hl : keys.length = values.length) (h0 : keys ≠ []) (hlen : keys.length ≤ 15)
    (h : ∀ C' : Cx, C'.Is X ns sc n → WP C' E own ρ keys values fun l => (l.map (·.1)).Nodup ∧ l.length ≤ 100 ∧ P (.gd l)) : WE C E own ρ (.Dict keys values pos) P := by
  intro g s S
  have W := I.wf
  refine wpAny_Dict_any hall hl h0 hlen ?_
  have hfr := fresh_none s.heap
  have F := fresh_new W S hfr
  have S1 : St C own ρ g { s with heap := s.heap.push { cls := .type "dict", data := .dict #[] } } := S.keep W (t := s.toks) fun _ _ e => Heap.get?_push_of_some _ e
  have Wp : (C.add (s.heap.objs.size, { cls := .type "dict", data := .dict #[] })).Wf := add_wf W ⟨F.loc, F.cells⟩
  have S2 : St (C.add (s.heap.objs.size, { cls := .type "dict", data := .dict #[] })) own ρ g { s with heap := s.heap.push { cls := .type "dict", data := .dict #[] } } := S1.add (p := (s.heap.objs.size, _)) ⟨Heap.get?_push_size _ rfl, F.gn, F.own⟩
  refine wpAny_mono (wp_run (C := C.add (s.heap.objs.size, { cls := .type "dict", data := .dict #[] })) _ _ _ _ _ _ (h _ (add_is I Wp)) S2) (fun xs s3 q => ?_) fun _ _ q => q
  cases q with
  | mk g3 l l3 S3 hx hp =>
  have dd := S3.dropped F.frs
  have hmods := notMods W S hfr (Nat.le_refl _)
  refine store_all I (l0 := []) (xs := []) hx .nil S3.le dd.2.1 ⟨_, #[], 0, dd.1, ⟨rfl, rfl, rfl⟩, rfl, rfl, fun _ h => (nomatch h), List.nodup_nil⟩ (by rw [List.length_nil, Nat.zero_add]; exact Nat.le_trans hp.2.1 (by decide)) hp.1 fun h' tk xs' hs' hx' hd' => ?_
  have S4 := S3.drop.same1 W (t := tk) (F.mono dd.2.1) hs'
  cases (IsK.of hx' hd' hmods : IsK g3 h' s.heap.objs.size l) with
  | mk o es ep q1 q2 q3 q4 q5 q6 =>
  have fz := S4.freeze W (F.mono dd.2.1) q1
  exact ⟨_, _, l3.trans fz.1, fz.2, .gd (if_pos rfl) q2 q3 (q4.mono fz.1) q6 q5, hp.2.2⟩
theorem we_dict0 (I : C.Is X ns sc n) {pos : Pos} {P : DV → Prop} (h : P (.gd [])) : WE C E own ρ (.Dict [] [] pos) P := by
  intro g s S
  have W := I.wf
  refine wpAny_Dict_empty ?_
  obtain ⟨l5, S5⟩ := S.push1 W (t := s.toks) (A := s.heap.objs.size) (o := { cls := .type "dict", data := .dict #[] }) (fun _ _ e => Heap.get?_push_of_some _ e) (fresh_none _) (Heap.get?_push_size _ rfl)
  exact ⟨_, _, l5, S5, .gd (if_pos rfl) ⟨rfl, rfl, rfl⟩ rfl .nil (notMods W S (fresh_none _) (Nat.le_refl _)) List.nodup_nil, h⟩
end

end
section

open PySem PySem.W PySem.Calls PyProof.Rows PySem.SeqAt

section
variable {prog : Program} {w : World} {A : Around} {E : Value → Shared → Prop} {s : Shared}

theorem meets_values_raw (d : Addr) (hd : (d == sysModules) = false) :
    MeetsIn prog w (Builtin.«dict.values» ⟨[.ref d], []⟩) (fun _ R s => s.TypeIs (.ref d) "dict" ∧
      R (.ok (.ret (.ref s.heap.objs.size))) { s with heap := s.heap.push { cls := .type "dict_values", data := .fields #[.ref d] } }) :=
  .of_wp fun A R s ⟨hm, h⟩ => by
    refine wpAny_bind ?_
    unfold Builtin.Dict.noArgs
    refine wpAny_bind (wpAny_notOrdered_dict hm ?_)
    show wpAny _ _ (pure d) _ _ s
    refine wpAny_pure ?_
    show wpAny _ _ (Builtin.Dict.showsAll d >>= _) _ _ s
    unfold Builtin.Dict.showsAll
    rw [if_neg (by rw [hd]; exact Bool.false_ne_true)]
    refine wpAny_bind (wpAny_pure ?_)
    exact wpAny_bind (wpAny_newObj_type (wpAny_pure ⟨_, rfl, h⟩))

theorem iterV_raw {v d : Addr} {o : Obj} {es : Array DictEntry} {ep : Nat} {Q : Value → Shared → Prop} (hv : s.heap.IsValuesView v d) (ho : s.heap.get? d = some o) (hdat : o.data = .dict es ep)
    (hQ : Q (.ref s.heap.objs.size) { s with heap := s.heap.push { cls := .type "dict_valueiterator", data := .fields #[.ref d, .int 0 0, .int es.size 0, .int ep 0] } }) :
    wpAny (model prog w) A (pyIter (.ref v)) Q E s := by
  obtain ⟨ov, hov, hcv, hdv⟩ := id hv
  refine wpAny_pyIter_slot hv.typeIs F.slot_dict_values_iter (wpAny_call_entry F.slot_dict_values_iter hv.typeIs F.entry_dict_values_iter ?_ (F.args_dict_values_iter_1 _))
  unfold Builtin.«dict_values.__iter__»
  refine wpAny_bind (wpAny_pure ?_)
  refine wpAny_bind ?_
  unfold Builtin.Dict_items.dictOf
  refine wpAny_bind (wpAny_field hov hdv (x := .ref d) rfl (wpAny_pure ?_))
  refine wpAny_bind ?_
  unfold Builtin.Dict_items.newIterator
  refine wpAny_bind (wpAny_dictEntries ho hdat ?_)
  refine wpAny_bind (wpAny_dictEpoch ho hdat ?_)
  have hown : Builtin.Dict_items.ownsTuple "dict_valueiterator" = false := by decide
  simp only [hown, Bool.false_eq_true, if_false]
  refine wpAny_newObj_type (wpAny_pure ⟨_, rfl, "dict_valueiterator", _, ⟨_, Heap.get?_push_size _ rfl, rfl⟩, F.slot_dict_valueiterator_next.lookup, ?_⟩)
  simpa [rawInt] using hQ

theorem nextV_raw {it d : Addr} {i ep : Nat} {od : Obj} {es : Array DictEntry} {e : DictEntry} {Q : Option Value → Shared → Prop} (hit : s.heap.IsValIter it d i es.size ep)
    (hod : s.heap.get? d = some od) (hdd : od.data = .dict es ep) (hx : es[i]? = some e)
    (hQ : ∀ h', h'.IsValIter it d (i + 1) es.size ep → Heap.SameBut it s.heap h' → Q (some e.val) { s with heap := h' }) :
    wpAny (model prog w) A (pyNext (.ref it)) Q E s := by
  obtain ⟨o, ho, hc, hd⟩ := id hit
  unfold pyNext
  refine wpAny_bind (wpAny_attempt (wpAny_callSpecial?_slot (name := Str.ofString "__next__") hit.typeIs F.slot_dict_valueiterator_next
    (wpAny_call_entry F.slot_dict_valueiterator_next hit.typeIs F.entry_dict_valueiterator_next ?_ (F.args_dict_valueiterator_next_1 _))))
  refine wpAny_bind (wpAny_pure (wpAny_bind (wpAny_bind ?_)))
  first | refine wpAny_bind (wpAny_typeNameOfWhole_valiter hit.typeIs (wpAny_pure ?_)) | refine wpAny_bind (wpAny_typeNameOf_valiter hit.typeIs (wpAny_pure ?_))
  refine wpAny_bind (wpAny_fieldsOf ho hd ?_)
  have hown : Builtin.Dict_items.ownsTuple "dict_valueiterator" = false := by decide
  rw [hown]
  show wpAny _ _ (if (Value.ref d == Value.none) = true then _ else _) _ _ s
  rw [if_neg (show ¬ ((Value.ref d == Value.none) = true) from Bool.false_ne_true)]
  refine wpAny_bind (wpAny_pure (wpAny_bind (wpAny_dictEntries hod hdd ?_)))
  rw [if_neg (by simp)]
  refine wpAny_bind (wpAny_pure (wpAny_bind (wpAny_dictEpoch hod hdd ?_)))
  rw [if_neg (by simp)]
  refine wpAny_pure ?_
  dsimp only
  rw [if_neg (Int.not_lt.mpr (Int.natCast_nonneg i)), Int.toNat_natCast, hx]
  refine wpAny_bind ?_
  first | refine wpAny_bind (wpAny_typeNameOfWhole_valiter hit.typeIs (wpAny_pure ?_)) | refine wpAny_bind (wpAny_typeNameOf_valiter hit.typeIs (wpAny_pure ?_))
  refine wpAny_bind (wpAny_isOneOf_valiter hit.typeIs ?_)
  show wpAny _ _ (setField (.ref it) 1 (rawInt ((i : Int) + 1)) >>= _) _ _ s
  refine wpAny_bind (wpAny_setField ho hd (by simp) ?_)
  have hit' : (s.heap.update it (Obj.mapFields (·.setIfInBounds 1 (rawInt ((i : Int) + 1))))).IsValIter it d (i + 1) es.size ep :=
    ⟨_, Heap.get?_update_self _ ho (Obj.isFreed_of_fields (Obj.data_mapFields hd _)), (Obj.cls_mapFields ..).trans hc, by rw [Obj.data_mapFields hd]; simp [rawInt]⟩
  refine wpAny_bind (wpAny_holding ?_)
  refine wpAny_bind (wpAny_isOneOf_valiter (s := { s with heap := s.heap.update it (Obj.mapFields (·.setIfInBounds 1 (rawInt ((i : Int) + 1)))) }) hit'.typeIs ?_)
  refine wpAny_bind (wpAny_isOneOf_valiter (s := { s with heap := s.heap.update it (Obj.mapFields (·.setIfInBounds 1 (rawInt ((i : Int) + 1)))) }) hit'.typeIs ?_)
  show wpAny _ _ (pure e.val) _ _ _
  exact wpAny_pure (wpAny_pure ⟨_, rfl, wpAny_pure (hQ _ hit' (Heap.SameBut.update ..))⟩)

theorem endV_raw {it d : Addr} {ep : Nat} {od : Obj} {es : Array DictEntry} {Q : Option Value → Shared → Prop} (hh : A.handled = none) (hit : s.heap.IsValIter it d es.size es.size ep)
    (hod : s.heap.get? d = some od) (hdd : od.data = .dict es ep)
    (hQ : ∀ h', Heap.ExtBut it s.heap h' → Q none { s with heap := h' }) : wpAny (model prog w) A (pyNext (.ref it)) Q E s := by
  obtain ⟨o, ho, hc, hd⟩ := id hit
  unfold pyNext
  refine wpAny_bind (wpAny_attempt (wpAny_callSpecial?_slot (name := Str.ofString "__next__") hit.typeIs F.slot_dict_valueiterator_next
    (wpAny_call_entry F.slot_dict_valueiterator_next hit.typeIs F.entry_dict_valueiterator_next ?_ (F.args_dict_valueiterator_next_1 _))))
  refine wpAny_bind (wpAny_pure (wpAny_bind (wpAny_bind ?_)))
  first | refine wpAny_bind (wpAny_typeNameOfWhole_valiter hit.typeIs (wpAny_pure ?_)) | refine wpAny_bind (wpAny_typeNameOf_valiter hit.typeIs (wpAny_pure ?_))
  refine wpAny_bind (wpAny_fieldsOf ho hd ?_)
  have hown : Builtin.Dict_items.ownsTuple "dict_valueiterator" = false := by decide
  rw [hown]
  show wpAny _ _ (if (Value.ref d == Value.none) = true then _ else _) _ _ s
  rw [if_neg (show ¬ ((Value.ref d == Value.none) = true) from Bool.false_ne_true)]
  refine wpAny_bind (wpAny_pure (wpAny_bind (wpAny_dictEntries hod hdd ?_)))
  rw [if_neg (by simp)]
  refine wpAny_bind (wpAny_pure (wpAny_bind (wpAny_dictEpoch hod hdd ?_)))
  rw [if_neg (by simp)]
  refine wpAny_pure ?_
  dsimp only
  rw [if_neg (Int.not_lt.mpr (Int.natCast_nonneg es.size)), Int.toNat_natCast, Array.getElem?_eq_none (Nat.le_refl es.size)]
  refine wpAny_bind ?_
  first | refine wpAny_bind (wpAny_typeNameOfWhole_valiter hit.typeIs (wpAny_pure ?_)) | refine wpAny_bind (wpAny_typeNameOf_valiter hit.typeIs (wpAny_pure ?_))
  show wpAny _ _ (setField (.ref it) 0 .none >>= _) _ _ s
  refine wpAny_bind (wpAny_setField ho hd (by simp) ?_)
  show wpAny _ _ (newExc (.type "StopIteration") [] >>= _) _ _ _
  refine wpAny_bind ?_
  simp only [newExc, newTuple]
  refine wpAny_bind (wpAny_newObj_type ?_ (by size_fits))
  refine wpAny_bind (m := firstArgMember _ _) (wpAny_of_eq (a := Value.none) (by first | rfl | (simp only [firstArgMember]; rfl)) ?_)
  refine wpAny_newObj_type ?_ (by size_fits)
  unfold raiseNew
  refine wpAny_bind (wpAny_handled ?_)
  rw [show A.in1.handled = none from hh]
  refine wpAny_bind (wpAny_pure (wpAny_throw ?_))
  refine wpAny_bind (wpAny_isInstance (T := "StopIteration") (b := true) ⟨_, Heap.get?_push_size _ rfl, rfl⟩ isSubtype_stop ?_)
  exact wpAny_pure (hQ _ (((Heap.SameBut.update ..).extBut.push _).push _))

theorem walksV_raw (hh : A.handled = none) (I d : Addr) (hne : d ≠ I) {od : Obj} {es : Array DictEntry} {ep : Nat} (hdd : od.data = .dict es ep) :
    Walks prog w A I [I, d] [I] es.size (fun i v => ∃ e, es[i]? = some e ∧ v = e.val) (fun i h => h.IsValIter I d i es.size ep ∧ h.get? d = some od) where
  sub := fun b hb => by simp at hb; simp [hb]
  frame := fun _ _ _ st hk => ⟨st.1.at fun o e => hk I (by simp) o e, hk d (by simp) _ st.2⟩
  item := fun i s Q E hi st hQ => by
    refine nextV_raw st.1 st.2 hdd (e := es[i]) (by simp [hi]) fun h' hit' hs' => ?_
    exact hQ _ h' s.toks ⟨_, by simp [hi], rfl⟩ ⟨hit', (hs'.2 d hne).trans st.2⟩ fun b o hb e => hs'.extBut b o (fun h => hb (by simp [h])) e
  done := fun s Q E st hQ => endV_raw hh st.1 st.2 hdd fun h' he' => hQ h' s.toks fun b o hb e => he' b o (fun h => hb (by simp [h])) e
  self := fun _ _ _ _ st hQ => wpAny_pyIter_valiter st.1 hQ
end

section
variable {C : Cx} {E : Value → Shared → Prop} {own own' : Own} {ρ : Locals} {N : Own → Locals → Prop} {R : Own → DV → Prop} {X : Stx} {ns : List Str} {sc : Scope} {n : Nat}

/-- the numbers of a growth -/
theorem wi_values (I : C.Is X ns sc n) {e : Expr} {pa p2 : Pos} {Pp : List DV → Prop} (h : WE C E own ρ e fun d => ∃ l, d = .gd l ∧ Pp (l.map fun e => rd e.2))
    (hbase : attributeBase e "values" C.env (eval e C.env) = eval e C.env := by rfl) (hline : (pa.endLine == p2.line) = true := by rfl) :
    WI C E own ρ (.Call (.Attribute e "values" pa) [] [] p2) Pp := fun g s S => by
  have W := I.wf
  refine wpAny_Call_method (T := "dict") (id := "dict.values") hbase rfl hline F.plainAttrs_dict F.slot_dict_values F.type_dict_values (WE.on h S (fun v s1 g1 d l1 S1 r1 ⟨l, hd, hp⟩ => ?_))
  subst hd
  cases r1 using Rd.gdE with
  | @gd a o es nn a1 a2 a3 a4 a5 a6 =>
  have hT : s1.TypeIs (.ref a) "dict" := ⟨o, S1.le _ _ a1, a2.1⟩
  refine ⟨hT, fun b hb => by cases hb; exact ⟨o, S1.le _ _ a1, a2.2.1⟩, ?_⟩
  show wpAny _ _ (callWith p2 (.builtin "dict.values") [.ref a] [] []) _ E s1
  refine method_meetsIn F.slot_dict_values F.entry_dict_values rfl (PyProof.Rows.evalArgs_none ⟨rfl, hT, F.args_dict_values_1 _, _, meets_values_raw a a5, hT, ?_⟩)
  have S2 : St C own ρ g1 { s1 with heap := s1.heap.push { cls := .type "dict_values", data := .fields #[.ref a] } } := S1.keep W (t := s1.toks) fun _ _ e => Heap.get?_push_of_some _ e
  refine iterV_raw (v := s1.heap.objs.size) (d := a) ⟨_, Heap.get?_push_size _ rfl, rfl, rfl⟩ (S2.le _ _ a1) a3 ?_
  have S3 := S2.keep W (t := s1.toks) (h' := (s1.heap.push { cls := .type "dict_values", data := .fields #[.ref a] }).push { cls := .type "dict_valueiterator", data := .fields #[.ref a, .int 0 0, .int es.size 0, .int nn 0] }) fun _ _ e => Heap.get?_push_of_some _ e
  have hF := fresh_new W S2 (fresh_none _)
  have hne : a ≠ (s1.heap.push { cls := .type "dict_values", data := .fields #[.ref a] }).objs.size := Nat.ne_of_lt (Heap.lt_size (S2.le _ _ a1))
  have hsz : es.size = l.length := by rw [← a4.length, Array.length_toList]
  refine ⟨g1, _, l.map (fun e => rd e.2), (fun i h => h.IsValIter (s1.heap.push { cls := .type "dict_values", data := .fields #[.ref a] }).objs.size a i es.size nn ∧ h.get? a = some o), l1, S3, hF, ⟨[(s1.heap.push { cls := .type "dict_values", data := .fields #[.ref a] }).objs.size, a], (fun i v => ∃ e, es[i]? = some e ∧ v = e.val), ?_, ?_, ?_, ?_, ?_⟩, ⟨⟨_, Heap.get?_push_size _ rfl, rfl, rfl⟩, ?_⟩, hp⟩
  · have q := walksV_raw (prog := C.X.prog) (w := C.X.w) W.handled (s1.heap.push { cls := .type "dict_values", data := .fields #[.ref a] }).objs.size a hne a3
    rw [List.length_map, ← hsz]
    exact q
  · intro b hb
    rcases List.mem_cons.mp hb with q | q
    · exact .inl q
    · rw [List.mem_singleton.mp q]; exact .inr (isn a1)
  · rintro i v ⟨e, he, rfl⟩
    obtain ⟨k, r, q1, q2, q3⟩ := a4.getE (by rw [Array.getElem?_toList]; exact he)
    exact ⟨rd r, by rw [List.getElem?_map, q1]; rfl, q3⟩
  · rintro i h ⟨⟨o, ho, _⟩, _⟩
    exact ⟨o, ho⟩
  · intro i t v s' Q E st hq
    exact letGo_valiter st.1 hq
  · exact Heap.get?_push_of_some _ (Heap.get?_push_of_some _ (S1.le _ _ a1))

theorem rd_ints {g : G} : ∀ {vs : List Value} {ks : List Int}, RdL g vs (ks.map .int) → ∃ xs : List (Int × Tok), vs = xs.map (fun x => .int x.1 x.2) ∧ xs.map (·.1) = ks
  | _, [], h => by cases h using RdL.nilE; exact ⟨[], rfl, rfl⟩
  | _, k :: ks, h => by
    cases h using RdL.consE with
    | cons a r =>
    cases a using Rd.intE with
    | int t =>
    obtain ⟨xs, h1, h2⟩ := rd_ints r
    exact ⟨(k, t) :: xs, by rw [h1]; rfl, by rw [← h2]; rfl⟩

/-- max of a list of whole numbers: one of them -/
theorem w_maxL (I : C.Is X ns sc n) {e : Expr} {p1 p2 : Pos} {P : DV → Prop} (hm : X.mg ("max" : Str) = none) (hk : sc.names.lookup ("max" : Str) = some .globalImplicit)
    (h : WE C E own ρ e fun d => ∃ ks : List Int, d = .lst (ks.map .int) ∧ ks ≠ [] ∧ ∀ k ∈ ks, P (.int k)) (he : starEach [e] C.env = (false, eval e C.env) :: starEach [] C.env := by rfl) :
    WE C E own ρ (.Call (.Name ("max" : Str) p1) [e] [] p2) P := by
  refine w_bi1 I hm hk boot_max ?_ he
  intro g s S
  refine WE.on h S (fun v s1 g1 d l1 S1 r1 ⟨ks, hc, hl, hp⟩ => ⟨g1, d, l1, S1, r1, fun {g s v} S2 r2 => ?_⟩)
  subst hc
  cases r2 using Rd.lstE with
  | @lst a o its nn a1 a2 a3 a4 =>
  obtain ⟨xs, h1, h2⟩ := rd_ints a4
  obtain ⟨its⟩ := its
  dsimp only at h1
  subst h1
  have hl1 : s.heap.IsList a (intItems xs.toArray) := ⟨o, S2.le _ _ a1, a2, nn, by rw [a3]; simp [intItems]⟩
  refine max_intList I.wf.handled hl1 (by
    cases xs with
    | nil => rw [← h2] at hl; exact absurd rfl hl
    | cons _ _ => simp) fun v h' tk hv hk => ?_
  obtain ⟨x, hx, rfl⟩ : ∃ x ∈ xs, v = .int x.1 x.2 := by
    have := List.mem_of_getElem? (by rw [← Array.getElem?_toList] at hv; exact hv)
    simp [intItems] at this
    obtain ⟨a, b, hab, e⟩ := this
    exact ⟨(a, b), hab, e.symm⟩
  exact ⟨g, .int x.1, Le.refl _, S2.keep I.wf hk, .int _ _, hp _ (by rw [← h2]; exact List.mem_map.mpr ⟨x, hx, rfl⟩)⟩
end

end
section

open PySem PySem.W PySem.Calls PyProof.Rows PySem.SeqAt

section
variable {C : Cx} {E : Value → Shared → Prop} {own own' : Own} {ρ : Locals} {N : Own → Locals → Prop} {R : Own → DV → Prop} {X : Stx} {ns : List Str} {sc : Scope} {n : Nat}

theorem Cx.Is.place (I : C.Is X ns sc n) {x : Str} (h : sc.names.lookup x = some .local ∨ sc.names.lookup x = some .cell) : C.env.kindOf x = some .local ∨ (C.env.kindOf x = some .cell ∧ (C.env.cells.lookup x).isSome = true) :=
  h.imp (fun q => I.kind q) fun q => ⟨I.kind q, by obtain ⟨c, hc⟩ := I.cells x (.inl q); rw [hc]; rfl⟩
theorem x_setC (I : C.Is X ns sc n) {i : Nat} {x : Str} {p p2 : Pos} {e : Expr} (hi : idx ns x 0 = some i) (hk : sc.names.lookup x = some .cell)
    (h : WE C E own ρ e fun d => N own (ρ.set i (some (.fz d)))) (hs : swapsWith e (some (.Name x p)) p2.line C.env = pure false := by rfl) : WX C E own ρ (.Assign [.Name x p] e p2) N R :=
  wx_assign I.wf i (I.at_ hi) (I.place (.inr hk)) h hs
/-- x, y = e, unpacked -/
theorem x_unpk2 (I : C.Is X ns sc n) {i j : Nat} {x y : Str} {p1 p2 p3 pos : Pos} {k : Nat} {e : Expr} (hi : idx ns x 0 = some i) (hk : sc.names.lookup x = some .local ∨ sc.names.lookup x = some .cell) (hj : idx ns y 0 = some j) (hk2 : sc.names.lookup y = some .local ∨ sc.names.lookup y = some .cell)
    (h : WE C E own ρ e fun d => ∃ d1 d2, d = .tup [d1, d2] ∧ N own ((ρ.set i (some (.fz d1))).set j (some (.fz d2))))
    (hs : swapsWithSole [.Tuple [.Name x p1, .Name y p2] k p3] e pos.line C.env = pure false := by rfl)
    (hw : swappedStores [.Tuple [.Name x p1, .Name y p2] k p3] e C.env = pure none := by rfl) : WX C E own ρ (.Assign [.Tuple [.Name x p1, .Name y p2] k p3] e pos) N R := fun g s S => by
  have W := I.wf
  refine Assign_Tuple (WE.on h S (fun v s1 g1 d l1 S1 r1 ⟨d1, d2, hd, hN⟩ => ?_)) hs hw
  subst hd
  cases r1 using Rd.tupE with
  | @tup a o its nn a1 a2 a3 a4 =>
  have ht : s1.heap.IsTuple a its := ⟨o, S1.le _ _ a1, a2, _, a3⟩
  obtain ⟨its⟩ := its
  cases a4 using RdL.consE with
  | cons r1 a4 =>
  cases a4 using RdL.consE with
  | cons r2 a4 =>
  cases a4 using RdL.nilE
  refine wpAny_assign_Tuple W.handled ht rfl rfl fun h' hx => ?_
  have S2 := S1.keep W (t := s1.toks) fun b o e => hx b o (Nat.ne_of_lt (Heap.lt_size e)) e
  refine assignInOrder_cons (wpAny_assign_Name (wpAny_mono (st_store W S2 (I.at_ hi) (I.place hk) (d := .fz d1) r1) (fun _ s2 S3 => ?_) fun _ _ x => x))
  refine assignInOrder_cons (wpAny_assign_Name (wpAny_mono (st_store W S3 (I.at_ hj) (I.place hk2) (d := .fz d2) r2) (fun _ s3 S4 => ?_) fun _ _ x => x))
  exact assignInOrder_nil (.next g1 _ _ l1 S4 hN)
/-- x, y, z = e, unpacked -/
theorem x_unpk3 (I : C.Is X ns sc n) {i j m : Nat} {x y z : Str} {p1 p2 p3 p4 pos : Pos} {k : Nat} {e : Expr} (hi : idx ns x 0 = some i) (hk : sc.names.lookup x = some .local ∨ sc.names.lookup x = some .cell) (hj : idx ns y 0 = some j) (hk2 : sc.names.lookup y = some .local ∨ sc.names.lookup y = some .cell)
    (hm : idx ns z 0 = some m) (hk3 : sc.names.lookup z = some .local ∨ sc.names.lookup z = some .cell)
    (h : WE C E own ρ e fun d => ∃ d1 d2 d3, d = .tup [d1, d2, d3] ∧ N own (((ρ.set i (some (.fz d1))).set j (some (.fz d2))).set m (some (.fz d3))))
    (hs : swapsWithSole [.Tuple [.Name x p1, .Name y p2, .Name z p3] k p4] e pos.line C.env = pure false := by rfl)
    (hw : swappedStores [.Tuple [.Name x p1, .Name y p2, .Name z p3] k p4] e C.env = pure none := by rfl) : WX C E own ρ (.Assign [.Tuple [.Name x p1, .Name y p2, .Name z p3] k p4] e pos) N R := fun g s S => by
  have W := I.wf
  refine Assign_Tuple (WE.on h S (fun v s1 g1 d l1 S1 r1 ⟨d1, d2, d3, hd, hN⟩ => ?_)) hs hw
  subst hd
  cases r1 using Rd.tupE with
  | @tup a o its nn a1 a2 a3 a4 =>
  have ht : s1.heap.IsTuple a its := ⟨o, S1.le _ _ a1, a2, _, a3⟩
  obtain ⟨its⟩ := its
  cases a4 using RdL.consE with
  | cons r1 a4 =>
  cases a4 using RdL.consE with
  | cons r2 a4 =>
  cases a4 using RdL.consE with
  | cons r3 a4 =>
  cases a4 using RdL.nilE
  refine wpAny_assign_Tuple W.handled ht rfl rfl fun h' hx => ?_
  have S2 := S1.keep W (t := s1.toks) fun b o e => hx b o (Nat.ne_of_lt (Heap.lt_size e)) e
  refine assignInOrder_cons (wpAny_assign_Name (wpAny_mono (st_store W S2 (I.at_ hi) (I.place hk) (d := .fz d1) r1) (fun _ s2 S3 => ?_) fun _ _ x => x))
  refine assignInOrder_cons (wpAny_assign_Name (wpAny_mono (st_store W S3 (I.at_ hj) (I.place hk2) (d := .fz d2) r2) (fun _ s3 S4 => ?_) fun _ _ x => x))
  refine assignInOrder_cons (wpAny_assign_Name (wpAny_mono (st_store W S4 (I.at_ hm) (I.place hk3) (d := .fz d3) r3) (fun _ s4 S5 => ?_) fun _ _ x => x))
  exact assignInOrder_nil (.next g1 _ _ l1 S5 hN)
end

end
section

open PySem PySem.W PySem.Calls PyProof.Rows PySem.SeqAt

section
variable {prog : Program} {w : World} {A : Around} {E : Value → Shared → Prop} {s : Shared}

theorem merge_raw {nm : String} {d src : Addr} {od oo : Obj} {es : Array DictEntry} {ep epd : Nat} {Q : Unit → Shared → Prop} (hdo : d ≠ src) (hoS : (src == sysModules) = false) (hod : s.heap.get? d = some od) (hcd : od.ExactDict) (hdd : od.data = .dict #[] epd)
    (hoo : s.heap.get? src = some oo) (hdo' : oo.data = .dict es ep) (h1 : es = #[] ∨ ∃ e t, es = #[e] ∧ e.key = .ref t ∧ s.TypeIs (.ref t) "tuple")
    (hQ : ∀ h' o' ep', h'.get? d = some o' → o'.ExactDict → o'.data = .dict es ep' → Heap.SameBut d s.heap h' → Q () { s with heap := h' }) :
    wpAny (model prog w) A (Builtin.Dict.mergeDict nm d src) Q E s := by
  unfold Builtin.Dict.mergeDict
  rw [if_neg (by simpa using hdo)]
  unfold Builtin.Dict.showsAll
  rw [if_neg (by rw [hoS]; exact Bool.false_ne_true)]
  refine wpAny_bind (wpAny_pure ?_)
  refine wpAny_bind (wpAny_dictEntries hoo hdo' ?_)
  rcases h1 with rfl | ⟨e, t, rfl, hk, hT⟩
  · dsimp only
    rw [if_neg (by simp)]
    refine wpAny_bind (wpAny_dictEpoch hoo hdo' ?_)
    refine wpAny_bind (wpAny_dictEntries hoo hdo' ?_)
    refine wpAny_bind ?_
    rw [Std.Legacy.Range.forIn_eq_forIn_range']
    exact wpAny_pure (wpAny_pure (hQ s.heap od epd hod hcd hdd (.refl ..)))
  · dsimp only
    rw [if_pos (by simp [hk, keyPart])]
    refine wpAny_bind (wpAny_dictEntries hod hdd ?_)
    rw [if_pos (by rfl)]
    refine wpAny_bind ?_
    unfold Builtin.Dict.entriesForEmpty
    refine wpAny_bind (wpAny_dictEntries hoo hdo' ?_)
    have hfil : ((#[e] : Array DictEntry).filter (·.hash == e.hash)).size = 1 := by simp
    refine wpAny_bind ?_
    rw [← Array.forIn_toList]
    show wpAny _ _ (forIn [e] _ _) _ _ _
    rw [List.forIn_cons]
    refine wpAny_bind (wpAny_bind ?_)
    rw [hk]
    unfold Builtin.Dict.quietEq
    refine wpAny_bind (wpAny_specialOf hT F.slot_tuple_eq.lookup (wpAny_pure ?_))
    show wpAny _ _ (if (!(some (Value.builtin "tuple.__eq__") == some (Value.builtin "object.__eq__"))) = true then _ else _) _ _ _
    rw [if_pos (by decide)]
    rw [if_neg (by rw [hfil]; decide)]
    refine wpAny_pure ?_
    dsimp only
    rw [List.forIn_nil]
    refine wpAny_pure (wpAny_pure ?_)
    rw [if_pos (by simp)]
    exact wpAny_bind (wpAny_updateDictKeysTo hod hdd (wpAny_pure (hQ _ _ (epd + 1) (Heap.get?_update_self _ hod (Obj.isFreed_of_dict (Obj.data_mapDictKeys hdd _))) (hcd.mapDictKeys _) (Obj.data_mapDictKeys hdd _) (Heap.SameBut.update ..))) (by show 1 ≤ sizeLine + 1; rw [sizeLine_eq]; omega))

theorem call_dict_raw {src : Addr} {oo : Obj} {es : Array DictEntry} {ep : Nat} {Q : Value → Shared → Prop} (hoS : (src == sysModules) = false) (hoo : s.heap.get? src = some oo) (hco : oo.ExactDict) (hdo' : oo.data = .dict es ep)
    (h1 : es = #[] ∨ ∃ e t, es = #[e] ∧ e.key = .ref t ∧ s.TypeIs (.ref t) "tuple")
    (h : ∀ h' o' ep', h'.get? s.heap.objs.size = some o' → o'.ExactDict → o'.data = .dict es ep' → (∀ b o, s.heap.get? b = some o → h'.get? b = some o) → Q (.ref s.heap.objs.size) { s with heap := h' }) :
    wpAny (model prog w) A (call (.type "dict") [.ref src]) Q E s := by
  refine callType_codes (Q₁ := fun obj s₁ => obj = .ref s.heap.objs.size ∧ s₁ = { s with heap := s.heap.push { cls := .type "dict", data := .dict #[] } }) F.kt_called_dict (F.kt_typeCall_dict_1 _) F.entry_dict_init (PySem.kt_code_dict_new _ ⟨rfl, rfl⟩) ?_
  rintro obj s₁ ⟨rfl, rfl⟩
  have hnew : (s.heap.push { cls := .type "dict", data := .dict #[] }).get? s.heap.objs.size = some { cls := .type "dict", data := .dict #[] } := Heap.get?_push_size _ rfl
  have hsrc : (s.heap.push { cls := .type "dict", data := .dict #[] }).get? src = some oo := Heap.get?_push_of_some _ hoo
  have hne : s.heap.objs.size ≠ src := Nat.ne_of_gt (Heap.lt_size hoo)
  have hT : ({ s with heap := s.heap.push { cls := .type "dict", data := .dict #[] } } : Shared).TypeIs (.ref s.heap.objs.size) "dict" := ⟨_, hnew, rfl⟩
  have hT2 : ({ s with heap := s.heap.push { cls := .type "dict", data := .dict #[] } } : Shared).TypeIs (.ref src) "dict" := ⟨_, hsrc, hco.1⟩
  refine ⟨hT, F.args_dict_init_2 _ _, ?_⟩
  unfold Builtin.«dict.__init__»
  refine wpAny_bind ?_
  unfold Builtin.Dict.selfAndRest
  refine wpAny_bind (wpAny_notOrdered_dict hT ?_)
  show wpAny _ _ (pure (s.heap.objs.size, [Value.ref src])) _ _ _
  refine wpAny_pure ?_
  show wpAny _ _ (Builtin.Dict.updateFrom "dict.__init__" s.heap.objs.size (.ref src) [] .none) _ _ _
  unfold Builtin.Dict.updateFrom
  refine wpAny_bind (wpAny_typeOf hT2 ?_)
  rw [if_neg (by decide)]
  refine wpAny_bind ?_
  unfold Builtin.Dict.merge
  refine wpAny_bind ?_
  unfold Builtin.Dict.readDirectly
  refine wpAny_bind (wpAny_isInstance hT2 isSubtype_dict_dict ?_)
  simp only [Bool.not_true, Bool.false_eq_true, if_false]
  refine wpAny_bind (wpAny_specialOf hT2 F.slot_dict_iter.lookup (wpAny_pure ?_))
  simp only [beq_self_eq_true, if_true]
  refine wpAny_bind (wpAny_pure ?_)
  refine merge_raw hne hoS hnew ⟨rfl, rfl, rfl⟩ rfl hsrc hdo' (h1.imp id fun ⟨e, t, a, b, o, q1, q2⟩ => ⟨e, t, a, b, o, Heap.get?_push_of_some _ q1, q2⟩) fun h' o' ep' q1 q2 q3 hs' => ?_
  show wpAny _ _ (Builtin.Dict.addKeywords s.heap.objs.size [] >>= _) _ _ _
  exact wpAny_bind (wpAny_pure (wpAny_pure ⟨rfl, h h' o' ep' q1 q2 q3 fun b o e => (hs'.2 b (Nat.ne_of_lt (Heap.lt_size e))).trans (Heap.get?_push_of_some _ e)⟩))
end

section
variable {C : Cx} {E : Value → Shared → Prop} {own own' : Own} {ρ : Locals} {N : Own → Locals → Prop} {R : Own → DV → Prop} {X : Stx} {ns : List Str} {sc : Scope} {n : Nat}
/-- x = dict(e), a growth of one kind at the most -/
theorem kx_copy (I : C.Is X ns sc n) {i : Nat} {x : Str} {p0 p1 p2 pos : Pos} {e : Expr} (hm1 : X.mg ("dict" : Str) = none) (hk1 : sc.names.lookup ("dict" : Str) = some .globalImplicit)
    (hi : idx ns x 0 = some i) (hk : sc.names.lookup x = some .local) (h : WE C E .no ρ e fun d => ∃ l, d = .gd l ∧ l.length ≤ 1 ∧ ∀ a, N (.kdict a l) (ρ.set i (some .own)))
    (he : starEach [e] C.env = (false, eval e C.env) :: starEach [] C.env := by rfl)
    (hs : swapsWith (.Call (.Name ("dict" : Str) p1) [e] [] p2) (some (.Name x p0)) pos.line C.env = pure false := by rfl) :
    WX C E .no ρ (.Assign [.Name x p0] (.Call (.Name ("dict" : Str) p1) [e] [] p2) pos) N R := fun g s S => by
  have W := I.wf
  refine wpAny_Assign_Name (Call_ (loadBi W S (I.kind hk1) (I.X ▸ hm1) PyProof.Rows.boot_dict (PyProof.Rows.callWith_type1 (spliced_more (WE.on h S (fun v s1 g1 d l1 S1 r1 ⟨l, hd, hlen, hN⟩ => spliced_none ?_)) he) he rfl) (by decide) (by decide))) hs
  subst hd
  cases r1 using Rd.gdE with
  | @gd a o es nn a1 a2 a3 a4 a5 a6 =>
  have h1 : es = #[] ∨ ∃ e t, es = #[e] ∧ e.key = .ref t ∧ s1.TypeIs (.ref t) "tuple" := by
    obtain ⟨es⟩ := es
    cases a4 with
    | nil => exact .inl rfl
    | @cons e k r es' l' q1 q2 q3 q4 =>
      cases q4 with
      | nil =>
        refine .inr ⟨e, ?_⟩
        generalize hv : e.key = u at q1
        cases q1 using Rd.tupE with
        | tup b1 b2 b3 b4 => exact ⟨_, rfl, rfl, ⟨_, S1.le _ _ b1, b2⟩⟩
      | cons _ _ _ _ => simp at hlen
  have hfr := fresh_none s1.heap
  have F1 := fresh_new W S1 hfr
  refine call_dict_raw a5 (S1.le _ _ a1) a2 a3 h1 fun h' o' ep' q1 q2 q3 hk' => ?_
  have S2 : St C .no ρ g1 { s1 with heap := h' } := S1.keep W hk' (t := s1.toks)
  have S4 : St C (.kdict s1.heap.objs.size l) ρ g1 { s1 with heap := h' } := S2.newOwn W F1 rfl ⟨F1.gn, F1.frs, o', es, ep', q1, q2, q3, a4, a6, notMods W S1 hfr (Nat.le_refl _)⟩
  exact wpAny_mono (st_store W S4 (I.at_ hi) (.inl (I.kind hk)) (d := .own) ⟨_, rfl, rfl⟩) (fun _ s2 S5 => .next g1 _ _ l1 S5 (hN _)) fun _ _ x => x
end

end
section

open PySem PySem.W PySem.Calls PyProof.Rows PySem.SeqAt

/-- one by one: all of l is in m -/
noncomputable def gdIn (m : GD) : GD → Bool
  | [] => true
  | e :: r => (match look m e.1 with | some y => decide (e.2 = y) | none => false) && gdIn m r
noncomputable def gdEq (l m : GD) : Bool := l.length == m.length && gdIn m l

theorem KKV.nth {g : G} {xs : List (Kind × Addr × Value)} {l : GD} (h : KKV g xs l) : ∀ {i : Nat} {x : Kind × Addr × Value}, xs[i]? = some x → ∃ r, l[i]? = some (x.1, r) ∧ Rd g (.ref x.2.1) (kd x.1) ∧ Rd g x.2.2 (rd r) := by
  induction h with
  | nil => intro i x e; simp at e
  | @cons k a v r xs l h1 h2 _ ih =>
    intro i x e
    cases i with
    | zero => cases e; exact ⟨r, rfl, h1, h2⟩
    | succ i => simp at e; simpa using ih e
theorem at_idx {xs : List (Kind × Addr × Value)} {k : Kind} {j : Nat} {p : Addr × Value} (hn : (xs.map (·.1)).Nodup) (h : xs[j]? = some (k, p)) : atKey xs k = some p := atKey_of_get hn h

section
variable {prog : Program} {w : World} {A : Around} {E : Value → Shared → Prop} {s : Shared}
theorem samePairs_raw {nm : String} {a b : Addr} {l m : GD} {g : G} {Q : Bool → Shared → Prop} (hg : Le g s.heap.get?) (hu : A.units + 20 < cLine) (ia : IsK g s.heap a l) (ib : IsK g s.heap b m) (h : Q (gdEq l m) s) :
    wpAny (model prog w) A (Builtin.Dict.samePairs nm a b) Q E s := by
  obtain ⟨oa, es, ep, hoa, _, hda, hka, hna, ha⟩ := ia
  obtain ⟨ob, es', ep', hob, _, hdb, hkb, hnb, hb⟩ := ib
  obtain ⟨xs', hx', hxe⟩ := hkb.kkv (prog := prog) (w := w)
  obtain ⟨xs, hx, hxa⟩ := hka.kkv (prog := prog) (w := w)
  have hla : es.size = l.length := by rw [← hka.length, Array.length_toList]
  have hlb : es'.size = m.length := by rw [← hkb.length, Array.length_toList]
  unfold Builtin.Dict.samePairs Builtin.Dict.showsAll
  rw [if_neg (show ¬ (a == sysModules) = true by rw [ha]; exact Bool.false_ne_true), if_neg (show ¬ (b == sysModules) = true by rw [hb]; exact Bool.false_ne_true)]
  refine wpAny_bind (wpAny_pure (wpAny_bind (wpAny_pure ?_)))
  refine wpAny_bind (wpAny_dictEntries hoa hda ?_)
  dsimp only
  refine wpAny_bind (wpAny_dictEntries hob hdb ?_)
  unfold gdEq at h
  by_cases hsz : es.size = es'.size
  case neg =>
    rw [if_pos (by simpa using hsz)]
    have hbf : (l.length == m.length) = false := by rw [← hla, ← hlb]; simpa using hsz
    rw [hbf, Bool.false_and] at h
    exact wpAny_bind (wpAny_rule (wpAny_pure h))
  case pos =>
    have hbt : (l.length == m.length) = true := by rw [← hla, ← hlb]; simpa using hsz
    rw [hbt, Bool.true_and] at h
    rw [if_neg (by rw [hsz]; simp)]
    refine wpAny_bind (wpAny_dictEpoch hoa hda ?_)
    refine wpAny_bind ?_
    rw [Std.Legacy.Range.forIn_eq_forIn_range']
    simp only [Std.Legacy.Range.size, Nat.sub_zero, Nat.add_sub_cancel, Nat.div_one]
    refine wpAny_forIn_list _
      (fun rest q s' => s' = s ∧ q = (none, ()) ∧ ∃ i, rest = List.range' i (es.size - i) ∧ i ≤ es.size ∧ gdIn m (l.drop i) = gdIn m l)
      _ ?_ ?_ _ _ ⟨rfl, rfl, 0, by simp, Nat.zero_le _, rfl⟩
    · rintro x rest q s' ⟨rfl, rfl, i, hr, hi, hpre⟩
      have hlt : i < es.size := by
        rcases Nat.lt_or_ge i es.size with h | h
        · exact h
        · rw [Nat.sub_eq_zero_of_le h] at hr; simp at hr
      obtain ⟨rfl, hrest⟩ : x = i ∧ rest = List.range' (i + 1) (es.size - (i + 1)) := by
        have e : es.size - i = (es.size - (i + 1)) + 1 := by omega
        rw [e, List.range'_succ] at hr
        injection hr with h1 h2
        exact ⟨h1, h2⟩
      refine wpAny_bind (wpAny_dictEntries hoa hda ?_)
      rw [Array.getElem?_eq_getElem hlt]
      have hlx : x < xs.length := by rw [hx.length, ← hla]; exact hlt
      obtain ⟨kk, hkk⟩ : ∃ kk, xs[x]? = some kk := ⟨xs[x], List.getElem?_eq_getElem hlx⟩
      obtain ⟨k, t, v⟩ := kk
      obtain ⟨r, hr1, hr2, hr3⟩ := hx.nth hkk
      dsimp only at hr1 hr2 hr3
      have hent : es[x] = entryOfKey (kindK prog w) (k, t, v) := by
        have e1 : es[x]? = some es[x] := Array.getElem?_eq_getElem hlt
        rw [entry_at hxa x, hkk] at e1
        exact (Option.some.inj e1).symm
      have hlt' : x < l.length := by rw [← hla]; exact hlt
      have hdrop : l.drop x = (k, r) :: l.drop (x + 1) := by
        rw [List.drop_eq_getElem_cons hlt']
        congr 1
        rw [List.getElem?_eq_getElem hlt'] at hr1
        exact Option.some.inj hr1
      rw [hdrop] at hpre
      rw [show gdIn m ((k, r) :: l.drop (x + 1)) = ((match look m k with | some y => decide (r = y) | none => false) && gdIn m (l.drop (x + 1))) from rfl] at hpre
      rw [hent]
      show wpAny _ _ (holding [Value.ref t, v] _ >>= _) _ _ _
      refine wpAny_bind (wpAny_holding (wpAny_bind (wpAny_dictFind_heap (knd := kindK prog w) (k := k) (xs := xs') (show A.units + 8 < cLine by omega) (hr2.mono hg) hob hdb hxe (hx'.is hg) (by rw [hx'.keys]; exact hnb) (fun hno => ?_) (fun j p hj => ?_))))
      · have hn : look m k = none := by
          rcases hx'.at k with ⟨a1, v1, r1, e1, _⟩ | ⟨_, e2⟩
          · rw [atKey_none_of_get hno] at e1; cases e1
          · exact e2
        rw [hn] at hpre
        dsimp only at hpre
        rw [Bool.false_and] at hpre
        rw [← hpre] at h
        refine wpAny_pure ?_
        show wpAny _ _ (if (!false) = true then _ else _) _ _ _
        rw [if_pos (by decide)]
        exact wpAny_pure (wpAny_pure h)
      · obtain ⟨y, hy1, hy2, hy3⟩ := hx'.nth hj
        dsimp only at hy1 hy2 hy3
        have hlk : look m k = some y := by
          have hat := at_idx (by rw [hx'.keys]; exact hnb) hj
          rcases hx'.at k with ⟨a1, v1, r1, e1, e2, e3⟩ | ⟨e1, _⟩
          · rw [hat] at e1
            cases e1
            have q := rd_fun (rd r1) (rd y) (by simp [rd, shp, shpL]) hg hg e3 hy3
            rw [eqD_rd] at q
            rw [e2, of_decide_eq_true q]
          · rw [hat] at e1; cases e1
        refine wpAny_bind (wpAny_dictEntries hob hdb ?_)
        rw [entry_at hxe j, hj]
        show wpAny _ _ (holding [p.2] (eqBool v p.2)) _ _ _
        have he := eqAt_dv (rd r) (rd y) (by simp [rd, shp, shpL]) (A := A) (s := s') hg hg hr3 hy3 (by simp only [rd, deepD, deepL]; omega)
        rw [eqD_rd] at he
        refine wpAny_holding (he prog w _ _ ?_)
        rw [hlk] at hpre
        dsimp only at hpre
        cases hq : decide (r = y) with
        | false =>
          rw [hq, Bool.false_and] at hpre
          rw [← hpre] at h
          show wpAny _ _ (if (!false) = true then _ else _) _ _ _
          rw [if_pos (by decide)]
          exact wpAny_pure (wpAny_pure h)
        | true =>
          rw [hq, Bool.true_and] at hpre
          show wpAny _ _ (if (!true) = true then _ else _) _ _ _
          rw [if_neg (by decide)]
          refine wpAny_bind (wpAny_dictEpoch hoa hda ?_)
          rw [if_neg (by simp)]
          exact wpAny_pure ⟨rfl, rfl, x + 1, hrest, hlt, hpre⟩
    · rintro q s' ⟨rfl, rfl, i, hr, hi, hpre⟩
      have hin : i = es.size := by
        rcases Nat.lt_or_ge i es.size with h | h
        · have e : es.size - i = (es.size - (i + 1)) + 1 := by omega
          rw [e, List.range'_succ] at hr; exact nomatch hr
        · exact Nat.le_antisymm hi h
      refine wpAny_pure ?_
      rw [hin, hla, List.drop_length] at hpre
      rw [← hpre] at h
      exact h

theorem rdE_fun {h : Heap} {g g' : G} (hg : Le g h.get?) (hg' : Le g' h.get?) : ∀ {es : List DictEntry} {l m : GD}, RdE g es l → RdE g' es m → l = m := by
  intro es
  induction es with
  | nil => intro l m h1 h2; cases h1; cases h2; rfl
  | cons e es ih =>
    intro l m h1 h2
    cases h1 with
    | @cons _ k r _ l a b c d =>
    cases h2 with
    | @cons _ k' r' _ m a' b' c' d' =>
      have e1 := rd_fun (kd k) (kd k') (shp_kd k k') hg hg' a a'
      have e2 := rd_fun (rd r) (rd r') (by simp [rd, shp, shpL]) hg hg' b b'
      rw [eqD_kd] at e1
      rw [eqD_rd] at e2
      rw [of_decide_eq_true e1, of_decide_eq_true e2, ih d d']
theorem gdIn_self {m : GD} (hn : (m.map (·.1)).Nodup) : ∀ l : GD, (∀ e ∈ l, e ∈ m) → gdIn m l = true := by
  intro l
  induction l with
  | nil => intro _; rfl
  | cons e r ih =>
    intro h
    have he : look m e.1 = some e.2 := by
      have := h e List.mem_cons_self
      clear ih h
      induction m with
      | nil => cases this
      | cons x m ih =>
        rw [List.map_cons, List.nodup_cons] at hn
        unfold look
        rw [List.find?_cons]
        by_cases q : x.1 = e.1
        · rw [decide_eq_true q]
          rcases List.mem_cons.mp this with q2 | q2
          · rw [q2]; rfl
          · exact absurd (List.mem_map.mpr ⟨e, q2, q.symm⟩) hn.1
        · rw [decide_eq_false q]
          rcases List.mem_cons.mp this with q2 | q2
          · exact absurd (by rw [q2]) q
          · exact ih hn.2 q2
    unfold gdIn
    rw [he]
    simp [ih fun e he => h e (List.mem_cons_of_mem _ he)]
theorem gdEq_self {l : GD} (hn : (l.map (·.1)).Nodup) : gdEq l l = true := by
  unfold gdEq
  rw [gdIn_self hn l fun _ h => h]
  simp

theorem rcAt_gd {a b : Addr} {l m : GD} {g : G} (hg : Le g s.heap.get?) (hu : A.units + 30 < cLine) (ia : IsK g s.heap a l) (ib : IsK g s.heap b m) : RcAt A s (.ref a) (.ref b) (gdEq l m) := fun prog w E Q h => by
  have da : s.TypeIs (.ref a) "dict" := ia.typ
  have db : s.TypeIs (.ref b) "dict" := ib.typ
  refine wpAny_richCompare_same_room (op := .Eq) da db PySem.F.slot_dict_eq (wpAny_call_entry PySem.F.slot_dict_eq da PySem.F.entry_dict_eq ?_ (PySem.F.args_dict_eq_2 _ _)) (by omega)
  show wpAny _ _ (Builtin.Dict.dictSlotArgs "__eq__" ⟨[.ref a, .ref b], []⟩ >>= _) _ _ s
  refine wpAny_bind ?_
  unfold Builtin.Dict.dictSlotArgs
  refine wpAny_bind (wpAny_notOrdered_dict da ?_)
  show wpAny _ _ (pure (Value.ref a, Value.ref b)) _ _ s
  refine wpAny_pure ?_
  refine wpAny_bind (wpAny_isInstance (T := "dict") db PySem.F.sub_dict_dict ?_)
  simp only [Bool.not_true, Bool.false_eq_true, if_false]
  refine wpAny_bind (wpAny_pure (wpAny_bind (wpAny_pure ?_)))
  refine wpAny_bind (samePairs_raw (A := A.in1) hg (by show A.units + 1 + 20 < cLine; omega) ia ib ?_)
  refine wpAny_pure ⟨_, rfl, ?_, ?_⟩
  · exact fun x => nomatch x
  · simpa using h
theorem eqAt_gd {v u : Value} {l m : GD} {g : G} (hg : Le g s.heap.get?) (hu : A.units + 30 < cLine) (r1 : Rd g v (.gd l)) (r2 : Rd g u (.gd m)) : EqAt A s v u (gdEq l m) := by
  cases r1 using Rd.gdE with
  | @gd a o es n a1 a2 a3 a4 a5 a6 =>
  cases r2 using Rd.gdE with
  | @gd b o' es' n' b1 b2 b3 b4 b5 b6 =>
  by_cases hab : a = b
  · subst hab
    rw [a1] at b1
    cases b1
    rw [a3] at b3
    cases b3
    have := rdE_fun hg hg a4 b4
    subst this
    rw [gdEq_self a6]
    exact EqAt.same _
  · exact EqAt.of_refs hab (rcAt_gd hg hu ⟨o, es, n, hg _ _ a1, a2, a3, a4, a6, a5⟩ ⟨o', es', n', hg _ _ b1, b2, b3, b4, b6, b5⟩)
end

section
variable {X : Stx} {A : Around}
theorem c_nePair {l1 l2 m1 m2 : GD} {P : DV → Prop} (hu : A.units + 40 < cLine) (h : P (.bool (!(gdEq l1 m1 && gdEq l2 m2)))) : Bin X A (compareOp .NotEq) (.tup [.gd l1, .gd l2]) (.tup [.gd m1, .gd m2]) P := fun {E Q g s v u} _ hg r1 r2 k => by
  cases r1 using Rd.tupE with
  | @tup a o its n a1 a2 a3 h1 =>
  cases r2 using Rd.tupE with
  | @tup b o' its' n' b1 b2 b3 h2 =>
  obtain ⟨its⟩ := its
  obtain ⟨its'⟩ := its'
  cases h1 with
  | @cons v1 _ _ _ x1 h1 =>
  cases h1 with
  | @cons v2 _ _ _ x2 h1 =>
  cases h1 using RdL.nilE
  cases h2 with
  | @cons u1 _ _ _ y1 h2 =>
  cases h2 with
  | @cons u2 _ _ _ y2 h2 =>
  cases h2 using RdL.nilE
  refine RcNeAt.tuples (e := fun j => if j = 0 then gdEq l1 m1 else gdEq l2 m2) ⟨_, hg _ _ a1, a2, _, a3⟩ ⟨_, hg _ _ b1, b2, _, b3⟩ (by omega) (fun j hj1 hj2 => ?_) X.prog X.w E Q ?_
  · match j, hj1, hj2 with
    | 0, _, _ => exact eqAt_gd hg (by show A.units + 1 + 30 < cLine; omega) x1 y1
    | 1, _, _ => exact eqAt_gd hg (by show A.units + 1 + 30 < cLine; omega) x2 y2
  · refine k _ _ s.toks (.bool _) ?_
    have e : ((List.range (min ([v1, v2] : List Value).toArray.size ([u1, u2] : List Value).toArray.size)).all (fun j => if j = 0 then gdEq l1 m1 else gdEq l2 m2) && ([v1, v2] : List Value).toArray.size == ([u1, u2] : List Value).toArray.size) = (gdEq l1 m1 && gdEq l2 m2) := by
      simp [List.range_succ]
    rw [e]
    exact h
end

end
section

open PySem PySem.W PySem.Calls PyProof.Rows PySem.SeqAt

noncomputable def stm (i : Nat) : Stmt := PySem.Challenge.pw_rh0030_01.main.body.getD i (.Pass ⟨0, 0, 0, 0⟩)
noncomputable def fnP (i : Nat) : Arguments := match stm i with | .FunctionDef _ a _ _ _ _ _ _ _ _ => a | _ => ⟨[], [], none, [], [], none, []⟩
noncomputable def fnB (i : Nat) : List Stmt := match stm i with | .FunctionDef _ _ b _ _ _ _ _ _ _ => b | _ => []
noncomputable def fnS (i : Nat) : Scope := match stm i with | .FunctionDef _ _ _ _ _ _ s _ _ _ => s | _ => default
noncomputable def localsIn : List (Str × NameKind) → List Str
  | [] => []
  | (x, .local) :: r | (x, .cell) :: r | (x, .free) :: r => x :: localsIn r
  | _ :: r => localsIn r
noncomputable def fnL (i : Nat) : List Str := localsIn (fnS i).names
noncomputable def argsIn : List Arg → List Str
  | [] => []
  | a :: r => a.arg :: argsIn r
noncomputable def fnA (i : Nat) : List Str := argsIn (fnP i).args

set_option genInjectivity false in
set_option genSizeOf false in
structure Prg (X : Stx) where
  wf : X.Wf
  abs : X.mg "abs" = none
  max : X.mg "max" = none
  len : X.mg "len" = none
  sorted : X.mg "sorted" = none
  tuple : X.mg "tuple" = none
  list : X.mg "list" = none
  dict : X.mg "dict" = none
  range : X.mg "range" = none
  R0 : Value
  hR0 : X.mg "R0" = some R0 ∧ Rd X.h0.get? R0 (rd (0, 1))
  R1 : Value
  hR1 : X.mg "R1" = some R1 ∧ Rd X.h0.get? R1 (rd (1, 1))
  STILL : Value
  hSTILL : X.mg "STILL" = some STILL ∧ Rd X.h0.get? STILL (kd ([], (0, 1), 0))
  MB : Value
  hMB : X.mg "MOST_BITS" = some MB ∧ Rd X.h0.get? MB (.int 200000)
  MT : Value
  hMT : X.mg "MOST_TURNS" = some MT ∧ Rd X.h0.get? MT (.int 200)
  MK : Value
  hMK : X.mg "MOST_KINDS" = some MK ∧ Rd X.h0.get? MK (.int 1000)
  gcd : Addr
  hgcd : DefAt X "gcd" gcd (fnP 3) (fnB 3) (fnS 3)
  rat : Addr
  hrat : DefAt X "rat" rat (fnP 9) (fnB 9) (fnS 9)
  radd : Addr
  hradd : DefAt X "radd" radd (fnP 10) (fnB 10) (fnS 10)
  rmul : Addr
  hrmul : DefAt X "rmul" rmul (fnP 11) (fnB 11) (fnS 11)
  rneg : Addr
  hrneg : DefAt X "rneg" rneg (fnP 12) (fnB 12) (fnS 12)
  rinv : Addr
  hrinv : DefAt X "rinv" rinv (fnP 13) (fnB 13) (fnS 13)
  rcompare : Addr
  hrcompare : DefAt X "rcompare" rcompare (fnP 15) (fnB 15) (fnS 15)
  bits_of : Addr
  hbits_of : DefAt X "bits_of" bits_of (fnP 4) (fnB 4) (fnS 4)
  rpower : Addr
  hrpower : DefAt X "rpower" rpower (fnP 14) (fnB 14) (fnS 14)
  ginsert : Addr
  hginsert : DefAt X "ginsert" ginsert (fnP 20) (fnB 20) (fnS 20)
  gadd : Addr
  hgadd : DefAt X "gadd" gadd (fnP 21) (fnB 21) (fnS 21)
  poly_sum : Addr
  hpoly_sum : DefAt X "poly_sum" poly_sum (fnP 22) (fnB 22) (fnS 22)
  kind_product : Addr
  hkind_product : DefAt X "kind_product" kind_product (fnP 23) (fnB 23) (fnS 23)
  gmul : Addr
  hgmul : DefAt X "gmul" gmul (fnP 24) (fnB 24) (fnS 24)
  kind_compare : Addr
  hkind_compare : DefAt X "kind_compare" kind_compare (fnP 25) (fnB 25) (fnS 25)
  fastest : Addr
  hfastest : DefAt X "fastest" fastest (fnP 26) (fnB 26) (fnS 26)
  gpower : Addr
  hgpower : DefAt X "gpower" gpower (fnP 28) (fnB 28) (fnS 28)
  gratio_power : Addr
  hgratio_power : DefAt X "gratio_power" gratio_power (fnP 29) (fnB 29) (fnS 29)
  growth_of : Addr
  hgrowth_of : DefAt X "growth_of" growth_of (fnP 31) (fnB 31) (fnS 31)
  growth_of_other : Addr
  hgrowth_of_other : DefAt X "growth_of_other" growth_of_other (fnP 32) (fnB 32) (fnS 32)
  far_limit : Addr
  hfar_limit : DefAt X "far_limit" far_limit (fnP 33) (fnB 33) (fnS 33)

/-- a global name of the module -/
theorem we_glP {C : Cx} {E : Value → Shared → Prop} {own : Own} {ρ : Locals} {X : Stx} {ns : List Str} {sc : Scope} {n : Nat} (I : C.Is X ns sc n) {x : Str} {pos : Pos} {v : Value} {d : DV} {P : DV → Prop} (hv : X.mg x = some v ∧ Rd X.h0.get? v d) (hk : sc.names.lookup x = some .globalImplicit) (h : P d) (h1 : (x == ("__debug__" : Str)) = false := by with_unfolding_all rfl) :
    WE C E own ρ (.Name x pos) P := we_gl I hk hv.1 hv.2 h h1
theorem ex_int {a : Int} {P : Int → Prop} (h : P a) : ∃ c, DV.int a = DV.int c ∧ P c := ⟨_, rfl, h⟩
theorem ex_int2 {a b : Int} {P : Int → Int → Prop} (h : P a b) : ∃ c d, [DV.int a, DV.int b] = [DV.int c, DV.int d] ∧ P c d := ⟨_, _, rfl, h⟩
theorem ex_bool {a : Bool} {P : Bool → Prop} (h : P a) : ∃ c, DV.bool a = DV.bool c ∧ P c := ⟨_, rfl, h⟩
theorem ex_two {a b : DV} {P : DV → DV → Prop} (h : P a b) : ∃ c d, [a, b] = [c, d] ∧ P c d := ⟨_, _, rfl, h⟩

end
section

open PySem PySem.W PySem.Calls PyProof.Rows PySem.SeqAt

noncomputable def clsB (i : Nat) : List Stmt := match stm i with | .ClassDef _ _ _ b _ _ _ _ _ _ _ => b | _ => []
noncomputable def ini : Stmt := (clsB 1).getD 0 (.Pass ⟨0, 0, 0, 0⟩)
noncomputable def iniB : List Stmt := match ini with | .FunctionDef _ _ b _ _ _ _ _ _ _ => b | _ => []
noncomputable def iniS : Scope := match ini with | .FunctionDef _ _ _ _ _ _ s _ _ _ => s | _ => default
noncomputable abbrev EB : List Value := [.type "Exception", .type "BaseException", .type "object"]

inductive CasObj (X : Stx) (cas init : Addr) : Prop
  | mk (nm q : Str) (N : Addr) (bs : List Value) (sn : List Str) (sub : List Value) (ab : Bool) (col : Option Bool) (dd : Option Addr) (k0 k1 k2 k3 k5 : Option Value) (mN : Str → Option Value)
    (hC : X.h0.get? cas = some (excClassObj nm q cas N bs EB true sn sub ab col dd k0 k1 k2 k3 k5 "Exception.__new__")) (hN : X.h0.Ns N mN) (hni : mN "__init__" = some (.ref init)) (hns : mN "__setattr__" = none) (hng : mN "__getattribute__" = none) (hnh : mN "__getattr__" = none) (hnk : mN "kind" = none) (hnt : mN "text" = none)
inductive CasFn (X : Stx) (init : Addr) : Prop
  | mk (o : Obj) (fd : FuncData) (h1 : X.h0.get? init = some o) (h2 : o.cls = .type "function") (h3 : o.data = .func fd) (h4 : fd.body = .stmts iniB) (h5 : fd.scope = iniS) (h6 : fd.closure = []) (h7 : fd.globals = mainGlobals) (h8 : fd.builtins = builtinsNs)
    (h9 : ∀ a b c : Value, bindArgs fd ⟨[a, b, c], []⟩ = pure [((Str.ofString "self"), a), ((Str.ofString "kind"), b), ((Str.ofString "text"), c)]) (h10 : X.h0.CodeRec fd.code fd.qualname)

set_option genInjectivity false in
set_option genSizeOf false in
structure Cas (X : Stx) where
  cas : Addr
  init : Addr
  at_ : X.mg "CasFail" = some (.ref cas)
  exc : X.mg "Exception" = none
  obj : CasObj X cas init
  fn : CasFn X init

noncomputable abbrev excObj (cas t : Addr) : Obj := { cls := .ref cas, data := .fields #[.ref t, .none, .none, .none, .bool false, .none] }

theorem lkKind : typeLookup (.type "Exception") "kind" = pure none := by rw [typeLookup_type, builtinLookup_eq_fast]; kernel_rfl
theorem lkText : typeLookup (.type "Exception") "text" = pure none := by rw [typeLookup_type, builtinLookup_eq_fast]; kernel_rfl

theorem meth_type {prog : Program} {w : World} {A : Around} {E : Value → Shared → Prop} {s : Shared} {pl : Sem Bool} {Q : Value × List Value → Shared → Prop} (h : Q (.builtin "Exception.__init__", []) { s with toks := s.toks + 1 }) :
    wpAny (model prog w) A (getMethod (.type "Exception") "__init__" pl) Q E s := by
  have X : Frag.In [] s.heap := fun a o e => by cases e
  have hstub : opaqueClassAbove (.type "Exception") = pure none := by unfold opaqueClassAbove; dsimp only; rw [show Manifest.isStub "Exception" = false by decide +kernel]; rfl
  have L0 : Looks (model prog w) s.heap (typeOf (.type "Exception")) (.type "type") := Looks.of_pure (by kernel_rfl)
  have hg : findIn [] (.type "type") "__getattribute__" = some (some (.builtin "type.__getattribute__")) := type_tga
  unfold getMethod specialOf
  refine wpAny_bind (wpAny_bind (L0.here ((looks_findIn X hg).here ?_)))
  dsimp only
  rw [if_pos canon_tga]
  refine wpAny_bind (wpAny_mono (Q := fun v => Q (v, [])) (E := E) ?_ (fun _ _ z => wpAny_pure z) fun _ _ z => z)
  have LO : Looks (model prog w) s.heap (opaqueClassAbove (.type "Exception")) none := Looks.of_pure hstub
  refine cls_open (r := .val (.builtin "Exception.__init__")) X LO L0 hg (looks_hook X (r := none) (by rfl)) (by show subIn [] _ _ = _; rfl) (by kernel_rfl)
    (wpAny_pure (by show wpAny _ _ (handedOut (.builtin "Exception.__init__")) _ _ _; rw [handedOut_of (by decide +kernel)]; exact wpAny_pure h))

theorem excInit {prog : Program} {w : World} {A : Around} {E : Value → Shared → Prop} {h : Heap} {g : Array GenState} {d : Drawn} {tk : Nat} {os : OsState} {nm q : Str} {C N e t : Addr} {bs : List Value} {sn : List Str} {sub : List Value} {ab : Bool} {col : Option Bool} {dd : Option Addr} {k0 k1 k2 k3 k5 : Option Value} {v : Value}
    (hC : h.get? C = some (excClassObj nm q C N bs EB true sn sub ab col dd k0 k1 k2 k3 k5 "Exception.__new__")) (he : h.get? e = some (excObj C t)) {Q : Value → Shared → Prop}
    (hq : ∀ h' t', (∀ b o, b ≠ e → h.get? b = some o → h'.get? b = some o) → h'.get? e = some (excObj C t') → Q .none ⟨h', g, d, tk, os⟩) :
    wpAny (model prog w) A (call (.builtin "Exception.__init__") [.ref e, v]) Q E ⟨h, g, d, tk, os⟩ := by
  have FB := F.excBase_Exception
  refine wpAny_call (codeAny_call_builtin FB.init.plain FB.initEntry (wpAny_check_init_sub FB hC he rfl ?_))
  wp_walk
  refine hq _ (h.objs.size) (fun b o hb e' => ?_) ?_
  · rw [Heap.get?_update_other _ _ (Ne.symm hb)]
    exact Heap.get?_push_of_some _ e'
  · rw [Heap.get?_update_self _ (Heap.get?_push_of_some _ he) rfl]
    rfl

end
section
open PySem PySem.W PySem.Calls PyProof.Rows PySem.SeqAt
theorem okW : PySem.Challenge.rw_rh0030_01.wellSaid = true := by
  unfold OpenLaw.wellSaid
  repeat' (with_reducible refine look_both ?_ ?_)
  all_goals first | (unfold OpenRow.wellSaid; repeat' (with_reducible refine look_both ?_ ?_)) | skip
  all_goals first | (unfold OpenRow.partSaid; repeat' (with_reducible refine look_both ?_ ?_)) | skip
  all_goals first | (unfold looksOpen; repeat' (with_reducible refine look_both ?_ ?_)) | skip
  all_goals decide +kernel
noncomputable def vq : Program := { PySem.Challenge.pw_rh0030_01 with main := { PySem.Challenge.pw_rh0030_01.main with body := [stm 1, stm 3, stm 4, stm 6, stm 7, stm 8, stm 9, stm 10, stm 11, stm 12, stm 13, stm 14, stm 15, stm 17, stm 18, stm 19, stm 20, stm 21, stm 22, stm 23, stm 24, stm 25, stm 26, stm 27, stm 28, stm 29, stm 30, stm 31, stm 32, stm 33, stm 35, stm 36, stm 37, stm 38, stm 39, stm 40, stm 41] } }
noncomputable abbrev still : List (Str × WData) := [(Str.ofString "STILL", WData.tuple [WData.tuple [], WData.tuple [WData.int 0, WData.int 1], WData.int 0])]
noncomputable def KK (P : Params) : Frag :=
  (nat_lit 2, { cls := .none, data := .dict #[{ hash := PyData.keyHash P (Str.ofString "type.__subclasses__.Exception.0"), key := .str (Str.ofString "type.__subclasses__.Exception.0") 216, val := .int 31 0 }, { hash := PyData.keyHash P (Str.ofString "type.__subclasses__.Exception.n"), key := .str (Str.ofString "type.__subclasses__.Exception.n") 217, val := .int 1 0 }] 2 }) ::
  (nat_lit 3, { cls := .type "dict", data := .dict #[{ hash := PyData.keyHash P (Str.ofString "__name__"), key := .str (Str.ofString "__name__") 165, val := .str (Str.ofString "law_rh0030_01") 437 }, { hash := PyData.keyHash P (Str.ofString "__doc__"), key := .str (Str.ofString "__doc__") 166, val := .none }, { hash := PyData.keyHash P (Str.ofString "__package__"), key := .str (Str.ofString "__package__") 167, val := .none }, { hash := PyData.keyHash P (Str.ofString "__loader__"), key := .str (Str.ofString "__loader__") 168, val := .builtin "__main__.__loader__#opaque" }, { hash := PyData.keyHash P (Str.ofString "__spec__"), key := .str (Str.ofString "__spec__") 169, val := .none }, { hash := PyData.keyHash P (Str.ofString "__annotations__"), key := .str (Str.ofString "__annotations__") 170, val := .ref 6 }, { hash := PyData.keyHash P (Str.ofString "__builtins__"), key := .str (Str.ofString "__builtins__") 171, val := .ref 4 }, { hash := PyData.keyHash P (Str.ofString "__file__"), key := .str (Str.ofString "__file__") 173, val := .str (Str.ofString "/claim/cut.py") 172 }, { hash := PyData.keyHash P (Str.ofString "__cached__"), key := .str (Str.ofString "__cached__") 174, val := .none }, { hash := PyData.keyHash P (Str.ofString "CasFail"), key := .str (Str.ofString "CasFail") 219, val := .ref 31 }, { hash := PyData.keyHash P (Str.ofString "gcd"), key := .str (Str.ofString "gcd") 229, val := .ref 41 }, { hash := PyData.keyHash P (Str.ofString "bits_of"), key := .str (Str.ofString "bits_of") 239, val := .ref 48 }, { hash := PyData.keyHash P (Str.ofString "R0"), key := .str (Str.ofString "R0") 244, val := .ref 49 }, { hash := PyData.keyHash P (Str.ofString "R1"), key := .str (Str.ofString "R1") 247, val := .ref 50 }, { hash := PyData.keyHash P (Str.ofString "MOST_BITS"), key := .str (Str.ofString "MOST_BITS") 249, val := .int 200000 248 }, { hash := PyData.keyHash P (Str.ofString "rat"), key := .str (Str.ofString "rat") 258, val := .ref 57 }, { hash := PyData.keyHash P (Str.ofString "radd"), key := .str (Str.ofString "radd") 266, val := .ref 64 }, { hash := PyData.keyHash P (Str.ofString "rmul"), key := .str (Str.ofString "rmul") 274, val := .ref 71 }, { hash := PyData.keyHash P (Str.ofString "rneg"), key := .str (Str.ofString "rneg") 281, val := .ref 78 }, { hash := PyData.keyHash P (Str.ofString "rinv"), key := .str (Str.ofString "rinv") 288, val := .ref 85 }, { hash := PyData.keyHash P (Str.ofString "rpower"), key := .str (Str.ofString "rpower") 297, val := .ref 92 }, { hash := PyData.keyHash P (Str.ofString "rcompare"), key := .str (Str.ofString "rcompare") 306, val := .ref 99 }, { hash := PyData.keyHash P (Str.ofString "STILL"), key := .str (Str.ofString "STILL") 310, val := .ref 101 }, { hash := PyData.keyHash P (Str.ofString "MOST_TURNS"), key := .str (Str.ofString "MOST_TURNS") 312, val := .int 200 311 }, { hash := PyData.keyHash P (Str.ofString "MOST_KINDS"), key := .str (Str.ofString "MOST_KINDS") 314, val := .int 1000 313 }, { hash := PyData.keyHash P (Str.ofString "ginsert"), key := .str (Str.ofString "ginsert") 324, val := .ref 108 }, { hash := PyData.keyHash P (Str.ofString "gadd"), key := .str (Str.ofString "gadd") 334, val := .ref 115 }, { hash := PyData.keyHash P (Str.ofString "poly_sum"), key := .str (Str.ofString "poly_sum") 340, val := .ref 120 }, { hash := PyData.keyHash P (Str.ofString "kind_product"), key := .str (Str.ofString "kind_product") 348, val := .ref 127 }, { hash := PyData.keyHash P (Str.ofString "gmul"), key := .str (Str.ofString "gmul") 359, val := .ref 134 }, { hash := PyData.keyHash P (Str.ofString "kind_compare"), key := .str (Str.ofString "kind_compare") 365, val := .ref 139 }, { hash := PyData.keyHash P (Str.ofString "fastest"), key := .str (Str.ofString "fastest") 374, val := .ref 146 }, { hash := PyData.keyHash P (Str.ofString "exponent_of"), key := .str (Str.ofString "exponent_of") 383, val := .ref 153 }, { hash := PyData.keyHash P (Str.ofString "gpower"), key := .str (Str.ofString "gpower") 389, val := .ref 158 }, { hash := PyData.keyHash P (Str.ofString "gratio_power"), key := .str (Str.ofString "gratio_power") 399, val := .ref 165 }, { hash := PyData.keyHash P (Str.ofString "groot"), key := .str (Str.ofString "groot") 405, val := .ref 170 }, { hash := PyData.keyHash P (Str.ofString "growth_of"), key := .str (Str.ofString "growth_of") 416, val := .ref 177 }, { hash := PyData.keyHash P (Str.ofString "growth_of_other"), key := .str (Str.ofString "growth_of_other") 425, val := .ref 184 }, { hash := PyData.keyHash P (Str.ofString "far_limit"), key := .str (Str.ofString "far_limit") 436, val := .ref 191 }, { hash := PyData.keyHash P (Str.ofString "_law_take"), key := .str (Str.ofString "_law_take") 446, val := .ref 198 }, { hash := PyData.keyHash P (Str.ofString "_law_mark"), key := .str (Str.ofString "_law_mark") 453, val := .ref 205 }, { hash := PyData.keyHash P (Str.ofString "_law_kind"), key := .str (Str.ofString "_law_kind") 459, val := .ref 210 }, { hash := PyData.keyHash P (Str.ofString "_law_refused"), key := .str (Str.ofString "_law_refused") 467, val := .ref 217 }, { hash := PyData.keyHash P (Str.ofString "_law_single_right"), key := .str (Str.ofString "_law_single_right") 488, val := .ref 224 }, { hash := PyData.keyHash P (Str.ofString "_law_sum_right"), key := .str (Str.ofString "_law_sum_right") 494, val := .ref 229 }, { hash := PyData.keyHash P (Str.ofString "law"), key := .str (Str.ofString "law") 503, val := .ref 236 }] 46 }) ::
  (nat_lit 27, { cls := .type "code", data := .fields #[.str (Str.ofString "__init__") 201, .str (Str.ofString "CasFail.__init__") 202, .str (Str.ofString "/claim/cut.py") 203, .int 4 0, .int 3 0, .int 0 0, .int 0 0, .int 3 0, .ref 22, .bool true, .int 181 0, .ref 23, .none, .ref 24, .ref 25, .ref 26, .int 207 0, .int 4 0, .str (Str.ofString "/claim/cut.py") 208] }) ::
  (nat_lit 28, { cls := .type "function", data := .func { name := Str.ofString "__init__", qualname := Str.ofString "CasFail.__init__", params := { posonlyargs := [], args := [{ arg := Str.ofString "self", annotation := none, pos := { line := 4, col := 17, endLine := 4, endCol := 21 } }, { arg := Str.ofString "kind", annotation := none, pos := { line := 4, col := 23, endLine := 4, endCol := 27 } }, { arg := Str.ofString "text", annotation := none, pos := { line := 4, col := 29, endLine := 4, endCol := 33 } }], vararg := none, kwonlyargs := [], kw_defaults := [], kwarg := none, defaults := [] }, body := .stmts iniB, scope := iniS, globals := 3, closure := [], defaults := .none, kwdefaults := .none, pyModule := .str (Str.ofString "cas.errors") 187, code := .ref 27 } }) ::
  (nat_lit 30, { cls := .type "dict", data := .dict #[{ hash := PyData.keyHash P (Str.ofString "__module__"), key := .str (Str.ofString "__module__") 196, val := .str (Str.ofString "cas.errors") 187 }, { hash := PyData.keyHash P (Str.ofString "__firstlineno__"), key := .str (Str.ofString "__firstlineno__") 200, val := .int 2 199 }, { hash := PyData.keyHash P (Str.ofString "__init__"), key := .str (Str.ofString "__init__") 209, val := .ref 28 }, { hash := PyData.keyHash P (Str.ofString "__static_attributes__"), key := .str (Str.ofString "__static_attributes__") 212, val := .ref 29 }, { hash := PyData.keyHash P (Str.ofString "__weakref__"), key := .str (Str.ofString "__weakref__") 214, val := .ref 32 }, { hash := PyData.keyHash P (Str.ofString "__doc__"), key := .str (Str.ofString "__doc__") 215, val := .none }] 3 }) ::
  (nat_lit 31, { cls := .type "type", data := .cls { name := Str.ofString "CasFail", bases := [.type "Exception"], mro := [.ref 31, .type "Exception", .type "BaseException", .type "object"], ns := 30, qualname := Str.ofString "CasFail" }, slots := #[some (.ref 15), none, some (.str (Str.ofString "CasFail") 189), some (.str (Str.ofString "CasFail") 197), some (.builtin "Exception.__new__"), some (.bool true)] }) ::
  (nat_lit 40, { cls := .type "code", data := .fields #[.str (Str.ofString "gcd") 222, .str (Str.ofString "gcd") 223, .str (Str.ofString "/claim/cut.py") 224, .int 9 0, .int 2 0, .int 0 0, .int 0 0, .int 3 0, .ref 35, .bool true, .int 181 0, .ref 36, .none, .ref 37, .ref 38, .ref 39, .int 227 0, .int 9 0, .str (Str.ofString "/claim/cut.py") 228] }) ::
  (nat_lit 41, { cls := .type "function", data := .func { name := Str.ofString "gcd", qualname := Str.ofString "gcd", params := fnP 3, body := .stmts (fnB 3), scope := fnS 3, globals := 3, closure := [], defaults := .none, kwdefaults := .none, pyModule := .str (Str.ofString "cas.ints") 220, code := .ref 40 } }) ::
  (nat_lit 47, { cls := .type "code", data := .fields #[.str (Str.ofString "bits_of") 230, .str (Str.ofString "bits_of") 231, .str (Str.ofString "/claim/cut.py") 232, .int 14 0, .int 1 0, .int 0 0, .int 0 0, .int 3 0, .ref 42, .bool true, .int 181 0, .ref 43, .none, .ref 44, .ref 45, .ref 46, .int 237 0, .int 14 0, .str (Str.ofString "/claim/cut.py") 238] }) ::
  (nat_lit 48, { cls := .type "function", data := .func { name := Str.ofString "bits_of", qualname := Str.ofString "bits_of", params := fnP 4, body := .stmts (fnB 4), scope := fnS 4, globals := 3, closure := [], defaults := .none, kwdefaults := .none, pyModule := .str (Str.ofString "cas.ints") 220, code := .ref 47 } }) ::
  (nat_lit 49, { cls := .type "tuple", data := .seq #[.int 0 242, .int 1 243] }) ::
  (nat_lit 50, { cls := .type "tuple", data := .seq #[.int 1 245, .int 1 246] }) ::
  (nat_lit 56, { cls := .type "code", data := .fields #[.str (Str.ofString "rat") 250, .str (Str.ofString "rat") 251, .str (Str.ofString "/claim/cut.py") 252, .int 25 0, .int 2 0, .int 0 0, .int 0 0, .int 3 0, .ref 51, .bool true, .int 181 0, .ref 52, .none, .ref 53, .ref 54, .ref 55, .int 256 0, .int 25 0, .str (Str.ofString "/claim/cut.py") 257] }) ::
  (nat_lit 57, { cls := .type "function", data := .func { name := Str.ofString "rat", qualname := Str.ofString "rat", params := fnP 9, body := .stmts (fnB 9), scope := fnS 9, globals := 3, closure := [], defaults := .none, kwdefaults := .none, pyModule := .str (Str.ofString "cas.rats") 240, code := .ref 56 } }) ::
  (nat_lit 63, { cls := .type "code", data := .fields #[.str (Str.ofString "radd") 259, .str (Str.ofString "radd") 260, .str (Str.ofString "/claim/cut.py") 261, .int 30 0, .int 2 0, .int 0 0, .int 0 0, .int 3 0, .ref 58, .bool true, .int 181 0, .ref 59, .none, .ref 60, .ref 61, .ref 62, .int 264 0, .int 30 0, .str (Str.ofString "/claim/cut.py") 265] }) ::
  (nat_lit 64, { cls := .type "function", data := .func { name := Str.ofString "radd", qualname := Str.ofString "radd", params := fnP 10, body := .stmts (fnB 10), scope := fnS 10, globals := 3, closure := [], defaults := .none, kwdefaults := .none, pyModule := .str (Str.ofString "cas.rats") 240, code := .ref 63 } }) ::
  (nat_lit 70, { cls := .type "code", data := .fields #[.str (Str.ofString "rmul") 267, .str (Str.ofString "rmul") 268, .str (Str.ofString "/claim/cut.py") 269, .int 32 0, .int 2 0, .int 0 0, .int 0 0, .int 3 0, .ref 65, .bool true, .int 181 0, .ref 66, .none, .ref 67, .ref 68, .ref 69, .int 272 0, .int 32 0, .str (Str.ofString "/claim/cut.py") 273] }) ::
  (nat_lit 71, { cls := .type "function", data := .func { name := Str.ofString "rmul", qualname := Str.ofString "rmul", params := fnP 11, body := .stmts (fnB 11), scope := fnS 11, globals := 3, closure := [], defaults := .none, kwdefaults := .none, pyModule := .str (Str.ofString "cas.rats") 240, code := .ref 70 } }) ::
  (nat_lit 77, { cls := .type "code", data := .fields #[.str (Str.ofString "rneg") 275, .str (Str.ofString "rneg") 276, .str (Str.ofString "/claim/cut.py") 277, .int 34 0, .int 1 0, .int 0 0, .int 0 0, .int 3 0, .ref 72, .bool true, .int 181 0, .ref 73, .none, .ref 74, .ref 75, .ref 76, .int 279 0, .int 34 0, .str (Str.ofString "/claim/cut.py") 280] }) ::
  (nat_lit 78, { cls := .type "function", data := .func { name := Str.ofString "rneg", qualname := Str.ofString "rneg", params := fnP 12, body := .stmts (fnB 12), scope := fnS 12, globals := 3, closure := [], defaults := .none, kwdefaults := .none, pyModule := .str (Str.ofString "cas.rats") 240, code := .ref 77 } }) ::
  (nat_lit 84, { cls := .type "code", data := .fields #[.str (Str.ofString "rinv") 282, .str (Str.ofString "rinv") 283, .str (Str.ofString "/claim/cut.py") 284, .int 36 0, .int 1 0, .int 0 0, .int 0 0, .int 3 0, .ref 79, .bool true, .int 181 0, .ref 80, .none, .ref 81, .ref 82, .ref 83, .int 286 0, .int 36 0, .str (Str.ofString "/claim/cut.py") 287] }) ::
  (nat_lit 85, { cls := .type "function", data := .func { name := Str.ofString "rinv", qualname := Str.ofString "rinv", params := fnP 13, body := .stmts (fnB 13), scope := fnS 13, globals := 3, closure := [], defaults := .none, kwdefaults := .none, pyModule := .str (Str.ofString "cas.rats") 240, code := .ref 84 } }) ::
  (nat_lit 91, { cls := .type "code", data := .fields #[.str (Str.ofString "rpower") 289, .str (Str.ofString "rpower") 290, .str (Str.ofString "/claim/cut.py") 291, .int 38 0, .int 2 0, .int 0 0, .int 0 0, .int 3 0, .ref 86, .bool true, .int 181 0, .ref 87, .none, .ref 88, .ref 89, .ref 90, .int 295 0, .int 38 0, .str (Str.ofString "/claim/cut.py") 296] }) ::
  (nat_lit 92, { cls := .type "function", data := .func { name := Str.ofString "rpower", qualname := Str.ofString "rpower", params := fnP 14, body := .stmts (fnB 14), scope := fnS 14, globals := 3, closure := [], defaults := .none, kwdefaults := .none, pyModule := .str (Str.ofString "cas.rats") 240, code := .ref 91 } }) ::
  (nat_lit 98, { cls := .type "code", data := .fields #[.str (Str.ofString "rcompare") 298, .str (Str.ofString "rcompare") 299, .str (Str.ofString "/claim/cut.py") 300, .int 45 0, .int 2 0, .int 0 0, .int 0 0, .int 3 0, .ref 93, .bool true, .int 181 0, .ref 94, .none, .ref 95, .ref 96, .ref 97, .int 304 0, .int 45 0, .str (Str.ofString "/claim/cut.py") 305] }) ::
  (nat_lit 99, { cls := .type "function", data := .func { name := Str.ofString "rcompare", qualname := Str.ofString "rcompare", params := fnP 15, body := .stmts (fnB 15), scope := fnS 15, globals := 3, closure := [], defaults := .none, kwdefaults := .none, pyModule := .str (Str.ofString "cas.rats") 240, code := .ref 98 } }) ::
  (nat_lit 100, { cls := .type "tuple", data := .seq #[] }) ::
  (nat_lit 101, { cls := .type "tuple", data := .seq #[.ref 100, .ref 49, .int 0 309] }) ::
  (nat_lit 107, { cls := .type "code", data := .fields #[.str (Str.ofString "ginsert") 315, .str (Str.ofString "ginsert") 316, .str (Str.ofString "/claim/cut.py") 317, .int 52 0, .int 3 0, .int 0 0, .int 0 0, .int 3 0, .ref 102, .bool true, .int 181 0, .ref 103, .none, .ref 104, .ref 105, .ref 106, .int 322 0, .int 52 0, .str (Str.ofString "/claim/cut.py") 323] }) ::
  (nat_lit 108, { cls := .type "function", data := .func { name := Str.ofString "ginsert", qualname := Str.ofString "ginsert", params := fnP 20, body := .stmts (fnB 20), scope := fnS 20, globals := 3, closure := [], defaults := .none, kwdefaults := .none, pyModule := .str (Str.ofString "cas.growth") 307, code := .ref 107 } }) ::
  (nat_lit 114, { cls := .type "code", data := .fields #[.str (Str.ofString "gadd") 325, .str (Str.ofString "gadd") 326, .str (Str.ofString "/claim/cut.py") 327, .int 58 0, .int 2 0, .int 0 0, .int 0 0, .int 3 0, .ref 109, .bool true, .int 181 0, .ref 110, .none, .ref 111, .ref 112, .ref 113, .int 332 0, .int 58 0, .str (Str.ofString "/claim/cut.py") 333] }) ::
  (nat_lit 115, { cls := .type "function", data := .func { name := Str.ofString "gadd", qualname := Str.ofString "gadd", params := fnP 21, body := .stmts (fnB 21), scope := fnS 21, globals := 3, closure := [], defaults := .none, kwdefaults := .none, pyModule := .str (Str.ofString "cas.growth") 307, code := .ref 114 } }) ::
  (nat_lit 119, { cls := .type "code", data := .fields #[.str (Str.ofString "poly_sum") 335, .str (Str.ofString "poly_sum") 336, .str (Str.ofString "/claim/cut.py") 337, .int 63 0, .int 2 0, .int 0 0, .int 0 0, .int 3 0, .ref 116, .bool true, .int 181 0, .ref 117, .none, .none, .none, .ref 118, .int 338 0, .int 63 0, .str (Str.ofString "/claim/cut.py") 339] }) ::
  (nat_lit 120, { cls := .type "function", data := .func { name := Str.ofString "poly_sum", qualname := Str.ofString "poly_sum", params := fnP 22, body := .stmts (fnB 22), scope := fnS 22, globals := 3, closure := [], defaults := .none, kwdefaults := .none, pyModule := .str (Str.ofString "cas.growth") 307, code := .ref 119 } }) ::
  (nat_lit 126, { cls := .type "code", data := .fields #[.str (Str.ofString "kind_product") 341, .str (Str.ofString "kind_product") 342, .str (Str.ofString "/claim/cut.py") 343, .int 68 0, .int 2 0, .int 0 0, .int 0 0, .int 3 0, .ref 121, .bool true, .int 181 0, .ref 122, .none, .ref 123, .ref 124, .ref 125, .int 346 0, .int 68 0, .str (Str.ofString "/claim/cut.py") 347] }) ::
  (nat_lit 127, { cls := .type "function", data := .func { name := Str.ofString "kind_product", qualname := Str.ofString "kind_product", params := fnP 23, body := .stmts (fnB 23), scope := fnS 23, globals := 3, closure := [], defaults := .none, kwdefaults := .none, pyModule := .str (Str.ofString "cas.growth") 307, code := .ref 126 } }) ::
  (nat_lit 133, { cls := .type "code", data := .fields #[.str (Str.ofString "gmul") 349, .str (Str.ofString "gmul") 350, .str (Str.ofString "/claim/cut.py") 351, .int 70 0, .int 2 0, .int 0 0, .int 0 0, .int 3 0, .ref 128, .bool true, .int 181 0, .ref 129, .none, .ref 130, .ref 131, .ref 132, .int 357 0, .int 70 0, .str (Str.ofString "/claim/cut.py") 358] }) ::
  (nat_lit 134, { cls := .type "function", data := .func { name := Str.ofString "gmul", qualname := Str.ofString "gmul", params := fnP 24, body := .stmts (fnB 24), scope := fnS 24, globals := 3, closure := [], defaults := .none, kwdefaults := .none, pyModule := .str (Str.ofString "cas.growth") 307, code := .ref 133 } }) ::
  (nat_lit 138, { cls := .type "code", data := .fields #[.str (Str.ofString "kind_compare") 360, .str (Str.ofString "kind_compare") 361, .str (Str.ofString "/claim/cut.py") 362, .int 78 0, .int 2 0, .int 0 0, .int 0 0, .int 3 0, .ref 135, .bool true, .int 181 0, .ref 136, .none, .none, .none, .ref 137, .int 363 0, .int 78 0, .str (Str.ofString "/claim/cut.py") 364] }) ::
  (nat_lit 139, { cls := .type "function", data := .func { name := Str.ofString "kind_compare", qualname := Str.ofString "kind_compare", params := fnP 25, body := .stmts (fnB 25), scope := fnS 25, globals := 3, closure := [], defaults := .none, kwdefaults := .none, pyModule := .str (Str.ofString "cas.growth") 307, code := .ref 138 } }) ::
  (nat_lit 145, { cls := .type "code", data := .fields #[.str (Str.ofString "fastest") 366, .str (Str.ofString "fastest") 367, .str (Str.ofString "/claim/cut.py") 368, .int 84 0, .int 1 0, .int 0 0, .int 0 0, .int 3 0, .ref 140, .bool true, .int 181 0, .ref 141, .none, .ref 142, .ref 143, .ref 144, .int 372 0, .int 84 0, .str (Str.ofString "/claim/cut.py") 373] }) ::
  (nat_lit 146, { cls := .type "function", data := .func { name := Str.ofString "fastest", qualname := Str.ofString "fastest", params := fnP 26, body := .stmts (fnB 26), scope := fnS 26, globals := 3, closure := [], defaults := .none, kwdefaults := .none, pyModule := .str (Str.ofString "cas.growth") 307, code := .ref 145 } }) ::
  (nat_lit 157, { cls := .type "code", data := .fields #[.str (Str.ofString "gpower") 384, .str (Str.ofString "gpower") 385, .str (Str.ofString "/claim/cut.py") 386, .int 97 0, .int 2 0, .int 0 0, .int 0 0, .int 3 0, .ref 154, .bool true, .int 181 0, .ref 155, .none, .none, .none, .ref 156, .int 387 0, .int 97 0, .str (Str.ofString "/claim/cut.py") 388] }) ::
  (nat_lit 158, { cls := .type "function", data := .func { name := Str.ofString "gpower", qualname := Str.ofString "gpower", params := fnP 28, body := .stmts (fnB 28), scope := fnS 28, globals := 3, closure := [], defaults := .none, kwdefaults := .none, pyModule := .str (Str.ofString "cas.growth") 307, code := .ref 157 } }) ::
  (nat_lit 164, { cls := .type "code", data := .fields #[.str (Str.ofString "gratio_power") 390, .str (Str.ofString "gratio_power") 391, .str (Str.ofString "/claim/cut.py") 392, .int 115 0, .int 2 0, .int 0 0, .int 0 0, .int 3 0, .ref 159, .bool true, .int 181 0, .ref 160, .none, .ref 161, .ref 162, .ref 163, .int 397 0, .int 115 0, .str (Str.ofString "/claim/cut.py") 398] }) ::
  (nat_lit 165, { cls := .type "function", data := .func { name := Str.ofString "gratio_power", qualname := Str.ofString "gratio_power", params := fnP 29, body := .stmts (fnB 29), scope := fnS 29, globals := 3, closure := [], defaults := .none, kwdefaults := .none, pyModule := .str (Str.ofString "cas.growth") 307, code := .ref 164 } }) ::
  (nat_lit 176, { cls := .type "code", data := .fields #[.str (Str.ofString "growth_of") 406, .str (Str.ofString "growth_of") 407, .str (Str.ofString "/claim/cut.py") 408, .int 131 0, .int 2 0, .int 0 0, .int 0 0, .int 3 0, .ref 171, .bool true, .int 181 0, .ref 172, .none, .ref 173, .ref 174, .ref 175, .int 414 0, .int 131 0, .str (Str.ofString "/claim/cut.py") 415] }) ::
  (nat_lit 177, { cls := .type "function", data := .func { name := Str.ofString "growth_of", qualname := Str.ofString "growth_of", params := fnP 31, body := .stmts (fnB 31), scope := fnS 31, globals := 3, closure := [], defaults := .none, kwdefaults := .none, pyModule := .str (Str.ofString "cas.growth") 307, code := .ref 176 } }) ::
  (nat_lit 183, { cls := .type "code", data := .fields #[.str (Str.ofString "growth_of_other") 417, .str (Str.ofString "growth_of_other") 418, .str (Str.ofString "/claim/cut.py") 419, .int 149 0, .int 2 0, .int 0 0, .int 0 0, .int 3 0, .ref 178, .bool true, .int 181 0, .ref 179, .none, .ref 180, .ref 181, .ref 182, .int 423 0, .int 149 0, .str (Str.ofString "/claim/cut.py") 424] }) ::
  (nat_lit 184, { cls := .type "function", data := .func { name := Str.ofString "growth_of_other", qualname := Str.ofString "growth_of_other", params := fnP 32, body := .stmts (fnB 32), scope := fnS 32, globals := 3, closure := [], defaults := .none, kwdefaults := .none, pyModule := .str (Str.ofString "cas.growth") 307, code := .ref 183 } }) ::
  (nat_lit 190, { cls := .type "code", data := .fields #[.str (Str.ofString "far_limit") 426, .str (Str.ofString "far_limit") 427, .str (Str.ofString "/claim/cut.py") 428, .int 164 0, .int 1 0, .int 0 0, .int 0 0, .int 3 0, .ref 185, .bool true, .int 181 0, .ref 186, .none, .ref 187, .ref 188, .ref 189, .int 434 0, .int 164 0, .str (Str.ofString "/claim/cut.py") 435] }) ::
  (nat_lit 191, { cls := .type "function", data := .func { name := Str.ofString "far_limit", qualname := Str.ofString "far_limit", params := fnP 33, body := .stmts (fnB 33), scope := fnS 33, globals := 3, closure := [], defaults := .none, kwdefaults := .none, pyModule := .str (Str.ofString "cas.growth") 307, code := .ref 190 } }) ::
  (nat_lit 197, { cls := .type "code", data := .fields #[.str (Str.ofString "_law_take") 439, .str (Str.ofString "_law_take") 440, .str (Str.ofString "/claim/cut.py") 441, .int 178 0, .int 2 0, .int 0 0, .int 0 0, .int 3 0, .ref 192, .bool true, .int 181 0, .ref 193, .none, .ref 194, .ref 195, .ref 196, .int 444 0, .int 178 0, .str (Str.ofString "/claim/cut.py") 445] }) ::
  (nat_lit 198, { cls := .type "function", data := .func { name := Str.ofString "_law_take", qualname := Str.ofString "_law_take", params := fnP 35, body := .stmts (fnB 35), scope := fnS 35, globals := 3, closure := [], defaults := .none, kwdefaults := .none, pyModule := .str (Str.ofString "law_rh0030_01") 437, code := .ref 197 } }) ::
  (nat_lit 204, { cls := .type "code", data := .fields #[.str (Str.ofString "_law_mark") 447, .str (Str.ofString "_law_mark") 448, .str (Str.ofString "/claim/cut.py") 449, .int 183 0, .int 1 0, .int 0 0, .int 0 0, .int 3 0, .ref 199, .bool true, .int 181 0, .ref 200, .none, .ref 201, .ref 202, .ref 203, .int 451 0, .int 183 0, .str (Str.ofString "/claim/cut.py") 452] }) ::
  (nat_lit 205, { cls := .type "function", data := .func { name := Str.ofString "_law_mark", qualname := Str.ofString "_law_mark", params := fnP 36, body := .stmts (fnB 36), scope := fnS 36, globals := 3, closure := [], defaults := .none, kwdefaults := .none, pyModule := .str (Str.ofString "law_rh0030_01") 437, code := .ref 204 } }) ::
  (nat_lit 209, { cls := .type "code", data := .fields #[.str (Str.ofString "_law_kind") 454, .str (Str.ofString "_law_kind") 455, .str (Str.ofString "/claim/cut.py") 456, .int 185 0, .int 2 0, .int 0 0, .int 0 0, .int 3 0, .ref 206, .bool true, .int 181 0, .ref 207, .none, .none, .none, .ref 208, .int 457 0, .int 185 0, .str (Str.ofString "/claim/cut.py") 458] }) ::
  (nat_lit 210, { cls := .type "function", data := .func { name := Str.ofString "_law_kind", qualname := Str.ofString "_law_kind", params := fnP 37, body := .stmts (fnB 37), scope := fnS 37, globals := 3, closure := [], defaults := .none, kwdefaults := .none, pyModule := .str (Str.ofString "law_rh0030_01") 437, code := .ref 209 } }) ::
  (nat_lit 216, { cls := .type "code", data := .fields #[.str (Str.ofString "_law_refused") 460, .str (Str.ofString "_law_refused") 461, .str (Str.ofString "/claim/cut.py") 462, .int 189 0, .int 1 0, .int 0 0, .int 0 0, .int 3 0, .ref 211, .bool true, .int 181 0, .ref 212, .none, .ref 213, .ref 214, .ref 215, .int 465 0, .int 189 0, .str (Str.ofString "/claim/cut.py") 466] }) ::
  (nat_lit 217, { cls := .type "function", data := .func { name := Str.ofString "_law_refused", qualname := Str.ofString "_law_refused", params := fnP 38, body := .stmts (fnB 38), scope := fnS 38, globals := 3, closure := [], defaults := .none, kwdefaults := .none, pyModule := .str (Str.ofString "law_rh0030_01") 437, code := .ref 216 } }) ::
  (nat_lit 223, { cls := .type "code", data := .fields #[.str (Str.ofString "_law_single_right") 468, .str (Str.ofString "_law_single_right") 469, .str (Str.ofString "/claim/cut.py") 470, .int 195 0, .int 2 0, .int 0 0, .int 0 0, .int 3 0, .ref 218, .bool true, .int 181 0, .ref 219, .none, .ref 220, .ref 221, .ref 222, .int 486 0, .int 195 0, .str (Str.ofString "/claim/cut.py") 487] }) ::
  (nat_lit 224, { cls := .type "function", data := .func { name := Str.ofString "_law_single_right", qualname := Str.ofString "_law_single_right", params := fnP 39, body := .stmts (fnB 39), scope := fnS 39, globals := 3, closure := [], defaults := .none, kwdefaults := .none, pyModule := .str (Str.ofString "law_rh0030_01") 437, code := .ref 223 } }) ::
  (nat_lit 228, { cls := .type "code", data := .fields #[.str (Str.ofString "_law_sum_right") 489, .str (Str.ofString "_law_sum_right") 490, .str (Str.ofString "/claim/cut.py") 491, .int 211 0, .int 2 0, .int 0 0, .int 0 0, .int 3 0, .ref 225, .bool true, .int 181 0, .ref 226, .none, .none, .none, .ref 227, .int 492 0, .int 211 0, .str (Str.ofString "/claim/cut.py") 493] }) ::
  (nat_lit 229, { cls := .type "function", data := .func { name := Str.ofString "_law_sum_right", qualname := Str.ofString "_law_sum_right", params := fnP 40, body := .stmts (fnB 40), scope := fnS 40, globals := 3, closure := [], defaults := .none, kwdefaults := .none, pyModule := .str (Str.ofString "law_rh0030_01") 437, code := .ref 228 } }) ::
  (nat_lit 235, { cls := .type "code", data := .fields #[.str (Str.ofString "law") 495, .str (Str.ofString "law") 496, .str (Str.ofString "/claim/cut.py") 497, .int 233 0, .int 1 0, .int 0 0, .int 0 0, .int 3 0, .ref 230, .bool true, .int 181 0, .ref 231, .none, .ref 232, .ref 233, .ref 234, .int 501 0, .int 233 0, .str (Str.ofString "/claim/cut.py") 502] }) ::
  (nat_lit 236, { cls := .type "function", data := .func { name := Str.ofString "law", qualname := Str.ofString "law", params := fnP 41, body := .stmts (fnB 41), scope := fnS 41, globals := 3, closure := [], defaults := .none, kwdefaults := .none, pyModule := .str (Str.ofString "law_rh0030_01") 437, code := .ref 235 } }) :: []
noncomputable abbrev KA : List Addr := [2, 3, 27, 28, 30, 31, 40, 41, 47, 48, 49, 50, 56, 57, 63, 64, 70, 71, 77, 78, 84, 85, 91, 92, 98, 99, 100, 101, 107, 108, 114, 115, 119, 120, 126, 127, 133, 134, 138, 139, 145, 146, 157, 158, 164, 165, 176, 177, 183, 184, 190, 191, 197, 198, 204, 205, 209, 210, 216, 217, 223, 224, 228, 229, 235, 236]


theorem hlX : LeftO PySem.Challenge.rw_rh0030_01.row.prog vq [Str.ofString "STILL"] (fun s => xlAt vq still s && recOk (RowW.records PySem.Challenge.rw_rh0030_01.row.toRowW) s) (kmHook KK KA (fun _ => by kernel_rfl) [226, 219]).obs (kmHook KK KA (fun _ => by kernel_rfl) [226, 219]).val 2628 := by
  intro w; kernel_rfl
end
section

open PySem PySem.W PySem.Calls PyProof.Rows PySem.SeqAt Builtin Builtin.ObjectAttr

section
variable {prog : Program} {w : World} {A : Around} {E : Value → Shared → Prop} {h : Heap} {g : Array GenState} {d : Drawn} {tk : Nat} {os : OsState} {nm q : Str} {C N e t : Addr} {bs : List Value} {sn : List Str} {sub : List Value} {ab : Bool} {col : Option Bool} {dd : Option Addr} {k0 k1 k2 k3 k5 : Option Value} {v : Value} {mN : Str → Option Value} {name : Str}

theorem first_entry {tk' : Tok} {o : Obj} {vs : Array Value} {Q : Fin → Shared → Prop} (hC : h.get? C = some (excClassObj nm q C N bs EB true sn sub ab col dd k0 k1 k2 k3 k5 "Exception.__new__")) (hn : h.Ns N mN) (hna : mN name = none)
    (hB : typeLookup (.type "Exception") name = pure none) (hx : h.get? e = some o) (hc : o.cls = .ref C) (hdn : o.dict = none) (hdat : o.data = .fields vs)
    (hq : ∀ h' tk2, h'.get? e = some { o with dict := some h.objs.size } → h'.Ns1 h.objs.size (fun y => if y = name then some v else none) → (∀ b o, b ≠ e → h.get? b = some o → h'.get? b = some o) → Q (.done (.ret .none)) ⟨h', g, d, tk2, os⟩) :
    wpAny (model prog w) A (Builtin.«object.__setattr__» ⟨[.ref e, .str name tk', v], []⟩) Q E ⟨h, g, d, tk, os⟩ := by
  have SF := F.store_Exception
  have hpass := SF.passes (.ref e)
  unfold Builtin.«object.__setattr__»
  repeat (first | rw [refuse_eq] | (rw [refuseLoop_ref, hpass]) | (with_reducible refine wpAny_loadPart_at hx ?_; rw [hc]) | with_reducible refine wpAny_mroOf_exc hC ?_ | (with_reducible refine wpAny_typeLookup_exc hC hn SF.mro hB ?_; rw [hna]) | wp_step)
  rw [hdn, if_neg (by simp [typeHasDict])]
  split
  · rename_i hcd
    cases hcd
  split
  · rename_i c hcd
    rw [hdat] at hcd; cases hcd
  have hx1 : (h.push { cls := .type "dict", data := .dict #[] }).get? e = some o := Heap.get?_push_of_some _ hx
  have hne : e ≠ h.objs.size := Nat.ne_of_lt (Heap.lt_size hx)
  refine wpAny_bind (wpAny_alloc' ?_)
  refine wpAny_bind (wpAny_update' hx1 ?_)
  refine wpAny_pure ?_
  have hgd : ((h.push { cls := .type "dict", data := .dict #[] }).update e fun o => { cls := o.cls, dict := some h.objs.size, data := o.data, slots := o.slots }).get? h.objs.size = some { cls := .type "dict", data := .dict #[] } :=
    (Heap.get?_update_ne _ _ _ _ hne.symm).trans (Heap.get?_push_at rfl rfl)
  have hnd : ((h.push { cls := .type "dict", data := .dict #[] }).update e fun o => { cls := o.cls, dict := some h.objs.size, data := o.data, slots := o.slots }).Ns h.objs.size (fun _ => none) :=
    ⟨_, #[], _, hgd, rfl, fun e he => absurd he (by simp), fun _ => rfl⟩
  show wpAny _ _ (storeInDict h.objs.size (.str name tk') name v) _ _ _
  unfold storeInDict newKeyGuard
  refine wpAny_bind (wpAny_pure (wpAny_bind (wpAny_nsSet1 (Heap.Ns1.of_empty hnd) fun h' hn' hs => ?_)))
  obtain ⟨oD, esD, epD, hoD, hdD, hcD⟩ := hn'.count (Within.cons name v Within.nil)
  refine wpAny_bind (wpAny_lookBehind hoD (by rw [hdD]; exact pastItsLine_dict (Nat.le_trans hcD (by rw [List.length_cons, List.length_nil, sizeLine_eq]; omega))) ?_)
  wp_walk
  refine hq h' _ ?_ hn' fun b o hbe hb => ?_
  · refine (hs.2 e hne).trans (Heap.get?_update_self _ hx1 ?_)
    have hfr := (Heap.get?_some_iff.mp hx).2
    obtain ⟨oc, od, odt, osl⟩ := o
    cases odt <;> first | rfl | exact hfr
  · exact (hs.2 b (Nat.ne_of_lt (Heap.lt_size hb))).trans ((Heap.get?_update_ne _ _ _ _ hbe).trans (Heap.get?_push_of_some _ hb))

theorem first_call {sa owner : String} {tk' : Tok} {o : Obj} {vs : Array Value} {R : Result → Shared → Prop} (SF : StoreFacts "Exception" EB sa owner) (hC : h.get? C = some (excClassObj nm q C N bs EB true sn sub ab col dd k0 k1 k2 k3 k5 "Exception.__new__")) (hn : h.Ns N mN) (hna : mN name = none)
    (hB : typeLookup (.type "Exception") name = pure none) (hx : h.get? e = some o) (hc : o.cls = .ref C) (hdn : o.dict = none) (hdat : o.data = .fields vs)
    (hq : ∀ h' tk2, h'.get? e = some { o with dict := some h.objs.size } → h'.Ns1 h.objs.size (fun y => if y = name then some v else none) → (∀ b o, b ≠ e → h.get? b = some o → h'.get? b = some o) → R (.ok (.ret .none)) ⟨h', g, d, tk2, os⟩) :
    codeAny (model prog w) A (.call (.builtin sa) ⟨[.ref e, .str name tk', v], []⟩) R ⟨h, g, d, tk, os⟩ :=
  codeAny_call_builtin SF.slot.plain SF.entry (wpAny_check_sa SF hC hx hc (first_entry hC hn hna hB hx hc hdn hdat hq))

/-- the first member of a new exception -/
theorem first_attr {sa owner : String} {o : Obj} {vs : Array Value} {Q : Unit → Shared → Prop} (SF : StoreFacts "Exception" EB sa owner) (hC : h.get? C = some (excClassObj nm q C N bs EB true sn sub ab col dd k0 k1 k2 k3 k5 "Exception.__new__")) (hn : h.Ns N mN) (hns : mN "__setattr__" = none) (hna : mN name = none)
    (hB : typeLookup (.type "Exception") name = pure none) (hx : h.get? e = some o) (hc : o.cls = .ref C) (hdn : o.dict = none) (hdat : o.data = .fields vs)
    (hq : ∀ h' tk2, h'.get? e = some { o with dict := some h.objs.size } → h'.Ns1 h.objs.size (fun y => if y = name then some v else none) → (∀ b o, b ≠ e → h.get? b = some o → h'.get? b = some o) → Q () ⟨h', g, d, tk2, os⟩) :
    wpAny (model prog w) A (setAttr (.ref e) name v) Q E ⟨h, g, d, tk, os⟩ := by
  have f3 := SF.slot.bind (.ref e)
  unfold setAttr callSpecial? specialOf
  repeat (any_goals (first | assumption | (with_reducible refine wpAny_loadPart_at hx ?_; rw [hc]) | (with_reducible refine wpAny_typeLookup_exc hC hn SF.mro SF.slot.lookup ?_; rw [hns]) | wp_step))
  refine first_call SF hC hn hna hB hx hc hdn hdat fun h' tk2 a1 a2 a3 => ?_
  repeat (any_goals (first | assumption | wp_step))
  exact hq h' _ a1 a2 a3
end

theorem ini_self : iniS.names.lookup (Str.ofString "self") = some .local := rfl
theorem ini_kind : iniS.names.lookup (Str.ofString "kind") = some .local := rfl
theorem ini_text : iniS.names.lookup (Str.ofString "text") = some .local := rfl
theorem ini_exc : iniS.names.lookup (Str.ofString "Exception") = some .globalImplicit := rfl
set_option maxHeartbeats 2000000 in
theorem ini_run {X : Stx} (hw : X.Wf) (K : Cas X) {A : Around} {h : Heap} {g : Array GenState} {d : Drawn} {tk : Nat} {os : OsState} {e t : Addr} {k x : Str} {t1 t2 : Tok} {R : Result → Shared → Prop}
    (hroom : A.depth < recursionLimit) (stat : ∀ b o, X.h0.get? b = some o → h.get? b = some o) (he : h.get? e = some (excObj K.cas t)) (hen : X.h0.get? e = none) (hk : k.length ≤ 100) (hx : x.length ≤ 100)
    (hq : ∀ h' tk' oe t' D oD, (∀ b o, b ≠ e → h.get? b = some o → h'.get? b = some o) → h'.get? e = some oe → oe.cls = .ref K.cas → oe.data = .fields #[.ref t', .none, .none, .none, .bool false, .none] → oe.dict = some D → D ≠ e → h.get? D = none → h'.get? D = some oD → KindIs D oD k → R (.ok (.ret .none)) ⟨h', g, d, tk', os⟩) :
    codeAny (model X.prog X.w) A (.call (.ref K.init) ⟨[.ref e, .str k t1, .str x t2], []⟩) R ⟨h, g, d, tk, os⟩ := by
  obtain ⟨oi, fd, hi, hic, hid, fb, fs, fc, fg, fbu, fbd, fcr⟩ := K.fn
  obtain ⟨nm, q, N, bs, sn, sub, ab, col, dd, k0, k1, k2, k3, k5, mN, hC, hN, hni, hns, hng, hnh, hnk, hnt⟩ := K.obj
  refine codeAny_call_cells (s := ⟨h, g, d, tk, os⟩) (body := iniB) hroom (stat _ _ hi) hid (hw.nolimit.keeps stat) (fcr.keeps stat) fb (fbd _ _ _) fc (fun y hy => .inl ?_) (fun s1 F => ?_) (by rw [fs]; rfl) (by rw [fs]; rfl) (by rw [fs]; rfl)
  · rw [fs]
    simp only [List.mem_cons, List.not_mem_nil, or_false] at hy
    rcases hy with rfl | rfl | rfl <;> rfl
  obtain ⟨h1, tk1, rfl, keep⟩ := F.done
  have hns0 := F.toInCall.ns
  obtain ⟨env, henv⟩ : ∃ env, env = callEnvC fd h.objs.size K.init := ⟨_, rfl⟩
  have ek : env.scope = iniS := by rw [henv]; exact fs
  have eg : env.globals = mainGlobals := by rw [henv]; exact fg
  have eb : env.builtins = builtinsNs := by rw [henv]; exact fbu
  have ekind : env.scope.kind = .function := by rw [ek]; rfl
  have lk : ∀ y kk, iniS.names.lookup y = some kk → env.kindOf y = some kk := fun y kk hy => by show env.scope.names.lookup y = _; rw [ek]; exact hy
  have eint : interactive env = false := by unfold interactive; rw [ekind]; rfl
  obtain ⟨m, hns1, hm1, hm2, hm3⟩ : ∃ m, h1.Ns env.locals m ∧ m "self" = some (.ref e) ∧ m "kind" = some (.str k t1) ∧ m "text" = some (.str x t2) := by
    rw [← henv] at hns0
    have nd : [Str.ofString "self", Str.ofString "kind", Str.ofString "text"].Nodup := by decide
    have bb : ∀ {i : Nat} {y : Str} {v : Value}, [Str.ofString "self", Str.ofString "kind", Str.ofString "text"][i]? = some y → [Value.ref e, .str k t1, .str x t2][i]? = some v → env.kindOf y = some .local → _ :=
      fun {i y v} p1 p2 p3 => (bind_at env.kindOf (pn := [Str.ofString "self", Str.ofString "kind", Str.ofString "text"]) (vs := [Value.ref e, .str k t1, .str x t2]) (fun _ => none) (fun _ => none) nd p1 p2).1 p3
    exact ⟨_, hns0, bb (i := 0) rfl rfl (lk _ _ ini_self), bb (i := 1) rfl rfl (lk _ _ ini_kind), bb (i := 2) rfl rfl (lk _ _ ini_text)⟩
  rw [← henv]
  dsimp only
  have stat1 : ∀ b o, X.h0.get? b = some o → h1.get? b = some o := fun b o q => keep b o (stat b o q)
  have hLe : env.locals ≠ e := by
    intro q
    have : h.get? env.locals = none := by rw [henv]; exact fresh_none _
    rw [q, he] at this; cases this
  have hL0 : X.h0.get? env.locals = none := by
    cases q : X.h0.get? env.locals with
    | none => rfl
    | some o => have := stat _ _ q; rw [henv, show (callEnvC fd h.objs.size K.init).locals = h.objs.size from rfl, fresh_none] at this; cases this
  show wpAny _ _ (execs iniB env) _ _ _
  conv => arg 3; arg 1; whnf
  refine wpAny_execs_cons (wpAny_Expr (methodCall_KW ?_) eint)
  refine Name_function_global ekind (lk _ _ ini_exc) (loadGlobal_builtin (eg ▸ hw.g.keeps stat1) K.exc (eb ▸ hw.b.keeps stat1) ((hw.bi _ (by decide)).trans (show bootBuiltins "Exception" = some (.type "Exception") by kernel_rfl)) ?_) (by decide)
  refine meth_type ?_
  dsimp only
  refine callWith_builtin1 (spliced_more ?_ rfl) rfl rfl
  refine wpAny_Name (wpAny_loadName_local ekind (lk _ _ ini_self) hns1 hm1 ?_) (by decide)
  refine spliced_more (wpAny_BinOp (wpAny_BinOp ?_))
  refine wpAny_Name (wpAny_loadName_local ekind (lk _ _ ini_kind) hns1 hm2 ?_) (by decide)
  refine Constant_str ?_
  refine SB.add (fun t3 kk => ?_) (by rw [sizeLine_eq]; have : (Str.ofString ": ").length = 2 := (by decide); omega)
  refine wpAny_Name (wpAny_loadName_local ekind (lk _ _ ini_text) hns1 hm3 ?_) (by decide)
  refine SB.add (fun t4 kk2 => ?_) (by rw [sizeLine_eq, Str.length_append]; have : (Str.ofString ": ").length = 2 := (by decide); omega)
  refine spliced_none ?_
  obtain ⟨oC, hC'⟩ : ∃ o, o = excClassObj nm q K.cas N bs EB true sn sub ab col dd k0 k1 k2 k3 k5 "Exception.__new__" := ⟨_, rfl⟩
  refine excInit (stat1 _ _ hC) (keep _ _ he) fun h2 t5 keep2 he2 => ?_
  have stat2 : ∀ b o, X.h0.get? b = some o → h2.get? b = some o := fun b o q => keep2 b o (fun hb => by rw [hb, hen] at q; cases q) (stat1 b o q)
  have hns2 : h2.Ns env.locals m := ns_upTo hns1 fun o ho => ⟨o.slots, keep2 _ _ hLe ho⟩
  refine wpAny_execs_cons (plainObj_wpAny_Assign_Attribute ?_)
  refine wpAny_Name (wpAny_loadName_local ekind (lk _ _ ini_kind) hns2 hm2 ?_) (by decide)
  refine wpAny_Name (wpAny_loadName_local ekind (lk _ _ ini_self) hns2 hm1 ?_) (by decide)
  have SF := PySem.F.store_Exception
  refine first_attr SF (stat2 _ _ hC) (hN.keeps stat2) hns hnk lkKind he2 rfl rfl rfl fun h3 t6 he3 hD3 keep3 => ?_
  have keepT : ∀ b o, b ≠ e → h.get? b = some o → h2.get? b = some o := fun b o hb q => keep2 b o hb (keep b o q)
  have stat3 : ∀ b o, X.h0.get? b = some o → h3.get? b = some o := fun b o q => keep3 b o (fun hb => by rw [hb, hen] at q; cases q) (stat2 b o q)
  have hns3 : h3.Ns env.locals m := ns_upTo hns2 fun o ho => ⟨o.slots, keep3 _ _ hLe ho⟩
  have hDe : h2.objs.size ≠ e := fun q => by rw [← q, fresh_none] at he2; cases he2
  have hDn : ∀ b o, h2.get? b = some o → b ≠ h2.objs.size := fun b o q w => by rw [w, fresh_none] at q; cases q
  refine wpAny_execs_cons (plainObj_wpAny_Assign_Attribute ?_)
  refine wpAny_Name (wpAny_loadName_local ekind (lk _ _ ini_text) hns3 hm3 ?_) (by decide)
  refine wpAny_Name (wpAny_loadName_local ekind (lk _ _ ini_self) hns3 hm1 ?_) (by decide)
  have hxC : e ≠ K.cas := fun q => by rw [q, hC] at hen; cases hen
  refine store_attr (mA := fun y => if y = Str.ofString "kind" then some (.str k t1) else none) SF (stat3 _ _ hC) (hN.keeps stat3) hns hnt lkText hxC ⟨_, he3, rfl, (fun c q => nomatch q), .inr ⟨_, rfl, hDe, hD3⟩⟩ fun h4 t7 I4 keep4 same4 => ?_
  refine wpAny_execs_nil ?_
  obtain ⟨o4, e4, c4, n4, d4⟩ := I4
  obtain ⟨o5, e5, c5, d5, s5, x5⟩ := same4 _ he3
  rw [e4] at e5
  cases e5
  have hdict : o4.dict = some h2.objs.size := x5 _ rfl
  rcases d4 with ⟨q, _⟩ | ⟨D, q1, q2, q3⟩
  · rw [hdict] at q; cases q
  rw [hdict] at q1
  cases q1
  obtain ⟨oD, es, ep, r1, r2⟩ := id q3
  refine hq h4 t7 o4 t5 h2.objs.size oD (fun b o hb q => ?_) e4 c4 d5 hdict hDe ?_ r1 fun h' hh => ⟨_, ⟨oD, es, ep, hh, r2⟩, t1, ?_⟩
  · have := keepT b o hb q
    refine keep4 b o hb (fun o0 dx w1 w2 => ?_) (keep3 b o hb this)
    rw [he3] at w1
    cases w1
    cases w2
    exact hDn b o this
  · cases q : h.get? h2.objs.size with
    | none => rfl
    | some o => exact absurd rfl (hDn _ _ (keepT _ _ hDe q))
  · rw [if_neg (by decide), if_pos rfl]

end
section

open PySem PySem.W PySem.Calls PyProof.Rows PySem.SeqAt

section
variable {M : Model} {A : Around} {E : Value → Shared → Prop} {env : Env}
variable {nm q : Str} {cc N : Addr} {bs : List Value} {sn : List Str} {sub : List Value} {ab : Bool} {col : Option Bool} {dd : Option Addr} {k0 k1 k2 k3 k5 : Option Value}
theorem raise_made {s : Shared} {x : Sem Value} {Q : Flow → Shared → Prop} (hh : A.handled = none)
    (h : wpAny M A x (fun v s₁ => ∃ e oe vs, v = .ref e ∧ s₁.heap.get? cc = some (excClassObj nm q cc N bs EB true sn sub ab col dd k0 k1 k2 k3 k5 "Exception.__new__") ∧ s₁.heap.get? e = some oe ∧ oe.cls = .ref cc ∧ oe.data = .fields vs ∧ vs[1]? = some .none ∧ E (.ref e) s₁) E s) :
    wpAny M A (raiseStmt env (some x) none) Q E s := by
  have hcB : (Value.ref cc :: EB).contains (.type "BaseException") = true := by simp
  unfold raiseStmt
  refine wpAny_bind (wpAny_mono h (fun v s₁ h₁ => ?_) fun _ _ x => x)
  obtain ⟨e, oe, vs, rfl, hC, he, hc, hd, h1, hE⟩ := h₁
  obtain ⟨hp, g, d, tk, os⟩ := s₁
  repeat (first | with_reducible refine wpAny_field he hd h1 ?_ | (with_reducible refine wpAny_loadPart_at he ?_; rw [hc]) | with_reducible refine wpAny_loadPart_at hC ?_ | (with_reducible refine wpAny_isSubtype_exc hC ?_; rw [hcB]) | wp_step)
  exact wpAny_raiseNew_none hh hE
end

section
variable {C : Cx} {E : Value → Shared → Prop} {own : Own} {ρ : Locals} {X : Stx} {ns : List Str} {sc : Scope} {n : Nat} {N : Own → Locals → Prop} {R : Own → DV → Prop}

theorem cas_call (I : C.Is X ns sc n) (hn : 1 ≤ n) (K : Cas X) {k x : Str} (hk : k.length ≤ 100) (hx : x.length ≤ 100) {t1 t2 : Tok} {g : G} {s : Shared} (S : St C own ρ g s) {Q : Value → Shared → Prop}
    (h : ∀ a g' s', (∀ b o, X.h0.get? b = some o → s'.heap.get? b = some o) → Fly C K.cas k false a g' s' s'.heap → (∃ oe vs, s'.heap.get? a = some oe ∧ oe.cls = .ref K.cas ∧ oe.data = .fields vs ∧ vs[1]? = some .none) → Q (.ref a) s') :
    wpAny (model C.X.prog C.X.w) C.A (call (.ref K.cas) [.str k t1, .str x t2]) Q E s := by
  have W := I.wf
  have hX := I.X
  have stat : ∀ b o, X.h0.get? b = some o → s.heap.get? b = some o := hX ▸ S.stat W
  obtain ⟨nm, q, Na, bs, sn, sub, ab, col, dd, k0, k1, k2, k3, k5, mN, hC, hN, hni, hns, hng, hnh, hnk, hnt⟩ := K.obj
  obtain ⟨oi, fd, hi, hic, _⟩ := K.fn
  have room := W.roomy.1
  rw [I.room] at room
  obtain ⟨hp, gs, d, tk, os⟩ := s
  refine wpAny_call_exc_init PySem.F.excBase_Exception (stat _ _ hC) (hN.keeps stat) hni (stat _ _ hi) hic (fun h' e hm => ?_) (by show 2 ≤ sizeLine; rw [sizeLine_eq]; decide)
  obtain ⟨t, he, _, _⟩ := hm.there
  have hen : X.h0.get? e = none := by
    cases z : X.h0.get? e with
    | none => rfl
    | some o => have := stat _ _ z; rw [show hp.get? e = none from hm.new] at this; cases this
  rw [hX]
  refine wpAny_call (ini_run (I.X ▸ W.wf) K (by show C.A.depth + 1 < _; omega) (fun b o z => hm.keeps _ _ (stat b o z)) he hen hk hx fun h2 tk2 oe t' D oD kp e1 e2 e3 e4 e5 e6 e7 e8 => ⟨rfl, ?_⟩)
  have old : ∀ b o, hp.get? b = some o → h2.get? b = some o := fun b o z => kp b o (fun w => by rw [w, hm.new] at z; cases z) (hm.keeps _ _ z)
  have hD : hp.get? D = none := by
    cases z : hp.get? D with
    | none => rfl
    | some o => rw [hm.keeps _ _ z] at e6; cases e6
  have gD : g D = none := by
    cases z : g D with
    | none => rfl
    | some o => rw [show hp.get? D = some o from S.le _ _ z] at hD; cases hD
  have ge : g e = none := by
    cases z : g e with
    | none => rfl
    | some o => have := hm.new; rw [show hp.get? e = some o from S.le _ _ z] at this; cases this
  have hs : Step C.frs [] g ⟨hp, gs, d, tk, os⟩ (gext g D oD) ⟨h2, gs, d, tk2, os⟩ := by
    refine ⟨fun a ha => ?_, fun a o z _ => .inl (old a o z), fun a ha => if_neg fun (w : a = D) => ha (by rw [w]; exact hD), fun a o z => ?_, rfl, rfl, rfl⟩
    · obtain ⟨o, z⟩ := Option.ne_none_iff_exists'.mp ha
      exact isn (old a o z)
    · unfold gext at z
      by_cases w : a = D
      · rw [if_pos w] at z
        cases z
        rw [w]; exact e7
      · rw [if_neg w] at z
        exact old a o (S.le a o z)
  have S' := S.sub W hs
  have s0n : C.s0.heap.get? e = none := by
    cases z : C.s0.heap.get? e with
    | none => rfl
    | some o => exact absurd hm.new (S.step.dom _ (isn z))
  refine h e (gext g D oD) _ (fun b o z => old b o (stat b o z)) ⟨.refl _, S'.step, S'.frs, S'.frf, ?_, s0n, oe, _, e1, e2, e3, rfl, ⟨D, oD, e4, e5, if_pos rfl, e8⟩, .inl ⟨rfl, rfl⟩⟩ ⟨oe, _, e1, e2, e3, rfl⟩
  show gext g D oD e = none
  unfold gext
  rw [if_neg (Ne.symm e5)]; exact ge

/-- raise CasFail(kind, text) -/
theorem x_raise (I : C.Is X ns sc n) (hn : 1 ≤ n) (K : Cas X) {k x : Str} (hE : CanFail C K.cas k E) (hk : k.length ≤ 100) (hx : x.length ≤ 100) (hv : sc.names.lookup (Str.ofString "CasFail") = some .globalImplicit) {a1 a2 : Nat} {np p1 p2 cpos pos : Pos} :
    WX C E own ρ (.Raise (some (.Call (.Name "CasFail" np) [.Constant (.str k) a1 p1, .Constant (.str x) a2 p2] [] cpos)) none pos) N R := by
  intro g s S
  have W := I.wf
  obtain ⟨nm, q, Na, bs, sn, sub, ab, col, dd, k0, k1, k2, k3, k5, mN, hC, hN, hni, hns, hng, hnh, hnk, hnt⟩ := K.obj
  have stat : ∀ b o, X.h0.get? b = some o → s.heap.get? b = some o := I.X ▸ S.stat W
  rw [arm_exec_Raise]
  have key : wpAny (model C.X.prog C.X.w) C.A (eval (.Call (.Name "CasFail" np) [.Constant (.str k) a1 p1, .Constant (.str x) a2 p2] [] cpos) C.env) (fun v s₁ => ∃ e oe vs, v = .ref e ∧ s₁.heap.get? K.cas = some (excClassObj nm q K.cas Na bs EB true sn sub ab col dd k0 k1 k2 k3 k5 "Exception.__new__") ∧ s₁.heap.get? e = some oe ∧ oe.cls = .ref K.cas ∧ oe.data = .fields vs ∧ vs[1]? = some .none ∧ E (.ref e) s₁) E s := by
    have hat : C.X.mg (Str.ofString "CasFail") = some (.ref K.cas) := by rw [I.X]; exact K.at_
    refine Call_ (loadGlob W S (I.kind hv) hat ?_ (by decide))
    unfold callWith
    refine wpAny_bind (wpAny_holding (Calls.evalArgs_plain (spliced_more (Constant_str ?_) rfl)))
    refine spliced_more (Constant_str ?_) rfl
    refine spliced_none ?_
    refine wpAny_bind (wpAny_standAt ?_)
    refine wpAny_bind (wpAny_keeperOf_exc (stat _ _ hC) ?_)
    refine wpAny_bind (cas_call I hn K hk hx (s := { s with toks := _ }) (S.toks) fun a g' s' st' F o' => ?_)
    refine wpAny_bind (wpAny_holding (wpAny_point (wpAny_pure ?_)))
    obtain ⟨oe, vs, o1, o2, o3, o4⟩ := o'
    exact ⟨a, oe, vs, rfl, st' _ _ hC, o1, o2, o3, o4, hE a false g' s' _ F⟩
  refine wpAny_bind (wpAny_standAt (raise_made (cc := K.cas) (nm := nm) (q := q) (N := Na) (bs := bs) (sn := sn) (sub := sub) (ab := ab) (col := col) (dd := dd) (k0 := k0) (k1 := k1) (k2 := k2) (k3 := k3) (k5 := k5) W.handled (wpAny_bind (wpAny_mono key (fun v s3 h3 => wpAny_bind (wpAny_standAt (wpAny_pure h3))) fun _ _ x => x))))
end

end
section

open PySem PySem.W PySem.Calls PyProof.Rows PySem.SeqAt Builtin Builtin.ObjectAttr

section
variable {prog : Program} {w : World} {A : Around} {E : Value → Shared → Prop} {h : Heap} {g : Array GenState} {d : Drawn} {t : Nat} {os : OsState} {nm q : Str} {C N e : Addr} {bs : List Value} {sn : List Str} {sub : List Value} {ab : Bool} {col : Option Bool} {dd : Option Addr} {k0 k1 k2 k3 k5 : Option Value} {v : Value} {mN mA : Str → Option Value} {o : Obj} {vs : Array Value} {D : Addr}

theorem kind_entry {tk : Tok} {Q : Fin → Shared → Prop} (hC : h.get? C = some (excClassObj nm q C N bs EB true sn sub ab col dd k0 k1 k2 k3 k5 "Exception.__new__")) (hn : h.Ns N mN) (hna : mN "kind" = none)
    (hx : h.get? e = some o) (hc : o.cls = .ref C) (hdat : o.data = .fields vs) (hdx : o.dict = some D) (hns : h.Ns1 D mA) (hv : mA "kind" = some v) (hq : Q (.done (.ret v)) ⟨h, g, d, t, os⟩) :
    wpAny (model prog w) A (Builtin.«object.__getattribute__» ⟨[.ref e, .str "kind" tk], []⟩) Q E ⟨h, g, d, t, os⟩ := by
  have hM : mroOf (.type "Exception") = pure EB := F.excBase_Exception.mroIs
  unfold Builtin.«object.__getattribute__»
  repeat (first | (with_reducible refine wpAny_loadPart_at hx ?_; rw [hc]) | (with_reducible refine wpAny_typeLookup_exc hC hn hM lkKind ?_; rw [hna]) | wp_step)
  split
  · rename_i c hcd
    rw [hdat] at hcd; cases hcd
  unfold instanceDict
  repeat (first | (with_reducible refine wpAny_loadPart_at hx ?_; rw [hc]) | with_reducible refine wpAny_loadPart_at hC ?_ | wp_step)
  rw [hdx]
  repeat (first | (with_reducible refine wpAny_nsGet hns.ns ?_; rw [hv]) | wp_step)
  exact hq

theorem kind_call {tk : Tok} {R : Result → Shared → Prop} (hC : h.get? C = some (excClassObj nm q C N bs EB true sn sub ab col dd k0 k1 k2 k3 k5 "Exception.__new__")) (hn : h.Ns N mN) (hna : mN "kind" = none)
    (hx : h.get? e = some o) (hc : o.cls = .ref C) (hdat : o.data = .fields vs) (hdx : o.dict = some D) (hns : h.Ns1 D mA) (hv : mA "kind" = some v) (hq : R (.ok (.ret v)) ⟨h, g, d, t, os⟩) :
    codeAny (model prog w) A (.call (.builtin "BaseException.__getattribute__") ⟨[.ref e, .str "kind" tk], []⟩) R ⟨h, g, d, t, os⟩ :=
  codeAny_call_builtin F.attrBase_Exception.ga.plain F.entry_bexc_ga (wpAny_check_ga_own F.attrBase_Exception hC .base hx hc (kind_entry hC hn hna hx hc hdat hdx hns hv hq))

theorem kind_attr {expr : Bool} {k : Str} {tk : Tok} {Q : Value → Shared → Prop} (hC : h.get? C = some (excClassObj nm q C N bs EB true sn sub ab col dd k0 k1 k2 k3 k5 "Exception.__new__")) (hn : h.Ns N mN) (hng : mN "__getattribute__" = none) (hnh : mN "__getattr__" = none) (hna : mN "kind" = none)
    (hx : h.get? e = some o) (hc : o.cls = .ref C) (hdat : o.data = .fields vs) (hdx : o.dict = some D) (hns : h.Ns1 D mA) (hv : mA "kind" = some (.str k tk)) (hq : Q (.str k tk) ⟨h, g, d, t + 1, os⟩) :
    wpAny (model prog w) A (getAttr (.ref e) "kind" expr) Q E ⟨h, g, d, t, os⟩ := by
  have FB := F.attrBase_Exception
  have f3 := FB.ga.bind (.ref e)
  have hx0 : (expr && onTheHeap (Value.builtin "BaseException.__getattribute__")) = false := by cases expr <;> rfl
  have hx2 : (Value.builtin "BaseException.__getattribute__" == Value.builtin "object.__getattribute__") = false := by decide +kernel
  have hx1 : (onTheHeap (Value.ref C) && Value.builtin "BaseException.__getattribute__" == Value.builtin "object.__getattribute__") = false := by rw [hx2]; rfl
  unfold getAttr getAttrBy
  repeat (any_goals (first | assumption | (with_reducible refine wpAny_loadPart_at hx ?_; rw [hc]) | (with_reducible refine wpAny_typeLookup_exc hC hn FB.mro FB.ga.lookup ?_; rw [hng]) | (with_reducible refine wpAny_typeLookup_exc hC hn FB.mro FB.noGetattr ?_; rw [hnh]) | wp_step))
  refine kind_call hC hn hna hx hc hdat hdx hns hv ?_
  repeat (any_goals (first | assumption | wp_step))
end

end
section

open PySem PySem.W PySem.Calls PyProof.Rows PySem.SeqAt

theorem cmp_eqS {X : Stx} {A : Around} {P : DV → Prop} {x y : Str} (hu : A.units < cLine) (h : P (.bool (x == y))) : Bin X A (compareOp .Eq) (.str x) (.str y) P := cmp_eqD (by simp [shp]) (by simpa [deepD] using hu) h
theorem c_eqS {C : Cx} {X : Stx} {ns : List Str} {sc : Scope} {n : Nat} (I : C.Is X ns sc n) {P : DV → Prop} {x y : Str} (h : P (.bool (x == y))) : Bin C.X C.A (compareOp .Eq) (.str x) (.str y) P := cmp_eqS (by have := I.wf.roomy.2; omega) h

end
section

open PySem PySem.W PySem.Calls PyProof.Rows PySem.SeqAt

set_option genInjectivity false in
set_option genSizeOf false in
structure LawP (X : Stx) where
  take : Addr
  htake : DefAt X "_law_take" take (fnP 35) (fnB 35) (fnS 35)
  mark : Addr
  hmark : DefAt X "_law_mark" mark (fnP 36) (fnB 36) (fnS 36)
  kind : Addr
  hkind : DefAt X "_law_kind" kind (fnP 37) (fnB 37) (fnS 37)
  refused : Addr
  hrefused : DefAt X "_law_refused" refused (fnP 38) (fnB 38) (fnS 38)
  single : Addr
  hsingle : DefAt X "_law_single_right" single (fnP 39) (fnB 39) (fnS 39)
  sum : Addr
  hsum : DefAt X "_law_sum_right" sum (fnP 40) (fnB 40) (fnS 40)
  bmain : ∃ bm ob, X.mg "__builtins__" = some (.ref bm) ∧ bm ≠ builtinsNs ∧ X.h0.get? bm = some ob ∧ ob.cls = .type "module" ∧ ob.dict = some builtinsNs ∧ ob.data = .plain

/-- a function object that raises when it is called -/
noncomputable def LamFails (X : Stx) (n : Nat) (f : Addr) (H : Keeps) (cas : Addr) (k : Str) : Prop :=
  (∀ g, H.1 g → ∃ o fd, g f = some o ∧ o.data = .func fd) ∧
  ∀ (A : Around) (stk : List Env) (E : Value → Shared → Prop) (g : G) (s : Shared), A.frames = some stk → A.handled = none → s.heap.FunFrames X.h0 stk → Roomy A n → Le X.h0.get? g → Le g s.heap.get? → (∀ a ∈ framesOf stk, g a = none) → H.1 g →
    (∀ e g' s', Step (framesOf stk) [] g s g' s' → Fail cas k s e g' s' → E e s') → wpAny (model X.prog X.w) A (call (.ref f) []) (fun _ _ => False) E s

theorem Fly.stat {C : Cx} {cas : Addr} {k : Str} {b : Bool} {a : Addr} {g : G} {s : Shared} {base : Heap} (F : Fly C cas k b a g s base) (W : C.Wf) : ∀ b o, C.X.h0.get? b = some o → s.heap.get? b = some o := fun b o z => by
  have z0 := W.base b o z
  exact F.step.le b o ((F.step.frz b (isn (W.le0 b o z0))).trans z0)
theorem Fly.nsL {C : Cx} {cas : Addr} {k : Str} {b : Bool} {a : Addr} {g : G} {s : Shared} {base : Heap} {L : Addr} {m : Str → Option Value} (F : Fly C cas k b a g s base) (hns : base.Ns L m) : s.heap.Ns L m := ns_upTo hns fun o ho => F.nr _ o ho fun vs hd => by
  obtain ⟨o2, es, ep, e1, e2, _⟩ := hns
  rw [Option.some.inj (ho.symm.trans e1), e2] at hd
  cases hd
theorem refused_ok {X : Stx} (hw : X.Wf) (K : Cas X) (Lp : LawP X) {n : Nat} {f : Addr} {H : Keeps} {k : Str} (h : LamFails X n f H K.cas k) :
    FnG X (n + 1) Lp.refused .no [.fn f H] (fun _ d => d = .str k) noK := by
  refine fn_enterE hw Lp.hrefused (fnA 38) (fnL 38) (by intro vs pm cd doc h; rcases vs with _ | ⟨v1, _ | ⟨v2, r⟩⟩ <;> first | rfl | (simp at h; done)) rfl rfl (by decide +kernel) (by decide +kernel) (by decide +kernel) rfl rfl rfl (fun _ _ _ _ _ _ _ h => h.elim) fun C E I hD _ ⟨outer, hstk⟩ _ => ?_
  show WS C E .no [some (.fn f H), none] (fnB 38) _ _
  conv => arg 5; whnf
  refine ws_cons ?_
  intro g s S
  have W := I.wf
  have hX := I.X
  refine wpAny_Try_except (wpAny_execs_cons (wpAny_Expr ?_ I.inter (by rfl)))
  refine Call_ (wpAny_Name (loadVar W S (I.at_ (i := 0) (by rfl)) (by rfl) (by decide) fun v hr => ?_) (by decide))
  obtain ⟨rfl, hH⟩ := hr
  obtain ⟨o, fd, hgf, hfd⟩ := h.1 g hH
  refine Calls.callWith_function (o := o) (fd := fd) (PyProof.Rows.evalArgs_empty ⟨⟨S.le _ _ hgf, hfd⟩, ?_⟩)
  have hroom : Roomy C.A n := by have := W.roomy; rw [I.room] at this; exact this
  rw [hX]
  refine wpAny_mono (h.2 C.A C.stk _ g s W.stack W.handled (hX ▸ S.frs) hroom (hX ▸ S.h0 W) S.le S.frf hH fun e g' s' hs ⟨a, b, he, hf⟩ => ?_) (fun _ _ q => q.elim) fun _ _ x => x
  subst he
  have S' := S.sub W hs
  have F0 := Fail.fly S S' hf
  obtain ⟨m, hns, _⟩ := S'.vars
  refine F0.note W hstk W.stack fun s2 F2 => F2.flight fun s3 F3 => ?_
  have stat3 : ∀ b o, X.h0.get? b = some o → s3.heap.get? b = some o := hX ▸ F3.stat W
  have hns3 := F3.nsL hns
  obtain ⟨nm, q, Na, bs, sn, sub, ab, col, dd, k0, k1, k2, k3, k5, mN, hC, hN, hni, hnsa, hng, hnh, hnk, hnt⟩ := K.obj
  have hat : C.X.mg (Str.ofString "CasFail") = some (.ref K.cas) := by rw [hX]; exact K.at_
  have hG : s3.heap.Ns C.env.globals C.X.mg := by rw [W.globals]; exact W.wf.g.keeps (hX ▸ stat3)
  refine wpAny_handleBy_cons (codeAny_handlers_test ?_) (by intro z; cases z)
  rw [← hX]
  refine Name_function_global W.kind (I.kind (by rfl)) (loadGlobal_global hG hat ?_) (by decide)
  obtain ⟨oe, vs, o1, o2, o3, o4, o5, o6⟩ := F3.fail.obj
  refine wpAny_excMatches_sub_self (stat3 _ _ hC) o1 o2 (by simp) (codeAny_handlers_suite_as ?_)
  refine F3.flight fun s4 F4 => ?_
  have stat4 : ∀ b o, X.h0.get? b = some o → s4.heap.get? b = some o := hX ▸ F4.stat W
  have hns4 := F4.nsL hns
  have hkf : (C.env.scope.kind == .class || (C.env.scope.kind == .module && C.env.locals != C.env.globals)) = false := by rw [W.kind]; rfl
  refine wpAny_storeName_local (I.kind (by rfl)) hns4 (fun h5 hn5 hs5 => ?_) hkf
  have step5 := F4.step.but (t := s4.toks) hs5 W.lnew S'.lfree
  obtain ⟨oe, vs, o1, o2, o3, o4, ⟨D, oD, p1, p2, p3, p4⟩, o6⟩ := F4.fail.obj
  have hLa : C.env.locals ≠ a := fun z => by
    obtain ⟨o2, es, ep, e1, e2, _⟩ := hns4
    rw [z, o1] at e1
    cases e1
    rw [o3] at e2
    cases e2
  have hLD : D ≠ C.env.locals := fun z => by rw [z, S'.lfree] at p3; cases p3
  refine wpAny_execs_cons (wpAny_Return_some ?_)
  rw [arm_eval_Attribute]
  refine wpAny_bind (wpAny_Name (wpAny_loadName_local W.kind (I.kind (by rfl)) hn5 (if_pos rfl) ?_) (by decide))
  refine wpAny_bind (wpAny_standAt (wpAny_bind (wpAny_holding ?_)))
  have oD5 : h5.get? D = some oD := (hs5.2 D hLD).trans (F4.step.le D oD p3)
  obtain ⟨mA, n1, tq, n2⟩ := p4 h5 oD5
  have stat5 : ∀ b o, X.h0.get? b = some o → h5.get? b = some o := fun b o z => (hs5.2 b fun w => by
    have z1 := W.le0 _ _ ((hX ▸ W.base : Le X.h0.get? C.g0) _ o z)
    rw [w, W.lnew] at z1
    cases z1).trans (stat4 b o z)
  refine kind_attr (stat5 _ _ hC) (hN.keeps stat5) hng hnh hnk ((hs5.2 a (Ne.symm hLa)).trans o1) o2 o3 p1 n1 n2 ?_
  refine wpAny_bind (wpAny_letTemporaryGo (wpAny_pure ?_))
  refine wpAny_nameGoes (I.kind (by rfl)) hn5 hkf fun h6 m6 hn6 hs6 => ?_
  have step6 := step5.but (t := s4.toks + 1 + 1) hs6 W.lnew S'.lfree
  exact .ret _ g' .no (.str k) ⟨step6.toks, trivial⟩ (.str _ _) rfl

end
section

open PySem PySem.W PySem.Calls PyProof.Rows PySem.SeqAt

noncomputable abbrev noArgs : Arguments := ⟨[], [], none, [], [], none, []⟩
/-- a lambda's object, its code and its two cells, frozen -/
noncomputable def lamH (f : Addr) (fo : Obj) (cc : Addr) (oc : Obj) (c1 c2 : Addr) (d1 d2 : DV) : Keeps :=
  ⟨fun g => g f = some fo ∧ g cc = some oc ∧ (∃ o v, g c1 = some o ∧ o.data = .cell (some v) ∧ Rd g v d1) ∧ ∃ o v, g c2 = some o ∧ o.data = .cell (some v) ∧ Rd g v d2,
   fun g g' l ⟨a, b, ⟨o, v, c, d, e⟩, o', v', c', d', e'⟩ => ⟨l _ _ a, l _ _ b, ⟨o, v, l _ _ c, d, e.mono l⟩, o', v', l _ _ c', d', e'.mono l⟩⟩

theorem lam_fails {X : Stx} (hw : X.Wf) {gx' : Addr} {ps : Arguments} {bd : List Stmt} {fsc : Scope} (hd : DefAt X "gratio_power" gx' ps bd fsc) {n : Nat} {f cc c1 c2 : Addr} {fo oc : Obj} {d1 d2 : DV} {cas : Addr} {k name qual : Str} {scope : Scope} {clos : List (Str × Addr)} {pm ctv : Value} {p1 p2 p3 p4 : Pos} {vs : Array Value} {tq : Tok}
    (hfo : fo = kla_obj name qual noArgs (.Call (.Name "gratio_power" p1) [.Name "told" p2, .Name "times" p3] [] p4) scope clos pm cc ctv) (hoc : oc.data = .fields vs) (hq : vs[1]? = some (.str qual tq)) (h1 : clos.lookup (Str.ofString "told") = some c1) (h2 : clos.lookup (Str.ofString "times") = some c2)
    (s1 : scope.names.lookup (Str.ofString "told") = some .free) (s2 : scope.names.lookup (Str.ofString "times") = some .free) (s3 : scope.names.lookup (Str.ofString "gratio_power") = some .globalImplicit) (hcell : ∀ x ∈ scope.names, x.2 ≠ .cell) (hco : scope.isCoroutine = false) (hgen : scope.isGenerator = false) (hk : scope.kind = .function)
    (h : FnG X n gx' .no ([d1, d2].map .fz) (fun _ _ => False) (Fail cas k)) : LamFails X (n + 1) f (lamH f fo cc oc c1 c2 d1 d2) cas k := by
  refine ⟨fun g hg => ⟨fo, _, hg.1, by rw [hfo]⟩, ?_⟩
  intro A stk E g s a1 a2 a3 a4 a5 a6 a7 ⟨g1, g2, ⟨o1, v1, g3, g4, g5⟩, o2, v2, g6, g7, g8⟩ aE
  have kst : ∀ b o, X.h0.get? b = some o → s.heap.get? b = some o := fun b o e => a6 b o (a5 b o e)
  refine wpAny_call (kla_callFunE (by have := a4.1; omega) (a6 _ _ g1) (by rw [hfo]) hco hgen rfl ⟨cc, oc, vs, tq, rfl, a6 _ _ g2, hoc, hq⟩ ?_)
  refine wpAny_of_eq (a := ([] : List (Str × Value))) (by rfl) ?_
  refine wpAny_newFunctionEnv hcell (by intro y hy; cases hy) (fun h₁ hns hsb => ⟨(hw.nolimit.keeps kst).fresh _ hsb, ?_⟩) hk
  have hfresh : s.heap.get? s.heap.objs.size = none := fresh_none _
  have hgf : g s.heap.objs.size = none := by
    cases q : g s.heap.objs.size with
    | none => rfl
    | some o => rw [a6 _ _ q] at hfresh; cases hfresh
  have h0f : X.h0.get? s.heap.objs.size = none := by
    cases q : X.h0.get? s.heap.objs.size with
    | none => rfl
    | some o => rw [kst _ _ q] at hfresh; cases hfresh
  have hk1 : ∀ b o, s.heap.get? b = some o → h₁.get? b = some o := fun b o e => hsb.extBut b o (Nat.ne_of_lt (Heap.lt_size e)) (Heap.get?_push_of_some _ e)
  have hfrlt : ∀ a ∈ framesOf stk, s.heap.get? a ≠ none := fun a ha => by obtain ⟨_, o, e, _⟩ := a3.mem ha; exact isn e
  obtain ⟨env, henv⟩ : ∃ env, env = envX qual scope s.heap.objs.size f (.ref cc) clos := ⟨_, rfl⟩
  show codeAny _ _ (.expr _ (envX qual scope s.heap.objs.size f (.ref cc) clos)) _ _
  rw [← henv]
  have ekind : env.scope.kind = .function := by rw [henv]; exact hk
  have elk : ∀ y kk, scope.names.lookup y = some kk → env.kindOf y = some kk := fun y kk hy => by rw [henv]; exact hy
  refine kla_codeExpr ?_
  have hff : h₁.FunFrames X.h0 (env :: stk) := Heap.FunFrames.cons (by rw [ekind]; decide) (by rw [henv]) hns h0f (a3.of_keeps fun b o e _ => ⟨o, hk1 b o e, rfl⟩)
  have hfe : framesOf (env :: stk) = s.heap.objs.size :: framesOf stk := by show List.filterMap _ _ = _; rw [henv]; rfl
  let C : Cx := { X := X, A := A.deeper env, env := { env with cells := [] }, stk := env :: stk, fr := framesOf stk, g0 := g, s0 := s, D := [], names := [], room := n }
  have W : C.Wf := ⟨hw, a5, a6, ekind, by show env.globals = _; rw [henv], by show env.builtins = _; rw [henv], List.nodup_nil, fun L hL => by
      have hL : L ∈ framesOf (env :: stk) := hL
      rw [hfe] at hL
      rcases List.mem_cons.mp hL with e | e
      · rw [e]; exact .inl hfresh
      · exact .inr e, fun _ _ _ e => (nomatch e), by show s.heap.get? env.locals = none; rw [henv]; exact hfresh, fun _ _ _ e => (nomatch e), fun _ _ e => (nomatch e), fun a ha => ⟨hfrlt a ha, a7 a ha⟩, Around.frames_deeper a1, a2,
      ⟨by show A.depth + 1 + n < _; have := a4.1; omega, by show A.units + 3 + 4 * n + 50 < _; have := a4.2; omega⟩, fun _ h => nomatch h⟩
  have hstep : Step (framesOf stk) [] g s g { s with heap := h₁, toks := s.toks + ([] : List (Str × Value)).length } :=
    ⟨fun a ha => by obtain ⟨o, e⟩ := Option.ne_none_iff_exists'.mp ha; exact isn (hk1 a o e), fun a o e _ => .inl (hk1 a o e), fun _ _ => rfl, fun a o e => hk1 a o (a6 a o e), rfl, rfl, rfl⟩
  have hg1 : h₁.Ns env.globals X.mg := by rw [henv]; exact hw.g.keeps fun b o e => hk1 b o (kst b o e)
  obtain ⟨og, pmg, cdg, docg, hog, hdg, _⟩ := hd.obj
  refine Call_ (Name_function_global ekind (elk _ _ s3) (loadGlobal_global hg1 hd.at_ ?_) (by decide))
  refine callWith_def hdg (spliced_more ?_ rfl) rfl
  refine wpAny_Name (wpAny_loadName_free ekind (elk _ _ s1) (by rw [henv]; exact h1) ⟨o1, hk1 _ _ (a6 _ _ g3), g4⟩ ?_) (by decide)
  refine spliced_more ?_ rfl
  refine wpAny_Name (wpAny_loadName_free ekind (elk _ _ s2) (by rw [henv]; exact h2) ⟨o2, hk1 _ _ (a6 _ _ g6), g7⟩ ?_) (by decide)
  refine spliced_none ⟨hk1 _ _ (kst _ _ hog), ?_⟩
  refine wpAny_mono (h (A.deeper env) (env :: stk) _ g _ [v1, v2] (Around.frames_deeper a1) a2 hff W.roomy a5 hstep.le (fun a ha => ?_) trivial (.cons g5 (.cons g8 .nil)) fun e g' s' hs ⟨a, b, he, hf⟩ => ?_) (fun _ _ q => GPost.casesOn q fun _ _ _ _ _ _ q => q.elim) fun _ _ x => x
  · rw [hfe] at ha
    rcases List.mem_cons.mp ha with e | e
    · rw [e]; exact hgf
    · exact a7 a e
  subst he
  have st2 : Step (framesOf stk) [] g s g' s' := hstep.trans hs (fun a ha hl => by
    rw [hfe] at ha
    rcases List.mem_cons.mp ha with e | e
    · rw [e, hfresh] at hl; exact absurd rfl hl
    · exact e) (fun _ h _ => h)
  have old : ∀ {x}, h₁.get? x = none → s.heap.get? x = none := fun {x} h => by
    cases q : s.heap.get? x with
    | none => rfl
    | some o => rw [hk1 _ _ q] at h; cases h
  have F : Fly C cas k b a g' s' s'.heap := by
    refine ⟨.refl _, st2, funFrames_step hs.part hff fun _ h => (nomatch h), fun a ha => ?_, hf.gn, old hf.new, ?_⟩
    · have ha : a ∈ framesOf (env :: stk) := ha
      obtain ⟨_, o, e, _⟩ := hff.mem ha
      refine (hs.frz a (isn e)).trans ?_
      rw [hfe] at ha
      rcases List.mem_cons.mp ha with e | e
      · rw [e]; exact hgf
      · exact a7 a e
    · obtain ⟨oe, vs, q1, q2, q3, q4, q5, q6⟩ := hf.obj
      refine ⟨oe, vs, q1, q2, q3, q4, q5, ?_⟩
      exact q6.imp id fun ⟨T, oT, ts, w1, w2, w3, w4, w5, w6, w7⟩ => ⟨T, oT, ts, w1, w2, w3, old w4, w5, w6, w7⟩
  exact F.leaving W rfl (Around.frames_deeper a1) fun s2 F2 => aE _ _ _ F2.step ⟨a, true, rfl, F2.fail⟩

end
section

open PySem PySem.W PySem.Calls PyProof.Rows PySem.SeqAt

section
variable {C : Cx} {E : Value → Shared → Prop} {ρ : Locals} {X : Stx} {ns : List Str} {sc : Scope} {n : Nat} {a : Addr} {oi : Option (Int × List Int)} {tabs : List (Pos × Str × Addr)}

theorem gext_ne {g : G} {b c : Addr} {o : Obj} (h : c ≠ b) : gext g b o c = g c := if_neg h
theorem gext_eq {g : G} {b : Addr} {o : Obj} : gext g b o b = some o := if_pos rfl
theorem le_gext {g : G} {b : Addr} {o : Obj} (h : g b = none) : Le g (gext g b o) := fun c o' e => by
  rw [gext_ne fun w => by rw [w, h] at e; cases e]; exact e

/-- what a lambda's making leaves -/
structure Lam (X : Stx) (name qual : Str) (body : Expr) (lsc : Scope) (clos : List (Str × Addr)) (g : G) (f : Addr) (fo : Obj) (cc : Addr) (oc : Obj) : Prop where
  fg : g f = some fo
  cg : g cc = some oc
  fo : ∃ pm ctv, fo = kla_obj name qual noArgs body lsc clos pm cc ctv
  oc : ∃ vs tq, oc.data = .fields vs ∧ vs[1]? = some (.str qual tq)

theorem names_inj' {α : Type} {l : List α} (h : l.Nodup) {i j : Nat} {x : α} (h1 : l[i]? = some x) (h2 : l[j]? = some x) : i = j :=
  (List.getElem?_inj (List.getElem?_eq_some_iff.mp h1).1 h).mp (h1.trans h2.symm)
theorem mk_lambda (I : C.Is X ns sc n) (Lp : LawP X) {g : G} {s : Shared} (S : St C (.law a oi tabs) ρ g s) {lp : Pos} {qual : Str} {Pt c : Addr} (hq : (lp, qual, Pt) ∈ tabs) (hnd : (tabs.map (·.2.2)).Nodup)
    (hcode : C.env.code = .ref c) (hC : CodeHd X.h0 c Pt) {name : Str} {body : Expr} {lsc : Scope} {clos : List (Str × Addr)} {fl : Nat} (hcl : closureFor lsc C.env = pure clos) {Q : Value → Shared → Prop}
    (h : ∀ f fo cc oc g' s', Le g g' → St C (.law a oi tabs) ρ g' s' → Lam X name qual body lsc clos g' f fo cc oc → Q (.ref f) s') :
    wpAny (model C.X.prog C.X.w) C.A (makeFunction name qual noArgs (.expr body) lsc C.env [] [] [] lp fl) Q E s := by
  have W := I.wf
  have hX := I.X
  have stat : ∀ b o, X.h0.get? b = some o → s.heap.get? b = some o := hX ▸ S.stat W
  obtain ⟨b1, b2, ⟨ob, nb, lb, ib, tb, nsb, b3, b4, b5, b6, b7, b8⟩, b9⟩ := id S.hown
  obtain ⟨q1, q2, q3, ps, q4, q5⟩ := b9 _ hq
  have hP0 : X.h0.get? Pt = none := by
    cases z : X.h0.get? Pt with
    | none => rfl
    | some o => have := S.h0 W _ _ (hX.symm ▸ z); rw [q1] at this; cases this
  have hg0 : s.heap.Ns mainGlobals X.mg := (hX ▸ W.wf.g : X.h0.Ns mainGlobals X.mg).keeps stat
  have hgP : mainGlobals ≠ Pt := fun z => by
    obtain ⟨o, _, _, e, _⟩ := (hX ▸ W.wf.g : X.h0.Ns mainGlobals X.mg)
    rw [z, hP0] at e; cases e
  have hbu : s.heap.BuiltinsAt X.mg Pt := by
    obtain ⟨bm, obm, m1, m2, m3, m4, m5, m6⟩ := Lp.bmain
    refine ⟨bm, obm, m1, m2, fun z => ?_, fun z => (by rw [z, hP0] at m3; cases m3), stat _ _ m3, m4, m5, m6⟩
    obtain ⟨o, es, ep, e, hd, _⟩ := (hX ▸ W.wf.g : X.h0.Ns mainGlobals X.mg)
    rw [z, e] at m3; cases m3; rw [hd] at m6; cases m6
  have hC' := hC.keeps stat
  have hmemP : Pt ∈ (Own.law a oi tabs).addrs := List.mem_cons_of_mem _ (List.mem_map.mpr ⟨_, hq, rfl⟩)
  have gnone : ∀ {x}, s.heap.get? x = none → g x = none := fun {x} h => by
    cases z : g x with
    | none => rfl
    | some o => rw [S.le _ _ z] at h; cases h
  have hge : ∀ b, s.heap.objs.size ≤ b → s.heap.get? b = none := fun b hb => by
    cases z : s.heap.get? b with
    | none => rfl
    | some o => exact absurd (Heap.lt_size z) (Nat.not_lt.mpr hb)
  have same : ∀ q ∈ tabs, q.2.2 = Pt → q = (lp, qual, Pt) := fun q hqm hz => by
    obtain ⟨i, hi⟩ := List.getElem?_of_mem hqm
    obtain ⟨j, hj⟩ := List.getElem?_of_mem hq
    have : i = j := names_inj' hnd (x := Pt) (by rw [List.getElem?_map, hi]; exact congrArg some hz) (by rw [List.getElem?_map, hj]; rfl)
    subst this
    rw [hi] at hj
    exact Option.some.inj hj
  have hPs : s.heap.get? Pt ≠ none := isn q4
  rcases q5 with hps | ⟨c0, oc0, vs0, tq0, hps, d1, d2, d3⟩
  · subst hps
    refine kla_makeFunction (mg := X.mg) hcl W.globals hg0 hcode hC' q4 trivial rfl hgP hbu fun c' ctv h' tk hx hge1 hlt hrec htb => ?_
    obtain ⟨c2, oc, vs, tq, e2, hoc, hdc, hv⟩ := hrec
    cases e2
    generalize hfo : kla_obj name qual noArgs body lsc clos ((X.mg (Str.ofString "__name__")).getD .none) c' ctv = fobj
    have hff : fobj.isFreed = false := by rw [← hfo]; rfl
    have hcn : s.heap.get? c' = none := hge _ hge1
    have hfn : s.heap.get? h'.objs.size = none := hge _ (Nat.le_of_lt (Nat.lt_of_le_of_lt hge1 hlt))
    have hne : c' ≠ h'.objs.size := Nat.ne_of_lt hlt
    have gc : g c' = none := gnone hcn
    have gf : gext g c' oc h'.objs.size = none := by rw [gext_ne (Ne.symm hne)]; exact gnone hfn
    have l1 : Le g (gext (gext g c' oc) h'.objs.size fobj) := (le_gext gc).trans (le_gext gf)
    have ge : ∀ {x}, x ≠ c' → x ≠ h'.objs.size → gext (gext g c' oc) h'.objs.size fobj x = g x := fun h1 h2 => by rw [gext_ne h2, gext_ne h1]
    have oldne : ∀ {x}, s.heap.get? x ≠ none → x ≠ c' ∧ x ≠ h'.objs.size := fun h => ⟨fun z => h (z ▸ hcn), fun z => h (z ▸ hfn)⟩
    have kp : ∀ b o, b ≠ Pt → s.heap.get? b = some o → (h'.push fobj).get? b = some o := fun b o hb e => Heap.get?_push_of_some _ (hx b o hb e)
    have st : Step C.frs (Own.law a oi tabs).addrs g s (gext (gext g c' oc) h'.objs.size fobj) { s with heap := h'.push fobj, toks := tk } := by
      refine ⟨fun x hx' => ?_, fun x o e hD => .inl (kp x o (fun z => hD (z ▸ hmemP)) e), fun x hx' => ge (oldne hx').1 (oldne hx').2, fun x o e => ?_, rfl, rfl, rfl⟩
      · by_cases hz : x = Pt
        · rw [hz]; exact isn (Heap.get?_push_of_some _ htb)
        · obtain ⟨o, e⟩ := Option.ne_none_iff_exists'.mp hx'
          exact isn (kp x o hz e)
      · by_cases z1 : x = h'.objs.size
        · rw [z1, gext_eq] at e
          cases e
          rw [z1]; exact Heap.get?_push_size _ hff
        · rw [gext_ne z1] at e
          by_cases z2 : x = c'
          · rw [z2, gext_eq] at e
            cases e
            rw [z2]; exact Heap.get?_push_of_some _ hoc
          · rw [gext_ne z2] at e
            exact kp x o (fun z => by rw [z, q1] at e; cases e) (S.le _ _ e)
    have hO : OwnOk (gext (gext g c' oc) h'.objs.size fobj) (h'.push fobj) C.frs (.law a oi tabs) := by
      refine ⟨(ge (oldne (isn b3)).1 (oldne (isn b3)).2).trans b1, b2, ⟨ob, nb, lb, ib, tb, nsb, kp a ob (Ne.symm q2) b3, b4, b5, b6, b7, b8.mono l1⟩, fun q hqm => ?_⟩
      obtain ⟨w1, w2, w3, ps', w4, w5⟩ := b9 q hqm
      refine ⟨(ge (oldne (isn w4)).1 (oldne (isn w4)).2).trans w1, w2, w3, ?_⟩
      by_cases hz : q.2.2 = Pt
      · rw [same q hqm hz]
        exact ⟨_, Heap.get?_push_of_some _ htb, .inr ⟨c', oc, vs, tq, rfl, by rw [gext_ne hne]; exact gext_eq, hdc, hv⟩⟩
      · refine ⟨ps', kp _ _ hz w4, ?_⟩
        rcases w5 with e | ⟨c, o2, v2, t2, e1, e2, e3, e4⟩
        · exact .inl e
        · exact .inr ⟨c, o2, v2, t2, e1, l1 _ _ e2, e3, e4⟩
    exact h _ fobj c' oc _ _ l1 (S.subOwn W st hO rfl rfl) ⟨gext_eq, by rw [gext_ne hne]; exact gext_eq, ⟨_, _, hfo.symm⟩, vs, tq, hdc, hv⟩
  · subst hps
    refine kla_makeFunctionHit (mg := X.mg) (cv := .ref c0) hcl W.globals hg0 hcode hC' q4 trivial (by simp [codeAmong, rawInt]) hbu fun ctv h' tk hk hsz => ?_
    generalize hfo : kla_obj name qual noArgs body lsc clos ((X.mg (Str.ofString "__name__")).getD .none) c0 ctv = fobj
    have hff : fobj.isFreed = false := by rw [← hfo]; rfl
    have hfn : s.heap.get? h'.objs.size = none := hge _ hsz
    have gf : g h'.objs.size = none := gnone hfn
    have l1 : Le g (gext g h'.objs.size fobj) := le_gext gf
    have oldne : ∀ {x}, s.heap.get? x ≠ none → x ≠ h'.objs.size := fun h z => h (z ▸ hfn)
    have kp : ∀ b o, s.heap.get? b = some o → (h'.push fobj).get? b = some o := fun b o e => Heap.get?_push_of_some _ (hk b o e)
    have st : Step C.frs (Own.law a oi tabs).addrs g s (gext g h'.objs.size fobj) { s with heap := h'.push fobj, toks := tk } := by
      refine ⟨fun x hx' => ?_, fun x o e hD => .inl (kp x o e), fun x hx' => gext_ne (oldne hx'), fun x o e => ?_, rfl, rfl, rfl⟩
      · obtain ⟨o, e⟩ := Option.ne_none_iff_exists'.mp hx'
        exact isn (kp x o e)
      · by_cases z1 : x = h'.objs.size
        · rw [z1, gext_eq] at e
          cases e
          rw [z1]; exact Heap.get?_push_size _ hff
        · rw [gext_ne z1] at e
          exact kp x o (S.le _ _ e)
    have hO : OwnOk (gext g h'.objs.size fobj) (h'.push fobj) C.frs (.law a oi tabs) := by
      refine ⟨(gext_ne (oldne (isn b3))).trans b1, b2, ⟨ob, nb, lb, ib, tb, nsb, kp a ob b3, b4, b5, b6, b7, b8.mono l1⟩, fun q hqm => ?_⟩
      obtain ⟨w1, w2, w3, ps', w4, w5⟩ := b9 q hqm
      refine ⟨(gext_ne (oldne (isn w4))).trans w1, w2, w3, ps', kp _ _ w4, ?_⟩
      rcases w5 with e | ⟨c, o2, v2, t2, e1, e2, e3, e4⟩
      · exact .inl e
      · exact .inr ⟨c, o2, v2, t2, e1, l1 _ _ e2, e3, e4⟩
    refine h _ fobj c0 oc0 _ { s with heap := h'.push fobj, toks := tk } l1 (S.subOwn W st hO rfl rfl) ⟨gext_eq, l1 _ _ d1, ⟨_, _, hfo.symm⟩, vs0, tq0, d2, d3⟩ |> fun z => ?_
    rw [← hfo] at z
    exact z
end

end
section

open PySem PySem.W PySem.Calls PyProof.Rows PySem.SeqAt

section
variable {C : Cx} {E : Value → Shared → Prop} {ρ : Locals} {X : Stx} {ns : List Str} {sc : Scope} {n : Nat} {a : Addr} {oi : Option (Int × List Int)} {tabs : List (Pos × Str × Addr)}

/-- a captured name's cell and what it holds -/
theorem cell_of {own : Own} {g : G} {s : Shared} (W : C.Wf) (S : St C own ρ g s) {i : Nat} {x : Str} {d : DV} (hi : C.names[i]? = some x) (hd : ρ[i]? = some (some (.fz d))) (hk : C.env.kindOf x = some .cell ∨ C.env.kindOf x = some .free) :
    ∃ c o v, C.env.cells.lookup x = some c ∧ s.heap.get? c = some o ∧ o.data = .cell (some v) ∧ Rd g v d := by
  obtain ⟨m, hn, hv⟩ := S.vars
  obtain ⟨v, h1, h2⟩ := hv i x _ hi hd
  rcases h1 with ⟨h1, _⟩ | ⟨_, c, o, h3, h4, h5⟩
  · rcases hk with q | q <;> (rw [q] at h1; cases h1)
  · exact ⟨c, o, v, h3, h4, h5, h2⟩

theorem we_refused (I : C.Is X ns sc (n + 2)) (K : Cas X) (Lp : LawP X) {gr : Addr} {ps : Arguments} {bd : List Stmt} {fsc : Scope} (hgr : DefAt X "gratio_power" gr ps bd fsc) {lp : Pos} {qual : Str} {Pt c : Addr} (hq : (lp, qual, Pt) ∈ tabs) (hnd : (tabs.map (·.2.2)).Nodup)
    (hcode : C.env.code = .ref c) (hC : CodeHd X.h0 c Pt) (hqual : C.env.qual ++ "<lambda>" = qual) {i1 i2 : Nat} {d1 d2 : DV} {k : Str}
    (h1 : idx ns "told" 0 = some i1) (h1' : ρ[i1]? = some (some (.fz d1))) (h2 : idx ns "times" 0 = some i2) (h2' : ρ[i2]? = some (some (.fz d2)))
    (k1 : sc.names.lookup (Str.ofString "told") = some .cell ∨ sc.names.lookup (Str.ofString "told") = some .free) (k2 : sc.names.lookup (Str.ofString "times") = some .cell ∨ sc.names.lookup (Str.ofString "times") = some .free)
    (kr : sc.names.lookup (Str.ofString "_law_refused") = some .globalImplicit) {lsc : Scope} {p1 p2 b1 b2 b3 b4 : Pos} {P : DV → Prop}
    (hfree : ∀ x ∈ lsc.names, x.2 = .free → x.1 = "told" ∨ x.1 = "times") (s1 : ((Str.ofString "told"), NameKind.free) ∈ lsc.names ∧ lsc.names.lookup (Str.ofString "told") = some .free) (s2 : ((Str.ofString "times"), NameKind.free) ∈ lsc.names ∧ lsc.names.lookup (Str.ofString "times") = some .free) (s3 : lsc.names.lookup (Str.ofString "gratio_power") = some .globalImplicit)
    (hcell : ∀ x ∈ lsc.names, x.2 ≠ .cell) (hco : lsc.isCoroutine = false) (hgen : lsc.isGenerator = false) (hk : lsc.kind = .function)
    (hf : FnG X n gr .no ([d1, d2].map .fz) (fun _ _ => False) (Fail K.cas k)) (hP : P (.str k)) :
    WE C E (.law a oi tabs) ρ (.Call (.Name "_law_refused" p1) [.Lambda noArgs (.Call (.Name "gratio_power" b1) [.Name "told" b2, .Name "times" b3] [] b4) lsc lp] [] p2) P := by
  intro g s S
  have W := I.wf
  have hX := I.X
  obtain ⟨o, pm, cd, doc, ho, hdat, hcd⟩ := Lp.hrefused.obj
  have hat : C.X.mg (Str.ofString "_law_refused") = some (.ref Lp.refused) := by rw [hX]; exact Lp.hrefused.at_
  have q1 : C.env.kindOf "told" = some .cell ∨ C.env.kindOf "told" = some .free := k1.imp (fun z => I.kind z) fun z => I.kind z
  have q2 : C.env.kindOf "times" = some .cell ∨ C.env.kindOf "times" = some .free := k2.imp (fun z => I.kind z) fun z => I.kind z
  obtain ⟨cl, hcl, hcl1, hcl2, _⟩ := closure_ok (scope := lsc) (env := C.env) fun x hx hxf => by
    rcases hfree x hx hxf with z | z
    · rw [z]; exact I.cells _ k1
    · rw [z]; exact I.cells _ k2
  refine Call_ (loadGlob W S (I.kind kr) hat (callWith_def hdat (spliced_more (kla_eval (by rfl) ?_) rfl) rfl) (by decide))
  rw [hqual]
  refine mk_lambda I Lp S hq hnd hcode hC hcl fun f fo cc oc g1 sA l1 S1 L => ?_
  obtain ⟨pmv, ctv, hfo⟩ := L.fo
  obtain ⟨vs, tq, hoc, hvs⟩ := L.oc
  obtain ⟨c1, o1, v1, e1, e2, e3, e4⟩ := cell_of W S1 (I.at_ h1) h1' q1
  obtain ⟨c2, o2, v2, f1, f2, f3, f4⟩ := cell_of W S1 (I.at_ h2) h2' q2
  refine spliced_none ⟨S1.stat W _ _ (hX.symm ▸ ho), ?_⟩
  have hc12 : c2 ≠ c1 := fun z => by
    have := W.cinj _ _ _ f1 (z ▸ e1)
    exact absurd this (by decide)
  have n1 : g1 c1 = none := (S1.cells _ _ e1).1
  have n2 : gext g1 c1 o1 c2 = none := by rw [gext_ne hc12]; exact (S1.cells _ _ f1).1
  have l2 : Le g1 (gext (gext g1 c1 o1) c2 o2) := (le_gext n1).trans (le_gext n2)
  have le2 : Le (gext (gext g1 c1 o1) c2 o2) sA.heap.get? := fun x o' e => by
    by_cases z1 : x = c2
    · rw [z1, gext_eq] at e
      cases e
      rw [z1]; exact f2
    · rw [gext_ne z1] at e
      by_cases z2 : x = c1
      · rw [z2, gext_eq] at e
        cases e
        rw [z2]; exact e2
      · rw [gext_ne z2] at e
        exact S1.le _ _ e
  have hlam := lam_fails (X := X) (hX ▸ W.wf) hgr (f := f) (cc := cc) (c1 := c1) (c2 := c2) (oc := oc) hfo hoc hvs (clos := cl) (by rw [hcl2 _ s1.1 rfl]; exact e1) (by rw [hcl2 _ s2.1 rfl]; exact f1) s1.2 s2.2 s3 hcell hco hgen hk hf
  have hroom : Roomy C.A (n + 1 + 1) := by have := W.roomy; rw [I.room] at this; exact this
  rw [hX]
  have hcall := refused_ok (hX ▸ W.wf) K Lp hlam C.A C.stk E (gext (gext g1 c1 o1) c2 o2) sA [.ref f] W.stack W.handled (hX ▸ S1.frs) hroom (fun x o' e => l2 _ _ (S1.h0 W x o' (hX.symm ▸ e))) le2 (fun x hx => ?_) trivial
    (.cons ⟨rfl, l2 _ _ L.fg, l2 _ _ L.cg, ⟨o1, v1, (le_gext n2) _ _ gext_eq, e3, e4.mono l2⟩, o2, v2, gext_eq, f3, f4.mono l2⟩ .nil) (fun _ _ _ _ z => z.elim)
  · refine wpAny_mono hcall (fun v s' ⟨g', o', d, hs, _, hr, hd⟩ => ?_) fun _ _ x => x
    subst hd
    cases hr using Rd.strE
    let gF : G := fun x => match sA.heap.get? x with | some _ => g1 x | none => g' x
    have gold : ∀ {x}, sA.heap.get? x ≠ none → gF x = g1 x := fun {x} hx => by
      obtain ⟨o, e⟩ := Option.ne_none_iff_exists'.mp hx
      show (match sA.heap.get? x with | some _ => g1 x | none => g' x) = _
      rw [e]
    have st : Step C.frs [] g1 sA gF s' := by
      refine ⟨hs.dom, hs.keep, fun x hx => gold hx, fun x o' e => ?_, hs.gens, hs.drawn, hs.os⟩
      by_cases hx : sA.heap.get? x = none
      · have : gF x = g' x := by show (match sA.heap.get? x with | some _ => g1 x | none => g' x) = _; rw [hx]
        rw [this] at e
        exact hs.le _ _ e
      · rw [gold hx] at e
        exact hs.le _ _ (by rw [hs.frz x hx]; exact l2 _ _ e)
    exact ⟨gF, _, l1.trans (st.mono S1.le), S1.sub W st, .str _ _, hP⟩
  · have hx' : x ∈ C.frs := hx
    rw [gext_ne (fun (z : x = c2) => W.cfr _ _ f1 (by rw [← z]; exact hx')), gext_ne (fun (z : x = c1) => W.cfr _ _ e1 (by rw [← z]; exact hx'))]
    exact S1.frf x hx'
end

end
section

open PySem PySem.W PySem.Calls PyProof.Rows PySem.SeqAt

section
variable {C : Cx} {E : Value → Shared → Prop} {ρ : Locals} {X : Stx} {ns : List Str} {sc : Scope} {n : Nat} {a : Addr} {tabs : List (Pos × Str × Addr)} {N : Own → Locals → Prop} {R : Own → DV → Prop}

/-- a call that hands the box on -/
theorem we_callO (I : C.Is X ns sc n) {i : Nat} {x f : Str} {fa : Addr} {ps : Arguments} {body : List Stmt} {fsc : Scope} (hd : DefAt X f fa ps body fsc) {r : List Expr} {p0 p1 p2 : Pos} {P : DV → Prop} (hk : sc.names.lookup f = some .globalImplicit)
    (hi : idx ns x 0 = some i) (hρ : ρ[i]? = some (some .own))
    (h : WL C E (.law a none tabs) ρ r fun ds => FnG X n fa (.law a none tabs) (.own :: ds.map .fz) (fun o' d => o' = .law a none tabs ∧ P d) noK)
    (he1 : starEach (.Name x p1 :: r) C.env = (false, eval (.Name x p1) C.env) :: starEach r C.env := by rfl)
    (h0 : (f == ("__debug__" : Str)) = false := by decide) (h1 : (x == ("__debug__" : Str)) = false := by decide) (h2 : (x == ("__classdict__" : Str)) = false := by decide) :
    WE C E (.law a none tabs) ρ (.Call (.Name f p0) (.Name x p1 :: r) [] p2) P := by
  obtain ⟨W, rfl, _, _, hroom, _, _⟩ := id I
  intro g s S
  obtain ⟨o, pm, cd, doc, ho, hdat, hcd⟩ := hd.obj
  refine Call_ (loadGlob W S (I.kind hk) hd.at_ (callWith_def hdat (spliced_more (loadOwn W S (I.at_ hi) hρ rfl (WL.on h p2 S (fun us s2 g2 ds l2 S2 r2 hF => ⟨S2.stat W _ _ ho, ?_⟩)) h1 h2) he1) he1) h0)
  refine wpAny_mono (hF C.A C.stk E g2 s2 _ W.stack W.handled S2.frs (hroom ▸ W.roomy) (S2.h0 W) S2.le S2.frf S2.hown (.cons ⟨a, rfl, rfl⟩ r2.vrl) (fun _ _ _ _ q => q.elim)) (fun v s4 q => ?_) fun _ _ x => x
  cases q with
  | mk g4 o4 d4 a1 a2 a3 a45 =>
  obtain ⟨a4, a5⟩ := a45
  subst a4
  exact ⟨g4, d4, l2.trans (a1.mono S2.le), S2.subOwn W a1 a2 rfl rfl, a3, a5⟩

/-- the box's index and list are known -/
theorem ws_pin {ss : List Stmt} (h : ∀ i l, 0 ≤ i → l.length ≤ 100 → WS C E (.law a (some (i, l)) tabs) ρ ss N R) : WS C E (.law a none tabs) ρ ss N R := fun g s S => by
  obtain ⟨b1, b2, ⟨ob, nb, lb, i, tb, l, b3, b4, b5, b6, b7, b8⟩, b9⟩ := id S.hown
  exact h i l b6.1 b7 g s (S.reown rfl rfl ⟨b1, b2, ⟨ob, nb, lb, i, tb, l, b3, b4, b5, ⟨b6.1, fun p hp => by cases hp; rfl⟩, b7, b8⟩, b9⟩)
theorem own_unpin {g : G} {h : Heap} {fr : List Addr} {oi : Option (Int × List Int)} (x : OwnOk g h fr (.law a oi tabs)) : OwnOk g h fr (.law a none tabs) := by
  obtain ⟨b1, b2, ⟨ob, nb, lb, i, tb, l, b3, b4, b5, b6, b7, b8⟩, b9⟩ := x
  exact ⟨b1, b2, ⟨ob, nb, lb, i, tb, l, b3, b4, b5, ⟨b6.1, fun _ hp => nomatch hp⟩, b7, b8⟩, b9⟩
theorem fnG_unpin {m : Nat} {f : Addr} {o : Own} {args : List LV} {P : DV → Prop} {K : Kx} (h : FnG X m f o args (fun o' d => (∃ oi, o' = .law a oi tabs) ∧ P d) K) : FnG X m f o args (fun o' d => o' = .law a none tabs ∧ P d) K := fun A stk E g s vs a1 a2 a3 a4 a5 a6 a7 a8 a9 a10 =>
  wpAny_mono (h A stk E g s vs a1 a2 a3 a4 a5 a6 a7 a8 a9 a10) (fun _ _ p => GPost.casesOn p fun g' o' d x y z ⟨⟨oi, ho⟩, q⟩ => ⟨g', .law a none tabs, d, x, by subst ho; exact own_unpin y, z, rfl, q⟩) fun _ _ x => x

/-- box[0], box[1] -/
theorem lw_get (I : C.Is X ns sc n) {oi : Int × List Int} {i : Nat} {x : Str} {p1 ps : Pos} {e : Expr} {P : DV → Prop} (hi : idx ns x 0 = some i) (hd : ρ[i]? = some (some .own))
    (h : WE C E (.law a (some oi) tabs) ρ e fun d => (d = .int 0 ∧ P (.lst (oi.2.map .int))) ∨ (d = .int 1 ∧ P (.int oi.1)))
    (hs : ∀ t k u, subscripted e false (.ref t) (.int k u) = operate [.ref t, .int k u] (getItem (.ref t) (.int k u)) := by intro _ _ _; with_unfolding_all rfl)
    (h1 : (x == ("__debug__" : Str)) = false := by decide) (h2 : (x == ("__classdict__" : Str)) = false := by decide) :
    WE C E (.law a (some oi) tabs) ρ (.Subscript (.Name x p1) e ps) P := fun g s S =>
  Subscript_ (loadOwn I.wf S (I.at_ hi) hd rfl (WE.on h S (fun u s2 g2 d l2 S2 r2 hh => by
    obtain ⟨b1, b2, ⟨ob, nb, lb, ib, tb, l, b3, b4, b5, b6, b7, b8⟩, b9⟩ := id S2.hown
    have hoi := b6.2 _ rfl
    subst hoi
    rcases hh with ⟨rfl, hp⟩ | ⟨rfl, hp⟩
    · cases r2 using Rd.intE
      exact tail_any (T := "list") ⟨ob, b3, b4⟩ slot_list_getitem.lookup (wpAny_getItem_list (x := .ref lb) ⟨ob, b3, b4, nb, b5⟩ (by decide) (by decide) (by rfl) ⟨g2, _, l2, S2, b8, hp⟩) (hs _ _ _)
    · cases r2 using Rd.intE
      exact tail_any (T := "list") ⟨ob, b3, b4⟩ slot_list_getitem.lookup (wpAny_getItem_list (x := .int ib tb) ⟨ob, b3, b4, nb, b5⟩ (by decide) (by decide) (by rfl) ⟨g2, _, l2, S2, .int _ _, hp⟩) (hs _ _ _))) h1 h2)

/-- box[1] = e -/
theorem lx_set (I : C.Is X ns sc n) {oi : Int × List Int} {i : Nat} {x : Str} {p1 ps pos : Pos} {k e : Expr} (hi : idx ns x 0 = some i) (hd : ρ[i]? = some (some .own))
    (h : WE C E (.law a (some oi) tabs) ρ e fun d => ∃ j, d = .int j ∧ 0 ≤ j ∧ WE C E (.law a (some oi) tabs) ρ k fun z => z = .int 1 ∧ N (.law a (some (j, oi.2)) tabs) ρ)
    (hs : swapsWith e (some (.Subscript (.Name x p1) k ps)) pos.line C.env = pure false := by rfl)
    (h1 : (x == ("__debug__" : Str)) = false := by decide) (h2 : (x == ("__classdict__" : Str)) = false := by decide) :
    WX C E (.law a (some oi) tabs) ρ (.Assign [.Subscript (.Name x p1) k ps] e pos) N R := fun g s S =>
  wpAny_Assign_Subscript (WE.on h S (fun v s1 g1 d l1 S1 r1 ⟨j, hj, hj0, h3⟩ => loadOwn I.wf S1 (I.at_ hi) hd rfl (WE.on h3 S1 (fun u s2 g2 z l2 S2 r2 ⟨hz, hN⟩ => by
    subst hz hj
    cases r2 using Rd.intE
    cases r1 using Rd.intE
    rename_i tj _
    obtain ⟨b1, b2, ⟨ob, nb, lb, ib, tb, l, b3, b4, b5, b6, b7, b8⟩, b9⟩ := id S2.hown
    have hoi := b6.2 _ rfl
    subst hoi
    refine wpAny_setItem_list ⟨ob, b3, b4, nb, b5⟩ (by decide) (by decide) (show ((1 : Nat) : Int) < ((2 : Nat) : Int) by decide) fun h' hl' hs' => ?_
    obtain ⟨o', e1, e2, n', e3⟩ := hl'
    have hO : OwnOk g2 h' C.frs (.law a (some (j, l)) tabs) :=
      ⟨b1, b2, ⟨o', n', lb, j, _, l, e1, e2, e3, ⟨hj0, fun p hp => by cases hp; rfl⟩, b7, b8⟩, fun q hq => let y := b9 q hq; ⟨y.1, y.2.1, y.2.2.1, y.2.2.2.at (Le.refl _) fun o e => (hs'.2 _ y.2.1).trans e⟩⟩
    exact .next g2 _ _ (l1.trans l2) (S2.ownSet I.wf (b := a) (own' := .law a (some (j, l)) tabs) List.mem_cons_self hs' (isn e1) rfl rfl b2 hO b1) hN)) h1 h2)) hs
end

end
section

open PySem PySem.W PySem.Calls PyProof.Rows PySem.SeqAt

noncomputable def ltL : List Int → List Int → Bool
  | x :: r, y :: q => if x = y then ltL r q else decide (x < y)
  | _, _ => false

open MeetsSeq MeetsSeq2 MeetsSeq3 SeqRoads2 AutoSeq1 in
theorem lt_loop (l b : Addr) (items items2 : Array Value) (n n2 : Nat) (dd dd2 : Option Addr) (sl sl2 : Array (Option Value)) (hsz : items.size = items2.size) (xs ys : List Int) (hxl : xs.length = items.size) (hyl : ys.length = items.size)
    (hx : ∀ j (h : j < items.size), ∃ x t, xs[j]? = some x ∧ items[j] = .int x t) (hy : ∀ j (h : j < items2.size), ∃ y t, ys[j]? = some y ∧ items2[j] = .int y t) (k : Nat) :
    ∀ i : Nat, items.size - i = k → Meets (Builtin.«list.__eq__.loop» ⟨[.ref l, .ref b, rawInt i, rawInt 0], []⟩)
      (fun A R s => s.heap.get? l = some { cls := .type "list", dict := dd, data := .seq items n, slots := sl } ∧ s.heap.get? b = some { cls := .type "list", dict := dd2, data := .seq items2 n2, slots := sl2 } ∧
        R (.ok (.ret (.bool (ltL (xs.drop i) (ys.drop i))))) s) := by
  induction k with
  | zero =>
    intro i hk prog w A R s h
    obtain ⟨hp, g, d, tk, os⟩ := s; obtain ⟨hl, hb, h⟩ := h
    wp_walk using wpAny_loadPart' hl, wpAny_loadPart' hb
    have hi1 : items[((i : Nat) : Int).toNat]? = none := by simp; omega
    have hi2 : items2[((i : Nat) : Int).toNat]? = none := by simp; omega
    have hd : xs.drop i = [] := by simp; omega
    rw [hd] at h
    rw [hi1, hi2]
    wp_walk using wpAny_loadPart' hl, wpAny_loadPart' hb
    show R (.ok (.ret (.bool (decide (items.size < items2.size))))) _
    rw [hsz]
    simpa [ltL] using h
  | succ k ih =>
    intro i hk prog w A R s h
    obtain ⟨hp, g, d, tk, os⟩ := s; obtain ⟨hl, hb, h⟩ := h
    wp_walk using wpAny_loadPart' hl, wpAny_loadPart' hb
    have hlt : i < items.size := by omega
    have hlt2 : i < items2.size := by omega
    obtain ⟨x, t, x1, x2⟩ := hx i hlt
    obtain ⟨y, u, y1, y2⟩ := hy i hlt2
    have hi1 : items[((i : Nat) : Int).toNat]? = some (.int x t) := by simp [hlt, x2]
    have hi2 : items2[((i : Nat) : Int).toNat]? = some (.int y u) := by simp [hlt2, y2]
    have dx : xs.drop i = x :: xs.drop (i + 1) := by
      obtain ⟨hh, e⟩ := List.getElem?_eq_some_iff.mp x1
      rw [List.drop_eq_getElem_cons hh, e]
    have dy : ys.drop i = y :: ys.drop (i + 1) := by
      obtain ⟨hh, e⟩ := List.getElem?_eq_some_iff.mp y1
      rw [List.drop_eq_getElem_cons hh, e]
    have hc : ((i : Int) + 1) = ((i + 1 : Nat) : Int) := by push_cast; rfl
    rw [dx, dy, ltL] at h
    rw [hi1, hi2]
    refine wpAny_bind (EqAt.int_int _ _ _ _ prog w _ _ ?_)
    by_cases hxy : x = y
    · rw [if_pos hxy] at h
      rw [show (x == y) = true by simpa using hxy]
      wp_walk
      rw [hc]
      exact ⟨plainId_quiet plain_eq_loop _, codeAny_builtin entry_eq_loop (by
        rw [Around.under_plainId plain_eq_loop _]
        exact ih (i + 1) (by omega) prog w A R _ ⟨hl, hb, by simpa using h⟩)⟩
    · rw [if_neg hxy] at h
      rw [show (x == y) = false by simpa using hxy]
      wp_walk using wpAny_loadPart' hl, wpAny_loadPart' hb
      rw [hi1, hi2]
      refine wpAny_bind (m := richCompare .Lt (.int x t) (.int y u)) (PySem.P.lt_int ?_)
      exact wpAny_pure h
open MeetsSeq MeetsSeq2 MeetsSeq3 SeqRoads2 AutoSeq1 in
theorem list_lt (l b : Addr) (items items2 : Array Value) (n n2 : Nat) (dd dd2 : Option Addr) (sl sl2 : Array (Option Value)) (hsz : items.size = items2.size) (xs ys : List Int) (hxl : xs.length = items.size) (hyl : ys.length = items.size)
    (hx : ∀ j (h : j < items.size), ∃ x t, xs[j]? = some x ∧ items[j] = .int x t) (hy : ∀ j (h : j < items2.size), ∃ y t, ys[j]? = some y ∧ items2[j] = .int y t) :
    Meets (Builtin.«list.__lt__» ⟨[.ref l, .ref b], []⟩)
      (fun A R s => s.heap.get? l = some { cls := .type "list", dict := dd, data := .seq items n, slots := sl } ∧ s.heap.get? b = some { cls := .type "list", dict := dd2, data := .seq items2 n2, slots := sl2 } ∧
        R (.ok (.ret (.bool (ltL xs ys)))) s) := by
  intro prog w A R s h
  obtain ⟨hp, g, d, tk, os⟩ := s; obtain ⟨hl, hb, h⟩ := h
  have f3 := AutoSeq1.sub_list_list
  wp_walk using wpAny_loadPart' hl, wpAny_loadPart' hb
  exact ⟨plainId_quiet plain_eq_loop _, codeAny_builtin entry_eq_loop (by
    rw [Around.under_plainId plain_eq_loop _]
    exact lt_loop l b items items2 n n2 dd dd2 sl sl2 hsz xs ys hxl hyl hx hy _ 0 rfl prog w A R _ ⟨hl, hb, by simpa using h⟩)⟩

end
section

open PySem PySem.W PySem.Calls PyProof.Rows PySem.SeqAt

section
variable {C : Cx} {E : Value → Shared → Prop} {own : Own} {ρ : Locals} {X : Stx} {ns : List Str} {sc : Scope} {n : Nat}

theorem ints_at {g : G} {its : Array Value} {xs : List Int} (h : RdL g its.toList (xs.map .int)) : xs.length = its.size ∧ ∀ j (hj : j < its.size), ∃ x t, xs[j]? = some x ∧ its[j] = .int x t := by
  obtain ⟨ps, h1, h2⟩ := rd_ints h
  have hl : its.size = ps.length := by rw [← Array.length_toList, h1, List.length_map]
  refine ⟨by rw [← h2, List.length_map, hl], fun j hj => ?_⟩
  have hj' : j < ps.length := by omega
  refine ⟨ps[j].1, ps[j].2, by rw [← h2, List.getElem?_map, List.getElem?_eq_getElem hj']; rfl, ?_⟩
  have : its.toList[j]? = some (.int ps[j].1 ps[j].2) := by rw [h1, List.getElem?_map, List.getElem?_eq_getElem hj']; rfl
  rw [Array.getElem?_toList, Array.getElem?_eq_getElem hj] at this
  exact Option.some.inj this

theorem c_ltL (I : C.Is X ns sc n) {xs ys : List Int} (hl : xs.length = ys.length) {P : DV → Prop} (h : P (.bool (ltL xs ys))) : Bin C.X C.A (compareOp .Lt) (.lst (xs.map .int)) (.lst (ys.map .int)) P := fun {E Q g s v u} _ hg r1 r2 k => by
  cases r1 using Rd.lstE with
  | @lst a o its nn a1 a2 a3 a4 =>
  cases r2 using Rd.lstE with
  | @lst b o2 its2 n2 b1 b2 b3 b4 =>
  obtain ⟨l1, i1⟩ := ints_at a4
  obtain ⟨l2, i2⟩ := ints_at b4
  have ho := hg _ _ a1
  have ho2 := hg _ _ b1
  obtain ⟨cls, dd, data, sl⟩ := o
  obtain ⟨cls2, dd2, data2, sl2⟩ := o2
  simp only at a2 a3 b2 b3
  subst a2 a3 b2 b3
  have hu : C.A.units < cLine := by have := I.wf.roomy.2; omega
  exact richCompare_meets_room (op := .Lt) ⟨_, ho, rfl⟩ ⟨_, ho2, rfl⟩ PySem.F.slot_list_lt PySem.F.entry_list_lt (PySem.F.args_list_lt_2 _ _) (list_lt a b its its2 nn n2 dd dd2 sl sl2 (by omega) xs ys l1 (by omega) i1 i2)
    ⟨ho, ho2, show Value.bool (ltL xs ys) ≠ Value.notImplemented ∧ Q (.bool (ltL xs ys)) s from ⟨(fun x => nomatch x), k _ _ s.toks (.bool _) h⟩⟩ hu
theorem c_eqL (I : C.Is X ns sc n) {l m : List DV} (hl : l.length = m.length) (hs : shpL l m) (hd : deepL l ≤ 30) {P : DV → Prop} (h : P (.bool (eqDL l m))) : Bin C.X C.A (compareOp .Eq) (.lst l) (.lst m) P := fun {E Q g s v u} _ hg r1 r2 k => by
  cases r1 using Rd.lstE with
  | @lst _ _ its _ a1 a2 a3 a4 =>
  cases r2 using Rd.lstE with
  | @lst _ _ its2 _ b1 b2 b3 b4 =>
  have hu : C.A.units + 50 < cLine := by have := I.wf.roomy.2; omega
  have key := eqAt_all l m hs (A := C.A.in1) (s := s) hg hg a4 b4 (by show C.A.units + 1 + deepL l < cLine; omega)
  have l1 := a4.length
  have l2 := b4.length
  rw [Array.length_toList] at l1 l2
  rw [eqDL_range, ← l1, ← l2, show its.size = its2.size by omega] at h
  simp only [Nat.min_self, beq_self_eq_true, Bool.and_true] at h
  rw [← show its.size = its2.size by omega] at h
  exact RcAt.lists ⟨_, hg _ _ a1, a2, _, a3⟩ ⟨_, hg _ _ b1, b2, _, b3⟩ (by omega) (by omega) (fun j hj1 hj2 => by
    have := key j (by rw [Array.length_toList]; exact hj1) (by rw [Array.length_toList]; exact hj2)
    simpa [eqJ] using this) C.X.prog C.X.w E Q (k _ _ s.toks (.bool _) h)
theorem c_neL (I : C.Is X ns sc n) {l m : List DV} (hl : l.length = m.length) (hs : shpL l m) (hd : deepL l ≤ 30) {P : DV → Prop} (h : P (.bool (!eqDL l m))) : Bin C.X C.A (compareOp .NotEq) (.lst l) (.lst m) P := fun {E Q g s v u} _ hg r1 r2 k => by
  cases r1 using Rd.lstE with
  | @lst _ _ its _ a1 a2 a3 a4 =>
  cases r2 using Rd.lstE with
  | @lst _ _ its2 _ b1 b2 b3 b4 =>
  have hu : C.A.units + 50 < cLine := by have := I.wf.roomy.2; omega
  have key := eqAt_all l m hs (A := C.A.in1) (s := s) hg hg a4 b4 (by show C.A.units + 1 + deepL l < cLine; omega)
  have l1 := a4.length
  have l2 := b4.length
  rw [Array.length_toList] at l1 l2
  rw [eqDL_range, ← l1, ← l2, show its.size = its2.size by omega] at h
  simp only [Nat.min_self, beq_self_eq_true, Bool.and_true] at h
  rw [← show its.size = its2.size by omega] at h
  exact RcNeAt.lists ⟨_, hg _ _ a1, a2, _, a3⟩ ⟨_, hg _ _ b1, b2, _, b3⟩ (by omega) (by omega) (fun j hj1 hj2 => by
    have := key j (by rw [Array.length_toList]; exact hj1) (by rw [Array.length_toList]; exact hj2)
    simpa [eqJ] using this) C.X.prog C.X.w E Q (k _ _ s.toks (.bool _) h)

/-- l[i], the index below 0 as well -/
theorem w_subN (I : C.Is X ns sc n) {value slice : Expr} {pos : Pos} {P : DV → Prop} (h : WE C E own ρ value fun d => WE C E own ρ slice fun i => ∃ ds k, d = .lst ds ∧ i = .int k ∧ -(2 ^ 62) < k ∧ k < 2 ^ 62 ∧ ∃ e, ((k < 0 ∧ -(ds.length : Int) ≤ k ∧ ds[(k + ds.length).toNat]? = some e) ∨ (0 ≤ k ∧ ds[k.toNat]? = some e)) ∧ P e)
    (hs : ∀ t k u, subscripted slice false (.ref t) (.int k u) = operate [.ref t, .int k u] (getItem (.ref t) (.int k u)) := by intro _ _ _; with_unfolding_all rfl) : WE C E own ρ (.Subscript value slice pos) P := fun g s S =>
  Subscript_ (WE.on h S (fun v s1 g1 d l1 S1 r1 h1 => WE.on h1 S1 (fun u s2 g2 i l2 S2 r2 ⟨ds, k, hd, hi, k1, k2, e, k3, k5⟩ => by
    subst hd hi
    cases r2 using Rd.intE with
    | int t =>
    cases r1.mono l2 with
    | @lst a o its nn _ a1 a2 a3 a4 =>
      have hl := a4.length
      rw [Array.length_toList] at hl
      rcases k3 with ⟨hk, hk2, k4⟩ | ⟨hk, k4⟩
      · obtain ⟨x, x1, x2⟩ := a4.get k4
        rw [Array.getElem?_toList, ← hl] at x1
        exact tail_any (T := "list") ⟨o, S2.le _ _ a1, a2⟩ slot_list_getitem.lookup (wpAny_getItem_list_neg (x := x) ⟨o, S2.le _ _ a1, a2, _, a3⟩ hk (by omega) (by omega) x1 ⟨g2, e, l1.trans l2, S2, x2, k5⟩) (hs _ _ _)
      · obtain ⟨x, x1, x2⟩ := a4.get k4
        rw [Array.getElem?_toList] at x1
        exact tail_any (T := "list") ⟨o, S2.le _ _ a1, a2⟩ slot_list_getitem.lookup (wpAny_getItem_list (x := x) ⟨o, S2.le _ _ a1, a2, _, a3⟩ (by omega) (by omega) x1 ⟨g2, e, l1.trans l2, S2, x2, k5⟩) (hs _ _ _))))
end

end
section

open PySem PySem.W PySem.Calls PyProof.Rows PySem.SeqAt
section
variable {C : Cx} {E : Value → Shared → Prop} {own : Own} {ρ : Locals} {X : Stx} {ns : List Str} {sc : Scope} {n : Nat}
theorem wt_nm (I : C.Is X ns sc n) {i : Nat} {x : Str} {pos : Pos} {b : Bool} {P : Bool → Prop} (hi : idx ns x 0 = some i) (hd : ρ[i]? = some (some (.fz (.bool b)))) (h : P b)
    (h1 : (x == ("__debug__" : Str)) = false := by decide) (h2 : (x == ("__classdict__" : Str)) = false := by decide) : WT C E own ρ (.Name x pos) P := wt_plain (we_nm I hi hd ⟨b, rfl, h⟩ h1 h2)
theorem Cx.Is.units (I : C.Is X ns sc n) : C.A.units + 50 < cLine := by have := I.wf.roomy.2; omega
end
section
variable {C : Cx} {E : Value → Shared → Prop} {own : Own} {ρ : Locals} {X : Stx} {ns : List Str} {sc : Scope} {n : Nat} {P : DV → Prop}
theorem c_neSame (I : C.Is X ns sc n) {l1 l2 : GD} (h1 : (l1.map (·.1)).Nodup) (h2 : (l2.map (·.1)).Nodup) (h : P (.bool false)) : Bin C.X C.A (compareOp .NotEq) (.tup [.gd l1, .gd l2]) (.tup [.gd l1, .gd l2]) P :=
  c_nePair (by have := I.units; omega) (by rw [gdEq_self h1, gdEq_self h2]; exact h)
theorem c_leaf (I : C.Is X ns sc n) {F V : DV} (h : F = V) (hs : shp V V) (hd : deepD V ≤ 30) (he : eqD V V = true) (hP : P (.bool true)) : Bin C.X C.A (compareOp .Eq) F V P := by
  subst h
  exact cmp_eqD hs (by have := I.units; omega) (by rw [he]; exact hP)
theorem c_leafRd (I : C.Is X ns sc n) {F : DV} {r : Rt} (h : F = rd r) (hP : P (.bool true)) : Bin C.X C.A (compareOp .Eq) F (.tup [.int r.1, .int r.2]) P := by
  refine c_leaf I h (by simp [rd, shp, shpL]) (by simp [rd, deepD, deepL]) ?_ hP
  simp [rd, eqD, eqDL]
theorem c_leafStr (I : C.Is X ns sc n) {F : DV} {x : Str} (h : F = .str x) (hP : P (.bool true)) : Bin C.X C.A (compareOp .Eq) F (.str x) P :=
  c_leaf I h (by simp [shp]) (by simp [deepD]) (by simp [eqD]) hP
theorem eqDL_ints : ∀ l l' : List Int, eqDL (l.map .int) (l'.map .int) = decide (l = l')
  | [], [] => rfl
  | [], _ :: _ => rfl
  | _ :: _, [] => rfl
  | x :: r, y :: q => by
    rw [List.map_cons, List.map_cons, eqDL, eqDL_ints r q, eqD]
    by_cases h : x = y <;> by_cases h2 : r = q <;> simp [h, h2]
theorem shpL_ints : ∀ l l' : List Int, shpL (l.map .int) (l'.map .int)
  | [], _ => by cases ‹List Int› <;> trivial
  | _ :: _, [] => trivial
  | x :: r, y :: q => ⟨trivial, shpL_ints r q⟩
theorem deepL_ints : ∀ l : List Int, deepL (l.map .int) = 0
  | [] => rfl
  | x :: r => by rw [List.map_cons, deepL, deepL_ints r]; rfl
/-- l == l', lists of ints -/
theorem c_eqI (I : C.Is X ns sc n) {l l' : List Int} (hl : l.length = l'.length) (h : P (.bool (decide (l = l')))) : Bin C.X C.A (compareOp .Eq) (.lst (l.map .int)) (.lst (l'.map .int)) P :=
  c_eqL I (by simpa using hl) (shpL_ints _ _) (by rw [deepL_ints]; omega) (by rw [eqDL_ints]; exact h)
end
theorem ws_then {C : Cx} {E : Value → Shared → Prop} {own : Own} {ρ : Locals} {N : Own → Locals → Prop} {R : Own → DV → Prop} {st : Stmt} {rest : List Stmt} (F : Prop) (h1 : WX C E own ρ st (fun o r => o = own ∧ r = ρ ∧ F) R) (h2 : F → WS C E own ρ rest N R) : WS C E own ρ (st :: rest) N R :=
  ws_cons fun g s S => wpAny_mono (h1 g s S) (fun f s' x => x.mono (fun o r ⟨a, b, c⟩ => by subst a b; exact h2 c) fun _ _ h => h) fun _ _ x => x
/-- the code of a def keeps its table at Pt -/
noncomputable def TabFor (X : Stx) (f Pt : Addr) : Prop := ∀ ob fd, X.h0.get? f = some ob → ob.data = .func fd → ∃ c, fd.code = .ref c ∧ CodeHd X.h0 c Pt
theorem tab_env {X : Stx} {f Pt : Addr} (h : TabFor X f Pt) {env : Env} {x : Str} {ps : Arguments} {body : List Stmt} {sc : Scope}
    (hh : ∃ L ob pm cd doc, X.h0.get? f = some ob ∧ ob.data = .func (docDef x ps body sc pm cd doc) ∧ env = callEnvC (docDef x ps body sc pm cd doc) L f) : (∃ c, env.code = .ref c ∧ CodeHd X.h0 c Pt) ∧ env.qual = x ++ ".<locals>." := by
  obtain ⟨L, ob, pm, cd, doc, h1, h2, h3⟩ := hh
  obtain ⟨c, h4, h5⟩ := h ob _ h1 h2
  subst h3
  exact ⟨⟨c, h4, h5⟩, rfl⟩

end
section

open PySem PySem.W PySem.Calls PyProof.Rows PySem.SeqAt

section
variable {C : Cx} {E : Value → Shared → Prop} {own : Own} {ρ : Locals} {N : Own → Locals → Prop} {R : Own → DV → Prop} {X : Stx} {ns : List Str} {sc : Scope} {n : Nat}

/-- list + list -/
theorem w_addL (I : C.Is X ns sc n) {l r : Expr} {pos : Pos} {P : DV → Prop} (h : WE C E own ρ l fun d => WE C E own ρ r fun e => ∃ ds es, d = .lst ds ∧ e = .lst es ∧ ds.length ≤ 500 ∧ es.length ≤ 500 ∧ P (.lst (ds ++ es))) :
    WE C E own ρ (.BinOp l .Add r pos) P := fun g s S =>
  wpAny_BinOp (WE.on h S (fun v s1 g1 d l1 S1 r1 h1 => WE.on h1 S1 (fun u s2 g2 e l2 S2 r2 ⟨ds, es, hd, he, q1, q2, hp⟩ => by
    subst hd he
    have W := I.wf
    have r1 := r1.mono l2
    cases r1 using Rd.lstE with
    | @lst a o its k a1 a2 a3 a4 =>
    cases r2 using Rd.lstE with
    | @lst b o2 its2 k2 b1 b2 b3 b4 =>
    have n1 := a4.length
    have n2 := b4.length
    rw [Array.length_toList] at n1 n2
    have ho := S2.le _ _ a1
    have ho2 := S2.le _ _ b1
    obtain ⟨cls, dd, data, sl⟩ := o
    obtain ⟨cls2, dd2, data2, sl2⟩ := o2
    simp only at a2 a3 b2 b3
    subst a2 a3 b2 b3
    refine concat_meets ⟨_, ho, rfl⟩ ⟨_, ho2, rfl⟩ noFill_list_add seq_list_add PySem.F.slot_list_add PySem.F.entry_list_add (PySem.F.args_list_add_2 _ _) (list_addW a b its its2 k k2 dd dd2 sl sl2 (by rw [sizeLine_eq]; omega)) ⟨ho, ho2, ?_⟩
    obtain ⟨l5, S5⟩ := S2.push1 W (t := s2.toks) (A := s2.heap.objs.size) (o := { cls := .type "list", data := .seq (its ++ its2) }) (fun _ _ e => Heap.get?_push_of_some _ e) (fresh_none _) (Heap.get?_push_size _ rfl)
    exact ⟨_, _, (l1.trans l2).trans l5, S5, .lst (if_pos rfl) rfl rfl (by rw [Array.toList_append]; exact (a4.mono l5).append (b4.mono l5)), hp⟩)))

/-- list * int -/
theorem w_mulL (I : C.Is X ns sc n) {l r : Expr} {pos : Pos} {P : DV → Prop} (h : WE C E own ρ l fun d => WE C E own ρ r fun e => ∃ d0 k, d = .lst [d0] ∧ e = .int k ∧ 0 ≤ k ∧ k ≤ 100 ∧ P (.lst (List.replicate k.toNat d0))) :
    WE C E own ρ (.BinOp l .Mult r pos) P := fun g s S =>
  wpAny_BinOp (WE.on h S (fun v s1 g1 d l1 S1 r1 h1 => WE.on h1 S1 (fun u s2 g2 e l2 S2 r2 ⟨d0, x, hd, he, q1, q2, hp⟩ => by
    subst hd he
    have W := I.wf
    have r1 := r1.mono l2
    cases r1 using Rd.lstE with
    | @lst a o its k a1 a2 a3 a4 =>
    cases r2 using Rd.intE with
    | int t =>
    obtain ⟨its⟩ := its
    cases a4 with
    | @cons v0 _ vs _ hv a4 =>
    cases a4
    have ho := S2.le _ _ a1
    obtain ⟨cls, dd, data, sl⟩ := o
    simp only at a2 a3
    subst a2 a3
    have hx : x.toNat ≤ 100 := by omega
    refine wpAny_binaryOp_repeat_ref (T := "list") (U := "int") (by decide) ⟨_, ho, rfl⟩ (fun s' => typeIs_int s' x _) noFill_list_mul F.fills_int_mul F.slot_int_rmul repeat_list F.slot_int_index.lookup
      (call_meets F.slot_int_rmul (typeIs_int s2 x _) F.entry_int_rmul (F.args_int_rmul_2 _ _) (lm_int_rmul_list_any x _ a _ k dd sl)
        ⟨ho, rfl, ⟨_, ho, rfl⟩, call_meets F.slot_list_mul ⟨_, ho, rfl⟩ F.entry_list_mul (F.args_list_mul_2 _ _)
          (lm_list_mul_any a _ k dd sl x _ (by simp [Builtin.List.listFitsIndex]; omega) (by show ¬ 1 * x.toNat > _; omega) (by show ¬ Builtin.List.listTooLong (1 * x.toNat) = true; simp [Builtin.List.listTooLong, sizeLine]; omega))
          ⟨ho, ?_⟩⟩)
    generalize hits : (List.foldl (fun x1 x2 => x1 ++ x2) #[] (List.replicate (if ({ toList := [v0] } : Array Value).isEmpty = true then 0 else x.toNat) ({ toList := [v0] } : Array Value))) = its'
    have key : ∀ k (acc : Array Value), (List.foldl (fun x1 x2 => x1 ++ x2) acc (List.replicate k (#[v0] : Array Value))).toList = acc.toList ++ List.replicate k v0 := by
      intro k
      induction k with
      | zero => intro acc; simp
      | succ k ih => intro acc; rw [List.replicate_succ, List.foldl_cons, ih, Array.toList_append, List.replicate_succ, List.append_assoc]; rfl
    have e : its'.toList = List.replicate x.toNat v0 := by
      rw [← hits]
      have := key x.toNat #[]
      exact this
    have rep : ∀ k, RdL g2 (List.replicate k v0) (List.replicate k d0) := by
      intro k
      induction k with
      | zero => exact .nil
      | succ k ih => exact .cons hv ih
    obtain ⟨l5, S5⟩ := S2.push1 W (t := s2.toks) (A := s2.heap.objs.size) (o := { cls := .type "list", data := .seq its' }) (fun _ _ e => Heap.get?_push_of_some _ e) (fresh_none _) (Heap.get?_push_size _ rfl)
    exact ⟨_, _, (l1.trans l2).trans l5, S5, .lst (if_pos rfl) rfl rfl (by rw [e]; exact (rep _).mono l5), hp⟩)))

end

end
section

open PySem PySem.W PySem.Calls PyProof.Rows PySem.SeqAt

section
variable {C : Cx} {E : Value → Shared → Prop} {own : Own} {ρ : Locals} {N : Own → Locals → Prop} {R : Own → DV → Prop} {X : Stx} {ns : List Str} {sc : Scope} {n : Nat}

inductive DT (C : Cx) (own : Own) (I D : Addr) (k0 : Nat) (cv : Locals) (L : List DV) (F : DV → Kind × Rt) (g0 : G) (Sx : Nat → Heap → Prop) (k : Nat) (s : Shared) : Prop
  | mk (g : G) (i : Nat) (tv : Locals) (l1 : Le g0 g) (htv : tv.length = k0) (S : St C own (tv ++ cv) g s) (F1 : Fresh C own g I) (D1 : Fresh C own g D) (hx : Sx i s.heap) (hK : IsK g s.heap D ((L.take i).map F)) (hi : i ≤ L.length) (hk : k = L.length + 1 - i)
theorem take_map {L : List DV} {F : DV → Kind × Rt} {i : Nat} {d : DV} (hd : L[i]? = some d) : (L.take (i + 1)).map F = (L.take i).map F ++ [F d] := by
  rw [List.take_add_one, hd, List.map_append]; rfl
theorem take_new {L : List DV} {F : DV → Kind × Rt} {i : Nat} {d : DV} (hd : L[i]? = some d) (hnd : ((L.map F).map (·.1)).Nodup) : (F d).1 ∉ ((L.take i).map F).map (·.1) := by
  have hh : (((L.take (i + 1)).map F).map (·.1)).Nodup := List.Nodup.sublist (((List.take_sublist _ _).map F).map (·.1)) hnd
  rw [take_map hd, List.map_append, List.nodup_append] at hh
  exact fun m => hh.2.2 _ m (F d).1 List.mem_cons_self rfl
theorem KKV.new {g : G} {xs : List (Kind × Addr × Value)} {l : GD} (x : KKV g xs l) {k : Kind} (h : k ∉ l.map (·.1)) : atKey xs k = none := by
  rcases x.at k with ⟨_, _, _, _, e, _⟩ | ⟨e, _⟩
  · rw [look_none h] at e; cases e
  · exact e
/-- the turns of a dict comprehension -/
theorem dcomp_turns (I0 : C.Is X ns sc n) {RR : Result → Shared → Prop} {kx vx target iter : Expr} {scope : Scope} {pos : Pos} {k0 : Nat} {cv : Locals} {g0 : G} {s0 : Shared} {I D : Addr} {L : List DV} {Sx : Nat → Heap → Prop} {F : DV → Kind × Rt}
    (S0 : St C own (List.replicate k0 none ++ cv) g0 s0) (hI : Fresh C own g0 I) (hD : Fresh C own g0 D) (hne : D ≠ I) (hx0 : Sx 0 s0.heap) (hIt : ItW C I L g0 Sx) (hP : IsK g0 s0.heap D []) (hlen : L.length ≤ 1000) (hnd : ((L.map F).map (·.1)).Nodup)
    (ht : ∀ v, letOwnedTupleGo target (.ref I) v = pure ())
    (step : ∀ p q E', ((C.add p).add q).Is X ns sc n → ∀ (i : Nat) (d : DV) (tv : Locals), L[i]? = some d → tv.length = k0 → WA ((C.add p).add q) E' own (tv ++ cv) target d fun r => ∃ tv', tv'.length = k0 ∧ r = tv' ++ cv ∧
      WE ((C.add p).add q) E' own (tv' ++ cv) kx fun y => y = kd (F d).1 ∧ WE ((C.add p).add q) E' own (tv' ++ cv) vx fun z => z = rd (F d).2)
    (fin : ∀ g s tv, Le g0 g → tv.length = k0 → St C own (tv ++ cv) g s → Fresh C own g D → IsK g s.heap D (L.map F) → RR (.ok .next) s) :
    codeAny (model C.X.prog C.X.w) C.A (.compLoop (.DictComp kx vx [⟨target, iter, [], 0⟩] scope pos) 0 (.ref I) (.ref D) C.env) RR s0 := by
  have W := I0.wf
  cases hIt with
  | mk fp P Wk hfp hPv hIo hgo =>
  refine codeAny_compLoop_testsD (DT C own I D k0 cv L F g0 Sx) ?_ (L.length + 1)
    ⟨g0, 0, List.replicate k0 none, Le.refl _, List.length_replicate, S0, hI, hD, hx0, hP, Nat.zero_le _, rfl⟩ ht
  intro k s hT
  cases hT with
  | mk g i tv l1 htv S1 F1 D1 hx hk0 hi hkk =>
  subst hkk
  have memD : D ∉ [I] := fun q => hne (List.mem_singleton.mp q)
  by_cases hlt : i < L.length
  · refine Wk.item i _ _ _ hlt hx fun v h' tk hpv hx' hk => ?_
    obtain ⟨obj, hobj⟩ := hIo _ _ hx'
    have S2 := S1.at1 W F1 (t := tk) hk
    obtain ⟨d, hd, hrd⟩ := hPv i v hpv
    have hK2 : IsK g h' D ((L.take i).map F) := hk0.at (Le.refl _) fun o e => hk _ _ memD e
    obtain ⟨oD, q1⟩ := Option.ne_none_iff_exists'.mp hK2.ne
    have Wp : (C.add (I, obj)).Wf := add_wf W ⟨F1.loc, F1.cells⟩
    have Wq : ((C.add (I, obj)).add (D, oD)).Wf := add_wf (p := (D, oD)) Wp ⟨D1.loc, D1.cells⟩
    have S3 : St ((C.add (I, obj)).add (D, oD)) own (tv ++ cv) g { s with heap := h', toks := tk } := (S2.add (p := (I, obj)) ⟨hobj, F1.gn, F1.own⟩).add (p := (D, _)) ⟨q1, D1.gn, D1.own⟩
    refine wpAny_mono (step (I, obj) (D, oD) _ (add_is (add_is I0 Wp) Wq) i d tv hd htv g _ v S3 (hrd.mono l1)) (fun _ s4 q4 => ?_) fun _ _ x => x
    cases q4 with
    | mk r' S4 q4 =>
    obtain ⟨tv', ht', hr', hq⟩ := q4
    subst hr'
    refine wpAny_tests_nil ?_
    rw [if_pos rfl]
    refine WE.on (C := (C.add (I, obj)).add (D, oD)) hq S4 (fun kv s5 g5 y l5 S5 hy hyv => ?_)
    refine WE.on (C := (C.add (I, obj)).add (D, oD)) hyv.2 S5 (fun vv s6 g6 z l6 S6 hz hzk => ?_)
    have hy : Rd g5 kv (kd (F d).1) := hyv.1 ▸ hy
    have hz : Rd g6 vv (rd (F d).2) := hzk ▸ hz
    obtain ⟨t, rfl⟩ := rd_ref hy
    have l56 := l5.trans l6
    cases turn_keep (P := P) Wk hfp F1 D1 hobj S2 l1 hx' l56 S6 with
    | mk k1 k2 k3 k4 k6 =>
    have k5 : IsK g6 s6.heap D ((L.take i).map F) := hK2.at l56 fun o e => by
      rw [k6]; exact q1.symm.trans e
    obtain ⟨xs, hxs, hds⟩ := k5.dictH C.X.prog C.X.w S6.le
    have hlen' : xs.length ≤ 1000 := by
      rw [hxs.length, List.length_map]; exact Nat.le_trans (List.length_take_le' ..) hlen
    refine wpAny_dictSet_heap (knd := kindK C.X.prog C.X.w) (roomK0 I0) ((hy.mono l6).mono S6.le) hds (fun h7 hd7 hs7 => ?_) (by rw [sizeLine_eq]; exact Nat.le_trans hlen' (by decide))
    rw [storedH_new (hxs.new (take_new hd hnd))] at hd7
    refine ⟨_, sub_step hi, g6, i + 1, tv', l1.trans l56, ht', k1.same1 W k3 hs7, k2, k3, turn_frame Wk hfp hne (l1.trans l56) k3 k4 hs7, ?_, hlt, rfl⟩
    rw [take_map hd]
    exact IsK.of (hxs.append (.cons (hy.mono l6) hz .nil)) hd7 k5.mods
  · have hi' : i = L.length := Nat.le_antisymm hi (Nat.le_of_not_lt hlt)
    refine Wk.done _ _ _ (hi' ▸ hx) fun h' tk hk => ?_
    rw [hi', List.take_length] at hk0
    exact fin g _ tv l1 htv (S1.at1 W F1 (t := tk) hk) D1 (hk0.at (Le.refl _) fun o e => hk _ _ memD e)

theorem swaps_d (I : C.Is X ns sc n) {kx vx : Expr} {gs : List Comprehension} {scope : Scope} {pos py : Pos} {y : Str} {ln : Nat} (hy : sc.names.lookup y = some .local) (hk : sc.kind = .function) (hl : py.line = pos.line)
    (hn : scope.names.any (fun q => q.1 == y && (q.2 == .local || q.2 == .cell)) = false) : swapsWith (.DictComp kx vx gs scope pos) (some (.Name y py)) ln C.env = pure true := by
  have h1 : C.env.blockKind = .function := by simp [Env.blockKind, I.wf.kind, ScopeKind.isAnnotationScope]
  have h2 := I.kind hy
  unfold swapsWith
  simp only [h1, h2]
  show (pure (((_ && _) && (py.line == pos.line)) && !(scope.names.any fun q => q.1 == y && (q.2 == .local || q.2 == .cell))) : Sem Bool) = _
  rw [hn, hl]
  simp

/-- x = a dict comprehension -/
theorem x_dcomp (I : C.Is X ns sc n) {kx vx target iter : Expr} {scope : Scope} {pos spos py : Pos} {y : Str} {i : Nat} (ts cs : List Str)
    (hi : idx ns y 0 = some i) (hy : sc.names.lookup y = some .local) (hscf : sc.kind = .function) (hline : py.line = pos.line) (hsn : scope.names.any (fun q => q.1 == y && (q.2 == .local || q.2 == .cell)) = false)
    (hcell : ∀ x ∈ scope.names, x.2 ≠ .cell) (hkind : scope.kind = .function) (hnames : ∀ x ∈ scope.names, x.2 = .local → scope.names.lookup x.1 = some .local)
    (hcs : ∀ x ∈ cs, scope.names.lookup x = some .free ∧ (sc.names.lookup x = some .cell ∨ sc.names.lookup x = some .free)) (hcs2 : ∀ x ∈ scope.names, x.2 = .free → x.1 ∈ cs) (hnd : (ts ++ cs).Nodup)
    (ht : ∀ it v, letOwnedTupleGo target it v = pure ())
    (h : WI C E own ρ iter fun L => L.length ≤ 100 ∧ ∃ F : DV → Kind × Rt, ((L.map F).map (·.1)).Nodup ∧ (∀ (C' : Cx) (E' : Value → Shared → Prop), C'.Is X (ts ++ cs) (relabelS scope sc) n → ∀ (i : Nat) (d : DV) (tv : Locals), L[i]? = some d → tv.length = ts.length →
      WA C' E' own (tv ++ capt ns ρ cs) target d fun r => ∃ tv', tv'.length = ts.length ∧ r = tv' ++ capt ns ρ cs ∧
        WE C' E' own (tv' ++ capt ns ρ cs) kx fun y => y = kd (F d).1 ∧ WE C' E' own (tv' ++ capt ns ρ cs) vx fun z => z = rd (F d).2) ∧ N own (ρ.set i (some (.fz (.gd (L.map F))))))
    (hs : ∀ x, foldedSetIterable iter C.env x = pure x := by intro _; rfl) :
    WX C E own ρ (.Assign [.Name y py] (.DictComp kx vx [⟨target, iter, [], 0⟩] scope pos) spos) N R := by
  intro g s S
  have W := I.wf
  obtain ⟨cl, hclos, hcl, hfr, hin⟩ := closure_ok (scope := scope) (env := C.env) fun x hx hf => I.cells _ (hcs x.1 (hcs2 x hx hf)).2
  rw [exec_Assign_Name_used _ _ _ _ (swaps_d I hy hscf hline hsn)]
  refine wpAny_bind (wpAny_standAt (wpAny_bind ?_))
  show wpAny _ _ (do let _ ← comprehension (.DictComp kx vx [⟨target, iter, [], 0⟩] scope pos) scope C.env _ newDict false (eval iter C.env) (some (assign (.Name y py) C.env))) _ _ s
  refine wpAny_bind (wpAny_mono (wpAny_comprehension_free (use := some (assign (.Name y py) C.env)) (Q := fun _ s' => JP C g N s') rfl hs hclos hkind hnames
    (wpAny_mono (h g s S) (fun v s1 h1 => wpAny_mono h1 (fun it s2 h2 => ?_) fun _ _ e => e) fun _ _ e => e)) (fun _ s' q => JP.casesOn q fun g' o' r' a b c => wpAny_pure (wpAny_pure (.next g' o' r' a b c))) fun _ _ e => e)
  cases h2 with
  | mk g2 IA L Sx l2 S2 F2 hIt hx2 hp =>
  refine wpAny_newObj_type (wpAny_newFunctionEnv hcell (fun y hy => nomatch hy) (fun h₁ hns₁ hsb₁ => ?_) hkind)
  dsimp only at hns₁ hsb₁ ⊢
  have hmods := notMods W S2 (fresh_none s2.heap) (Nat.le_refl _)
  cases ch_of (od := { cls := .type "dict", dict := none, data := .dict #[] }) rfl hsb₁ with
  | mk hDK hK0 old hDh =>
  generalize (s2.heap.push { cls := .type "dict", dict := none, data := .dict #[] }).objs.size = K at *
  have hD0 := fresh_none s2.heap
  generalize s2.heap.objs.size = D at *
  have hDI : D ≠ IA := fun e => hIt.ne hx2 (e ▸ hD0)
  have hKI : K ≠ IA := fun e => hIt.ne hx2 (e ▸ hK0)
  have hD := fresh_new W S2 hD0
  cases comp_enter I ts cs hcell hkind hcs hcs2 hnd hcl hfr hin (t := s2.toks + ([] : List (Str × Value)).length) S2 F2 hK0 hD0 hKI (Ne.symm hDK) old hns₁ with
  | mk pr Ic Sc FI FD back =>
  obtain ⟨hlen, F, hndF, hstep, hfin⟩ := hp
  have hx1 := hIt.move hx2 old
  rw [I.names] at Sc back
  have loop := dcomp_turns (C := C.comp scope cl K (ts ++ cs) pr) (own := own) (k0 := ts.length) (cv := capt ns ρ cs) (kx := kx) (vx := vx) (target := target) (iter := iter) (scope := scope) (pos := pos) (F := F)
    (RR := compPost (model C.X.prog C.X.w) C.A E (some (assign (.Name y py) C.env)) (fun _ s' => JP C g N s') (.ref D) K) Ic
    Sc FI FD hDI hx1 hIt.comp ⟨_, #[], 0, hDh, ⟨rfl, rfl, rfl⟩, rfl, .nil, List.nodup_nil, hmods⟩ (Nat.le_trans hlen (by decide)) hndF (fun v => ht _ v)
    (fun p q E' Iq i d tv h1 h2 => hstep _ E' Iq i d tv h1 h2)
    (fun g3 s3 tv l3 htv S3' F3 hk3 => by
      cases S3'.vars with
      | mk mK hnK _ =>
      have bk := back g3 s3 tv l3 htv S3'
      cases hk3 with
      | mk o es ep q1 q2 q3 q4 q5 q6 =>
      have fz := bk.1.freeze W (hD.mono F3.gn) q1
      obtain ⟨oK, esK, epK, hoK', hrK⟩ := id hnK
      have hK5 : Fresh C own (gext g3 D o) K := bk.2.mono ((if_neg (Ne.symm hDK)).trans bk.2.gn)
      have Wk : (C.add (K, oK)).Wf := add_wf W ⟨hK5.loc, hK5.cells⟩
      have S6 : St (C.add (K, oK)) own ρ _ s3 := fz.2.add (p := (K, oK)) ⟨hoK', hK5.gn, hK5.own⟩
      show wpAny _ _ (assign (.Name y py) C.env (.ref D)) _ _ s3
      refine wpAny_mono (a_name (add_is I Wk) (E := E) (own := own) (ρ := ρ) (p := py) (d := .gd (L.map F)) (Nn := fun r => N own r) hi hy hfin _ s3 _ S6 (.gd (if_pos rfl) q2 q3 (q4.mono fz.1) q6 q5)) (fun _ s7 q7 => ?_) fun _ _ e => e
      cases q7 with
      | mk r7 S7 hN =>
      have zz := S7.dropped hK5.frs
      exact ⟨mK, ⟨oK, esK, epK, zz.1, hrK⟩, fun h' hs' => ⟨_, _, _, (l2.trans l3).trans fz.1, S7.drop.same1 W (t := s7.toks) (hK5.mono zz.2.1) hs', hN⟩⟩)
  exact codeAny_compStart_dict loop (by
    cases hIt with
    | mk fp P Wk => exact Wk.self 0 _ _ _ hx1 loop)
end

end
section

open PySem PySem.W PySem.Calls PyProof.Rows PySem.SeqAt

theorem lk_cons {β : Type} {t x : Str} {c : β} {l : List (Str × β)} : ((t, c) :: l).lookup x = if x = t then some c else l.lookup x := by
  rw [List.lookup_cons]
  by_cases h : x = t
  · subst h; simp
  · rw [if_neg h, beq_eq_false_iff_ne.mpr h]

section
variable {M : Model} {A : Around} {E : Value → Shared → Prop} {s : Shared}
/-- the surroundings of a comprehension that has one cell -/
theorem newEnv_cell {scope : Scope} {t n0 f u : Str} (hs : scope.names = [(n0, .local), (t, .cell), (f, .globalImplicit), (u, .free)]) {globals : Addr} {cl : List (Str × Addr)} {qual : Str} {env : Env} {Q : Env → Shared → Prop}
    (hQ : Q { scope, locals := s.heap.objs.size, globals, cells := (t, s.heap.objs.size + 1) :: cl, qual, func := none, code := env.code, frame := env.frame, builtins := env.builtins }
      { s with heap := (s.heap.push { cls := .type "dict", data := .dict #[] }).push { cls := .type "cell", data := .cell none } }) :
    wpAny M A (newFunctionEnv scope globals cl [] qual none .none (some env)) Q E s := by
  simp only [newFunctionEnv, Option.isSome_some, if_true, hs]
  refine wpAny_bind (wpAny_alloc ?_)
  simp only [List.forIn_cons, List.forIn_nil]
  refine wpAny_bind ?_
  refine wpAny_bind (wpAny_pure ?_)
  refine wpAny_bind ?_
  refine wpAny_bind (wpAny_alloc ?_)
  refine wpAny_pure ?_
  refine wpAny_bind (wpAny_pure ?_)
  refine wpAny_bind (wpAny_pure ?_)
  refine wpAny_pure ?_
  refine wpAny_bind (wpAny_pure ?_)
  refine wpAny_pure ?_
  have e : (s.heap.push { cls := .type "dict", data := .dict #[] }).objs.size = s.heap.objs.size + 1 := Heap.size_push ..
  rw [← e] at hQ
  exact hQ
end

/-- the heap where such a comprehension starts -/
inductive CC (s2 : Shared) (od : Obj) : Prop
  | mk (K : Addr) (h₁ : Heap) (e1 : (s2.heap.push od).objs.size = K) (e2 : ((s2.heap.push od).push { cls := .type "dict", data := .dict #[] }).push { cls := .type "cell", data := .cell none } = h₁) (hDK : s2.heap.objs.size ≠ K) (hKc : K ≠ K + 1) (hDc : s2.heap.objs.size ≠ K + 1)
    (hK0 : s2.heap.get? K = none) (hc0 : s2.heap.get? (K + 1) = none) (old : ∀ b o, s2.heap.get? b = some o → h₁.get? b = some o) (hD : h₁.get? s2.heap.objs.size = some od) (hns : h₁.Ns K (fun _ => none)) (hc : h₁.get? (K + 1) = some { cls := .type "cell", data := .cell none })
theorem cc_of {s2 : Shared} {od : Obj} (hf : od.isFreed = false) : CC s2 od := by
  have hC : (s2.heap.push od).objs.size = s2.heap.objs.size + 1 := Heap.size_push ..
  have hC2 : ((s2.heap.push od).push { cls := .type "dict", data := .dict #[] }).objs.size = (s2.heap.push od).objs.size + 1 := Heap.size_push ..
  have fresh : ∀ a, s2.heap.objs.size ≤ a → s2.heap.get? a = none := fun a ha => by
    cases e : s2.heap.get? a with
    | none => rfl
    | some o' => exact absurd (Heap.lt_size e) (Nat.not_lt.mpr ha)
  have hlt : s2.heap.objs.size < (s2.heap.push od).objs.size := by rw [hC]; exact Nat.lt_succ_self _
  refine ⟨_, _, rfl, rfl, Nat.ne_of_lt hlt, Nat.ne_of_lt (Nat.lt_succ_self _), Nat.ne_of_lt (Nat.lt_succ_of_lt hlt), fresh _ (Nat.le_of_lt hlt), fresh _ (Nat.le_succ_of_le (Nat.le_of_lt hlt)),
    fun b o e => Heap.get?_push_of_some _ (Heap.get?_push_of_some _ (Heap.get?_push_of_some _ e)), Heap.get?_push_of_some _ (Heap.get?_push_of_some _ (Heap.get?_push_size _ hf)), (Heap.Ns.new ..).push _, ?_⟩
  rw [← hC2]
  exact Heap.get?_push_size _ rfl

section
variable {C : Cx} {E : Value → Shared → Prop} {own : Own} {ρ : Locals} {X : Stx} {ns : List Str} {sc : Scope} {n : Nat}

/-- the same surroundings, with one more cell -/
noncomputable def Cx.cell (C : Cx) (t : Str) (c : Addr) : Cx := { C with env := { C.env with cells := (t, c) :: C.env.cells } }
theorem cell_wf (W : C.Wf) {t : Str} {c : Addr} {g : G} (F : Fresh C own g c) : (C.cell t c).Wf := by
  have lk : ∀ {x d}, (C.cell t c).env.cells.lookup x = some d → (x = t ∧ d = c) ∨ (x ≠ t ∧ C.env.cells.lookup x = some d) := fun {x d} h => by
    have h : ((t, c) :: C.env.cells).lookup x = some d := h
    rw [lk_cons] at h
    split at h
    · rename_i e; cases h; exact .inl ⟨e, rfl⟩
    · rename_i e; exact .inr ⟨e, h⟩
  refine ⟨W.wf, W.base, W.le0, W.kind, W.globals, W.builtins, W.nodup, W.frame, fun x y d h1 h2 => ?_, W.lnew, fun x d h1 h2 => ?_, fun x d h => ?_, W.frs0, W.stack, W.handled, W.roomy, fun p hp => ⟨(W.prot p hp).1, fun x h => ?_⟩⟩
  · rcases lk h1 with ⟨a, b⟩ | ⟨a, b⟩ <;> rcases lk h2 with ⟨a', b'⟩ | ⟨a', b'⟩
    · rw [a, a']
    · subst b; exact absurd b' (F.cells _)
    · subst b'; exact absurd b (F.cells _)
    · exact W.cinj _ _ _ b b'
  · rcases lk h2 with ⟨a, b⟩ | ⟨a, b⟩
    · subst b; exact F.s0
    · exact W.cnew x d h1 b
  · rcases lk h with ⟨a, b⟩ | ⟨a, b⟩
    · subst b; exact F.frs
    · exact W.cfr x d b
  · rcases lk h with ⟨a, b⟩ | ⟨a, b⟩
    · exact F.prot p hp b
    · exact (W.prot p hp).2 x b
theorem St.toCell {t : Str} {c : Addr} {g : G} {s : Shared} (S : St C own ρ g s) (F : Fresh C own g c) (ht : t ∉ C.names) {o : Obj} {v : Option Value} (ho : s.heap.get? c = some o) (hd : o.data = .cell v) : St (C.cell t c) own ρ g s := by
  refine ⟨S.step, S.hown, S.frs, S.frf, S.lfree, S.lown, fun x d h => ?_, ?_, S.prot, S.whole⟩
  · have h : ((t, c) :: C.env.cells).lookup x = some d := h
    rw [lk_cons] at h
    split at h
    · cases h; exact ⟨F.gn, F.loc, F.own, o, v, ho, hd⟩
    · exact S.cells x d h
  · obtain ⟨m, hn, hv⟩ := S.vars
    refine ⟨m, hn, fun i x d h1 h2 => ?_⟩
    obtain ⟨v, h3, h4⟩ := hv i x d h1 h2
    refine ⟨v, ?_, h4⟩
    rcases h3 with h3 | ⟨h3, d, o, h5, h6⟩
    · exact .inl h3
    · refine .inr ⟨h3, d, o, ?_, h6⟩
      show ((t, c) :: C.env.cells).lookup x = _
      rw [lk_cons, if_neg (fun (e : x = t) => ht (by rw [← e]; exact List.mem_of_getElem? h1))]
      exact h5
theorem St.ofCell {t : Str} {c : Addr} {g : G} {s : Shared} (S : St (C.cell t c) own ρ g s) (ht : t ∉ C.names) (hn : C.env.cells.lookup t = none) : St C own ρ g s := by
  have up : ∀ {x d}, C.env.cells.lookup x = some d → (C.cell t c).env.cells.lookup x = some d := fun {x d} h => by
    show ((t, c) :: C.env.cells).lookup x = _
    rw [lk_cons, if_neg (fun e => by rw [e, hn] at h; cases h)]
    exact h
  refine ⟨S.step, S.hown, S.frs, S.frf, S.lfree, S.lown, fun x d h => S.cells x d (up h), ?_, S.prot, S.whole⟩
  obtain ⟨m, hm, hv⟩ := S.vars
  refine ⟨m, hm, fun i x d h1 h2 => ?_⟩
  obtain ⟨v, h3, h4⟩ := hv i x d h1 h2
  refine ⟨v, ?_, h4⟩
  rcases h3 with h3 | ⟨h3, d, o, h5, h6⟩
  · exact .inl h3
  · refine .inr ⟨h3, d, o, ?_, h6⟩
    have h5 : ((t, c) :: C.env.cells).lookup x = some d := h5
    rw [lk_cons, if_neg (fun (e : x = t) => ht (by rw [← e]; exact List.mem_of_getElem? h1))] at h5
    exact h5

/-- four names of a comprehension: its source, a cell, a global, a free one -/
structure Sc4 (scope : Scope) (n0 t f u : Str) : Prop where
  hs : scope.names = [(n0, .local), (t, .cell), (f, .globalImplicit), (u, .free)]
  nd : [n0, t, u].Nodup
  free : ∀ x ∈ scope.names, x.2 = .free → x.1 = u
  lu : scope.names.lookup u = some .free
  cm : ∀ x ∈ scope.names, x.2 = .cell → x.1 = t
  ll : ∀ x ∈ scope.names, x.2 = .local → scope.names.lookup x.1 = some .local
theorem Sc4.lc {scope : Scope} {n0 t f u : Str} (N : Sc4 scope n0 t f u) (x : Str) (h : scope.names.lookup x = some .cell) : x = t := N.cm _ (lookup_mem' h) rfl

inductive EnteredC (C C' : Cx) (own : Own) (ρ : Locals) (k : Nat) (cv : Locals) (X : Stx) (names : List Str) (sc' : Scope) (n : Nat) (g2 : G) (IA D K : Addr) (s' : Shared) : Prop
  | mk (Ic : C'.Is X names sc' n) (Sc : St C' own (List.replicate k none ++ cv) g2 s') (FI : Fresh C' own g2 IA) (FD : Fresh C' own g2 D)
    (back : ∀ g3 s3 tv, Le g2 g3 → tv.length = k → St C' own (tv ++ cv) g3 s3 → St C own ρ g3 s3 ∧ Fresh C own g3 K)
theorem comp_enterC (I : C.Is X ns sc n) {scope : Scope} {t n0 f u : Str} (N4 : Sc4 scope n0 t f u)
    (hct : C.env.cells.lookup t = none) (htn : t ∉ C.names) (hkind : scope.kind = .function) (hu : sc.names.lookup u = some .cell ∨ sc.names.lookup u = some .free) {cl : List (Str × Addr)}
    (hcl : ∀ x c, cl.lookup x = some c → C.env.cells.lookup x = some c) (hfr : ∀ x ∈ scope.names, x.2 = .free → cl.lookup x.1 = C.env.cells.lookup x.1) (hin : ∀ x c, cl.lookup x = some c → (x, NameKind.free) ∈ scope.names)
    {g2 : G} {s2 : Shared} {IA D K c : Addr} {h₁ : Heap} {tk : Nat} (S2 : St C own ρ g2 s2) (F2 : Fresh C own g2 IA) (hK : Fresh C own g2 K) (hc : Fresh C own g2 c) (hD : Fresh C own g2 D) (hKI : K ≠ IA) (hKD : K ≠ D) (hcI : c ≠ IA) (hcD : c ≠ D) (hcK : c ≠ K)
    (old : ∀ b o, s2.heap.get? b = some o → h₁.get? b = some o) (hns₁ : h₁.Ns K (fun _ => none)) (hcell1 : h₁.get? c = some { cls := .type "cell", data := .cell none }) :
    ∃ pr, EnteredC C ((C.cell t c).comp scope ((t, c) :: cl) K ([n0, t] ++ [u]) pr) own ρ 2 (capt C.names ρ [u]) X [n0, t, u] (relabelS scope sc) n g2 IA D K { s2 with heap := h₁, toks := tk } := by
  have W := I.wf
  have S3 : St C own ρ g2 { s2 with heap := h₁, toks := tk } := S2.keep W old
  have S3' := S3.toCell (t := t) hc htn hcell1 rfl
  have Wc0 := cell_wf (t := t) W hc
  obtain ⟨oL, hL⟩ : ∃ oL, h₁.get? C.env.locals = some oL := by
    cases S3.vars with
    | mk m hn => exact let ⟨o, _, _, ho, _⟩ := hn; ⟨o, ho⟩
  have hcl' : ∀ x d, ((t, c) :: cl).lookup x = some d → (C.cell t c).env.cells.lookup x = some d := fun x d q => by
    show ((t, c) :: C.env.cells).lookup x = some d
    rw [lk_cons] at q ⊢
    by_cases z : x = t
    · rw [if_pos z] at q ⊢; exact q
    · rw [if_neg z] at q ⊢; exact hcl _ _ q
  have hfr' : ∀ x ∈ scope.names, x.2 = .free → ((t, c) :: cl).lookup x.1 = (C.cell t c).env.cells.lookup x.1 := fun x hx hf => by
    show _ = ((t, c) :: C.env.cells).lookup x.1
    rw [lk_cons, lk_cons, hfr x hx hf]
  have frC : ∀ {A : Addr}, Fresh C own g2 A → c ≠ A → Fresh (C.cell t c) own g2 A := fun {A} FA hne => ⟨FA.gn, FA.own, FA.loc, fun x q => by
    have q : ((t, c) :: C.env.cells).lookup x = some A := q
    rw [lk_cons] at q
    by_cases z : x = t
    · rw [if_pos z] at q; exact hne (Option.some.inj q)
    · rw [if_neg z] at q; exact FA.cells x q, FA.frs, FA.s0, FA.prot⟩
  have hK' := frC hK hcK
  have Wc := comp_wfC (C := C.cell t c) (scope := scope) (cl := (t, c) :: cl) (K := K) (names := [n0, t] ++ [u]) (oL := oL) Wc0 S3' hK' hkind (fun x d q1 q2 => by
    rw [lk_cons, if_pos (N4.lc x q1)] at q2
    rw [← Option.some.inj q2]; exact hc.s0) hcl' N4.nd
  have hlr : ∀ x, ((relabelS scope sc).names.lookup x = some .cell ∨ (relabelS scope sc).names.lookup x = some .free) → x ≠ t → scope.names.lookup x = some .free := fun x hx hxt => by
    rcases hx with q | q
    · rcases lookup_relabel q with q | q
      · exact absurd (N4.lc x q) hxt
      · exact q.2.1
    · rcases lookup_relabel q with q | q
      · exact q
      · exact q.2.1
  have pr : ∀ {A : Addr}, Fresh C own g2 A → K ≠ A → c ≠ A → Fresh ((C.cell t c).comp scope ((t, c) :: cl) K ([n0, t] ++ [u]) ((C.env.locals, oL) :: unseen (C.cell t c) ((t, c) :: cl) h₁)) own g2 A := fun {A} FA hKA hcA =>
    have FA' := frC FA hcA
    ⟨FA.gn, FA.own, Ne.symm hKA, fun x hx => FA'.cells x (hcl' _ _ hx), FA.frs, FA.s0, fun p hp => by
      rcases List.mem_append.mp hp with hp | hp
      · rcases List.mem_cons.mp hp with e | hp
        · rw [e]; exact Ne.symm FA.loc
        · obtain ⟨⟨x, h1, h2⟩, h3⟩ := unseen_mem hp
          exact fun e => FA'.cells x (by rw [← e]; exact h1)
      · exact FA.prot p hp⟩
  exact ⟨_, ⟨Wc, I.X, rfl, relabel_eq (env := C.env) I.scope W.kind, I.room, I.sub, fun x hx => by
      show ∃ d, ((t, c) :: cl).lookup x = some d
      by_cases hxt : x = t
      · exact ⟨_, by rw [lk_cons, if_pos hxt]⟩
      · have hm := lookup_mem' (hlr x hx hxt)
        have hxu : x = u := N4.free _ hm rfl
        rw [lk_cons, if_neg hxt, hfr _ hm rfl]
        show ∃ d, C.env.cells.lookup x = some d
        rw [hxu]
        exact I.cells _ hu⟩,
    comp_in (C := C.cell t c) (scope := scope) (cl := (t, c) :: cl) (ts := [n0, t]) (cs := [u]) (oL := oL) Wc0 S3' hK'.gn hK'.own hK'.cells hL hcl' hfr' hns₁ fun x hx => by
      rw [List.mem_singleton.mp hx]
      exact ⟨N4.lu, hu.imp I.kind I.kind⟩,
    pr F2 hKI hcI, pr hD hKD hcD, fun g3 s3 tv l3 htv S3'' => ⟨(comp_outC (C := C.cell t c) Wc0 S3' l3 hL hcl' (ts := [n0, t]) htv (fun x d hxn hx => by
        rw [lk_cons, if_neg (fun (e : x = t) => htn (by rw [← e]; exact hxn))] at hx
        rw [List.mem_singleton]
        exact N4.free _ (hin x d hx) rfl) (fun x hx => by rw [List.mem_singleton.mp hx]; exact N4.lu) S3'').ofCell htn hct, hK.mono S3''.lfree⟩⟩

/-- a list comprehension whose turn's name a lambda captures -/
theorem we_lcompC (I : C.Is X ns sc n) {elt target iter : Expr} {scope : Scope} {pos : Pos} {P : DV → Prop} {t n0 f u : Str} (N4 : Sc4 scope n0 t f u)
    (hct : C.env.cells.lookup t = none) (htn : t ∉ ns) (hkind : scope.kind = .function) (hu : sc.names.lookup u = some .cell ∨ sc.names.lookup u = some .free)
    (h : WI C E own ρ iter fun L => L.length ≤ 1000 ∧ ∃ F : DV → DV, (∀ (C' : Cx) (E' : Value → Shared → Prop), C'.Is X [n0, t, u] (relabelS scope sc) n → C'.env.code = C.env.code → C'.env.qual = C.env.qual → ∀ (i : Nat) (d : DV) (tv : Locals), L[i]? = some d → tv.length = 2 →
      WA C' E' own (tv ++ capt ns ρ [u]) target d fun r => ∃ tv', tv'.length = 2 ∧ r = tv' ++ capt ns ρ [u] ∧
        WE C' E' own (tv' ++ capt ns ρ [u]) elt fun y => F d = y) ∧ P (.lst (L.map F)))
    (hs2 : ∀ x, foldedSetIterable iter C.env x = pure x := by intro _; rfl) :
    WE C E own ρ (.ListComp elt [⟨target, iter, [], 0⟩] scope pos) P := by
  intro g s S
  have W := I.wf
  obtain ⟨cl, hclos, hcl, hfr, hin⟩ := closure_ok (scope := scope) (env := C.env) fun x hx hf => by rw [N4.free x hx hf]; exact I.cells _ hu
  rw [eval_ListComp]
  refine wpAny_comprehension_free (use := none) rfl hs2 hclos hkind N4.ll (wpAny_mono (h g s S) (fun v s1 h1 => wpAny_mono h1 (fun it s2 h2 => ?_) fun _ _ e => e) fun _ _ e => e)
  cases h2 with
  | mk g2 IA L Sx l2 S2 F2 hIt hx2 hp2 =>
  refine wpAny_newObj_type (newEnv_cell N4.hs ?_)
  cases cc_of (od := { cls := .type "list", dict := none, data := .seq ([] : List Value).toArray }) (s2 := s2) rfl with
  | mk K h₁ e1 e2 hDK hKc hDc hK0 hc0 old hDh hns₁ hcell1 =>
  rw [e1, e2]
  have hDI : s2.heap.objs.size ≠ IA := fun e => hIt.ne hx2 (e ▸ fresh_none _)
  have hD := fresh_new W S2 (fresh_none s2.heap)
  obtain ⟨pr, EC⟩ := comp_enterC I N4 hct (I.names ▸ htn) hkind hu hcl hfr hin (tk := s2.toks) S2 F2 (fresh_new W S2 hK0) (fresh_new W S2 hc0) hD (fun e => hIt.ne hx2 (e ▸ hK0)) (Ne.symm hDK) (fun e => hIt.ne hx2 (e ▸ hc0)) (Ne.symm hDc) (Ne.symm hKc) old hns₁ hcell1
  cases EC with
  | mk Ic Sc FI FD back =>
  obtain ⟨hlen, F, hstep, hfin⟩ := hp2
  have hx1 : Sx 0 h₁ := hIt.move hx2 old
  rw [I.names] at Sc back
  have loop := comp_turns (C := (C.cell t (K + 1)).comp scope ((t, K + 1) :: cl) K ([n0, t] ++ [u]) pr) (own := own) (k0 := 2) (cv := capt ns ρ [u]) (elt := elt) (target := target) (iter := iter) (ifs := []) (scope := scope) (pos := pos) (F := fun d => some (F d))
    (E' := E) (RR := compPost (model C.X.prog C.X.w) C.A E none (VP C own ρ g P) (.ref s2.heap.objs.size) K) Ic.wf
    Sc FI FD hDI hx1 (show ItW _ _ _ _ _ by cases hIt with | mk a b c d e f g => exact ⟨a, b, c, d, e, f, g⟩) ⟨_, hDh⟩ hlen
    (fun p q E' Wp Wq i d tv h1 h2 g' s' v' S' r' => wpAny_mono (hstep _ E' (add_is (add_is Ic Wp) Wq) rfl rfl i d tv h1 h2 g' s' v' S' r') (fun _ s'' q => AP.casesOn q fun ρ' S'' ⟨tv', z1, z2, z3⟩ => ⟨ρ', S'', tv', z1, z2, fun _ => we_mono z3 fun _ z => congrArg some z, fun z => (nomatch z)⟩) fun _ _ z => z)
    (fun g3 s3 tv ys l3 htv S3'' F3 hp3 hr3 => by
      cases S3''.vars with
      | mk mK hnK _ =>
      refine ⟨mK, hnK, fun h' hs' => ?_⟩
      have bk := back g3 s3 tv l3 htv S3''
      have S4 := bk.1.same1 W (t := s3.toks) bk.2 hs'
      obtain ⟨nD, hD'⟩ := hp3
      have hD2 : h'.get? s2.heap.objs.size = some { cls := .type "list", data := .seq ys nD } := (hs'.2 _ hDK).trans hD'
      have fz := S4.freeze W (hD.mono F3.gn) hD2
      exact ⟨_, _, (l2.trans l3).trans fz.1, fz.2, .lst (if_pos rfl) rfl rfl (List.filterMap_eq_map (f := F) ▸ hr3.mono fz.1), hfin⟩)
  exact codeAny_compStart_list loop (by
    cases hIt with
    | mk fp P Wk => exact Wk.self 0 _ _ _ hx1 loop)
end

end
open PySem PySem.W PySem.Calls PyProof.Rows PySem.SeqAt
-- one step of the walk
local macro_rules | `(tactic| one_item) => `(tactic| repeat' (first
  | ((with_reducible show WE _ _ _ _ _ _); first
    | ((with_reducible show WE _ _ _ _ (.Name _ _) _); first
      | refine we_nm ‹_› (by rfl) (by rfl) ?_
      | refine we_glP ‹_› (by with_reducible first | exact Prg.hR0 ‹_› | exact Prg.hR1 ‹_› | exact Prg.hSTILL ‹_› | exact Prg.hMB ‹_› | exact Prg.hMT ‹_› | exact Prg.hMK ‹_›) (by rfl) ?_)
    | (with_reducible first
      | refine we_int ?_
      | refine w_bin ‹_› ?_
      | refine w_tup ‹_› ?_
      | refine w_lst ‹_› ?_
      | refine w_cmp ‹_› ?_
      | refine we_if ?_
      | refine we_neg ?_
      | refine we_str ?_
      | refine we_none ?_
      | refine we_dict0 ‹_› ?_)
    | ((with_reducible show WE _ _ _ _ (.Subscript _ _ _) _); first
      | ((with_reducible show WE _ _ (.idict _ _) _ (.Subscript (.Name _ _) _ _) _); refine iw_item ‹_› (by rfl) (by rfl) ?_)
      | ((with_reducible show WE _ _ (.law _ (some _) _) _ (.Subscript (.Name "box" _) _ _) _); refine lw_get ‹_› (by rfl) (by rfl) ?_)
      | ((with_reducible show WE _ _ _ _ (.Subscript (.List _ _) (.Name _ _) _) _); refine w_subN ‹_› ?_)
      | refine w_sub ‹_› ?_)
    | ((with_reducible show WE _ _ _ _ (.Call (.Name _ _) _ _ _) _); first
      | ((with_reducible show WE _ _ _ _ (.Call (.Name "sorted" _) _ _ _) _); refine iw_sorted ‹_› (Prg.sorted ‹_›) (by rfl) (by rfl) (by rfl) ?_ ?_)
      | ((with_reducible show WE _ _ _ _ (.Call (.Name "tuple" _) _ _ _) _); refine w_tuple ‹_› (Prg.tuple ‹_›) (by rfl) ?_)
      | ((with_reducible show WE _ _ _ _ (.Call (.Name "list" _) _ _ _) _); refine w_list ‹_› (Prg.list ‹_›) (by rfl) ?_)
      | ((with_reducible show WE _ _ _ _ (.Call (.Name "abs" _) _ _ _) _); refine w_abs ‹_› (Prg.abs ‹_›) (by rfl) ?_)
      | ((with_reducible show WE _ _ _ _ (.Call (.Name "max" _) [_, _] _ _) _); refine w_max2 ‹_› (Prg.max ‹_›) (by rfl) ?_)
      | ((with_reducible show WE _ _ _ _ (.Call (.Name "max" _) _ _ _) _); refine w_maxL ‹_› (Prg.max ‹_›) (by rfl) ?_)
      | ((with_reducible show WE _ _ _ _ (.Call (.Name "len" _) _ _ _) _); refine w_lenX ‹_› (Prg.len ‹_›) (by rfl) ?_)
      | ((with_reducible show WE _ _ (.law _ none _) _ (.Call (.Name _ _) (.Name "box" _ :: _) _ _) _); refine we_callO ‹_› (by with_reducible first | exact LawP.htake ‹_› | exact LawP.hmark ‹_›) (by rfl) (by rfl) (by rfl) ?_)
      | refine we_call ‹_› (by with_reducible first
        | exact Prg.hgcd ‹_› | exact Prg.hrat ‹_› | exact Prg.hradd ‹_› | exact Prg.hrmul ‹_› | exact Prg.hrneg ‹_› | exact Prg.hrinv ‹_› | exact Prg.hrcompare ‹_› | exact Prg.hbits_of ‹_› | exact Prg.hrpower ‹_›
        | exact Prg.hpoly_sum ‹_› | exact Prg.hkind_product ‹_› | exact Prg.hkind_compare ‹_› | exact Prg.hfastest ‹_› | exact Prg.hgmul ‹_› | exact Prg.hgadd ‹_› | exact Prg.hgpower ‹_› | exact Prg.hgratio_power ‹_›
        | exact Prg.hgrowth_of ‹_› | exact Prg.hgrowth_of_other ‹_› | exact Prg.hfar_limit ‹_› | exact LawP.hkind ‹_›) (by rfl) ?_)
    | ((with_reducible show WE _ _ (.idict _ _) _ (.Call (.Attribute _ "get" _) _ _ _) _); refine iw_get ‹_› (by rfl) (by rfl) ?_)
    | ((with_reducible show WE _ _ (.kdict _ _) _ (.Call (.Attribute _ "get" _) _ _ _) _); refine kw_get ‹_› (by rfl) (by rfl) ?_))
  | ((with_reducible show WL _ _ _ _ (_ :: _) _); refine wl_cons ?_)
  | (with_reducible first
    | refine wl_nil ?_
    | refine ws_cons ?_
    | refine ws_nil ?_
    | refine wx_if ?_
    | refine x_ret ‹_› ?_)
  | ((with_reducible show WS _ _ _ _ (fnB _) _ _); conv => arg 5; whnf)
  | ((with_reducible show WX _ _ _ _ _ _ _); first
    | ((with_reducible show WX _ _ .no _ (.Assign [.Name _ _] (.Dict [] [] _) _) _ _); refine kx_new ‹_› (by rfl) (by rfl) (fun _ => ?_))
    | ((with_reducible show WX _ _ (.law _ (some _) _) _ (.Assign [.Subscript (.Name "box" _) _ _] _ _) _ _); refine lx_set ‹_› (by rfl) (by rfl) ?_)
    | ((with_reducible show WX _ _ (.law _ _ _) _ (.Assign [.Name _ _] _ _) _ _); first | refine x_set ‹_› (by rfl) (by rfl) ?_ | refine x_setC ‹_› (by rfl) (by rfl) ?_)
    | ((with_reducible show WX _ _ _ _ (.Assign [.Name _ _] _ _) _ _); refine x_set ‹_› (by rfl) (by rfl) ?_)
    | ((with_reducible show WX _ _ _ _ (.Raise _ _ _) _ _); exfalso; omega)
    | ((with_reducible show WX _ _ _ _ (.Assign [.Tuple [.Name _ _, .Name _ _] _ _] (.Tuple [_, _] _ _) _) _ _); refine x_swap ‹_› (by rfl) (by rfl) (by rfl) (by rfl) ?_))
  | ((with_reducible show WT _ _ _ _ _ _); first
    | (with_reducible first
      | refine t_cmp ‹_› ?_
      | refine wt_and ?_
      | refine wt_and_nil ?_
      | refine wt_or ?_
      | refine wt_or_nil ?_)
    | ((with_reducible show WT _ _ _ _ (.Name _ _) _); refine wt_nm ‹_› (by rfl) (by rfl) ?_))
  | (with_reducible first
    | refine bin_add ?_
    | refine bin_sub ?_
    | refine bin_subB ?_
    | refine cmp_eq ?_
    | refine cmp_ne ?_
    | refine cmp_lt ?_
    | refine cmp_gt ?_
    | refine cmp_ge ?_
    | refine cmp_le ?_
    | refine c_eqS ‹_› ?_
    | refine c_nerd ‹_› ?_
    | refine c_eqrd ‹_› ?_
    | refine bin_isNone ?_
    | refine ex_int ?_
    | refine ex_int2 ?_
    | refine ex_bool ?_
    | refine ex_two ?_)
  | ((with_reducible show (decide _ = true → _) ∧ _); first | refine br_decF (by decide) ?_ | refine br_decT (by decide) ?_ | refine br_dec (fun _ => ?_) (fun _ => ?_))
  | ((with_reducible show (_ = true → _) ∧ _); (refine ⟨fun h_ => ?_, fun h_ => ?_⟩ <;> try (cases h_; done)))
  | ((with_reducible show (DV.int _ = DV.int 0 ∧ _) ∨ (DV.int _ = DV.int 1 ∧ _)); first | refine .inl ⟨rfl, ?_⟩ | refine .inr ⟨rfl, ?_⟩)
  | ((with_reducible show itemX _ (.int _) _); first | refine item_tup (by decide) (by decide) (by rfl) (by rfl) ?_ | refine item_lst (by decide) (by decide) (by rfl) ?_)
  | ((with_reducible show _ ≤ 1000 ∧ _); refine ⟨le1000 (by rfl), ?_⟩)))
local macro_rules | `(tactic| one_sign) => `(tactic| (intro vs pm cd doc h; rcases vs with _ | ⟨v1, _ | ⟨v2, _ | ⟨v3, _ | ⟨v4, r⟩⟩⟩⟩ <;> first | rfl | (simp at h; done)))
section
open PySem PySem.W PySem.Calls PyProof.Rows PySem.SeqAt

variable {X : Stx} (G : Prg X)

theorem iabs_eq (a : Int) : iabs a = a.natAbs := by unfold iabs; split <;> omega
theorem iabs_nn (a : Int) : 0 ≤ iabs a := by rw [iabs_eq]; omega
theorem gcd_nat (a b : Int) : Int.gcd a b = Nat.gcd a.natAbs b.natAbs := rfl
theorem gcd_step (c d : Int) : Int.gcd d (c % d) = Int.gcd c d := by 
  have h := Int.gcd_add_mul_left_right d (c % d) (c / d)
  rw [Int.emod_add_mul_ediv, Int.gcd_comm] at h
  exact h.symm
theorem rneg_ok {n : Nat} (a b : Int) : Fn X (n + 1) G.rneg [rd (a, b)] (fun d => d = rd (0 - a, b)) := by
  refine fn_plain G.wf G.hrneg (fnA 12) (fnL 12) (by one_sign) rfl rfl (by decide +kernel) (by decide +kernel) (by decide +kernel) rfl rfl rfl fun C E I hD => ?_
  show WS C E .no [some (.fz (rd (a, b)))] (fnB 12) _ _
  one_item
  rfl

theorem gcd_ok {n : Nat} (a b : Int) : Fn X (n + 1) G.gcd [.int a, .int b] (fun d => d = .int (Int.gcd a b)) := by
  refine fn_plain G.wf G.hgcd (fnA 3) (fnL 3) (by one_sign) rfl rfl (by decide +kernel) (by decide +kernel) (by decide +kernel) rfl rfl rfl fun C E I hD => ?_
  show WS C E .no [some (.fz (.int a)), some (.fz (.int b))] (fnB 3) _ _
  one_item
  refine wx_while I.wf (fun m o r => o = .no ∧ ∃ c d : Int, 0 ≤ c ∧ 0 ≤ d ∧ r = [some (.fz (.int c)), some (.fz (.int d))] ∧ Int.gcd c d = Int.gcd a b ∧ m = d.natAbs) (iabs b).natAbs ⟨rfl, iabs a, iabs b, iabs_nn a, iabs_nn b, rfl, by rw [iabs_eq, iabs_eq, gcd_nat, gcd_nat]; simp, rfl⟩ ?_
  rintro m o r E' ⟨rfl, c, d, hc, hd, rfl, hg, rfl⟩
  one_item
  · refine bin_mod ‹_› ?_
    refine wl_nil ⟨_, _, rfl, ?_⟩
    refine ws_nil ⟨_, ?_, rfl, d, c.fmod d, hd, Int.fmod_nonneg hc hd, rfl, ?_, rfl⟩
    · have := Int.fmod_lt_of_pos c (show 0 < d by omega)
      have := Int.fmod_nonneg hc hd
      omega
    · rw [Int.fmod_eq_emod_of_nonneg _ hd, ← hg, gcd_step]
  · have h : d = 0 := by omega
    subst h
    show DV.int c = DV.int (Int.gcd a b)
    rw [← hg, Int.gcd_zero_right]
    congr 1
    omega
theorem gcd_at {n : Nat} {a b : Int} {P : DV → Prop} (h : P (.int (Int.gcd a b))) : Fn X (n + 1) G.gcd [.int a, .int b] P := fn_at (gcd_ok G _ _) h
noncomputable def ratS (t b : Int) : Rt := if b > 0 then (t.fdiv (Int.gcd t b), b.fdiv (Int.gcd t b)) else (t.fdiv (0 - Int.gcd t b), b.fdiv (0 - Int.gcd t b))
theorem gcd_pos (t : Int) {b : Int} (hb : b ≠ 0) : (Int.gcd t b : Int) ≠ 0 := by
  intro h
  have h : Int.gcd t b = 0 := by omega
  rw [Int.gcd_eq_zero_iff] at h
  exact hb h.2
theorem rat_ok {n : Nat} (t b : Int) (hb : b ≠ 0) (hg : (Int.gcd t b).log2 < 9000) : Fn X (n + 2) G.rat [.int t, .int b] (fun d => d = rd (ratS t b)) := by
  have hp := gcd_pos t hb
  have hn : ((Int.gcd t b : Int)).natAbs.log2 < 9000 := by rw [Int.natAbs_natCast]; exact hg
  have hn' : (0 - (Int.gcd t b : Int)).natAbs.log2 < 9000 := by rw [Int.zero_sub, Int.natAbs_neg, Int.natAbs_natCast]; exact hg
  refine fn_plain G.wf G.hrat (fnA 9) (fnL 9) (by one_sign) rfl rfl (by decide +kernel) (by decide +kernel) (by decide +kernel) rfl rfl rfl fun C E I hD => ?_
  show WS C E .no [some (.fz (.int t)), some (.fz (.int b)), none] (fnB 9) _ _
  one_item
  · refine gcd_at G ?_
    one_item
    refine bin_fdiv hp hn ?_
    one_item
    refine bin_fdiv hp hn ?_
    one_item
    rw [ratS, if_pos ‹_›]
    rfl
  · refine gcd_at G ?_
    one_item
    refine bin_fdiv (by omega) hn' ?_
    one_item
    refine bin_fdiv (by omega) hn' ?_
    one_item
    rw [ratS, if_neg ‹_›]
    rfl
theorem rat_at {n : Nat} {t b : Int} {P : DV → Prop} (h : b ≠ 0 ∧ (Int.gcd t b).log2 < 9000 ∧ P (rd (ratS t b))) : Fn X (n + 2) G.rat [.int t, .int b] P := fn_at (rat_ok G _ _ h.1 h.2.1) h.2.2

theorem rinv_ok {n : Nat} (a b : Int) (hb : a ≠ 0) (hg : (Int.gcd b a).log2 < 9000) : Fn X (n + 3) G.rinv [rd (a, b)] (fun d => d = rd (ratS b a)) := by
  refine fn_plain G.wf G.hrinv (fnA 13) (fnL 13) (by one_sign) rfl rfl (by decide +kernel) (by decide +kernel) (by decide +kernel) rfl rfl rfl fun C E I hD => ?_
  show WS C E .no [some (.fz (rd (a, b)))] (fnB 13) _ _
  one_item
  exact rat_at G ⟨hb, hg, rfl⟩
theorem rmul_ok {n : Nat} (a b : Rt) (h1 : IntMulOk a.1 b.1) (h2 : IntMulOk a.2 b.2) (hb : a.2 * b.2 ≠ 0) (hg : (Int.gcd (a.1 * b.1) (a.2 * b.2)).log2 < 9000) : Fn X (n + 3) G.rmul [rd a, rd b] (fun d => d = rd (ratS (a.1 * b.1) (a.2 * b.2))) := by
  refine fn_plain G.wf G.hrmul (fnA 11) (fnL 11) (by one_sign) rfl rfl (by decide +kernel) (by decide +kernel) (by decide +kernel) rfl rfl rfl fun C E I hD => ?_
  show WS C E .no [some (.fz (rd a)), some (.fz (rd b))] (fnB 11) _ _
  one_item
  refine bin_mul ?_ h1
  one_item
  refine bin_mul ?_ h2
  one_item
  exact rat_at G ⟨hb, hg, rfl⟩
theorem radd_ok {n : Nat} (a b : Rt) (h1 : IntMulOk a.1 b.2) (h2 : IntMulOk b.1 a.2) (h3 : IntMulOk a.2 b.2) (hb : a.2 * b.2 ≠ 0) (hg : (Int.gcd (a.1 * b.2 + b.1 * a.2) (a.2 * b.2)).log2 < 9000) : Fn X (n + 3) G.radd [rd a, rd b] (fun d => d = rd (ratS (a.1 * b.2 + b.1 * a.2) (a.2 * b.2))) := by
  refine fn_plain G.wf G.hradd (fnA 10) (fnL 10) (by one_sign) rfl rfl (by decide +kernel) (by decide +kernel) (by decide +kernel) rfl rfl rfl fun C E I hD => ?_
  show WS C E .no [some (.fz (rd a)), some (.fz (rd b))] (fnB 10) _ _
  one_item
  refine bin_mul ?_ h1
  one_item
  refine bin_mul ?_ h2
  one_item
  refine bin_mul ?_ h3
  one_item
  exact rat_at G ⟨hb, hg, rfl⟩
theorem rcompare_ok {n : Nat} (a b : Rt) (h1 : IntMulOk a.1 b.2) (h2 : IntMulOk b.1 a.2) : Fn X (n + 1) G.rcompare [rd a, rd b] (fun d => d = .int (b2i (decide (a.1 * b.2 - b.1 * a.2 > 0)) - b2i (decide (a.1 * b.2 - b.1 * a.2 < 0)))) := by
  refine fn_plain G.wf G.hrcompare (fnA 15) (fnL 15) (by one_sign) rfl rfl (by decide +kernel) (by decide +kernel) (by decide +kernel) rfl rfl rfl fun C E I hD => ?_
  show WS C E .no [some (.fz (rd a)), some (.fz (rd b)), none] (fnB 15) _ _
  one_item
  refine bin_mul ?_ h1
  one_item
  refine bin_mul ?_ h2
  one_item
  rfl

end
section

open PySem PySem.W PySem.Calls PyProof.Rows PySem.SeqAt


theorem fmul_one (a : Int) : a.fdiv 1 = a := Int.fdiv_one a
theorem gcd_one' (a : Int) : Int.gcd a 1 = 1 := by simp
theorem ratS_one (t : Int) : ratS t 1 = (t, 1) := by
  unfold ratS
  rw [if_pos (by decide), gcd_one']
  simp [Int.fdiv_one]
variable {X : Stx} (G : Prg X)

theorem radd1 {n : Nat} (a b : Int) : Fn X (n + 3) G.radd [rd (a, 1), rd (b, 1)] (fun d => d = rd (a + b, 1)) := by
  have h := radd_ok G (n := n) (a, 1) (b, 1) (.of_right (show Builtin.Int.intBits 1 ≤ 64 by decide)) (.of_right (show Builtin.Int.intBits 1 ≤ 64 by decide)) (.of_right (show Builtin.Int.intBits 1 ≤ 64 by decide)) (show (1 : Int) * 1 ≠ 0 by decide) (by
    show (Int.gcd (a * 1 + b * 1) 1).log2 < 9000
    rw [gcd_one']; decide)
  have e : ratS (a * 1 + b * 1) (1 * 1) = (a + b, 1) := by
    rw [Int.mul_one, Int.mul_one, show (1 : Int) * 1 = 1 from rfl, ratS_one]
  exact fn_mono h (Nat.le_refl _) fun d hd => by rw [hd]; exact congrArg rd e
theorem rmul1 {n : Nat} (a b : Int) (hm : IntMulOk a b) : Fn X (n + 3) G.rmul [rd (a, 1), rd (b, 1)] (fun d => d = rd (a * b, 1)) := by
  have h := rmul_ok G (n := n) (a, 1) (b, 1) hm (.of_right (show Builtin.Int.intBits 1 ≤ 64 by decide)) (show (1 : Int) * 1 ≠ 0 by decide) (by
    show (Int.gcd (a * b) 1).log2 < 9000
    rw [gcd_one']; decide)
  have e : ratS (a * b) (1 * 1) = (a * b, 1) := ratS_one _
  exact fn_mono h (Nat.le_refl _) fun d hd => by rw [hd]; exact congrArg rd e

/-- a growth's polynomial: a of x, b of x squared -/
noncomputable def pol (a b : Int) : Poly := (if a ≠ 0 then [(1, (a, 1))] else []) ++ (if b ≠ 0 then [(2, (b, 1))] else [])
/-- one more term -/
noncomputable def pstep (l : List (Int × Rt)) (e : Int × Rt) : List (Int × Rt) := put l e.1 (((look l e.1).getD (0, 1)).1 + e.2.1, 1)
noncomputable def allOne (l : List (Int × Rt)) : Prop := ∀ e ∈ l, e.2.2 = 1
theorem look_one {l : List (Int × Rt)} (h : allOne l) {k : Int} {r : Rt} (hr : look l k = some r) : r.2 = 1 := by
  unfold look at hr
  cases q : l.find? (fun e => decide (e.1 = k)) with
  | none => rw [q] at hr; cases hr
  | some e => rw [q] at hr; cases hr; exact h e (List.mem_of_find?_eq_some q)
theorem put_one {l : List (Int × Rt)} (h : allOne l) {k : Int} {a : Int} : allOne (put l k (a, 1)) := by
  unfold put
  split
  · intro e he
    obtain ⟨e', h1, rfl⟩ := List.mem_map.mp he
    split
    · rfl
    · exact h e' h1
  · intro e he
    rcases List.mem_append.mp he with q | q
    · exact h e q
    · rw [List.mem_singleton.mp q]
theorem put_len {l : List (Int × Rt)} {k : Int} {r : Rt} : (put l k r).length ≤ l.length + 1 := by
  unfold put; split <;> simp
noncomputable def psum (p q : Poly) : List (Int × Rt) := q.foldl pstep p

theorem psum_len (p : Poly) : ∀ q : Poly, (q.foldl pstep p).length ≤ p.length + q.length := by
  intro q
  induction q generalizing p with
  | nil => simp
  | cons e r ih =>
    have := ih (pstep p e)
    have h2 : (pstep p e).length ≤ p.length + 1 := put_len
    simp only [List.foldl_cons, List.length_cons]
    omega
theorem psum_one {p : Poly} : ∀ {q : Poly}, allOne p → allOne q → allOne (q.foldl pstep p) := by
  intro q
  induction q generalizing p with
  | nil => intro h _; exact h
  | cons e r ih => intro h h2; exact ih (put_one h) fun x hx => h2 x (List.mem_cons_of_mem _ hx)
theorem look_get {l : List (Int × Rt)} (h : allOne l) (k : Int) : ∃ c : Int, orD (look l k) (rd (0, 1)) = rd (c, 1) ∧ ((look l k).getD (0, 1)).1 = c := by
  cases q : look l k with
  | none => exact ⟨0, rfl, rfl⟩
  | some r => exact ⟨r.1, congrArg rd (Prod.ext rfl (look_one h q)), rfl⟩
theorem look_mem {l : List (Int × Rt)} {k : Int} (h : k ∈ l.map (·.1)) : ∃ r, look l k = some r := by
  obtain ⟨e, h1, h2⟩ := List.mem_map.mp h
  unfold look
  cases q : l.find? (fun e => decide (e.1 = k)) with
  | some e => exact ⟨e.2, rfl⟩
  | none => exact absurd (decide_eq_true h2) (List.find?_eq_none.mp q e h1)
noncomputable def keepI (l : List (Int × Rt)) (k : Int) : Option (Int × Rt) := match look l k with | some r => if r = (0, 1) then none else some (k, r) | none => none
noncomputable def keepF (l : List (Int × Rt)) : DV → Option DV
  | .int k => (keepI l k).map fun e => .tup [.int e.1, rd e.2]
  | _ => none
theorem keepF_int (l : List (Int × Rt)) (k : Int) : keepF l (.int k) = (keepI l k).map fun e => .tup [.int e.1, rd e.2] := rfl
theorem keepF_map (l : List (Int × Rt)) : ∀ ks : List Int, (ks.map DV.int).filterMap (keepF l) = (ks.filterMap (keepI l)).map fun e => .tup [.int e.1, rd e.2] := by
  intro ks
  induction ks with
  | nil => rfl
  | cons k r ih =>
    rw [List.map_cons, List.filterMap_cons, List.filterMap_cons, keepF_int]
    cases keepI l k with
    | none => exact ih
    | some e => simp [ih]
theorem pd_eq (p : Poly) : pd p = .tup (p.map fun e => .tup [.int e.1, rd e.2]) := rfl

theorem poly_sum_gen {n : Nat} (p q : Poly) (hp : (p.map (·.1)).Nodup) (h1 : allOne p) (h2 : allOne q) (hl : p.length + q.length < 60) :
    Fn X (n + 5) G.poly_sum [pd p, pd q] (fun d => ∃ ks : List Int, ks.Perm ((psum p q).map (·.1)) ∧ ks.Pairwise (· ≤ ·) ∧ d = pd (ks.filterMap (keepI (psum p q)))) := by
  refine fn_mono (fn_of_g (fn_enter G.wf G.hpoly_sum (fnA 22) (fnL 22) (by one_sign) rfl rfl (by decide +kernel) (by decide +kernel) (by decide +kernel) rfl rfl rfl (fun _ _ _ _ _ _ _ h => h.elim) fun C E I hD hE => ?_)) (Nat.le_refl _) fun _ h => h
  show WS C E .no [some (.fz (pd p)), some (.fz (pd q)), none, none, none] (fnB 22) _ _
  one_item
  refine ix_dictList I G.dict (by rfl) G.list (by rfl) (by rfl) (.inr (by rfl)) ?_
  one_item
  refine ⟨p, rfl, hp, by omega, fun a => ?_⟩
  one_item
  refine x_for I (wi_we I.wf ?_)
  one_item
  refine ⟨_, rfl, fun i o r => o = .idict a ((q.take i).foldl pstep p) ∧ ∃ x y, r = [some (.fz (pd p)), some (.fz (pd q)), some .own, x, y], ⟨rfl, none, none, rfl⟩, ?_, ?_⟩
  · rintro C' E' I' i d o r hd ⟨rfl, x, y, rfl⟩
    rw [List.getElem?_map] at hd
    cases he : q[i]? with
    | none => rw [he] at hd; cases hd
    | some e =>
    rw [he] at hd
    cases hd
    refine a_tup2 I' (by rfl) (by rfl) (by rfl) (by rfl) ?_
    one_item
    have hlen : ((q.take i).foldl pstep p).length ≤ 1000 := by
      have := psum_len p (q.take i)
      rw [List.length_take] at this
      omega
    have hon := psum_one (q := q.take i) h1 fun e he => h2 e (List.mem_of_mem_take he)
    refine ix_set I' (by rfl) (by rfl) hlen ?_
    one_item
    obtain ⟨c, e1, e2⟩ := look_get hon e.1
    have e3 : e.2 = (e.2.1, 1) := Prod.ext rfl (h2 e (List.mem_of_getElem? he))
    rw [e1, show rd e.2 = rd (e.2.1, 1) from congrArg rd e3]
    refine fn_at (radd1 G _ _) ⟨_, rfl, ?_⟩
    one_item
    refine ⟨?_, _, _, rfl⟩
    rw [List.take_add_one, he, List.foldl_append]
    show _ = Own.idict a (pstep _ e)
    rw [pstep, e2]
  · rintro o r ⟨rfl, x, y, rfl⟩
    rw [List.length_map, List.take_length]
    have hlen := psum_len p q
    have hon := psum_one (q := q) h1 h2
    one_item
    refine we_lcomp I [Str.ofString "place"] [Str.ofString "found"] (by decide +kernel) rfl (by decide +kernel) (by decide +kernel) (by decide +kernel) (by decide +kernel) (wi_we I.wf ?_)
    refine iw_sorted I G.sorted (by rfl) (by rfl) (by rfl) (by omega) fun ks hks hss => ?_
    have hkl : ks.length = (q.foldl pstep p).length := by rw [hks.length_eq, List.length_map]
    refine ⟨_, rfl, by rw [List.length_map]; omega, keepF (q.foldl pstep p), ?_, ?_⟩
    · rintro C' E' I' i d tv hd htv
      rw [List.getElem?_map] at hd
      cases he : ks[i]? with
      | none => rw [he] at hd; cases hd
      | some k =>
      rw [he] at hd
      cases hd
      obtain ⟨z, rfl⟩ : ∃ z, tv = [z] := by
        match tv, htv with
        | [z], _ => exact ⟨z, rfl⟩
      obtain ⟨rr, hr⟩ := look_mem (hks.mem_iff.mp (List.mem_of_getElem? he))
      refine a_name I' (by rfl) (by rfl) ⟨[some (.fz (.int k))], rfl, rfl, ?_⟩
      show WT C' E' _ [some (.fz (.int k)), some .own] _ _
      one_item
      refine ⟨k, rr, rfl, hr, ?_⟩
      one_item
      · refine ⟨k, rr, rfl, hr, ?_⟩
        one_item
        rw [keepF_int, keepI, hr]
        dsimp only
        rw [if_neg ‹_›]
        rfl
      · rename_i hz
        rw [keepF_int, keepI, hr]
        dsimp only
        rw [if_pos (Classical.not_not.mp hz)]
        rfl
    · rw [keepF_map]
      refine ⟨_, rfl, ?_, ks, hks, hss, rfl⟩
      rw [List.length_map]
      refine Nat.le_trans (List.length_filterMap_le ..) ?_
      omega

theorem perm12 {ks : List Int} (h : ks.Perm [1, 2]) (hs : ks.Pairwise (· ≤ ·)) : ks = [1, 2] := h.eq_of_pairwise (fun _ _ _ _ => Int.le_antisymm) hs (.cons (fun _ h => by rw [List.mem_singleton.mp h]; decide) (.cons (fun _ h => nomatch h) .nil))
theorem pol_nodup (a b : Int) : ((pol a b).map (·.1)).Nodup := by
  unfold pol
  by_cases h1 : a = 0 <;> by_cases h2 : b = 0 <;> simp [h1, h2]
theorem pol_one (a b : Int) : allOne (pol a b) := by
  unfold pol allOne
  intro e he
  by_cases h1 : a = 0 <;> by_cases h2 : b = 0 <;> simp [h1, h2] at he
  · rw [he]
  · rw [he]
  · rcases he with q | q <;> rw [q]
theorem pol_len (a b : Int) : (pol a b).length ≤ 2 := by
  unfold pol
  by_cases h1 : a = 0 <;> by_cases h2 : b = 0 <;> simp [h1, h2]
theorem pol_case (a b : Int) : (a = 0 ∧ b = 0 ∧ pol a b = []) ∨ (a ≠ 0 ∧ b = 0 ∧ pol a b = [(1, (a, 1))]) ∨ (a = 0 ∧ b ≠ 0 ∧ pol a b = [(2, (b, 1))]) ∨ (a ≠ 0 ∧ b ≠ 0 ∧ pol a b = [(1, (a, 1)), (2, (b, 1))]) := by
  unfold pol
  by_cases ha : a = 0
  · by_cases hb : b = 0
    · exact .inl ⟨ha, hb, by rw [if_neg (not_not_intro ha), if_neg (not_not_intro hb)]; rfl⟩
    · exact .inr (.inr (.inl ⟨ha, hb, by rw [if_neg (not_not_intro ha), if_pos hb]; rfl⟩))
  · by_cases hb : b = 0
    · exact .inr (.inl ⟨ha, hb, by rw [if_pos ha, if_neg (not_not_intro hb)]; rfl⟩)
    · exact .inr (.inr (.inr ⟨ha, hb, by rw [if_pos ha, if_pos hb]; rfl⟩))
/-- the five forms of a sum -/
noncomputable def Psf (r : Poly) (u v : Int) : Prop := (r = [] ∧ u = 0 ∧ v = 0) ∨ (r = [(1, (u, 1))] ∧ v = 0) ∨ (r = [(2, (v, 1))] ∧ u = 0) ∨ r = [(1, (u, 1)), (2, (v, 1))] ∨ r = [(2, (v, 1)), (1, (u, 1))]
theorem pol_forms (a b c d : Int) : Psf (psum (pol a b) (pol c d)) (a + c) (b + d) := by
  rcases pol_case a b with ⟨rfl, rfl, e⟩ | ⟨_, rfl, e⟩ | ⟨rfl, _, e⟩ | ⟨_, _, e⟩ <;> rcases pol_case c d with ⟨rfl, rfl, e'⟩ | ⟨_, rfl, e'⟩ | ⟨rfl, _, e'⟩ | ⟨_, _, e'⟩ <;> (try rw [e]) <;> (try rw [e']) <;> clear e e'
  · exact .inl ⟨rfl, rfl, rfl⟩
  · exact .inr (.inl ⟨rfl, rfl⟩)
  · exact .inr (.inr (.inl ⟨rfl, rfl⟩))
  · exact .inr (.inr (.inr (.inl rfl)))
  · rw [Int.add_zero]; exact .inr (.inl ⟨rfl, rfl⟩)
  · exact .inr (.inl ⟨rfl, rfl⟩)
  · rw [Int.add_zero]; exact .inr (.inr (.inr (.inl rfl)))
  · exact .inr (.inr (.inr (.inl rfl)))
  · rw [Int.add_zero b]; exact .inr (.inr (.inl ⟨rfl, rfl⟩))
  · rw [Int.add_zero]; exact .inr (.inr (.inr (.inr rfl)))
  · exact .inr (.inr (.inl ⟨rfl, rfl⟩))
  · exact .inr (.inr (.inr (.inr rfl)))
  · rw [Int.add_zero, Int.add_zero]; exact .inr (.inr (.inr (.inl rfl)))
  · rw [Int.add_zero]; exact .inr (.inr (.inr (.inl rfl)))
  · rw [Int.add_zero]; exact .inr (.inr (.inr (.inl rfl)))
  · exact .inr (.inr (.inr (.inl rfl)))
noncomputable def kep (k u : Int) : Option (Int × Rt) := if ((u, 1) : Rt) = (0, 1) then none else some (k, (u, 1))
theorem kep_pol (u v : Int) : ((kep 1 u).toList ++ (kep 2 v).toList) = pol u v := by
  have h : ∀ k u, (kep k u).toList = if u ≠ 0 then [(k, (u, 1))] else [] := fun k u => by
    unfold kep
    by_cases q : u = 0
    · rw [if_pos (by rw [q]), if_neg (not_not_intro q)]; rfl
    · rw [if_neg (fun e => q (congrArg Prod.fst e)), if_pos q]; rfl
  rw [h, h]; rfl
theorem fm1 (f : Int → Option (Int × Rt)) (k : Int) : [k].filterMap f = (f k).toList := by
  rw [List.filterMap_cons]
  cases f k <;> rfl
theorem fm2 (f : Int → Option (Int × Rt)) (k l : Int) : [k, l].filterMap f = (f k).toList ++ (f l).toList := by
  rw [List.filterMap_cons, fm1]
  cases f k <;> rfl
theorem pol_sum {a b c d : Int} {ks : List Int} (h1 : ks.Perm ((psum (pol a b) (pol c d)).map (·.1))) (h2 : ks.Pairwise (· ≤ ·)) : ks.filterMap (keepI (psum (pol a b) (pol c d))) = pol (a + c) (b + d) := by
  rw [← kep_pol (a + c) (b + d)]
  have := pol_forms a b c d
  generalize psum (pol a b) (pol c d) = r at *
  generalize a + c = u at *
  generalize b + d = v at *
  rcases this with ⟨rfl, rfl, rfl⟩ | ⟨rfl, rfl⟩ | ⟨rfl, rfl⟩ | rfl | rfl
  · rw [List.perm_nil.mp h1]; rfl
  · rw [List.perm_singleton.mp h1, fm1]
    exact (List.append_nil _).symm
  · rw [List.perm_singleton.mp h1, fm1]; rfl
  · rw [perm12 h1 h2, fm2]; rfl
  · rw [perm12 (h1.trans (List.Perm.swap ..)) h2, fm2]; rfl
theorem poly_sum_ok {n : Nat} (a b c d : Int) : Fn X (n + 5) G.poly_sum [pd (pol a b), pd (pol c d)] (fun z => z = pd (pol (a + c) (b + d))) :=
  fn_mono (poly_sum_gen G (pol a b) (pol c d) (pol_nodup a b) (pol_one a b) (pol_one c d) (by have := pol_len a b; have := pol_len c d; omega)) (Nat.le_refl _) fun z ⟨ks, h1, h2, h3⟩ => by
    rw [h3, pol_sum h1 h2]

end
section

open PySem PySem.W PySem.Calls PyProof.Rows PySem.SeqAt


variable {X : Stx} (G : Prg X)

theorem kind_product_ok {n : Nat} (a b t l c d u m : Int) : Fn X (n + 6) G.kind_product [kd (pol a b, (t, 1), l), kd (pol c d, (u, 1), m)] (fun z => z = kd (pol (a + c) (b + d), (t + u, 1), l + m)) := by
  refine fn_plain G.wf G.hkind_product (fnA 23) (fnL 23) (by one_sign) rfl rfl (by decide +kernel) (by decide +kernel) (by decide +kernel) rfl rfl rfl fun C E I hD => ?_
  show WS C E .no [some (.fz (kd (pol a b, (t, 1), l))), some (.fz (kd (pol c d, (u, 1), m)))] (fnB 23) _ _
  one_item
  refine fn_at (poly_sum_ok G a b c d) ?_
  one_item
  refine fn_at (radd1 G t u) ?_
  one_item
  rfl

/-- the law of order -/
noncomputable def kcmp (k k' : Poly × Rt × Int) (p q : Int) : Int :=
  if q ≠ 0 then (if q > 0 then 1 else -1) else if p ≠ 0 then (if p > 0 then 1 else -1)
  else if (b2i (decide (k.2.1.1 * k'.2.1.2 - k'.2.1.1 * k.2.1.2 > 0)) - b2i (decide (k.2.1.1 * k'.2.1.2 - k'.2.1.1 * k.2.1.2 < 0))) ≠ 0 then (b2i (decide (k.2.1.1 * k'.2.1.2 - k'.2.1.1 * k.2.1.2 > 0)) - b2i (decide (k.2.1.1 * k'.2.1.2 - k'.2.1.1 * k.2.1.2 < 0)))
  else b2i (decide (k.2.2 > k'.2.2)) - b2i (decide (k.2.2 < k'.2.2))
noncomputable def negF : DV → Option DV
  | .tup [.int k, .tup [.int a, .int b]] => some (.tup [.int k, rd (0 - a, b)])
  | _ => none
theorem kcmp_q {k k' : Poly × Rt × Int} {p q : Int} (h : q ≠ 0) : kcmp k k' p q = if q > 0 then 1 else -1 := if_pos h
theorem kcmp_p {k k' : Poly × Rt × Int} {p q : Int} (hq : q = 0) (h : p ≠ 0) : kcmp k k' p q = if p > 0 then 1 else -1 := (if_neg (not_not_intro hq)).trans (if_pos h)
theorem negF_map : ∀ l : Poly, (l.map fun e => DV.tup [.int e.1, rd e.2]).filterMap negF = l.map fun e => DV.tup [.int e.1, rd (0 - e.2.1, e.2.2)]
  | [] => rfl
  | _ :: r => congrArg (List.cons _) (negF_map r)
theorem sub_ne {c : Int} (h : c ≠ 0) : 0 - c ≠ 0 := fun e => h (Int.sub_eq_zero.mp e).symm
theorem pol_neg' (c d : Int) : pol (0 - c) (0 - d) = (pol c d).map fun e => (e.1, (0 - e.2.1, e.2.2)) := by
  rcases pol_case c d with ⟨rfl, rfl, e⟩ | ⟨h, rfl, e⟩ | ⟨rfl, h, e⟩ | ⟨h, h', e⟩ <;> rw [e] <;> unfold pol
  · rfl
  · rw [if_pos (sub_ne h)]; rfl
  · rw [if_pos (sub_ne h)]; rfl
  · rw [if_pos (sub_ne h), if_pos (sub_ne h')]; rfl
theorem pol_neg (c d : Int) : ((pol c d).map fun e => DV.tup [.int e.1, rd e.2]).filterMap negF = (pol (0 - c) (0 - d)).map fun e => DV.tup [.int e.1, rd e.2] := by
  rw [negF_map, pol_neg', List.map_map]; rfl

theorem kind_compare_ok {n : Nat} (a b : Int) (r : Rt) (l : Int) (c d : Int) (r' : Rt) (m : Int) (h1 : IntMulOk r.1 r'.2) (h2 : IntMulOk r'.1 r.2) :
    Fn X (n + 6) G.kind_compare [kd (pol a b, r, l), kd (pol c d, r', m)] (fun z => z = .int (kcmp (pol a b, r, l) (pol c d, r', m) (a - c) (b - d))) := by
  refine fn_plain G.wf G.hkind_compare (fnA 25) (fnL 25) (by one_sign) rfl rfl (by decide +kernel) (by decide +kernel) (by decide +kernel) rfl rfl rfl fun C E I hD => ?_
  show WS C E .no [some (.fz (kd (pol a b, r, l))), some (.fz (kd (pol c d, r', m))), none, none] (fnB 25) _ _
  one_item
  refine we_lcomp I [Str.ofString "place", Str.ofString "number"] [] (by decide +kernel) rfl (by decide +kernel) (by decide +kernel) (by decide +kernel) (by decide +kernel) (wi_we I.wf ?_)
  one_item
  refine ⟨_, rfl, ?_, negF, ?_, ?_⟩
  · have := pol_len c d
    rw [List.length_map]; show (pol c d).length ≤ 1000; omega
  · rintro C' E' I' i dd tv hd htv
    rw [List.getElem?_map] at hd
    cases he : (pol c d)[i]? with
    | none => rw [show (pol c d, r', m).fst = pol c d from rfl, he] at hd; cases hd
    | some e =>
    rw [show (pol c d, r', m).fst = pol c d from rfl, he] at hd
    cases hd
    obtain ⟨z1, z2, rfl⟩ : ∃ z1 z2, tv = [z1, z2] := by
      match tv, htv with
      | [z1, z2], _ => exact ⟨z1, z2, rfl⟩
    refine a_tup2 I' (by rfl) (by rfl) (by rfl) (by rfl) ⟨[some (.fz (.int e.1)), some (.fz (rd e.2))], rfl, rfl, ?_⟩
    refine ⟨fun _ => ?_, fun h => nomatch h⟩
    show WE C' E' _ [some (.fz (.int e.1)), some (.fz (rd e.2))] _ _
    one_item
    refine fn_at (rneg_ok G e.2.1 e.2.2) ?_
    one_item
    rfl
  · refine ⟨(pol (0 - c) (0 - d)).map (fun e => DV.tup [.int e.1, rd e.2]), congrArg DV.lst (pol_neg c d), ?_, ?_⟩
    · have := pol_len (0 - c) (0 - d)
      rw [List.length_map]; omega
    one_item
    have hps : Fn X (n + 5) G.poly_sum [pd (pol a b), pd (pol (0 - c) (0 - d))] (fun z => z = pd (pol (a - c) (b - d))) := fn_mono (poly_sum_ok G a b (0 - c) (0 - d)) (Nat.le_refl _) fun z hz => by
      rw [hz, show a + (0 - c) = a - c by omega, show b + (0 - d) = b - d by omega]
    refine fn_at hps ?_
    generalize a - c = p
    generalize b - d = q
    by_cases hq : q = 0
    · by_cases hp : p = 0
      · rw [show pol p q = [] by simp [pol, hp, hq]]
        one_item
        refine ⟨_, rfl, by decide, ?_⟩
        one_item
        refine fn_at (rcompare_ok G r r' h1 h2) ?_
        one_item
        · exact congrArg DV.int (.symm (((if_neg (not_not_intro hq)).trans (if_neg (not_not_intro hp))).trans (if_pos ‹_›)))
        · exact congrArg DV.int (.symm (((if_neg (not_not_intro hq)).trans (if_neg (not_not_intro hp))).trans (if_neg ‹_›)))
      · rw [show pol p q = [(1, (p, 1))] by simp [pol, hp, hq]]
        one_item
        refine ⟨_, rfl, (show 1 < 2 ^ 62 by decide), ?_⟩
        one_item
        · exact congrArg DV.int (.symm ((kcmp_p hq hp).trans (if_pos ‹_›)))
        · exact congrArg DV.int (.symm ((kcmp_p hq hp).trans (if_neg ‹_›)))
        · exact absurd (show ((1 : Nat) : Int) > 0 by decide) ‹_›
    · by_cases hp : p = 0
      · rw [show pol p q = [(2, (q, 1))] by simp [pol, hp, hq]]
        one_item
        refine ⟨_, rfl, (show 1 < 2 ^ 62 by decide), ?_⟩
        one_item
        · exact congrArg DV.int (.symm ((kcmp_q hq).trans (if_pos ‹_›)))
        · exact congrArg DV.int (.symm ((kcmp_q hq).trans (if_neg ‹_›)))
        · exact absurd (show ((1 : Nat) : Int) > 0 by decide) ‹_›
      · rw [show pol p q = [(1, (p, 1)), (2, (q, 1))] by simp [pol, hp, hq]]
        one_item
        refine ⟨_, rfl, (show 2 < 2 ^ 62 by decide), ?_⟩
        one_item
        · exact congrArg DV.int (.symm ((kcmp_q hq).trans (if_pos ‹_›)))
        · exact congrArg DV.int (.symm ((kcmp_q hq).trans (if_neg ‹_›)))
        · exact absurd (show ((2 : Nat) : Int) > 0 by decide) ‹_›

end
section

open PySem PySem.W PySem.Calls PyProof.Rows PySem.SeqAt


variable {X : Stx} (G : Prg X)

/-- numbers are whole -/
noncomputable def whole (l : GD) : Prop := ∀ e ∈ l, e.2.2 = 1
theorem look_whole {l : GD} (h : whole l) {k : Kind} {r : Rt} (hr : look l k = some r) : r.2 = 1 := by
  unfold look at hr
  cases q : l.find? (fun e => decide (e.1 = k)) with
  | none => rw [q] at hr; cases hr
  | some e => rw [q] at hr; cases hr; exact h e (List.mem_of_find?_eq_some q)
theorem look_getK {l : GD} (h : whole l) (k : Kind) : ∃ c : Int, orD (look l k) (rd (0, 1)) = rd (c, 1) ∧ ((look l k).getD (0, 1)).1 = c := by
  cases q : look l k with
  | none => exact ⟨0, rfl, rfl⟩
  | some r => exact ⟨r.1, congrArg rd (Prod.ext rfl (look_whole h q)), rfl⟩
/-- one more number -/
noncomputable def gput (l : GD) (k : Kind) (b : Int) : GD := put l k (((look l k).getD (0, 1)).1 + b, 1)
theorem ginsert_ok {n : Nat} (a : Addr) (l : GD) (k : Kind) (b : Int) (hw : whole l) (hl : l.length ≤ 1000000) (hb : ((look l k).getD (0, 1)).1 + b ≠ 0) :
    FnG X (n + 4) G.ginsert (.kdict a l) [.own, .fz (kd k), .fz (rd (b, 1))] (fun o' d => o' = .kdict a (gput l k b) ∧ d = .none) noK := by
  refine fn_enter G.wf G.hginsert (fnA 20) (fnL 20) (by one_sign) rfl rfl (by decide +kernel) (by decide +kernel) (by decide +kernel) rfl rfl rfl (fun _ _ _ _ _ _ _ h => h.elim) fun C E I hD hE => ?_
  show WS C E (.kdict a l) [some .own, some (.fz (kd k)), some (.fz (rd (b, 1))), none] (fnB 20) _ _
  one_item
  refine ⟨k, rfl, ?_⟩
  one_item
  obtain ⟨c, e1, e2⟩ := look_getK hw k
  rw [e1]
  refine fn_at (radd1 G c b) ?_
  one_item
  · rename_i h
    exact absurd (congrArg Prod.fst h) (by rw [← e2]; exact hb)
  · refine kx_set I (by rfl) (by rfl) hl ?_
    one_item
    refine ⟨_, rfl, ?_⟩
    one_item
    refine ⟨k, rfl, ?_⟩
    one_item
    refine ⟨?_, rfl⟩
    rw [gput, e2]

/-- a power of x -/
noncomputable def kx (i : Int) : Kind := ([], (i, 1), 0)
noncomputable def gx (l : List (Int × Int)) : GD := l.map fun e => (kx e.1, (e.2, 1))
noncomputable def lookZ (l : List (Int × Int)) (i : Int) : Option Int := (l.find? fun e => e.1 = i).map (·.2)
noncomputable def putZ (l : List (Int × Int)) (i v : Int) : List (Int × Int) := if (lookZ l i).isSome then l.map (fun e => if e.1 = i then (e.1, v) else e) else l ++ [(i, v)]
theorem kx_inj {i j : Int} : kx i = kx j ↔ i = j := by simp [kx]
theorem look_gx (l : List (Int × Int)) (i : Int) : look (gx l) (kx i) = (lookZ l i).map fun v => (v, 1) := by
  unfold look lookZ gx
  induction l with
  | nil => rfl
  | cons e r ih =>
    rw [List.map_cons, List.find?_cons, List.find?_cons]
    by_cases q : e.1 = i
    · simp [kx_inj, q]
    · simpa [kx_inj, q] using ih
theorem put_gx (l : List (Int × Int)) (i v : Int) : put (gx l) (kx i) (v, 1) = gx (putZ l i v) := by
  unfold put putZ
  rw [look_any, look_gx]
  cases q : lookZ l i with
  | none => simp [gx]
  | some z =>
    simp only [Option.map_some, Option.isSome_some, if_true]
    unfold gx
    rw [List.map_map, List.map_map]
    refine List.map_congr_left fun e _ => ?_
    show (if kx e.1 = kx i then (kx e.1, (v, (1 : Int))) else (kx e.1, (e.2, 1))) = (kx (if e.1 = i then (e.1, v) else e).1, ((if e.1 = i then (e.1, v) else e).2, 1))
    by_cases h : e.1 = i
    · rw [if_pos (kx_inj.mpr h), if_pos h]
    · rw [if_neg (fun q => h (kx_inj.mp q)), if_neg h]
noncomputable def mstep (e1 : Int × Int) (l : List (Int × Int)) (e2 : Int × Int) : Option (List (Int × Int)) :=
  if (lookZ l (e1.1 + e2.1)).getD 0 + e1.2 * e2.2 = 0 then none else some (putZ l (e1.1 + e2.1) ((lookZ l (e1.1 + e2.1)).getD 0 + e1.2 * e2.2))
noncomputable def mulZ (la lb : List (Int × Int)) : Option (List (Int × Int)) := la.foldlM (fun l e1 => lb.foldlM (mstep e1) l) []
theorem foldlM_pre {α β : Type} {f : β → α → Option β} {l : List α} {s r : β} (h : l.foldlM f s = some r) (i : Nat) : ∃ x, (l.take i).foldlM f s = some x ∧ (l.drop i).foldlM f x = some r := by
  rw [← List.take_append_drop i l, List.foldlM_append] at h
  cases q : (l.take i).foldlM f s with
  | none => rw [q] at h; cases h
  | some x => rw [q] at h; exact ⟨x, rfl, h⟩
theorem foldlM_next {α β : Type} {f : β → α → Option β} {l : List α} {s r x : β} {i : Nat} {e : α} (h : l.foldlM f s = some r) (hx : (l.take i).foldlM f s = some x) (he : l[i]? = some e) : ∃ y, f x e = some y ∧ (l.take (i + 1)).foldlM f s = some y := by
  obtain ⟨y, h1, _⟩ := foldlM_pre h (i + 1)
  have h2 := h1
  rw [List.take_add_one, he, List.foldlM_append, hx] at h2
  refine ⟨y, ?_, h1⟩
  simpa using h2
theorem putZ_len (l : List (Int × Int)) (i v : Int) : (putZ l i v).length ≤ l.length + 1 := by
  unfold putZ; split <;> simp
theorem mrow_len {e1 : Int × Int} : ∀ {lb l r : List (Int × Int)}, lb.foldlM (mstep e1) l = some r → r.length ≤ l.length + lb.length := by
  intro lb
  induction lb with
  | nil => intro l r h; cases h; simp
  | cons e lb ih =>
    intro l r h
    rw [List.foldlM_cons] at h
    unfold mstep at h
    split at h
    · cases h
    · have := ih h
      have h2 := putZ_len l (e1.1 + e.1) ((lookZ l (e1.1 + e.1)).getD 0 + e1.2 * e.2)
      simp only [List.length_cons]
      omega
theorem mul_len {lb : List (Int × Int)} : ∀ {la l r : List (Int × Int)}, la.foldlM (fun l e1 => lb.foldlM (mstep e1) l) l = some r → r.length ≤ l.length + la.length * lb.length := by
  intro la
  induction la with
  | nil => intro l r h; cases h; simp
  | cons e la ih =>
    intro l r h
    rw [List.foldlM_cons] at h
    cases q : lb.foldlM (mstep e) l with
    | none => rw [q] at h; cases h
    | some x =>
      rw [q] at h
      have h1 := mrow_len q
      have h2 := ih h
      rw [List.length_cons, Nat.add_mul, Nat.one_mul]
      omega
theorem gx_whole (l : List (Int × Int)) : whole (gx l) := fun e he => by
  obtain ⟨z, _, rfl⟩ := List.mem_map.mp he
  rfl

theorem lookZ_mem {l : List (Int × Int)} (hn : (l.map (·.1)).Nodup) {i : Nat} {e : Int × Int} (h : l[i]? = some e) : lookZ l e.1 = some e.2 := by
  unfold lookZ
  induction l generalizing i with
  | nil => simp at h
  | cons x r ih =>
    rw [List.map_cons, List.nodup_cons] at hn
    cases i with
    | zero => simp at h; subst h; simp
    | succ i =>
      simp at h
      have hne : ¬ x.1 = e.1 := fun q => hn.1 (q ▸ List.mem_map.mpr ⟨e, List.mem_of_getElem? h, rfl⟩)
      rw [List.find?_cons, decide_eq_false hne]
      exact ih hn.2 h
theorem look_gx_at {l : List (Int × Int)} (hn : (l.map (·.1)).Nodup) {i : Nat} {e : Int × Int} (h : l[i]? = some e) : look (gx l) (kx e.1) = some (e.2, 1) := by
  rw [look_gx, lookZ_mem hn h]; rfl
theorem getD_gx (l : List (Int × Int)) (i : Int) : ((look (gx l) (kx i)).getD (0, 1)).1 = (lookZ l i).getD 0 := by
  rw [look_gx]
  cases lookZ l i <;> rfl
theorem gput_gx (l : List (Int × Int)) (i b : Int) : gput (gx l) (kx i) b = gx (putZ l i ((lookZ l i).getD 0 + b)) := by
  rw [gput, getD_gx, put_gx]
theorem gmul_ok {n : Nat} (la lb lc : List (Int × Int)) (h : mulZ la lb = some lc) (hna : (la.map (·.1)).Nodup) (hnb : (lb.map (·.1)).Nodup) (hla : la.length ≤ 100) (hlb : lb.length ≤ 100) (hbits : ∀ e ∈ lb, -(2 ^ 64) < e.2 ∧ e.2 < 2 ^ 64) :
    Fn X (n + 7) G.gmul [.gd (gx la), .gd (gx lb)] (fun d => d = .gd (gx lc)) := by
  refine fn_plain G.wf G.hgmul (fnA 24) (fnL 24) (by one_sign) rfl rfl (by decide +kernel) (by decide +kernel) (by decide +kernel) rfl rfl rfl fun C E I hD => ?_
  show WS C E .no [some (.fz (.gd (gx la))), some (.fz (.gd (gx lb))), none, none, none] (fnB 24) _ _
  have e1 : (gx la).length = la.length := by simp [gx]
  have e2 : (gx lb).length = lb.length := by simp [gx]
  have hm : ((gx la).length : Int) * ((gx lb).length : Int) ≤ 10000 := by
    rw [e1, e2, ← Int.natCast_mul]
    have := Nat.mul_le_mul hla hlb
    omega
  one_item
  refine ⟨_, rfl, by omega, ?_⟩
  one_item
  refine ⟨_, rfl, by omega, ?_⟩
  one_item
  refine bin_mul ?_ (.of_right (intBits_le_64 (by omega) (by omega)))
  one_item
  refine bin_mul ?_ (.of_right (by decide))
  one_item
  refine x_for I (wi_we I.wf ?_)
  one_item
  refine ⟨_, rfl, fun i o r => ∃ A l x y, o = .kdict A (gx l) ∧ (la.take i).foldlM (fun l e1 => lb.foldlM (mstep e1) l) [] = some l ∧ r = [some (.fz (.gd (gx la))), some (.fz (.gd (gx lb))), some .own, x, y], ⟨_, [], none, none, rfl, rfl, rfl⟩, ?_, ?_⟩
  · rintro C' E' I' i d o r hd ⟨A, l, x, y, rfl, hl, rfl⟩
    rw [gx, List.map_map, List.getElem?_map] at hd
    cases he : la[i]? with
    | none => rw [he] at hd; cases hd
    | some u =>
    rw [he] at hd
    cases hd
    obtain ⟨l2, hl2, hl3⟩ := foldlM_next h hl he
    refine a_name I' (by rfl) (by rfl) ?_
    one_item
    refine x_for I' (wi_we I'.wf ?_)
    one_item
    refine ⟨_, rfl, fun j o r => ∃ l' y, o = .kdict A (gx l') ∧ (lb.take j).foldlM (mstep u) l = some l' ∧ r = [some (.fz (.gd (gx la))), some (.fz (.gd (gx lb))), some .own, some (.fz (kd (kx u.1))), y], ⟨l, y, rfl, rfl, rfl⟩, ?_, ?_⟩
    · rintro C2 E2 I2 j d o r hd ⟨l', y', rfl, hl', rfl⟩
      rw [gx, List.map_map, List.getElem?_map] at hd
      cases he2 : lb[j]? with
      | none => rw [he2] at hd; cases hd
      | some v =>
      rw [he2] at hd
      cases hd
      obtain ⟨l5, hl5, hl6⟩ := foldlM_next hl2 hl' he2
      refine a_name I2 (by rfl) (by rfl) ?_
      one_item
      refine kx_call3 I2 G.hginsert (by rfl) (by rfl) (by rfl) ?_
      one_item
      refine fn_at (kind_product_ok G 0 0 u.1 0 0 0 v.1 0) ?_
      one_item
      refine ⟨kx u.1, (u.2, 1), rfl, look_gx_at hna he, ?_⟩
      one_item
      refine ⟨kx v.1, (v.2, 1), rfl, look_gx_at hnb he2, ?_⟩
      one_item
      refine fn_at (rmul1 G u.2 v.2 (.of_right (intBits_le_64 (hbits v (List.mem_of_getElem? he2)).1 (hbits v (List.mem_of_getElem? he2)).2))) ?_
      have hlen : (gx l').length ≤ 1000000 := by
        obtain ⟨x1, hx1, hx2⟩ := foldlM_pre h (i + 1)
        have q1 := mul_len hl
        have q2 := mrow_len hl'
        have q3 : (la.take i).length * lb.length ≤ 100 * 100 := Nat.mul_le_mul (by rw [List.length_take]; omega) hlb
        simp only [List.length_nil, List.length_take] at q1 q2 q3
        simp only [gx, List.length_map]
        omega
      unfold mstep at hl5
      split at hl5
      · cases hl5
      rename_i hnz
      refine ⟨gput (gx l') (kx (u.1 + v.1)) (u.2 * v.2), ginsert_ok G A (gx l') (kx (u.1 + v.1)) (u.2 * v.2) (gx_whole l') hlen (by rw [getD_gx]; exact hnz), ?_⟩
      one_item
      refine ⟨l5, _, ?_, hl6, rfl⟩
      rw [gput_gx]
      cases hl5
      rfl
    · rintro o r ⟨l', y', rfl, hl', rfl⟩
      rw [List.length_map, gx, List.length_map, List.take_length, hl2] at hl'
      cases hl'
      one_item
      exact ⟨A, l2, _, _, rfl, hl3, rfl⟩
  · rintro o r ⟨A, l, x, y, rfl, hl, rfl⟩
    rw [List.length_map, gx, List.length_map, List.take_length] at hl
    have hl := hl.symm.trans h
    cases hl
    refine ws_freeze I hD ?_
    one_item
    rfl

end
section

open PySem PySem.W PySem.Calls PyProof.Rows PySem.SeqAt


variable {X : Stx} (G : Prg X)

theorem fastest_one {n : Nat} (k : Kind) (r : Rt) : Fn X (n + 7) G.fastest [.gd [(k, r)]] (fun z => z = .tup [kd k, rd r]) := by
  refine fn_plain G.wf G.hfastest (fnA 26) (fnL 26) (by one_sign) rfl rfl (by decide +kernel) (by decide +kernel) (by decide +kernel) rfl rfl rfl fun C E I hD => ?_
  show WS C E .no [some (.fz (.gd [(k, r)])), none, none] (fnB 26) _ _
  one_item
  refine x_for I (wi_we I.wf ?_)
  one_item
  refine ⟨_, rfl, fun i o ρ => o = .no ∧ ((i = 0 ∧ ρ = [some (.fz (.gd [(k, r)])), some (.fz .none), none]) ∨ (i = 1 ∧ ρ = [some (.fz (.gd [(k, r)])), some (.fz (kd k)), some (.fz (kd k))])), ⟨rfl, .inl ⟨rfl, rfl⟩⟩, ?_, ?_⟩
  · rintro C' E' I' i d o ρ hd ⟨rfl, ⟨rfl, rfl⟩ | ⟨rfl, rfl⟩⟩
    · cases hd
      refine a_name I' (by rfl) (by rfl) ?_
      one_item
      exact ⟨rfl, .inr ⟨rfl, rfl⟩⟩
    · cases hd
  · rintro o ρ ⟨rfl, ⟨h, rfl⟩ | ⟨h, rfl⟩⟩
    · cases h
    · one_item
      · refine ⟨k, r, rfl, by simp [look], ?_⟩
        one_item
        rfl

noncomputable def upd (o : Option Int) (e : Int × Int) : Option Int := match o with | none => some e.1 | some m => if e.1 > m then some e.1 else some m
noncomputable def kxo (o : Option Int) : DV := match o with | none => .none | some m => kd (kx m)
theorem kcmp_x (i j : Int) : kcmp ([], (i, 1), 0) ([], (j, 1), 0) 0 0 > 0 ↔ i > j := by
  unfold kcmp
  simp only [ne_eq, not_true, if_false, Int.mul_one, gt_iff_lt, Int.lt_irrefl, decide_false]
  by_cases h1 : 0 < i - j <;> by_cases h2 : i - j < 0 <;> simp [h1, h2, b2i] <;> omega
theorem fastest_gx {n : Nat} (l : List (Int × Int)) {m c : Int} (hm : l.foldl upd none = some m) (hc : lookZ l m = some c) : Fn X (n + 7) G.fastest [.gd (gx l)] (fun z => z = .tup [kd (kx m), rd (c, 1)]) := by
  refine fn_plain G.wf G.hfastest (fnA 26) (fnL 26) (by one_sign) rfl rfl (by decide +kernel) (by decide +kernel) (by decide +kernel) rfl rfl rfl fun C E I hD => ?_
  show WS C E .no [some (.fz (.gd (gx l))), none, none] (fnB 26) _ _
  one_item
  refine x_for I (wi_we I.wf ?_)
  one_item
  refine ⟨_, rfl, fun i o ρ => o = .no ∧ ∃ y, ρ = [some (.fz (.gd (gx l))), some (.fz (kxo ((l.take i).foldl upd none))), y], ⟨rfl, none, rfl⟩, ?_, ?_⟩
  · rintro C' E' I' i d o ρ hd ⟨rfl, y, rfl⟩
    rw [gx, List.map_map, List.getElem?_map] at hd
    cases he : l[i]? with
    | none => rw [he] at hd; cases hd
    | some u =>
    rw [he] at hd
    cases hd
    refine a_name I' (by rfl) (by rfl) ?_
    have hnext : (l.take (i + 1)).foldl upd none = upd ((l.take i).foldl upd none) u := by rw [List.take_add_one, he, List.foldl_append]; rfl
    cases hq : (l.take i).foldl upd none with
    | none =>
      one_item
      exact ⟨rfl, _, by rw [hnext, hq]; rfl⟩
    | some j =>
      one_item
      refine fn_at (kind_compare_ok G 0 0 (u.1, 1) 0 0 0 (j, 1) 0 (.of_right (show Builtin.Int.intBits 1 ≤ 64 by decide)) (.of_right (show Builtin.Int.intBits 1 ≤ 64 by decide))) ?_
      one_item
      · rename_i hgt _
        have hgt : u.1 > j := (kcmp_x u.1 j).mp hgt
        exact ⟨rfl, _, by rw [hnext, hq, upd, if_pos hgt]; rfl⟩
      · rename_i hgt _
        have hgt : ¬ u.1 > j := fun q => hgt ((kcmp_x u.1 j).mpr q)
        exact ⟨rfl, _, by rw [hnext, hq, upd, if_neg hgt]; rfl⟩
  · rintro o ρ ⟨rfl, y, rfl⟩
    rw [List.length_map, gx, List.length_map, List.take_length, hm]
    one_item
    · refine ⟨kx m, (c, 1), rfl, by rw [show List.map (fun e => (kx e.fst, e.snd, (1 : Int))) l = gx l from rfl, look_gx, hc]; rfl, ?_⟩
      one_item
      rfl

end
section

open PySem PySem.W PySem.Calls PyProof.Rows PySem.SeqAt


variable {X : Stx} (G : Prg X)

theorem two_big {k : Nat} (h : 2 ≤ k) : (3 : Int) < 2 ^ k := by
  have h1 : (3 : Nat) < 2 ^ k := Nat.lt_of_lt_of_le (show 3 < 2 ^ 2 by decide) (Nat.pow_le_pow_right (by decide) h)
  have h2 : ((2 ^ k : Nat) : Int) = (2 : Int) ^ k := by push_cast; rfl
  omega
noncomputable def bitsF (m : Int) : Int := if m = 1 then 0 else 1
theorem bits_of_ok {n : Nat} (m : Int) (hm : m = 1 ∨ m = 2 ∨ m = 3) : Fn X (n + 1) G.bits_of [.int m] (fun d => d = .int (if m = 1 then 1 else 2)) := by
  refine fn_plain G.wf G.hbits_of (fnA 4) (fnL 4) (by one_sign) rfl rfl (by decide +kernel) (by decide +kernel) (by decide +kernel) rfl rfl rfl fun C E I hD => ?_
  show WS C E .no [some (.fz (.int m)), none, none, none] (fnB 4) _ _
  one_item
  refine x_for I (wi_we I.wf ?_)
  one_item
  refine ⟨_, rfl, fun i o ρ => o = .no ∧ i ≤ 3 ∧ ∃ x y, ρ = [some (.fz (.int (if i < 3 then m else 1))), some (.fz (.int (if i < 3 then 0 else bitsF m))), x, y], ⟨rfl, by decide, none, none, rfl⟩, ?_, ?_⟩
  · rintro C' E' I' i d o ρ hd ⟨rfl, hi, x, y, rfl⟩
    match i, hd with
    | 0, hd =>
      cases hd
      refine a_name I' (by rfl) (by rfl) ?_
      one_item
      refine bin_pow (by decide) (.inr (.inr (.inr (by decide)))) ?_
      one_item
      refine wx_while I'.wf (fun _ o r => o = .no ∧ r = [some (.fz (.int m)), some (.fz (.int 0)), some (.fz (.int 4096)), some (.fz (.int (2 ^ Int.toNat 4096)))]) 0 ⟨rfl, rfl⟩ ?_
      rintro k o r E3 ⟨rfl, rfl⟩
      have hb := two_big (k := Int.toNat 4096) (by decide)
      one_item
      · rename_i hge
        exfalso
        omega
      · exact ⟨rfl, by decide, _, _, rfl⟩
    | 1, hd =>
      cases hd
      refine a_name I' (by rfl) (by rfl) ?_
      one_item
      refine bin_pow (by decide) (.inr (.inr (.inr (by decide)))) ?_
      one_item
      refine wx_while I'.wf (fun _ o r => o = .no ∧ r = [some (.fz (.int m)), some (.fz (.int 0)), some (.fz (.int 64)), some (.fz (.int (2 ^ Int.toNat 64)))]) 0 ⟨rfl, rfl⟩ ?_
      rintro k o r E3 ⟨rfl, rfl⟩
      have hb := two_big (k := Int.toNat 64) (by decide)
      one_item
      · rename_i hge
        exfalso
        omega
      · exact ⟨rfl, by decide, _, _, rfl⟩
    | 2, hd =>
      cases hd
      refine a_name I' (by rfl) (by rfl) ?_
      one_item
      refine bin_pow (by decide) (.inr (.inr (.inr (by decide)))) ?_
      one_item
      refine wx_while I'.wf (fun k o r => o = .no ∧ ((k = 1 ∧ r = [some (.fz (.int m)), some (.fz (.int 0)), some (.fz (.int 1)), some (.fz (.int 2))]) ∨ (k = 0 ∧ r = [some (.fz (.int 1)), some (.fz (.int (bitsF m))), some (.fz (.int 1)), some (.fz (.int 2))]))) 1 ⟨rfl, .inl ⟨rfl, rfl⟩⟩ ?_
      rintro k o r E3 ⟨rfl, ⟨rfl, rfl⟩ | ⟨rfl, rfl⟩⟩
      · one_item
        · refine bin_fdiv (by decide) (by decide) ?_
          one_item
          refine ⟨0, by decide, rfl, .inr ⟨rfl, ?_⟩⟩
          rename_i hge
          have h1 : m.fdiv 2 = 1 := by rcases hm with rfl | rfl | rfl <;> first | rfl | omega
          have h2 : bitsF m = 1 := by rcases hm with rfl | rfl | rfl <;> first | rfl | omega
          rw [h2]
          show [some (LV.fz (.int (m.fdiv 2))), some (LV.fz (.int (0 + 1))), _, _] = _
          rw [h1]
          rfl
        · refine ⟨rfl, by decide, some (.fz (.int 1)), some (.fz (.int 2)), ?_⟩
          have h1 : m = 1 := by omega
          subst h1
          rfl
      · one_item
        exact ⟨rfl, by decide, _, _, rfl⟩
    | i + 3, hd => cases hd
  · rintro o ρ ⟨rfl, _, x, y, rfl⟩
    one_item
    show DV.int (bitsF m + 1) = _
    rcases hm with rfl | rfl | rfl <;> rfl

noncomputable def gmax (p q : Int) : Int := if q > iabs p then q else iabs p
theorem rpower_ok {n : Nat} (p q m : Int) (hm : 0 ≤ m) (h : m ≤ 1 ∨ gmax p q ≤ 1 ∨ ((gmax p q = 2 ∨ gmax p q = 3) ∧ m ≤ 100000))
    (hp : p = 0 ∨ p = 1 ∨ p = -1 ∨ (Builtin.Int.intBits p : Int) * m ≤ 2 ^ 27) (hq : q = 0 ∨ q = 1 ∨ q = -1 ∨ (Builtin.Int.intBits q : Int) * m ≤ 2 ^ 27) :
    Fn X (n + 4) G.rpower [rd (p, q), .int m] (fun d => d = rd (p ^ m.toNat, q ^ m.toNat)) := by
  refine fn_plain G.wf G.hrpower (fnA 14) (fnL 14) (by one_sign) rfl rfl (by decide +kernel) (by decide +kernel) (by decide +kernel) rfl rfl rfl fun C E I hD => ?_
  show WS C E .no [some (.fz (rd (p, q))), some (.fz (.int m)), none] (fnB 14) _ _
  one_item
  · exfalso; omega
  · have hg1 : gmax p q > 1 := by assumption
    have hm1 : m > 1 := by assumption
    have hh : (gmax p q = 2 ∨ gmax p q = 3) ∧ m ≤ 100000 := h.elim (fun h => absurd hm1 (Int.not_lt.mpr h)) fun h => h.elim (fun h => absurd hg1 (Int.not_lt.mpr h)) id
    obtain ⟨hg, hm2⟩ := hh
    have hbits : (if gmax p q = 1 then (1 : Int) else 2) = 2 := if_neg (Int.ne_of_gt hg1)
    change Fn X (n + 3) G.bits_of [.int (gmax p q)] _
    refine fn_at (bits_of_ok G (gmax p q) (.inr hg)) ?_
    rw [hbits]
    refine bin_mul ?_ (.of_right (by decide))
    one_item
    refine bin_pow hm hp ?_
    one_item
    refine bin_pow hm hq ?_
    one_item
    rfl
  all_goals
    refine bin_pow hm hp ?_
    one_item
    refine bin_pow hm hq ?_
    one_item
    rfl
theorem rpower_inv {n : Nat} (p q : Int) (hp : p ≠ 0) (hg : (Int.gcd q p).log2 < 9000) (hb1 : Builtin.Int.intBits (ratS q p).1 ≤ 2 ^ 27) (hb2 : Builtin.Int.intBits (ratS q p).2 ≤ 2 ^ 27) :
    Fn X (n + 4) G.rpower [rd (p, q), .int (-1)] (fun d => d = rd (ratS q p)) := by
  refine fn_plain G.wf G.hrpower (fnA 14) (fnL 14) (by one_sign) rfl rfl (by decide +kernel) (by decide +kernel) (by decide +kernel) rfl rfl rfl fun C E I hD => ?_
  show WS C E .no [some (.fz (rd (p, q))), some (.fz (.int (-1))), none] (fnB 14) _ _
  one_item
  refine fn_at (rinv_ok G p q hp hg) ?_
  one_item
  refine bin_pow (by decide) (.inr (.inr (.inr (by show (Builtin.Int.intBits (ratS q p).1 : Int) * 1 ≤ _; omega)))) ?_
  one_item
  refine bin_pow (by decide) (.inr (.inr (.inr (by show (Builtin.Int.intBits (ratS q p).2 : Int) * 1 ≤ _; omega)))) ?_
  one_item
  show DV.tup [.int ((ratS q p).1 ^ 1), .int ((ratS q p).2 ^ 1)] = _
  rw [Int.pow_succ, Int.pow_succ, Int.pow_zero, Int.pow_zero, Int.one_mul, Int.one_mul]
  rfl

end
section

open PySem PySem.W PySem.Calls PyProof.Rows PySem.SeqAt


variable {X : Stx} (G : Prg X)

noncomputable def mulF (m : Int) : DV → Option DV
  | .tup [.int k, .tup [.int a, .int _]] => some (.tup [.int k, rd (a * m, 1)])
  | _ => none
theorem pol_mul (c d : Int) {m : Int} (hm : m ≠ 0) : ((pol c d).map fun e => DV.tup [.int e.1, rd e.2]).filterMap (mulF m) = (pol (c * m) (d * m)).map fun e => DV.tup [.int e.1, rd e.2] := by
  unfold pol
  by_cases h1 : c = 0 <;> by_cases h2 : d = 0 <;> simp [h1, h2, mulF, rd, hm]
noncomputable def tmul (r : Rt) (m : Int) : Rt := ratS (r.1 * m) (r.2 * 1)

theorem gpower_nil {n : Nat} (m : Int) : Fn X (n + 5) G.gpower [.gd [], .int m] (fun d => d = .gd []) := by
  refine fn_of_g (fn_enter G.wf G.hgpower (fnA 28) (fnL 28) (by one_sign) rfl rfl (by decide +kernel) (by decide +kernel) (by decide +kernel) rfl rfl rfl (fun _ _ _ _ _ _ _ h => h.elim) fun C E I hD hE => ?_)
  show WS C E .no [some (.fz (.gd [])), some (.fz (.int m)), none, none, none, none, none] (fnB 28) _ _
  one_item
  refine ⟨_, rfl, (show 0 < 2 ^ 62 by decide), ?_⟩
  one_item
  · refine x_for I (wi_we I.wf ?_)
    one_item
    refine ⟨_, rfl, fun i o ρ => (∃ A, o = .kdict A []) ∧ ρ = [some (.fz (.gd [])), some (.fz (.int m)), some .own, none, none, none, none], ⟨⟨_, rfl⟩, rfl⟩, ?_, ?_⟩
    · rintro C' E' I' i d o ρ hd _
      cases hd
    · rintro o ρ ⟨⟨A, rfl⟩, rfl⟩
      refine ws_freeze I hD ?_
      one_item
      rfl
  all_goals exact absurd (show ((0 : Nat) : Int) < 2 by decide) ‹_›

theorem gpower_one {n : Nat} (a b : Int) (r : Rt) (l p q m : Int) (hm : 0 < m) (hm64 : m < 2 ^ 64) (hr : r.2 * 1 ≠ 0) (hr2 : Builtin.Int.intBits r.2 ≤ 64) (hg : (Int.gcd (r.1 * m) (r.2 * 1)).log2 < 9000)
    (h : m ≤ 1 ∨ gmax p q ≤ 1 ∨ ((gmax p q = 2 ∨ gmax p q = 3) ∧ m ≤ 100000))
    (hp : p = 0 ∨ p = 1 ∨ p = -1 ∨ (Builtin.Int.intBits p : Int) * m ≤ 2 ^ 27) (hq : q = 0 ∨ q = 1 ∨ q = -1 ∨ (Builtin.Int.intBits q : Int) * m ≤ 2 ^ 27) :
    Fn X (n + 5) G.gpower [.gd [((pol a b, r, l), (p, q))], .int m] (fun d => d = .gd [((pol (a * m) (b * m), tmul r m, l * m), (p ^ m.toNat, q ^ m.toNat))]) := by
  have hb64 : Builtin.Int.intBits m ≤ 64 := intBits_le_64 (by omega) hm64
  refine fn_of_g (fn_enter G.wf G.hgpower (fnA 28) (fnL 28) (by one_sign) rfl rfl (by decide +kernel) (by decide +kernel) (by decide +kernel) rfl rfl rfl (fun _ _ _ _ _ _ _ h => h.elim) fun C E I hD hE => ?_)
  show WS C E .no [some (.fz (.gd [((pol a b, r, l), (p, q))])), some (.fz (.int m)), none, none, none, none, none] (fnB 28) _ _
  one_item
  refine ⟨_, rfl, (show 1 < 2 ^ 62 by decide), ?_⟩
  one_item
  · refine x_for I (wi_we I.wf ?_)
    one_item
    refine ⟨_, rfl, fun i o ρ => ∃ A, (i = 0 ∧ o = .kdict A [] ∧ ρ = [some (.fz (.gd [((pol a b, r, l), (p, q))])), some (.fz (.int m)), some .own, none, none, none, none]) ∨
      (i = 1 ∧ o = .kdict A [((pol (a * m) (b * m), tmul r m, l * m), (p ^ m.toNat, q ^ m.toNat))] ∧ ∃ x y, ρ = [some (.fz (.gd [((pol a b, r, l), (p, q))])), some (.fz (.int m)), some .own, x, y, none, none]), ⟨_, .inl ⟨rfl, rfl, rfl⟩⟩, ?_, ?_⟩
    · rintro C' E' I' i d o ρ hd ⟨A, ⟨rfl, rfl, rfl⟩ | ⟨rfl, rfl, x, y, rfl⟩⟩
      · cases hd
        refine a_name I' (by rfl) (by rfl) ?_
        one_item
        refine we_lcomp I' [Str.ofString "place", Str.ofString "one"] [Str.ofString "many"] (by decide +kernel) rfl (by decide +kernel) (by decide +kernel) (by decide +kernel) (by decide +kernel) (wi_we I'.wf ?_)
        one_item
        refine ⟨_, rfl, ?_, mulF m, ?_, ?_⟩
        · have := pol_len a b
          rw [List.length_map]; show (pol a b).length ≤ 1000; omega
        · rintro C2 E2 I2 j dd tv hd htv
          rw [List.getElem?_map, show ((pol a b, r, l), p, q).fst.fst = pol a b from rfl] at hd
          cases he : (pol a b)[j]? with
          | none => rw [he] at hd; cases hd
          | some e =>
          rw [he] at hd
          cases hd
          obtain ⟨z1, z2, rfl⟩ : ∃ z1 z2, tv = [z1, z2] := by
            match tv, htv with
            | [z1, z2], _ => exact ⟨z1, z2, rfl⟩
          have e2 : e.2 = (e.2.1, 1) := Prod.ext rfl (pol_one a b e (List.mem_of_getElem? he))
          refine a_tup2 I2 (by rfl) (by rfl) (by rfl) (by rfl) ⟨[some (.fz (.int e.1)), some (.fz (rd e.2))], rfl, rfl, ?_⟩
          refine ⟨fun _ => ?_, fun h => nomatch h⟩
          show WE C2 E2 _ [some (.fz (.int e.1)), some (.fz (rd e.2)), some (.fz (.int m))] _ _
          rw [show rd e.2 = rd (e.2.1, 1) from congrArg rd e2]
          one_item
          refine fn_at (rmul1 G e.2.1 m (.of_right hb64)) ?_
          one_item
          rfl
        · refine ⟨(pol (a * m) (b * m)).map (fun e => DV.tup [.int e.1, rd e.2]), congrArg DV.lst (pol_mul a b (by omega)), ?_, ?_⟩
          · have := pol_len (a * m) (b * m)
            rw [List.length_map]; omega
          one_item
          refine kx_set I' (by rfl) (by rfl) (by decide) ?_
          one_item
          refine ⟨(pol a b, r, l), (p, q), rfl, by simp [look], ?_⟩
          one_item
          refine fn_at (rpower_ok G p q m (by omega) h hp hq) ?_
          one_item
          refine ⟨_, rfl, ?_⟩
          one_item
          refine fn_at (rmul_ok G r (m, 1) (.of_right hb64) (.of_left hr2) hr hg) ?_
          one_item
          refine bin_mul ?_ (.of_right hb64)
          one_item
          refine ⟨(pol (a * m) (b * m), tmul r m, l * m), rfl, ?_⟩
          one_item
          exact ⟨A, .inr ⟨rfl, rfl, _, _, rfl⟩⟩
      · cases hd
    · rintro o ρ ⟨A, ⟨h, _⟩ | ⟨_, rfl, x, y, rfl⟩⟩
      · cases h
      · refine ws_freeze I hD ?_
        one_item
        rfl
  all_goals exact absurd (show ((1 : Nat) : Int) < 2 by decide) ‹_›

end
section

open PySem PySem.W PySem.Calls PyProof.Rows PySem.SeqAt


variable {X : Stx} (G : Prg X)

noncomputable def powZ (la : List (Int × Int)) : Nat → Option (List (Int × Int))
  | 0 => some [(0, 1)]
  | i + 1 => (powZ la i).bind fun l => mulZ l la
noncomputable def bitsV : DV → Option DV
  | .tup [.int a, .int b] => some (.int (if gmax a b = 1 then 1 else 2))
  | _ => none
theorem bits_gx : ∀ la : List (Int × Int), ((gx la).map fun e => rd e.2).filterMap bitsV = (la.map fun e => if gmax e.2 1 = 1 then (1 : Int) else 2).map DV.int := by
  intro la
  induction la with
  | nil => rfl
  | cons e r ih =>
    show ((rd (e.2, 1)) :: (gx r).map fun e => rd e.2).filterMap bitsV = _
    rw [List.filterMap_cons, show bitsV (rd (e.2, 1)) = some (.int (if gmax e.2 1 = 1 then 1 else 2)) from rfl, ih]
    rfl
theorem gpower_gx {n : Nat} (la : List (Int × Int)) (f : Nat) (hf : f ≤ 4) (h2 : 2 ≤ la.length) (hl : la.length ≤ 100) (hnd : (la.map (·.1)).Nodup) (hv : ∀ e ∈ la, gmax e.2 1 = 1 ∨ gmax e.2 1 = 2 ∨ gmax e.2 1 = 3) (hb : ∀ e ∈ la, -(2 ^ 64) < e.2 ∧ e.2 < 2 ^ 64)
    (lc : List (Int × Int)) (hp : ∀ i, i < f → ∃ l, powZ la i = some l ∧ (l.map (·.1)).Nodup ∧ l.length ≤ 100) (hc : powZ la f = some lc) :
    Fn X (n + 8) G.gpower [.gd (gx la), .int f] (fun d => d = .gd (gx lc)) := by
  have e1 : (gx la).length = la.length := by simp [gx]
  refine fn_of_g (fn_enter G.wf G.hgpower (fnA 28) (fnL 28) (by one_sign) rfl rfl (by decide +kernel) (by decide +kernel) (by decide +kernel) rfl rfl rfl (fun _ _ _ _ _ _ _ h => h.elim) fun C E I hD hE => ?_)
  show WS C E .no [some (.fz (.gd (gx la))), some (.fz (.int f)), none, none, none, none, none] (fnB 28) _ _
  one_item
  refine ⟨_, rfl, by omega, ?_⟩
  one_item
  · exfalso; omega
  refine we_lcomp I [Str.ofString "one"] [] (by decide +kernel) rfl (by decide +kernel) (by decide +kernel) (by decide +kernel) (by decide +kernel) (wi_values I ?_)
  one_item
  refine ⟨gx la, rfl, ?_, bitsV, ?_, ?_⟩
  · rw [List.length_map]; omega
  · rintro C' E' I' i d tv hd htv
    rw [gx, List.map_map, List.getElem?_map] at hd
    cases he : la[i]? with
    | none => rw [he] at hd; cases hd
    | some e =>
    rw [he] at hd
    cases hd
    obtain ⟨z, rfl⟩ : ∃ z, tv = [z] := by
      match tv, htv with
      | [z], _ => exact ⟨z, rfl⟩
    refine a_name I' (by rfl) (by rfl) ⟨[some (.fz (rd (e.2, 1)))], rfl, rfl, ?_⟩
    refine ⟨fun _ => ?_, fun h => nomatch h⟩
    show WE C' E' _ [some (.fz (rd (e.2, 1)))] _ _
    one_item
    refine fn_at (bits_of_ok G (gmax e.2 1) (hv e (List.mem_of_getElem? he))) ?_
    rfl
  · rw [bits_gx]
    refine ⟨_, rfl, ?_, fun k hk => ?_⟩
    · intro q
      rw [List.map_eq_nil_iff] at q
      rw [q] at h2
      exact absurd h2 (by decide)
    have hk2 : k = 1 ∨ k = 2 := by
      obtain ⟨e, _, rfl⟩ := List.mem_map.mp hk
      split
      · exact .inl rfl
      · exact .inr rfl
    have hsome : ∀ i, i ≤ f → ∃ l, powZ la i = some l := fun i hi => by
      rcases Nat.lt_or_ge i f with q | q
      · obtain ⟨l, e, _⟩ := hp i q
        exact ⟨l, e⟩
      · rw [show i = f by omega]; exact ⟨lc, hc⟩
    have hstep : ∀ i l l', i < f → powZ la i = some l → powZ la (i + 1) = some l' → ∀ m, Fn X (m + 7) G.gmul [.gd (gx l), .gd (gx la)] (fun d => d = .gd (gx l')) := fun i l l' hi hl0 hl1 m => by
      obtain ⟨l2, e, q1, q2⟩ := hp i hi
      rw [hl0] at e
      cases e
      have hl1 : (powZ la i).bind (fun l => mulZ l la) = some l' := hl1
      rw [hl0] at hl1
      exact gmul_ok G l la l' hl1 q1 hnd q2 hl hb
    have tail : ∀ i : Nat, ∀ d, (upto f)[i]? = some d → i < f ∧ d = .int i := fun i d hd => by
      unfold upto at hd
      rw [List.getElem?_map] at hd
      by_cases q : i < f
      · rw [List.getElem?_range q] at hd
        cases hd
        exact ⟨q, rfl⟩
      · rw [List.getElem?_eq_none (by simpa using q)] at hd
        cases hd
    one_item
    · refine bin_mul ?_ (.of_right (by rcases hk2 with rfl | rfl <;> decide))
      one_item
      · exfalso
        rcases hk2 with rfl | rfl <;> omega
      all_goals
        refine we_dict I rfl rfl (by decide) (by decide) fun C2 I2 => ?_
        refine we_glP I2 G.hSTILL (by rfl) ⟨kx 0, rfl, ?_⟩
        refine we_glP I2 G.hR1 (by rfl) ⟨(1, 1), rfl, ?_⟩
        refine ⟨by simp, by decide, ?_⟩
        one_item
        refine x_for I (wi_range I G.range (by rfl) ?_)
        one_item
        refine ⟨f, rfl, by omega, fun i o ρ => o = .no ∧ ∃ l y, powZ la i = some l ∧ ρ = [some (.fz (.gd (gx la))), some (.fz (.int f)), some (.fz (.gd (gx l))), none, none, some (.fz (.int k)), y], ⟨rfl, [(0, 1)], none, rfl, rfl⟩, ?_, ?_⟩
        · rintro C3 E3 I3 i d o ρ hd ⟨rfl, l, y, hl0, rfl⟩
          obtain ⟨hi, rfl⟩ := tail i d hd
          obtain ⟨l', hl1⟩ := hsome (i + 1) hi
          have hlen : (gx l).length ≤ 100 := by
            obtain ⟨l2, e, _, q2⟩ := hp i hi
            rw [hl0] at e
            cases e
            simpa [gx] using q2
          refine a_name I3 (by rfl) (by rfl) ?_
          one_item
          refine ⟨_, rfl, by omega, ?_⟩
          one_item
          refine fn_at (hstep i l l' hi hl0 hl1 n) ?_
          one_item
          exact ⟨rfl, l', _, hl1, rfl⟩
        · rintro o ρ ⟨rfl, l, y, hl0, rfl⟩
          rw [show (upto f).length = f by simp [upto], hc] at hl0
          cases hl0
          one_item
          rfl
    all_goals
      refine we_dict I rfl rfl (by decide) (by decide) fun C2 I2 => ?_
      refine we_glP I2 G.hSTILL (by rfl) ⟨kx 0, rfl, ?_⟩
      refine we_glP I2 G.hR1 (by rfl) ⟨(1, 1), rfl, ?_⟩
      refine ⟨by simp, by decide, ?_⟩
      one_item
      refine x_for I (wi_range I G.range (by rfl) ?_)
      one_item
      refine ⟨f, rfl, by omega, fun i o ρ => o = .no ∧ ∃ l y, powZ la i = some l ∧ ρ = [some (.fz (.gd (gx la))), some (.fz (.int f)), some (.fz (.gd (gx l))), none, none, some (.fz (.int k)), y], ⟨rfl, [(0, 1)], none, rfl, rfl⟩, ?_, ?_⟩
      · rintro C3 E3 I3 i d o ρ hd ⟨rfl, l, y, hl0, rfl⟩
        obtain ⟨hi, rfl⟩ := tail i d hd
        obtain ⟨l', hl1⟩ := hsome (i + 1) hi
        have hlen : (gx l).length ≤ 100 := by
          obtain ⟨l2, e, _, q2⟩ := hp i hi
          rw [hl0] at e
          cases e
          simpa [gx] using q2
        refine a_name I3 (by rfl) (by rfl) ?_
        one_item
        refine ⟨_, rfl, by omega, ?_⟩
        one_item
        refine fn_at (hstep i l l' hi hl0 hl1 n) ?_
        one_item
        exact ⟨rfl, l', _, hl1, rfl⟩
      · rintro o ρ ⟨rfl, l, y, hl0, rfl⟩
        rw [show (upto f).length = f by simp [upto], hc] at hl0
        cases hl0
        one_item
        rfl

end
section

open PySem PySem.W PySem.Calls PyProof.Rows PySem.SeqAt


variable {X : Stx} (G : Prg X)

theorem gratio_zero {n : Nat} (d : DV) : Fn X (n + 9) G.gratio_power [d, .int 0] (fun z => z = .tup [.gd [(kx 0, (1, 1))], .gd [(kx 0, (1, 1))]]) := by
  refine fn_plain G.wf G.hgratio_power (fnA 29) (fnL 29) (by one_sign) rfl rfl (by decide +kernel) (by decide +kernel) (by decide +kernel) rfl rfl rfl fun C E I hD => ?_
  show WS C E .no [some (.fz d), some (.fz (.int 0)), none, none] (fnB 29) _ _
  one_item
  · refine we_dict I rfl rfl (by decide) (by decide) fun C2 I2 => ?_
    refine we_glP I2 G.hSTILL (by rfl) ⟨kx 0, rfl, ?_⟩
    refine we_glP I2 G.hR1 (by rfl) ⟨(1, 1), rfl, ?_⟩
    refine ⟨by simp, by decide, ?_⟩
    one_item
    refine we_dict I rfl rfl (by decide) (by decide) fun C2 I2 => ?_
    refine we_glP I2 G.hSTILL (by rfl) ⟨kx 0, rfl, ?_⟩
    refine we_glP I2 G.hR1 (by rfl) ⟨(1, 1), rfl, ?_⟩
    refine ⟨by simp, by decide, ?_⟩
    one_item
    rfl
  all_goals (exfalso; omega)

theorem gratio_ok {n : Nat} (A B A' B' : GD) (m : Int) (hm : m ≠ 0) (h1 : Fn X (n + 8) G.gpower [.gd (if m > 0 then A else B), .int (iabs m)] (fun z => z = .gd A')) (h2 : Fn X (n + 8) G.gpower [.gd (if m > 0 then B else A), .int (iabs m)] (fun z => z = .gd B')) :
    Fn X (n + 9) G.gratio_power [.tup [.gd A, .gd B], .int m] (fun z => z = .tup [.gd A', .gd B']) := by
  refine fn_plain G.wf G.hgratio_power (fnA 29) (fnL 29) (by one_sign) rfl rfl (by decide +kernel) (by decide +kernel) (by decide +kernel) rfl rfl rfl fun C E I hD => ?_
  show WS C E .no [some (.fz (.tup [.gd A, .gd B])), some (.fz (.int m)), none, none] (fnB 29) _ _
  one_item
  · exfalso; omega
  refine x_unpk2 I (by rfl) (.inl (by rfl)) (by rfl) (.inl (by rfl)) ?_
  one_item
  · rename_i hp
    rw [if_pos hp] at h1 h2
    refine ⟨_, _, rfl, ?_⟩
    one_item
    refine fn_at h1 ?_
    one_item
    refine fn_at h2 ?_
    one_item
    rfl
  · rename_i hp
    rw [if_neg hp] at h1 h2
    refine ⟨_, _, rfl, ?_⟩
    one_item
    refine fn_at h1 ?_
    one_item
    refine fn_at h2 ?_
    one_item
    rfl

end
section

open PySem PySem.W PySem.Calls PyProof.Rows PySem.SeqAt


variable {X : Stx} (G : Prg X)

noncomputable def farV (o : Int) (v : Rt) : DV := if o = 0 then rd v else if o < 0 then rd (0, 1) else .str (if v.1 > 0 then "inf" else "-inf")
theorem far_limit_ok {n : Nat} (A B : DV) (kA kB : Kind) (rA rB inv v : Rt) (o : Int)
    (h1 : Fn X n G.fastest [A] (fun z => z = .tup [kd kA, rd rA])) (h2 : Fn X n G.fastest [B] (fun z => z = .tup [kd kB, rd rB])) (h3 : Fn X n G.kind_compare [kd kA, kd kB] (fun z => z = .int o))
    (h4 : Fn X n G.rpower [rd rB, .int (-1)] (fun z => z = rd inv)) (h5 : Fn X n G.rmul [rd rA, rd inv] (fun z => z = rd v)) :
    Fn X (n + 1) G.far_limit [.tup [A, B]] (fun z => z = farV o v) := by
  refine fn_plain G.wf G.hfar_limit (fnA 33) (fnL 33) (by one_sign) rfl rfl (by decide +kernel) (by decide +kernel) (by decide +kernel) rfl rfl rfl fun C E I hD => ?_
  show WS C E .no [some (.fz (.tup [A, B])), none, none, none, none] (fnB 33) _ _
  one_item
  refine fn_at h1 ?_
  one_item
  refine fn_at h2 ?_
  one_item
  refine fn_at h3 ?_
  one_item
  refine fn_at h4 ?_
  one_item
  refine fn_at h5 ?_
  one_item
  · rw [farV, if_pos ‹o = 0›]
  · rw [farV, if_neg ‹¬ o = 0›, if_pos ‹o < 0›]
  · rw [farV, if_neg ‹¬ o = 0›, if_neg ‹¬ o < 0›, if_pos ‹v.1 > 0›]
  · rw [farV, if_neg ‹¬ o = 0›, if_neg ‹¬ o < 0›, if_neg ‹¬ v.1 > 0›]

end
section

open PySem PySem.W PySem.Calls PyProof.Rows PySem.SeqAt


variable {X : Stx} (G : Prg X)

noncomputable def astep (l : List (Int × Int)) (e : Int × Int) : Option (List (Int × Int)) := if (lookZ l e.1).getD 0 + e.2 = 0 then none else some (putZ l e.1 ((lookZ l e.1).getD 0 + e.2))
theorem astep_len : ∀ {lb l r : List (Int × Int)}, lb.foldlM astep l = some r → r.length ≤ l.length + lb.length := by
  intro lb
  induction lb with
  | nil => intro l r h; cases h; simp
  | cons e lb ih =>
    intro l r h
    rw [List.foldlM_cons] at h
    unfold astep at h
    split at h
    · cases h
    · have := ih h
      have h2 := putZ_len l e.1 ((lookZ l e.1).getD 0 + e.2)
      simp only [List.length_cons]
      omega
theorem gadd_ok {n : Nat} (la lb lc : List (Int × Int)) (h : lb.foldlM astep la = some lc) (hnb : (lb.map (·.1)).Nodup) (hla : la.length ≤ 1) (hlb : lb.length ≤ 100) :
    Fn X (n + 5) G.gadd [.gd (gx la), .gd (gx lb)] (fun d => d = .gd (gx lc)) := by
  refine fn_plain G.wf G.hgadd (fnA 21) (fnL 21) (by one_sign) rfl rfl (by decide +kernel) (by decide +kernel) (by decide +kernel) rfl rfl rfl fun C E I hD => ?_
  show WS C E .no [some (.fz (.gd (gx la))), some (.fz (.gd (gx lb))), none, none] (fnB 21) _ _
  conv => arg 5; whnf
  refine ws_cons (kx_copy I G.dict (by rfl) (by rfl) (by rfl) ?_)
  one_item
  refine ⟨_, rfl, by simpa [gx] using hla, fun A => ?_⟩
  one_item
  refine x_for I (wi_we I.wf ?_)
  one_item
  refine ⟨_, rfl, fun j o r => ∃ l' y, o = .kdict A (gx l') ∧ (lb.take j).foldlM astep la = some l' ∧ r = [some (.fz (.gd (gx la))), some (.fz (.gd (gx lb))), some .own, y], ⟨la, none, rfl, rfl, rfl⟩, ?_, ?_⟩
  · rintro C2 E2 I2 j d o r hd ⟨l', y', rfl, hl', rfl⟩
    rw [gx, List.map_map, List.getElem?_map] at hd
    cases he2 : lb[j]? with
    | none => rw [he2] at hd; cases hd
    | some v =>
    rw [he2] at hd
    cases hd
    obtain ⟨l5, hl5, hl6⟩ := foldlM_next h hl' he2
    refine a_name I2 (by rfl) (by rfl) ?_
    one_item
    refine kx_call3 I2 G.hginsert (by rfl) (by rfl) (by rfl) ?_
    one_item
    refine ⟨kx v.1, (v.2, 1), rfl, look_gx_at hnb he2, ?_⟩
    have hlen : (gx l').length ≤ 1000000 := by
      have q2 := astep_len hl'
      simp only [List.length_take] at q2
      simp only [gx, List.length_map]
      omega
    unfold astep at hl5
    split at hl5
    · cases hl5
    rename_i hnz
    refine ⟨gput (gx l') (kx v.1) v.2, ginsert_ok G A (gx l') (kx v.1) v.2 (gx_whole l') hlen (by rw [getD_gx]; exact hnz), ?_⟩
    one_item
    refine ⟨l5, _, ?_, hl6, rfl⟩
    rw [gput_gx]
    cases hl5
    rfl
  · rintro o r ⟨l', y', rfl, hl', rfl⟩
    rw [List.length_map, gx, List.length_map, List.take_length, h] at hl'
    cases hl'
    refine ws_freeze I hD ?_
    one_item
    rfl

end
section

open PySem PySem.W PySem.Calls PyProof.Rows PySem.SeqAt


variable {X : Stx} (G : Prg X)
noncomputable abbrev sD (x : String) : DV := .str (Str.ofString x)
noncomputable def symD : DV := .tup [sD "sym", sD "x"]
noncomputable def numD (a b : Int) : DV := .tup [sD "num", .int a, .int b]

theorem growth_sym {n : Nat} : Fn X (n + 1) G.growth_of [symD, sD "x"] (fun z => z = .tup [.gd (gx [(1, 1)]), .gd (gx [(0, 1)])]) := by
  refine fn_plain G.wf G.hgrowth_of (fnA 31) (fnL 31) (by one_sign) rfl rfl (by decide +kernel) (by decide +kernel) (by decide +kernel) rfl rfl rfl fun C E I hD => ?_
  show WS C E .no [some (.fz symD), some (.fz (sD "x")), none, none, none] (fnB 31) _ _
  unfold symD
  one_item
  refine we_dict I rfl rfl (by decide) (by decide) fun C2 I2 => ?_
  show WE _ _ _ _ _ _
  one_item
  refine ⟨kx 1, rfl, ?_⟩
  one_item
  refine ⟨(1, 1), rfl, ?_⟩
  refine ⟨by simp, by decide, ?_⟩
  one_item
  refine we_dict I rfl rfl (by decide) (by decide) fun C2 I2 => ?_
  refine we_glP I2 G.hSTILL (by rfl) ⟨kx 0, rfl, ?_⟩
  refine we_glP I2 G.hR1 (by rfl) ⟨(1, 1), rfl, ?_⟩
  refine ⟨by simp, by decide, ?_⟩
  one_item
  rfl
theorem growth_num {n : Nat} (a : Int) (ha : a ≠ 0) : Fn X (n + 1) G.growth_of [numD a 1, sD "x"] (fun z => z = .tup [.gd (gx [(0, a)]), .gd (gx [(0, 1)])]) := by
  refine fn_plain G.wf G.hgrowth_of (fnA 31) (fnL 31) (by one_sign) rfl rfl (by decide +kernel) (by decide +kernel) (by decide +kernel) rfl rfl rfl fun C E I hD => ?_
  show WS C E .no [some (.fz (numD a 1)), some (.fz (sD "x")), none, none, none] (fnB 31) _ _
  unfold numD
  one_item
  · refine we_dict I rfl rfl (by decide) (by decide) fun C2 I2 => ?_
    refine we_glP I2 G.hSTILL (by rfl) ⟨kx 0, rfl, ?_⟩
    one_item
    refine ⟨(a, 1), rfl, ?_⟩
    refine ⟨by simp, by simp, ?_⟩
    one_item
    refine we_dict I rfl rfl (by decide) (by decide) fun C2 I2 => ?_
    refine we_glP I2 G.hSTILL (by rfl) ⟨kx 0, rfl, ?_⟩
    refine we_glP I2 G.hR1 (by rfl) ⟨(1, 1), rfl, ?_⟩
    refine ⟨by simp, by decide, ?_⟩
    one_item
    rfl
  · exact absurd ha ‹¬ a ≠ 0›
theorem lookZ_none {l : List (Int × Int)} {i : Int} (h : i ∉ l.map (·.1)) : lookZ l i = none := by
  unfold lookZ
  rw [List.find?_eq_none.mpr fun e he q => h (List.mem_map.mpr ⟨e, he, of_decide_eq_true q⟩)]
  rfl
theorem mul_left_one (lb acc : List (Int × Int)) (h : ((acc ++ lb).map (·.1)).Nodup) (hz : ∀ e ∈ lb, e.2 ≠ 0) : lb.foldlM (mstep (0, 1)) acc = some (acc ++ lb) := by
  induction lb generalizing acc with
  | nil => simp
  | cons e lb ih =>
    rw [List.foldlM_cons]
    have hn : e.1 ∉ acc.map (·.1) := fun q => by
      rw [List.map_append, List.nodup_append] at h
      exact h.2.2 _ q e.1 (by simp) rfl
    have hl : lookZ acc (0 + e.1) = none := by rw [Int.zero_add]; exact lookZ_none hn
    have hs : mstep (0, 1) acc e = some (acc ++ [e]) := by
      unfold mstep
      simp only [lookZ_none hn, Option.getD_none, Int.one_mul, Int.zero_add]
      rw [if_neg (hz e (by simp))]
      unfold putZ
      rw [lookZ_none hn]
      rfl
    rw [hs]
    show lb.foldlM (mstep (0, 1)) (acc ++ [e]) = _
    rw [ih (acc ++ [e]) (by simpa using h) fun x hx => hz x (List.mem_cons_of_mem _ hx)]
    simp
theorem mulZ_left {lb : List (Int × Int)} (h : (lb.map (·.1)).Nodup) (hz : ∀ e ∈ lb, e.2 ≠ 0) : mulZ [(0, 1)] lb = some lb := by
  unfold mulZ
  rw [List.foldlM_cons, mul_left_one lb [] (by simpa using h) hz]
  rfl
theorem mulZ_right {i c : Int} (hc : c ≠ 0) : mulZ [(i, c)] [(0, 1)] = some [(i, c)] := by
  simp [mulZ, mstep, lookZ, putZ, hc]
theorem mulZ_nil : mulZ [] [(0, 1)] = some [] := rfl
theorem gmul_at {n : Nat} {la lb lc : List (Int × Int)} {P : DV → Prop} (h : mulZ la lb = some lc) (hna : (la.map (·.1)).Nodup) (hnb : (lb.map (·.1)).Nodup) (hla : la.length ≤ 100) (hlb : lb.length ≤ 100) (hbits : ∀ e ∈ lb, -(2 ^ 64) < e.2 ∧ e.2 < 2 ^ 64) (hP : P (.gd (gx lc))) :
    Fn X (n + 7) G.gmul [.gd (gx la), .gd (gx lb)] P := fn_at (gmul_ok G la lb lc h hna hnb hla hlb hbits) hP

theorem growth_sum {n : Nat} (a : Int) (ha : a ≠ 0) : Fn X (n + 8) G.growth_of [.tup [sD "sum", .tup [symD, numD a 1]], sD "x"] (fun z => z = .tup [.gd (gx [(1, 1), (0, a)]), .gd (gx [(0, 1)])]) := by
  refine fn_plain G.wf G.hgrowth_of (fnA 31) (fnL 31) (by one_sign) rfl rfl (by decide +kernel) (by decide +kernel) (by decide +kernel) rfl rfl rfl fun C E I hD => ?_
  show WS C E .no [some (.fz (.tup [sD "sum", .tup [symD, numD a 1]])), some (.fz (sD "x")), none, none, none] (fnB 31) _ _
  one_item
  refine we_dict I rfl rfl (by decide) (by decide) fun C2 I2 => ?_
  refine we_glP I2 G.hSTILL (by rfl) ⟨kx 0, rfl, ?_⟩
  refine we_glP I2 G.hR1 (by rfl) ⟨(1, 1), rfl, ?_⟩
  refine ⟨by simp, by decide, ?_⟩
  one_item
  refine x_for I (wi_we I.wf ?_)
  one_item
  refine ⟨_, rfl, fun i o ρ => o = .no ∧ ∃ x y, ρ = [some (.fz (.tup [sD "sum", .tup [symD, numD a 1]])), some (.fz (sD "x")), some (.fz (.tup [.gd (gx (if i = 0 then [] else if i = 1 then [(1, 1)] else [(1, 1), (0, a)])), .gd (gx [(0, 1)])])), x, y], ⟨rfl, none, none, rfl⟩, ?_, ?_⟩
  · rintro C' E' I' i d o ρ hd ⟨rfl, x, y, rfl⟩
    match i, hd with
    | 0, hd =>
      cases hd
      refine a_name I' (by rfl) (by rfl) ?_
      one_item
      refine fn_at (growth_sym G) ?_
      one_item
      refine gmul_at G (la := []) mulZ_nil (by simp) (by simp) (by simp) (by simp) (by simp) ?_
      one_item
      refine gmul_at G (mulZ_right (by decide)) (by simp) (by simp) (by simp) (by simp) (by simp) ?_
      one_item
      refine fn_at (gadd_ok G [] [(1, 1)] [(1, 1)] rfl (by simp) (by simp) (by simp)) ?_
      one_item
      refine gmul_at G (mulZ_right (by decide)) (by simp) (by simp) (by simp) (by simp) (by simp) ?_
      one_item
      exact ⟨rfl, _, _, rfl⟩
    | 1, hd =>
      cases hd
      refine a_name I' (by rfl) (by rfl) ?_
      one_item
      refine fn_at (growth_num G a ha) ?_
      one_item
      refine gmul_at G (mulZ_right (by decide)) (by simp) (by simp) (by simp) (by simp) (by simp) ?_
      one_item
      refine gmul_at G (mulZ_right ha) (by simp) (by simp) (by simp) (by simp) (by simp) ?_
      one_item
      refine fn_at (gadd_ok G [(1, 1)] [(0, a)] [(1, 1), (0, a)] (by simp [astep, lookZ, putZ, ha]) (by simp) (by simp) (by simp)) ?_
      one_item
      refine gmul_at G (mulZ_right (by decide)) (by simp) (by simp) (by simp) (by simp) (by simp) ?_
      one_item
      exact ⟨rfl, _, _, rfl⟩
    | i + 2, hd => cases hd
  · rintro o ρ ⟨rfl, x, y, rfl⟩
    one_item
    rfl
theorem growth_prod {n : Nat} (T1 T2 : DV) (m : Int) (lc : List (Int × Int)) (hnd : (lc.map (·.1)).Nodup) (hz : ∀ e ∈ lc, e.2 ≠ 0) (hl : lc.length ≤ 100) (hb : ∀ e ∈ lc, -(2 ^ 64) < e.2 ∧ e.2 < 2 ^ 64)
    (h1 : Fn X (n + 7) G.growth_of [T1, sD "x"] (fun z => z = .tup [.gd (gx [(m, 1)]), .gd (gx [(0, 1)])])) (h2 : Fn X (n + 7) G.growth_of [T2, sD "x"] (fun z => z = .tup [.gd (gx [(0, 1)]), .gd (gx lc)])) :
    Fn X (n + 8) G.growth_of [.tup [sD "prod", .tup [T1, T2]], sD "x"] (fun z => z = .tup [.gd (gx [(m, 1)]), .gd (gx lc)]) := by
  refine fn_plain G.wf G.hgrowth_of (fnA 31) (fnL 31) (by one_sign) rfl rfl (by decide +kernel) (by decide +kernel) (by decide +kernel) rfl rfl rfl fun C E I hD => ?_
  show WS C E .no [some (.fz (.tup [sD "prod", .tup [T1, T2]])), some (.fz (sD "x")), none, none, none] (fnB 31) _ _
  one_item
  refine we_dict I rfl rfl (by decide) (by decide) fun C2 I2 => ?_
  refine we_glP I2 G.hSTILL (by rfl) ⟨kx 0, rfl, ?_⟩
  refine we_glP I2 G.hR1 (by rfl) ⟨(1, 1), rfl, ?_⟩
  refine ⟨by simp, by decide, ?_⟩
  one_item
  refine we_dict I rfl rfl (by decide) (by decide) fun C2 I2 => ?_
  refine we_glP I2 G.hSTILL (by rfl) ⟨kx 0, rfl, ?_⟩
  refine we_glP I2 G.hR1 (by rfl) ⟨(1, 1), rfl, ?_⟩
  refine ⟨by simp, by decide, ?_⟩
  one_item
  refine x_for I (wi_we I.wf ?_)
  one_item
  refine ⟨_, rfl, fun i o ρ => o = .no ∧ ∃ x y, ρ = [some (.fz (.tup [sD "prod", .tup [T1, T2]])), some (.fz (sD "x")), some (.fz (.tup [.gd (gx (if i = 0 then [(0, 1)] else [(m, 1)])), .gd (gx (if i ≤ 1 then [(0, 1)] else lc))])), x, y], ⟨rfl, none, none, rfl⟩, ?_, ?_⟩
  · rintro C' E' I' i d o ρ hd ⟨rfl, x, y, rfl⟩
    match i, hd with
    | 0, hd =>
      cases hd
      refine a_name I' (by rfl) (by rfl) ?_
      one_item
      refine fn_at h1 ?_
      one_item
      refine gmul_at G (mulZ_left (lb := [(m, 1)]) (by simp) (by simp)) (by simp) (by simp) (by simp) (by simp) (by simp) ?_
      one_item
      refine gmul_at G (mulZ_right (by decide)) (by simp) (by simp) (by simp) (by simp) (by simp) ?_
      one_item
      exact ⟨rfl, _, _, rfl⟩
    | 1, hd =>
      cases hd
      refine a_name I' (by rfl) (by rfl) ?_
      one_item
      refine fn_at h2 ?_
      one_item
      refine gmul_at G (mulZ_right (by decide)) (by simp) (by simp) (by simp) (by simp) (by simp) ?_
      one_item
      refine gmul_at G (mulZ_left hnd hz) (by simp) hnd (by simp) hl hb ?_
      one_item
      exact ⟨rfl, _, _, rfl⟩
    | i + 2, hd => cases hd
  · rintro o ρ ⟨rfl, x, y, rfl⟩
    one_item
    rfl
theorem growth_pow {n : Nat} (T A B : DV) (m : Int) (h1 : Fn X n G.growth_of [T, sD "x"] (fun z => z = A)) (h2 : Fn X n G.gratio_power [A, .int m] (fun z => z = B)) :
    Fn X (n + 2) G.growth_of [.tup [sD "pow", T, numD m 1], sD "x"] (fun z => z = B) := by
  have h : Fn X (n + 1) G.growth_of_other [.tup [sD "pow", T, numD m 1], sD "x"] (fun z => z = B) := by
    refine fn_plain G.wf G.hgrowth_of_other (fnA 32) (fnL 32) (by one_sign) rfl rfl (by decide +kernel) (by decide +kernel) (by decide +kernel) rfl rfl rfl fun C E I hD => ?_
    show WS C E .no [some (.fz (.tup [sD "pow", T, numD m 1])), some (.fz (sD "x")), none] (fnB 32) _ _
    unfold numD
    one_item
    refine fn_at h1 ?_
    one_item
    refine fn_at h2 ?_
    one_item
    rfl
  refine fn_plain G.wf G.hgrowth_of (fnA 31) (fnL 31) (by one_sign) rfl rfl (by decide +kernel) (by decide +kernel) (by decide +kernel) rfl rfl rfl fun C E I hD => ?_
  show WS C E .no [some (.fz (.tup [sD "pow", T, numD m 1])), some (.fz (sD "x")), none, none, none] (fnB 31) _ _
  one_item
  refine fn_at h ?_
  one_item
  rfl

end
section

open PySem PySem.W PySem.Calls PyProof.Rows PySem.SeqAt


variable {X : Stx} (G : Prg X) (K : Cas X)
noncomputable abbrev Fails (X : Stx) (n : Nat) (f : Addr) (ds : List DV) (cas : Addr) (k : Str) : Prop := FnG X n f .no (ds.map .fz) (fun _ _ => False) (Fail cas k)

theorem rpower_lim {n : Nat} (p q m : Int) (hm : 100000 < m) (hg : gmax p q = 2 ∨ gmax p q = 3) : Fails X (n + 4) G.rpower [rd (p, q), .int m] K.cas "limit" := by
  refine fn_fails G.wf G.hrpower (fnA 14) (fnL 14) (by one_sign) rfl rfl (by decide +kernel) (by decide +kernel) (by decide +kernel) rfl rfl rfl fun C E I hD ho hE => ?_
  show WS C E .no [some (.fz (rd (p, q))), some (.fz (.int m)), none] (fnB 14) _ _
  one_item
  · exfalso; omega
  · have hbits : (if gmax p q = 1 then (1 : Int) else 2) = 2 := if_neg (by omega)
    change Fn X (n + 3) G.bits_of [.int (gmax p q)] _
    refine fn_at (bits_of_ok G (gmax p q) (by omega)) ?_
    rw [hbits]
    refine bin_mul ?_ (.of_right (by decide))
    one_item
    · exact x_raise I (by omega) K hE (by decide) (by decide) (by rfl)
    · exfalso; omega
  · have : gmax p q > 1 := by omega
    exfalso
    exact absurd (show (if (p, q).snd > iabs (p, q).fst then (p, q).snd else iabs (p, q).fst) > 1 from this) (by assumption)
  · exfalso; omega

theorem gpower_lim {n : Nat} (a b : Int) (r : Rt) (l p q m : Int) (hm : 100000 < m) (hm64 : m < 2 ^ 64) (hr : r.2 * 1 ≠ 0) (hr2 : Builtin.Int.intBits r.2 ≤ 64) (hg : (Int.gcd (r.1 * m) (r.2 * 1)).log2 < 9000) (hpq : gmax p q = 2 ∨ gmax p q = 3) :
    Fails X (n + 5) G.gpower [.gd [((pol a b, r, l), (p, q))], .int m] K.cas "limit" := by
  have hb64 : Builtin.Int.intBits m ≤ 64 := intBits_le_64 (by omega) hm64
  refine fn_fails G.wf G.hgpower (fnA 28) (fnL 28) (by one_sign) rfl rfl (by decide +kernel) (by decide +kernel) (by decide +kernel) rfl rfl rfl fun C E I hD ⟨outer, ho⟩ hE => ?_
  show WS C E .no [some (.fz (.gd [((pol a b, r, l), (p, q))])), some (.fz (.int m)), none, none, none, none, none] (fnB 28) _ _
  one_item
  refine ⟨_, rfl, (show 1 < 2 ^ 62 by decide), ?_⟩
  one_item
  · refine x_forE I ho hE (wi_we I.wf ?_)
    one_item
    refine ⟨_, rfl, fun i o ρ => i = 0 ∧ ∃ A, o = .kdict A [] ∧ ρ = [some (.fz (.gd [((pol a b, r, l), (p, q))])), some (.fz (.int m)), some .own, none, none, none, none], ⟨rfl, _, rfl, rfl⟩, ?_, ?_⟩
    · rintro C' E' I' hE' i d o ρ hd ⟨rfl, A, rfl, rfl⟩
      cases hd
      refine a_name I' (by rfl) (by rfl) ?_
      one_item
      refine we_lcomp I' [Str.ofString "place", Str.ofString "one"] [Str.ofString "many"] (by decide +kernel) rfl (by decide +kernel) (by decide +kernel) (by decide +kernel) (by decide +kernel) (wi_we I'.wf ?_)
      one_item
      refine ⟨_, rfl, ?_, mulF m, ?_, ?_⟩
      · have := pol_len a b
        rw [List.length_map]; show (pol a b).length ≤ 1000; omega
      · rintro C2 E2 I2 j dd tv hd htv
        rw [List.getElem?_map, show ((pol a b, r, l), p, q).fst.fst = pol a b from rfl] at hd
        cases he : (pol a b)[j]? with
        | none => rw [he] at hd; cases hd
        | some e =>
        rw [he] at hd
        cases hd
        obtain ⟨z1, z2, rfl⟩ : ∃ z1 z2, tv = [z1, z2] := by
          match tv, htv with
          | [z1, z2], _ => exact ⟨z1, z2, rfl⟩
        have e2 : e.2 = (e.2.1, 1) := Prod.ext rfl (pol_one a b e (List.mem_of_getElem? he))
        refine a_tup2 I2 (by rfl) (by rfl) (by rfl) (by rfl) ⟨[some (.fz (.int e.1)), some (.fz (rd e.2))], rfl, rfl, ?_⟩
        refine ⟨fun _ => ?_, fun h => nomatch h⟩
        show WE C2 E2 _ [some (.fz (.int e.1)), some (.fz (rd e.2)), some (.fz (.int m))] _ _
        rw [show rd e.2 = rd (e.2.1, 1) from congrArg rd e2]
        one_item
        refine fn_at (rmul1 G e.2.1 m (.of_right hb64)) ?_
        one_item
        rfl
      · refine ⟨(pol (a * m) (b * m)).map (fun e => DV.tup [.int e.1, rd e.2]), congrArg DV.lst (pol_mul a b (by omega)), ?_, ?_⟩
        · have := pol_len (a * m) (b * m)
          rw [List.length_map]; omega
        one_item
        refine kx_set I' (by rfl) (by rfl) (by decide) ?_
        refine we_callR I' hE' G.hrpower (by rfl) ?_
        one_item
        refine ⟨(pol a b, r, l), (p, q), rfl, by simp [look], ?_⟩
        one_item
        exact rpower_lim G K p q m hm hpq
    · rintro o ρ ⟨h, _⟩
      cases h
  all_goals exact absurd (show ((1 : Nat) : Int) < 2 by decide) ‹_›

theorem gpower_far {n : Nat} (l : GD) (m : Int) (h2 : 2 ≤ l.length) (hl : l.length ≤ 100) (hm : 200 < m) : Fails X (n + 5) G.gpower [.gd l, .int m] K.cas "domain" := by
  refine fn_fails G.wf G.hgpower (fnA 28) (fnL 28) (by one_sign) rfl rfl (by decide +kernel) (by decide +kernel) (by decide +kernel) rfl rfl rfl fun C E I hD ⟨outer, ho⟩ hE => ?_
  show WS C E .no [some (.fz (.gd l)), some (.fz (.int m)), none, none, none, none, none] (fnB 28) _ _
  one_item
  refine ⟨_, rfl, by omega, ?_⟩
  one_item
  · exfalso; omega
  · exact x_raise I (by omega) K hE (by decide) (by decide) (by rfl)
  all_goals (exfalso; omega)

theorem gratio_fail1 {n : Nat} (A B : GD) (m : Int) (k : Str) (hm : m ≠ 0) (h1 : Fails X (n + 8) G.gpower [.gd (if m > 0 then A else B), .int (iabs m)] K.cas k) :
    Fails X (n + 9) G.gratio_power [.tup [.gd A, .gd B], .int m] K.cas k := by
  refine fn_fails G.wf G.hgratio_power (fnA 29) (fnL 29) (by one_sign) rfl rfl (by decide +kernel) (by decide +kernel) (by decide +kernel) rfl rfl rfl fun C E I hD ⟨outer, ho⟩ hE => ?_
  show WS C E .no [some (.fz (.tup [.gd A, .gd B])), some (.fz (.int m)), none, none] (fnB 29) _ _
  one_item
  · exfalso; omega
  refine x_unpk2 I (by rfl) (.inl (by rfl)) (by rfl) (.inl (by rfl)) ?_
  one_item
  all_goals
    rename_i hp
    first | rw [if_pos hp] at h1 | rw [if_neg hp] at h1
    refine ⟨_, _, rfl, ?_⟩
    refine ws_cons (x_ret I (w_tup I (wl_cons ?_)))
    refine we_callR I hE G.hgpower (by rfl) ?_
    one_item
    exact h1
theorem gratio_fail2 {n : Nat} (A B A' : GD) (m : Int) (k : Str) (hm : m ≠ 0) (h1 : Fn X (n + 8) G.gpower [.gd (if m > 0 then A else B), .int (iabs m)] (fun z => z = .gd A')) (h2 : Fails X (n + 8) G.gpower [.gd (if m > 0 then B else A), .int (iabs m)] K.cas k) :
    Fails X (n + 9) G.gratio_power [.tup [.gd A, .gd B], .int m] K.cas k := by
  refine fn_fails G.wf G.hgratio_power (fnA 29) (fnL 29) (by one_sign) rfl rfl (by decide +kernel) (by decide +kernel) (by decide +kernel) rfl rfl rfl fun C E I hD ⟨outer, ho⟩ hE => ?_
  show WS C E .no [some (.fz (.tup [.gd A, .gd B])), some (.fz (.int m)), none, none] (fnB 29) _ _
  one_item
  · exfalso; omega
  refine x_unpk2 I (by rfl) (.inl (by rfl)) (by rfl) (.inl (by rfl)) ?_
  one_item
  all_goals
    rename_i hp
    first | (rw [if_pos hp] at h1; rw [if_pos hp] at h2) | (rw [if_neg hp] at h1; rw [if_neg hp] at h2)
    refine ⟨_, _, rfl, ?_⟩
    one_item
    refine fn_at h1 ?_
    refine wl_cons (we_callR I hE G.hgpower (by rfl) ?_)
    one_item
    exact h2

end
section

open PySem PySem.W PySem.Calls PyProof.Rows PySem.SeqAt


variable {X : Stx}

theorem take_ok (G : Prg X) (Lp : LawP X) {n : Nat} {a : Addr} {tabs : List (Pos × Str × Addr)} (m : Int) (hm : 0 < m) (hm2 : m.natAbs.log2 < 9000) :
    FnG X (n + 1) Lp.take (.law a none tabs) [.own, .fz (.int m)] (fun o' d => o' = .law a none tabs ∧ ∃ k, d = .int k ∧ 0 ≤ k ∧ k < m) noK := by
  refine fnG_unpin (fn_enter G.wf Lp.htake (fnA 35) (fnL 35) (by one_sign) rfl rfl (by decide +kernel) (by decide +kernel) (by decide +kernel) rfl rfl rfl (fun _ _ _ _ _ _ _ h => h.elim) fun C E I hD hE => ?_)
  show WS C E (.law a none tabs) [some .own, some (.fz (.int m))] (fnB 35) _ _
  refine ws_pin fun i l hi hl => ?_
  one_item
  refine ⟨by show 0 ≤ i + 1; omega, ?_⟩
  one_item
  refine ⟨rfl, ?_⟩
  one_item
  refine ⟨l.length, by simp [lenOf], by omega, ?_⟩
  one_item
  · have hlt : i.toNat < l.length := by
      have : i + 1 ≤ (l.length : Int) := ‹_›
      omega
    refine item_lst (e := .int l[i.toNat]) (by show 0 ≤ i + 1 - 1; omega) (by show i + 1 - 1 < _; omega) ?_ ⟨_, rfl, ?_⟩
    · rw [List.getElem?_map, show ((i + 1 - 1 : Int)).toNat = i.toNat by congr 1; omega, List.getElem?_eq_getElem hlt]
      rfl
    one_item
    refine bin_mod (by omega) ?_
    exact ⟨⟨_, rfl⟩, _, rfl, Int.fmod_nonneg_of_pos _ hm, Int.fmod_lt_of_pos _ hm⟩
  · refine bin_mul ?_ (.of_left (by decide))
    one_item
    refine bin_fdiv (by decide) (by decide) ?_
    one_item
    refine bin_mod (by omega) ?_
    exact ⟨⟨_, rfl⟩, _, rfl, Int.fmod_nonneg_of_pos _ hm, Int.fmod_lt_of_pos _ hm⟩
theorem take_at (G : Prg X) (Lp : LawP X) {n : Nat} {a : Addr} {tabs : List (Pos × Str × Addr)} {m : Int} {P : DV → Prop} (h : (0 < m ∧ m.natAbs.log2 < 9000) ∧ ∀ k, 0 ≤ k → k < m → P (.int k)) :
    FnG X (n + 1) Lp.take (.law a none tabs) [.own, .fz (.int m)] (fun o' d => o' = .law a none tabs ∧ P d) noK :=
  fnG_mono (take_ok G Lp m h.1.1 h.1.2) (Nat.le_refl _) fun o d ⟨h1, k, h2, h3, h4⟩ => ⟨h1, h2 ▸ h.2 k h3 h4⟩

/-- a mark -/
noncomputable def okMark (l : List Int) : Prop := ∃ a b c d : Int, l = [a, b, c, d] ∧ -1 ≤ a ∧ a ≤ 1 ∧ -1 ≤ b ∧ b ≤ 1 ∧ -2 ≤ c ∧ c ≤ 2 ∧ -1 ≤ d ∧ d ≤ 1
theorem mark_ok (G : Prg X) (Lp : LawP X) {n : Nat} {a : Addr} {tabs : List (Pos × Str × Addr)} :
    FnG X (n + 2) Lp.mark (.law a none tabs) [.own] (fun o' d => o' = .law a none tabs ∧ ∃ l, d = .lst (l.map .int) ∧ okMark l) noK := by
  refine fn_enter G.wf Lp.hmark (fnA 36) (fnL 36) (by one_sign) rfl rfl (by decide +kernel) (by decide +kernel) (by decide +kernel) rfl rfl rfl (fun _ _ _ _ _ _ _ h => h.elim) fun C E I hD hE => ?_
  show WS C E (.law a none tabs) [some .own] (fnB 36) _ _
  one_item
  refine take_at G Lp ⟨by decide, fun k1 a1 b1 => ?_⟩
  one_item
  refine take_at G Lp ⟨by decide, fun k2 a2 b2 => ?_⟩
  one_item
  refine take_at G Lp ⟨by decide, fun k3 a3 b3 => ?_⟩
  one_item
  refine take_at G Lp ⟨by decide, fun k4 a4 b4 => ?_⟩
  one_item
  exact ⟨rfl, [k1 - 1, k2 - 1, k3 - 2, k4 - 1], rfl, _, _, _, _, rfl, by omega, by omega, by omega, by omega, by omega, by omega, by omega, by omega⟩
theorem mark_at (G : Prg X) (Lp : LawP X) {n : Nat} {a : Addr} {tabs : List (Pos × Str × Addr)} {P : DV → Prop} (h : ∀ l, okMark l → P (.lst (l.map .int))) :
    FnG X (n + 2) Lp.mark (.law a none tabs) [.own] (fun o' d => o' = .law a none tabs ∧ P d) noK :=
  fnG_mono (mark_ok G Lp) (Nat.le_refl _) fun o d ⟨h1, l, h2, h3⟩ => ⟨h1, h2 ▸ h l h3⟩

end
section

open PySem PySem.W PySem.Calls PyProof.Rows PySem.SeqAt


variable {X : Stx}

noncomputable def half (z : Int) : Rt := if z.fmod 2 = 1 then (z, 2) else (z.fdiv 2, 1)
noncomputable def kindOf (a b c d t : Int) : Kind := (pol (t * b) (t * a), half (t * c), t * d)
noncomputable def kF (a b t : Int) : DV → Option DV
  | .int 1 => if b ≠ 0 then some (.tup [.int 1, rd (t * b, 1)]) else none
  | .int 0 => if a ≠ 0 then some (.tup [.int 2, rd (t * a, 1)]) else none
  | _ => none
theorem kF_pol (a b : Int) {t : Int} (ht : t ≠ 0) : [DV.int 1, DV.int 0].filterMap (kF a b t) = (pol (t * b) (t * a)).map fun e => .tup [.int e.1, rd e.2] := by
  unfold pol
  by_cases h1 : b = 0 <;> by_cases h2 : a = 0 <;> simp [h1, h2, kF, ht]

theorem kind_ok (G : Prg X) (Lp : LawP X) {n : Nat} (a b c d t : Int) (ha : -1 ≤ a ∧ a ≤ 1) (hb : -1 ≤ b ∧ b ≤ 1) (hc : -2 ≤ c ∧ c ≤ 2) (hd : -1 ≤ d ∧ d ≤ 1) (ht : 0 < t) :
    Fn X (n + 1) Lp.kind [.lst ([a, b, c, d].map .int), .int t] (fun z => z = kd (kindOf a b c d t)) := by
  have ib : ∀ {z : Int}, -2 ≤ z → z ≤ 2 → Builtin.Int.intBits z ≤ 64 := fun {z} h1 h2 => by
    have : z = -2 ∨ z = -1 ∨ z = 0 ∨ z = 1 ∨ z = 2 := by omega
    rcases this with rfl | rfl | rfl | rfl | rfl <;> decide
  refine fn_of_g (fn_enter G.wf Lp.hkind (fnA 37) (fnL 37) (by one_sign) rfl rfl (by decide +kernel) (by decide +kernel) (by decide +kernel) rfl rfl rfl (fun _ _ _ _ _ _ _ h => h.elim) fun C E I hD hE => ?_)
  show WS C E .no [some (.fz (.lst ([a, b, c, d].map .int))), some (.fz (.int t)), none, none] (fnB 37) _ _
  one_item
  refine we_lcomp I [Str.ofString "at"] [Str.ofString "mark", Str.ofString "times"] (by decide +kernel) rfl (by decide +kernel) (by decide +kernel) (by decide +kernel) (by decide +kernel) (wi_we I.wf ?_)
  one_item
  refine ⟨_, rfl, by simp, kF a b t, ?_, ?_⟩
  · rintro C' E' I' i dd tv hdd htv
    obtain ⟨z, rfl⟩ : ∃ z, tv = [z] := by
      match tv, htv with
      | [z], _ => exact ⟨z, rfl⟩
    match i, hdd with
    | 0, hdd =>
      cases hdd
      refine a_name I' (by rfl) (by rfl) ⟨[some (.fz (.int 1))], rfl, rfl, ?_⟩
      show WT C' E' _ [some (.fz (.int 1)), some (.fz (.lst ([a, b, c, d].map .int))), some (.fz (.int t))] _ _
      one_item
      · refine bin_mul ?_ (.of_right (ib (by omega) (by omega)))
        one_item
        show kF a b t (.int 1) = _
        rw [kF, if_pos ‹_›]; rfl
      · show kF a b t (.int 1) = _
        rw [kF, if_neg ‹_›]
    | 1, hdd =>
      cases hdd
      refine a_name I' (by rfl) (by rfl) ⟨[some (.fz (.int 0))], rfl, rfl, ?_⟩
      show WT C' E' _ [some (.fz (.int 0)), some (.fz (.lst ([a, b, c, d].map .int))), some (.fz (.int t))] _ _
      one_item
      · refine bin_mul ?_ (.of_right (ib (by omega) (by omega)))
        one_item
        show kF a b t (.int 0) = _
        rw [kF, if_pos ‹_›]; rfl
      · show kF a b t (.int 0) = _
        rw [kF, if_neg ‹_›]
    | i + 2, hdd => cases hdd
  · refine ⟨_, congrArg DV.lst (kF_pol a b (by omega)), by have := pol_len (t * b) (t * a); rw [List.length_map]; omega, ?_⟩
    one_item
    refine bin_mul ?_ (.of_right (ib (by omega) (by omega)))
    one_item
    refine bin_mod (by decide) ?_
    one_item
    · refine bin_mul ?_ (.of_right (ib (by omega) (by omega)))
      one_item
      show DV.tup [_, _, _] = DV.tup [_, rd (half (t * c)), _]
      rw [half, if_pos ‹_›]; rfl
    · refine bin_fdiv (by decide) (by decide) ?_
      one_item
      refine bin_mul ?_ (.of_right (ib (by omega) (by omega)))
      one_item
      show DV.tup [_, _, _] = DV.tup [_, rd (half (t * c)), _]
      rw [half, if_neg ‹_›]; rfl

end
section

open PySem PySem.W PySem.Calls PyProof.Rows PySem.SeqAt

theorem half_spec (z : Int) : (half z).1 * 2 = z * (half z).2 ∧ ((half z).2 = 1 ∨ (half z).2 = 2) := by
  unfold half
  split
  · exact ⟨rfl, .inr rfl⟩
  · rename_i h
    refine ⟨?_, .inl rfl⟩
    rw [Int.fmod_eq_emod_of_nonneg _ (by decide : (0 : Int) ≤ 2)] at h
    show z.fdiv 2 * 2 = z * 1
    rw [Int.fdiv_eq_ediv_of_nonneg _ (by decide : (0 : Int) ≤ 2)]
    omega
theorem half_bits (z : Int) : Builtin.Int.intBits (half z).2 ≤ 64 := by
  rcases (half_spec z).2 with h | h <;> rw [h] <;> decide
theorem half_ne (z : Int) : (half z).2 * 1 ≠ 0 := by
  rcases (half_spec z).2 with h | h <;> rw [h] <;> decide
theorem half_gcd (z x : Int) : (Int.gcd x ((half z).2 * 1)).log2 < 9000 := by
  have h2 : Int.gcd x ((half z).2 * 1) ≤ 2 := by
    rcases (half_spec z).2 with h | h
    · rw [h, show (1 : Int) * 1 = 1 from rfl, gcd_one']; decide
    · rw [h, show (2 : Int) * 1 = 2 from rfl]
      exact Nat.le_of_dvd (by decide) (by have := Int.gcd_dvd_right (a := x) (b := 2); exact Int.natCast_dvd_natCast.mp (by simpa using this))
  have h3 := Nat.log2_le_self (Int.gcd x ((half z).2 * 1))
  omega
theorem gcd_two (x : Int) : Int.gcd x 2 = if x % 2 = 0 then 2 else 1 := by
  have hd : Int.gcd x 2 ∣ 2 := Int.natCast_dvd_natCast.mp (by simpa using Int.gcd_dvd_right (a := x) (b := 2))
  have hx : (Int.gcd x 2 : Int) ∣ x := Int.gcd_dvd_left ..
  have hle := Nat.le_of_dvd (by decide) hd
  have hpos : Int.gcd x 2 ≠ 0 := fun h => by rw [Int.gcd_eq_zero_iff] at h; omega
  split
  · rename_i h
    have : (2 : Nat) ∣ Int.gcd x 2 := Int.dvd_gcd (by omega) (by decide)
    have := Nat.le_of_dvd (by omega) this
    omega
  · rename_i h
    have : Int.gcd x 2 ≠ 2 := fun e => by rw [e] at hx; omega
    omega
theorem tmul_half {c m : Int} (hc : -2 ≤ c ∧ c ≤ 2) : tmul (half (1 * c)) m = half (m * c) := by
  have hcs : c = -2 ∨ c = -1 ∨ c = 0 ∨ c = 1 ∨ c = 2 := by omega
  have even : ∀ x : Int, tmul (x, 1) m = half (m * (2 * x)) := fun x => by
    show ratS (x * m) (1 * 1) = _
    rw [show (1 : Int) * 1 = 1 from rfl, ratS_one]
    unfold half
    rw [Int.fmod_eq_emod_of_nonneg _ (by decide : (0 : Int) ≤ 2), Int.fdiv_eq_ediv_of_nonneg _ (by decide : (0 : Int) ≤ 2), show m * (2 * x) = 2 * (x * m) by rw [Int.mul_left_comm, Int.mul_comm m x], if_neg (by omega)]
    congr 1
    omega
  have odd : ∀ x : Int, (∀ k : Int, (k * x) % 2 = k % 2) → tmul (x, 2) m = half (m * x) := fun x hx => by
    show ratS (x * m) (2 * 1) = _
    rw [show (2 : Int) * 1 = 2 from rfl, Int.mul_comm x m]
    unfold ratS half
    rw [if_pos (by decide), gcd_two, Int.fmod_eq_emod_of_nonneg _ (by decide : (0 : Int) ≤ 2), Int.fdiv_eq_ediv_of_nonneg (m * x) (by decide : (0 : Int) ≤ 2)]
    by_cases h : (m * x) % 2 = 0
    · rw [if_pos h, if_neg (by omega), Int.fdiv_eq_ediv_of_nonneg (m * x) (by decide)]
      rfl
    · rw [if_neg h, if_pos (by omega)]
      simp [Int.fdiv_one]
  rcases hcs with rfl | rfl | rfl | rfl | rfl
  · exact even (-1)
  · exact odd (-1) fun k => by omega
  · exact even 0
  · exact odd 1 fun k => by omega
  · exact even 1

theorem pos_iff {t w : Int} (hw : 0 < w) : 0 < t * w ↔ 0 < t := by
  have := Int.mul_lt_mul_left (a := w) (b := 0) (c := t) hw
  rw [Int.mul_zero, Int.mul_comm] at this
  exact this
theorem neg_iff {t w : Int} (hw : 0 < w) : t * w < 0 ↔ t < 0 := by
  have := Int.mul_lt_mul_left (a := w) (b := t) (c := 0) hw
  rw [Int.mul_zero, Int.mul_comm] at this
  exact this
theorem sub_neg' {a b : Int} : a - b < 0 ↔ a < b := by
  have := Int.sub_pos (a := b) (b := a)
  rw [← Int.neg_sub, Int.neg_pos] at this
  exact this
theorem half_cmp {m c c' : Int} (hm : 0 < m) : ((half (m * c)).1 * (half (m * c')).2 - (half (m * c')).1 * (half (m * c)).2 > 0 ↔ c > c') ∧ ((half (m * c)).1 * (half (m * c')).2 - (half (m * c')).1 * (half (m * c)).2 < 0 ↔ c < c') := by
  obtain ⟨h1, h2⟩ := half_spec (m * c)
  obtain ⟨k1, k2⟩ := half_spec (m * c')
  rw [← show m * c' < m * c ↔ c > c' from Int.mul_lt_mul_left hm, ← show m * c < m * c' ↔ c < c' from Int.mul_lt_mul_left hm]
  generalize (half (m * c)).1 = u1 at *
  generalize (half (m * c)).2 = u2 at *
  generalize (half (m * c')).1 = v1 at *
  generalize (half (m * c')).2 = v2 at *
  generalize m * c = z at *
  generalize m * c' = z' at *
  have key : ∃ w, 0 < w ∧ u1 * v2 - v1 * u2 = (z - z') * w ∨ 0 < w ∧ (u1 * v2 - v1 * u2) * w = (z - z') := by
    rcases h2 with rfl | rfl <;> rcases k2 with rfl | rfl
    · exact ⟨2, .inr ⟨by decide, by rw [Int.mul_one, Int.mul_one, Int.sub_mul, h1, k1, Int.mul_one, Int.mul_one]⟩⟩
    · refine ⟨1, .inr ⟨by decide, by omega⟩⟩
    · refine ⟨1, .inr ⟨by decide, by omega⟩⟩
    · exact ⟨2, .inl ⟨by decide, by rw [h1, k1, Int.sub_mul]⟩⟩
  generalize u1 * v2 - v1 * u2 = H at *
  rw [show z' < z ↔ 0 < z - z' from Int.sub_pos.symm, show z < z' ↔ z - z' < 0 from sub_neg'.symm]
  generalize z - z' = t at *
  obtain ⟨w, ⟨hw, rfl⟩ | ⟨hw, rfl⟩⟩ := key
  · exact ⟨pos_iff hw, neg_iff hw⟩
  · exact ⟨(pos_iff hw).symm, (neg_iff hw).symm⟩

noncomputable def lexO (l l' : List Int) : Int := if l = l' then 0 else if ltL l l' = true then -1 else 1
theorem lexO_eq (x : Int) (l l' : List Int) : lexO (x :: l) (x :: l') = lexO l l' := by
  unfold lexO
  rw [ltL, if_pos rfl]
  by_cases h : l = l'
  · rw [if_pos h, if_pos (congrArg _ h)]
  · rw [if_neg h, if_neg fun e => h (List.cons.inj e).2]
theorem lexO_lt {x y : Int} (h : x < y) (l l' : List Int) : lexO (x :: l) (y :: l') = -1 := by
  unfold lexO
  rw [ltL, if_neg (Int.ne_of_lt h), if_neg fun e => Int.ne_of_lt h (List.cons.inj e).1, if_pos (decide_eq_true h)]
theorem lexO_gt {x y : Int} (h : y < x) (l l' : List Int) : lexO (x :: l) (y :: l') = 1 := by
  unfold lexO
  rw [ltL, if_neg (Int.ne_of_gt h), if_neg fun e => Int.ne_of_gt h (List.cons.inj e).1, decide_eq_false (Int.not_lt.mpr (Int.le_of_lt h))]
  rfl
/-- one place more of an order -/
theorem lex_if {x y q K : Int} {l l' : List Int} (h1 : q > 0 ↔ x > y) (h2 : q < 0 ↔ x < y) (hK : K = lexO l l') : (if q ≠ 0 then (if q > 0 then 1 else -1) else K) = lexO (x :: l) (y :: l') := by
  rcases Int.lt_trichotomy x y with h | h | h
  · have := h2.mpr h
    rw [lexO_lt h, if_pos (Int.ne_of_lt this), if_neg (Int.not_lt.mpr (Int.le_of_lt this))]
  · have a := Int.not_lt.mp fun e => absurd (h1.mp e) (h ▸ Int.lt_irrefl x)
    have b := Int.not_lt.mp fun e => absurd (h2.mp e) (h ▸ Int.lt_irrefl x)
    rw [if_neg (not_not_intro (Int.le_antisymm a b)), ← h, lexO_eq, hK]
  · have := h1.mpr h
    rw [lexO_gt h, if_pos (Int.ne_of_gt this), if_pos this]
theorem lex_b {P P' : Prop} [Decidable P] [Decidable P'] {x y : Int} (h1 : P ↔ x > y) (h2 : P' ↔ x < y) : b2i (decide P) - b2i (decide P') = lexO [x] [y] := by
  rcases Int.lt_trichotomy x y with h | h | h
  · rw [lexO_lt h, decide_eq_false fun e => absurd (h1.mp e) (Int.not_lt.mpr (Int.le_of_lt h)), decide_eq_true (h2.mpr h)]; rfl
  · rw [decide_eq_false fun e => absurd (h1.mp e) (h ▸ Int.lt_irrefl x), decide_eq_false fun e => absurd (h2.mp e) (h ▸ Int.lt_irrefl x), ← h, lexO_eq]; rfl
  · rw [lexO_gt h, decide_eq_true (h1.mpr h), decide_eq_false fun e => absurd (h2.mp e) (Int.not_lt.mpr (Int.le_of_lt h))]; rfl
theorem lex_t {x y K : Int} {l l' : List Int} (hK : K = lexO l l') : (if lexO [x] [y] ≠ 0 then lexO [x] [y] else K) = lexO (x :: l) (y :: l') := by
  rcases Int.lt_trichotomy x y with h | h | h
  · rw [lexO_lt h, lexO_lt h, if_pos (by decide)]
  · rw [← h, lexO_eq, lexO_eq, hK]; exact if_neg (not_not_intro rfl)
  · rw [lexO_gt h, lexO_gt h, if_pos (by decide)]
theorem kcmp_kinds {a b c d a' b' c' d' m : Int} (hm : 0 < m) : kcmp (kindOf a b c d m) (kindOf a' b' c' d' m) (m * b - m * b') (m * a - m * a') = lexO [a, b, c, d] [a', b', c', d'] := by
  have P : ∀ x y : Int, m * x - m * y > 0 ↔ x > y := fun x y => Int.sub_pos.trans (Int.mul_lt_mul_left hm)
  have N : ∀ x y : Int, m * x - m * y < 0 ↔ x < y := fun x y => sub_neg'.trans (Int.mul_lt_mul_left hm)
  obtain ⟨h1, h2⟩ := half_cmp (c := c) (c' := c') hm
  refine lex_if (P a a') (N a a') (lex_if (P b b') (N b b') ?_)
  have e := lex_b h1 h2
  refine Eq.trans ?_ (lex_t (x := c) (y := c') (lex_b (x := d) (y := d') (Int.mul_lt_mul_left hm) (Int.mul_lt_mul_left hm)))
  rw [← e]; rfl

end
section

open PySem PySem.W PySem.Calls PyProof.Rows PySem.SeqAt

/-- the numbers that the law draws -/
noncomputable def isNum (p q : Int) : Prop := (p = -1 ∧ q = 3) ∨ (p = 1 ∧ q = 1) ∨ (p = 2 ∧ q = 1) ∨ (p = -1 ∧ q = 1)

theorem bits_pow {x : Int} (hx : x.natAbs ≤ 3) (k : Nat) : Builtin.Int.intBits (x ^ k) ≤ 2 * k + 1 := by
  unfold Builtin.Int.intBits
  split
  · omega
  · rename_i h
    have h0 : (x ^ k).natAbs ≠ 0 := fun z => h (by rw [Int.natAbs_eq_zero.mp z]; rfl)
    have h1 : (x ^ k).natAbs < 2 ^ (2 * k + 1) := by
      rw [Int.natAbs_pow]
      calc x.natAbs ^ k ≤ 4 ^ k := Nat.pow_le_pow_left (by omega) k
        _ = 2 ^ (2 * k) := by rw [Nat.pow_mul]
        _ < 2 ^ (2 * k + 1) := Nat.pow_lt_pow_right (by decide) (by omega)
    have := (Nat.log2_lt h0).mpr h1
    omega

theorem neg_one_pow' (k : Nat) : (-1 : Int) ^ k = 1 ∨ (-1 : Int) ^ k = -1 := by
  induction k with
  | zero => exact .inl rfl
  | succ k ih => rw [Int.pow_succ]; rcases ih with h | h <;> rw [h] <;> simp

structure NumPow (p q : Int) (m : Int) : Prop where
  hp : p = 0 ∨ p = 1 ∨ p = -1 ∨ (Builtin.Int.intBits p : Int) * m ≤ 2 ^ 27
  hq : q = 0 ∨ q = 1 ∨ q = -1 ∨ (Builtin.Int.intBits q : Int) * m ≤ 2 ^ 27
  h : m ≤ 1 ∨ gmax p q ≤ 1 ∨ ((gmax p q = 2 ∨ gmax p q = 3) ∧ m ≤ 100000)
  P0 : p ^ m.toNat ≠ 0
  Q0 : 0 < q ^ m.toNat
  g : Int.gcd (p ^ m.toNat) (q ^ m.toNat) = 1
  bP : Builtin.Int.intBits (p ^ m.toNat) ≤ 2 ^ 27
  bQ : Builtin.Int.intBits (q ^ m.toNat) ≤ 2 ^ 27
theorem gmax_num {p q : Int} (h : isNum p q) : gmax p q = 1 ∧ (p = 1 ∨ p = -1) ∧ q = 1 ∨ gmax p q = 2 ∨ gmax p q = 3 := by
  rcases h with ⟨rfl, rfl⟩ | ⟨rfl, rfl⟩ | ⟨rfl, rfl⟩ | ⟨rfl, rfl⟩
  · exact .inr (.inr rfl)
  · exact .inl ⟨rfl, .inl rfl, rfl⟩
  · exact .inr (.inl rfl)
  · exact .inl ⟨rfl, .inr rfl, rfl⟩
theorem bits_one {x : Int} (h : x = 1 ∨ x = -1) : Builtin.Int.intBits x ≤ 2 ^ 27 := by rcases h with rfl | rfl <;> decide
theorem numPow {p q m : Int} (h : isNum p q) (hm : 0 < m) (hb : ¬ (gmax p q > 1 ∧ m > 100000)) : NumPow p q m := by
  have hm' : gmax p q > 1 → m ≤ 100000 := fun w => by
    by_cases z : m > 100000
    · exact absurd ⟨w, z⟩ hb
    · omega
  have bt : ∀ x : Int, x.natAbs ≤ 3 → m ≤ 100000 → Builtin.Int.intBits (x ^ m.toNat) ≤ 2 ^ 27 := fun x hx hmm => by
    have := bits_pow hx m.toNat
    omega
  have one : ∀ k : Nat, (1 : Int) ^ k = 1 := fun k => Int.one_pow
  have pm : ∀ k : Nat, ((-1 : Int) ^ k).natAbs = 1 := fun k => by rcases neg_one_pow' k with e | e <;> rw [e] <;> rfl
  rcases h with ⟨rfl, rfl⟩ | ⟨rfl, rfl⟩ | ⟨rfl, rfl⟩ | ⟨rfl, rfl⟩
  · have hmm := hm' (by decide)
    refine ⟨.inr (.inr (.inl rfl)), .inr (.inr (.inr ?_)), .inr (.inr ⟨.inr rfl, hmm⟩), fun e => (by have := pm m.toNat; rw [e] at this; cases this), Int.pow_pos (by decide), ?_, bt _ (by decide) hmm, bt _ (by decide) hmm⟩
    · show ((2 : Nat) : Int) * m ≤ _; omega
    · rw [gcd_nat, pm]; exact Nat.gcd_one_left _
  · refine ⟨.inr (.inl rfl), .inr (.inl rfl), .inr (.inl (by decide)), ?_, ?_, ?_, ?_, ?_⟩ <;> rw [one] <;> decide
  · have hmm := hm' (by decide)
    refine ⟨.inr (.inr (.inr ?_)), .inr (.inl rfl), .inr (.inr ⟨.inl rfl, hmm⟩), ?_, ?_, ?_, bt _ (by decide) hmm, ?_⟩
    · show ((2 : Nat) : Int) * m ≤ _; omega
    · exact Int.ne_of_gt (Int.pow_pos (by decide))
    · rw [one]; decide
    · rw [one]; exact gcd_one' _
    · rw [one]; decide
  · refine ⟨.inr (.inr (.inl rfl)), .inr (.inl rfl), .inr (.inl (by decide)), fun e => (by have := pm m.toNat; rw [e] at this; cases this), ?_, ?_, bits_one ?_, ?_⟩
    · rw [one]; decide
    · rw [one]; exact gcd_one' _
    · exact (neg_one_pow' _)
    · rw [one]; decide

theorem ratS_cop {P Q : Int} (hQ : 0 < Q) (hg : Int.gcd P Q = 1) : ratS P Q = (P, Q) := by
  unfold ratS
  rw [if_pos hQ, hg]
  simp [Int.fdiv_one]
theorem ratS_inv {P Q : Int} (hP : P ≠ 0) (hg : Int.gcd P Q = 1) : ratS Q P = if P > 0 then (Q, P) else (-Q, -P) := by
  unfold ratS
  rw [Int.gcd_comm, hg]
  have e : ∀ x : Int, x.fdiv (0 - ((1 : Nat) : Int)) = -x := fun x => by
    have := Int.neg_fdiv_neg (-x) 1
    rw [Int.neg_neg, Int.fdiv_one] at this
    exact this
  split
  · simp [Int.fdiv_one]
  · rw [e, e]

end
section

open PySem PySem.W PySem.Calls PyProof.Rows PySem.SeqAt
variable {X : Stx}

theorem numOne {m : Int} (hm : 0 < m) : NumPow 1 1 m := numPow (.inr (.inl ⟨rfl, rfl⟩)) hm (fun h => absurd h.1 (by decide))
theorem pow_one1 (k : Nat) : (1 : Int) ^ k = 1 := Int.one_pow
theorem gp1 (G : Prg X) {n : Nat} (a b c d : Int) {p q m : Int} (hc : -2 ≤ c ∧ c ≤ 2) (hm : 0 < m) (hm64 : m < 2 ^ 64) (N : NumPow p q m) :
    Fn X (n + 5) G.gpower [.gd [(kindOf a b c d 1, (p, q))], .int m] (fun z => z = .gd [(kindOf a b c d m, (p ^ m.toNat, q ^ m.toNat))]) := by
  have h := gpower_one G (n := n) (1 * b) (1 * a) (half (1 * c)) (1 * d) p q m hm hm64 (half_ne _) (half_bits _) (half_gcd _ _) N.h N.hp N.hq
  rw [tmul_half hc] at h
  simp only [Int.one_mul] at h
  rw [Int.mul_comm b m, Int.mul_comm a m, Int.mul_comm d m] at h
  rw [show kindOf a b c d 1 = (pol b a, half c, d) by simp [kindOf]]
  exact h
theorem gp1_lim (G : Prg X) (K : Cas X) {n : Nat} (a b c d : Int) {p q m : Int} (hm : 100000 < m) (hm64 : m < 2 ^ 64) (hg : gmax p q = 2 ∨ gmax p q = 3) :
    Fails X (n + 5) G.gpower [.gd [(kindOf a b c d 1, (p, q))], .int m] K.cas "limit" := by
  have h := gpower_lim G K (n := n) b a (half (1 * c)) d p q m hm hm64 (half_ne _) (half_bits _) (half_gcd _ _) hg
  rw [show kindOf a b c d 1 = (pol b a, half (1 * c), d) by simp [kindOf]]
  exact h
theorem iabs_pos {m : Int} (h : 0 < m) : iabs m = m := by unfold iabs; rw [if_neg (by omega)]
theorem iabs_negd {m : Int} (h : 0 < m) : iabs (0 - m) = m := by unfold iabs; rw [if_pos (by omega)]; omega

section
variable {a b c d a' b' c' d' p q m : Int}
theorem gr_up (G : Prg X) {n : Nat} (hc : -2 ≤ c ∧ c ≤ 2) (hc' : -2 ≤ c' ∧ c' ≤ 2) (hm : 0 < m) (hm64 : m < 2 ^ 64) (N : NumPow p q m) :
    Fn X (n + 9) G.gratio_power [.tup [.gd [(kindOf a b c d 1, (p, q))], .gd [(kindOf a' b' c' d' 1, (1, 1))]], .int m] (fun z => z = .tup [.gd [(kindOf a b c d m, (p ^ m.toNat, q ^ m.toNat))], .gd [(kindOf a' b' c' d' m, (1, 1))]]) := by
  have h2 := gp1 G (n := n + 3) a' b' c' d' hc' hm hm64 (numOne hm)
  rw [pow_one1] at h2
  refine gratio_ok G _ _ _ _ m (by omega) ?_ ?_
  · rw [if_pos hm, iabs_pos hm]; exact gp1 G (n := n + 3) a b c d hc hm hm64 N
  · rw [if_pos hm, iabs_pos hm]; exact h2
theorem gr_down (G : Prg X) {n : Nat} (hc : -2 ≤ c ∧ c ≤ 2) (hc' : -2 ≤ c' ∧ c' ≤ 2) (hm : 0 < m) (hm64 : m < 2 ^ 64) (N : NumPow p q m) :
    Fn X (n + 9) G.gratio_power [.tup [.gd [(kindOf a b c d 1, (p, q))], .gd [(kindOf a' b' c' d' 1, (1, 1))]], .int (0 - m)] (fun z => z = .tup [.gd [(kindOf a' b' c' d' m, (1, 1))], .gd [(kindOf a b c d m, (p ^ m.toNat, q ^ m.toNat))]]) := by
  have h2 := gp1 G (n := n + 3) a' b' c' d' hc' hm hm64 (numOne hm)
  rw [pow_one1] at h2
  refine gratio_ok G _ _ _ _ (0 - m) (by omega) ?_ ?_
  · rw [if_neg (by omega), iabs_negd hm]; exact h2
  · rw [if_neg (by omega), iabs_negd hm]; exact gp1 G (n := n + 3) a b c d hc hm hm64 N
theorem gr_lim_up (G : Prg X) (K : Cas X) {n : Nat} (hm : 100000 < m) (hm64 : m < 2 ^ 64) (hg : gmax p q = 2 ∨ gmax p q = 3) :
    Fails X (n + 9) G.gratio_power [.tup [.gd [(kindOf a b c d 1, (p, q))], .gd [(kindOf a' b' c' d' 1, (1, 1))]], .int m] K.cas "limit" := by
  refine gratio_fail1 G K _ _ m _ (by omega) ?_
  rw [if_pos (by omega), iabs_pos (by omega)]
  exact gp1_lim G K (n := n + 3) a b c d hm hm64 hg
theorem gr_lim_down (G : Prg X) (K : Cas X) {n : Nat} (hc' : -2 ≤ c' ∧ c' ≤ 2) (hm : 100000 < m) (hm64 : m < 2 ^ 64) (hg : gmax p q = 2 ∨ gmax p q = 3) :
    Fails X (n + 9) G.gratio_power [.tup [.gd [(kindOf a b c d 1, (p, q))], .gd [(kindOf a' b' c' d' 1, (1, 1))]], .int (0 - m)] K.cas "limit" := by
  have h2 := gp1 G (n := n + 3) a' b' c' d' hc' (by omega) hm64 (numOne (by omega))
  rw [pow_one1] at h2
  refine gratio_fail2 G K _ _ _ (0 - m) _ (by omega) (by rw [if_neg (by omega), iabs_negd (by omega)]; exact h2) ?_
  rw [if_neg (by omega), iabs_negd (by omega)]
  exact gp1_lim G K (n := n + 3) a b c d hm hm64 hg

theorem kc (G : Prg X) {n : Nat} (hm : 0 < m) : Fn X (n + 6) G.kind_compare [kd (kindOf a b c d m), kd (kindOf a' b' c' d' m)] (fun z => z = .int (lexO [a, b, c, d] [a', b', c', d'])) := by
  have h := kind_compare_ok G (n := n) (m * b) (m * a) (half (m * c)) (m * d) (m * b') (m * a') (half (m * c')) (m * d') (.of_right (half_bits _)) (.of_right (half_bits _))
  rw [show (pol (m * b) (m * a), half (m * c), m * d) = kindOf a b c d m from rfl, show (pol (m * b') (m * a'), half (m * c'), m * d') = kindOf a' b' c' d' m from rfl, kcmp_kinds hm] at h
  exact h
theorem far_up (G : Prg X) {n : Nat} (hm : 0 < m) (N : NumPow p q m) :
    Fn X (n + 8) G.far_limit [.tup [.gd [(kindOf a b c d m, (p ^ m.toNat, q ^ m.toNat))], .gd [(kindOf a' b' c' d' m, (1, 1))]]] (fun z => z = farV (lexO [a, b, c, d] [a', b', c', d']) (p ^ m.toNat, q ^ m.toNat)) := by
  have r1 : ratS 1 1 = (1, 1) := by decide
  have h4 := rpower_inv G (n := n + 3) 1 1 (by decide) (by decide) (by rw [r1]; decide) (by rw [r1]; decide)
  rw [r1] at h4
  have h5 := rmul_ok G (n := n + 4) (p ^ m.toNat, q ^ m.toNat) (1, 1) (.of_right (show Builtin.Int.intBits 1 ≤ 64 by decide)) (.of_right (show Builtin.Int.intBits 1 ≤ 64 by decide)) (by show q ^ m.toNat * 1 ≠ 0; have := N.Q0; omega) (by
    show (Int.gcd (p ^ m.toNat * 1) (q ^ m.toNat * 1)).log2 < 9000
    rw [Int.mul_one, Int.mul_one, N.g]; decide)
  dsimp only at h5
  rw [Int.mul_one, Int.mul_one, ratS_cop N.Q0 N.g] at h5
  exact far_limit_ok G _ _ _ _ _ _ (1, 1) _ _ (fastest_one G _ _) (fastest_one G _ _) (fn_mono (kc G (n := n) hm) (by omega) fun _ h => h) h4 h5
theorem far_down (G : Prg X) {n : Nat} (hm : 0 < m) (N : NumPow p q m) :
    Fn X (n + 8) G.far_limit [.tup [.gd [(kindOf a' b' c' d' m, (1, 1))], .gd [(kindOf a b c d m, (p ^ m.toNat, q ^ m.toNat))]]]
      (fun z => z = farV (lexO [a', b', c', d'] [a, b, c, d]) (if p ^ m.toNat > 0 then (q ^ m.toNat, p ^ m.toNat) else (-(q ^ m.toNat), -(p ^ m.toNat)))) := by
  have r1 := ratS_inv N.P0 N.g
  have hbn : ∀ x : Int, Builtin.Int.intBits (-x) = Builtin.Int.intBits x := fun x => by
    unfold Builtin.Int.intBits
    simp
  have h4 := rpower_inv G (n := n + 3) (p ^ m.toNat) (q ^ m.toNat) N.P0 (by rw [Int.gcd_comm, N.g]; decide) (by rw [r1]; split <;> first | exact N.bQ | (rw [hbn]; exact N.bQ)) (by rw [r1]; split <;> first | exact N.bP | (rw [hbn]; exact N.bP))
  rw [r1] at h4
  generalize hi : (if p ^ m.toNat > 0 then (q ^ m.toNat, p ^ m.toNat) else (-(q ^ m.toNat), -(p ^ m.toNat))) = inv at h4 ⊢
  have i2 : 0 < inv.2 := by rw [← hi]; have := N.P0; split <;> (dsimp only; omega)
  have ig : Int.gcd inv.1 inv.2 = 1 := by
    rw [← hi]
    split
    · dsimp only; rw [Int.gcd_comm]; exact N.g
    · dsimp only; rw [Int.gcd_comm]; simp [N.g]
  have h5 := rmul_ok G (n := n + 4) (1, 1) inv (.of_left (show Builtin.Int.intBits 1 ≤ 64 by decide)) (.of_left (show Builtin.Int.intBits 1 ≤ 64 by decide)) (by show 1 * inv.2 ≠ 0; omega) (by
    show (Int.gcd (1 * inv.1) (1 * inv.2)).log2 < 9000
    rw [Int.one_mul, Int.one_mul, ig]; decide)
  dsimp only at h5
  rw [Int.one_mul, Int.one_mul, ratS_cop i2 ig] at h5
  exact far_limit_ok G _ _ _ _ _ _ inv _ _ (fastest_one G _ _) (fastest_one G _ _) (fn_mono (kc G (n := n) hm) (by omega) fun _ h => h) h4 h5
end
theorem farV_eq {l l' : List Int} {v : Rt} (h : l = l') : farV (lexO l l') v = rd v := by rw [lexO, if_pos h]; rfl
theorem farV_lt {l l' : List Int} {v : Rt} (h : l ≠ l') (h2 : ltL l l' = true) : farV (lexO l l') v = rd (0, 1) := by rw [lexO, if_neg h, if_pos h2]; rfl
theorem farV_gt {l l' : List Int} {v : Rt} (h : l ≠ l') (h2 : ltL l l' = false) : farV (lexO l l') v = .str (if v.1 > 0 then "inf" else "-inf") := by rw [lexO, if_neg h, if_neg (by rw [h2]; decide)]; rfl

end
section

open PySem PySem.W PySem.Calls PyProof.Rows PySem.SeqAt


variable {X : Stx}

theorem num_at {k : Int} (h0 : 0 ≤ k) (h1 : k < 4) : ∃ p q, isNum p q ∧ [rd (-1, 3), rd (1, 1), rd (2, 1), rd (-1, 1)][k.toNat]? = some (rd (p, q)) := by
  have : k = 0 ∨ k = 1 ∨ k = 2 ∨ k = 3 := by omega
  rcases this with rfl | rfl | rfl | rfl
  · exact ⟨_, _, .inl ⟨rfl, rfl⟩, rfl⟩
  · exact ⟨_, _, .inr (.inl ⟨rfl, rfl⟩), rfl⟩
  · exact ⟨_, _, .inr (.inr (.inl ⟨rfl, rfl⟩)), rfl⟩
  · exact ⟨_, _, .inr (.inr (.inr ⟨rfl, rfl⟩)), rfl⟩
set_option maxHeartbeats 16000000 in
theorem single_up (G : Prg X) (Lp : LawP X) {n : Nat} {a : Addr} {tabs : List (Pos × Str × Addr)} {C : Cx} {E : Value → Shared → Prop} (I : C.Is X (fnL 39) (fnS 39) (n + 12)) {a1 b1 c1 d1 a2 b2 c2 d2 p q m : Int}
    (ha1 : -1 ≤ a1) (ha1' : a1 ≤ 1) (hb1 : -1 ≤ b1) (hb1' : b1 ≤ 1) (hc1 : -2 ≤ c1) (hc1' : c1 ≤ 2) (hd1 : -1 ≤ d1) (hd1' : d1 ≤ 1) (ha2 : -1 ≤ a2) (ha2' : a2 ≤ 1) (hb2 : -1 ≤ b2) (hb2' : b2 ≤ 1) (hc2 : -2 ≤ c2) (hc2' : c2 ≤ 2) (hd2 : -1 ≤ d2) (hd2' : d2 ≤ 1)
    (hm : 2 ≤ m) (hm64 : m < 2 ^ 64) (N : NumPow p q m) :
    WS C E (.law a none tabs) [some .own, some (.fz (.int m)), some (.fz (.lst ([a1, b1, c1, d1].map .int))), some (.fz (.lst ([a2, b2, c2, d2].map .int))), some (.fz (rd (p, q))), some (.fz (.bool true)), none, none, none, none, none, none, none, some (.fz (.int m)), some (.fz (.tup [.gd [(kindOf a1 b1 c1 d1 1, (p, q))], .gd [(kindOf a2 b2 c2 d2 1, (1, 1))]]))]
      ((fnB 39).drop 5) (fun o' _ => o' = .law a none tabs ∧ DV.none = .bool true) (fun o' d => o' = .law a none tabs ∧ d = .bool true) := by
  conv => arg 5; whnf
  one_item
  show Bin C.X C.A (binaryOp .Pow) (.int p) (.int m) _
  refine bin_pow (by omega) N.hp ?_
  one_item
  show Bin C.X C.A (binaryOp .Pow) (.int q) (.int m) _
  refine bin_pow (by omega) N.hq ?_
  one_item
  refine we_dict I rfl rfl (by decide) (by decide) fun C4 I4 => ?_
  show WE C4 _ _ _ _ _
  one_item
  refine fn_at (kind_ok G Lp a1 b1 c1 d1 m ⟨ha1, ha1'⟩ ⟨hb1, hb1'⟩ ⟨hc1, hc1'⟩ ⟨hd1, hd1'⟩ (by omega)) ?_
  refine ⟨_, rfl, ?_⟩
  one_item
  refine ⟨(p ^ m.toNat, q ^ m.toNat), rfl, by simp, (show 1 ≤ 100 by decide), ?_⟩
  one_item
  refine we_dict I rfl rfl (by decide) (by decide) fun C5 I5 => ?_
  show WE C5 _ _ _ _ _
  one_item
  refine fn_at (kind_ok G Lp a2 b2 c2 d2 m ⟨ha2, ha2'⟩ ⟨hb2, hb2'⟩ ⟨hc2, hc2'⟩ ⟨hd2, hd2'⟩ (by omega)) ?_
  refine ⟨_, rfl, ?_⟩
  one_item
  refine ⟨(1, 1), rfl, by simp, (show 1 ≤ 100 by decide), ?_⟩
  one_item
  refine fn_at (gr_up G (n := n + 3) ⟨hc1, hc1'⟩ ⟨hc2, hc2'⟩ (by omega) hm64 N) ?_
  one_item
  refine c_neSame I (by simp) (by simp) ?_
  one_item
  refine x_unpk2 I (by rfl) (.inl (by rfl)) (by rfl) (.inl (by rfl)) ?_
  one_item
  refine ⟨_, _, rfl, ?_⟩
  one_item
  · refine c_ltL I (by rfl) ?_
    one_item
    · refine fn_at (gr_up G (n := n + 3) ⟨hc1, hc1'⟩ ⟨hc2, hc2'⟩ (by omega) hm64 N) ?_
      one_item
      refine fn_at (far_up G (n := n + 4) (by omega) N) ?_
      one_item
      refine c_eqI I (by rfl) ?_
      one_item
      · exact c_leafRd I (r := (p ^ m.toNat, q ^ m.toNat)) (farV_eq (by assumption)) ⟨rfl, rfl⟩
      · exact c_leafRd I (r := (0, 1)) (farV_lt (by assumption) (by assumption)) ⟨rfl, rfl⟩
    · refine ⟨_, 1, rfl, rfl, by decide, by decide, .str (Str.ofString "inf"), .inr ⟨by decide, rfl⟩, ?_⟩
      one_item
      refine fn_at (gr_up G (n := n + 3) ⟨hc1, hc1'⟩ ⟨hc2, hc2'⟩ (by omega) hm64 N) ?_
      one_item
      refine fn_at (far_up G (n := n + 4) (by omega) N) ?_
      one_item
      refine c_eqI I (by rfl) ?_
      one_item
      · exact c_leafRd I (r := (p ^ m.toNat, q ^ m.toNat)) (farV_eq (by assumption)) ⟨rfl, rfl⟩
      · exact c_leafStr I (by rw [farV_gt (by assumption) (by assumption), if_pos (by assumption)]) ⟨rfl, rfl⟩
  · refine c_ltL I (by rfl) ?_
    one_item
    · refine fn_at (gr_up G (n := n + 3) ⟨hc1, hc1'⟩ ⟨hc2, hc2'⟩ (by omega) hm64 N) ?_
      one_item
      refine fn_at (far_up G (n := n + 4) (by omega) N) ?_
      one_item
      refine c_eqI I (by rfl) ?_
      one_item
      · exact c_leafRd I (r := (p ^ m.toNat, q ^ m.toNat)) (farV_eq (by assumption)) ⟨rfl, rfl⟩
      · exact c_leafRd I (r := (0, 1)) (farV_lt (by assumption) (by assumption)) ⟨rfl, rfl⟩
    · refine ⟨_, -1, rfl, rfl, by decide, by decide, .str (Str.ofString "-inf"), .inl ⟨by decide, by decide, rfl⟩, ?_⟩
      one_item
      refine fn_at (gr_up G (n := n + 3) ⟨hc1, hc1'⟩ ⟨hc2, hc2'⟩ (by omega) hm64 N) ?_
      one_item
      refine fn_at (far_up G (n := n + 4) (by omega) N) ?_
      one_item
      refine c_eqI I (by rfl) ?_
      one_item
      · exact c_leafRd I (r := (p ^ m.toNat, q ^ m.toNat)) (farV_eq (by assumption)) ⟨rfl, rfl⟩
      · exact c_leafStr I (by rw [farV_gt (by assumption) (by assumption), if_neg (by assumption)]) ⟨rfl, rfl⟩

end
section

open PySem PySem.W PySem.Calls PyProof.Rows PySem.SeqAt


variable {X : Stx}

theorem farV_gt1 {l l' : List Int} {P Q : Int} (h : l ≠ l') (h2 : ltL l l' = false) (hP : P > 0) (hQ : 0 < Q) : farV (lexO l l') (if P > 0 then (Q, P) else (-Q, -P)) = .str "inf" := by
  rw [farV_gt h h2, show (if P > 0 then (Q, P) else (-Q, -P)) = (Q, P) from if_pos hP, if_pos hQ]
theorem farV_gt2 {l l' : List Int} {P Q : Int} (h : l ≠ l') (h2 : ltL l l' = false) (hP : ¬ P > 0) (hQ : 0 < Q) : farV (lexO l l') (if P > 0 then (Q, P) else (-Q, -P)) = .str "-inf" := by
  rw [farV_gt h h2, show (if P > 0 then (Q, P) else (-Q, -P)) = (-Q, -P) from if_neg hP, if_neg (by dsimp only; omega)]
set_option maxHeartbeats 16000000 in
theorem single_down (G : Prg X) (Lp : LawP X) {n : Nat} {a : Addr} {tabs : List (Pos × Str × Addr)} {C : Cx} {E : Value → Shared → Prop} (I : C.Is X (fnL 39) (fnS 39) (n + 12)) {a1 b1 c1 d1 a2 b2 c2 d2 p q m : Int}
    (ha1 : -1 ≤ a1) (ha1' : a1 ≤ 1) (hb1 : -1 ≤ b1) (hb1' : b1 ≤ 1) (hc1 : -2 ≤ c1) (hc1' : c1 ≤ 2) (hd1 : -1 ≤ d1) (hd1' : d1 ≤ 1) (ha2 : -1 ≤ a2) (ha2' : a2 ≤ 1) (hb2 : -1 ≤ b2) (hb2' : b2 ≤ 1) (hc2 : -2 ≤ c2) (hc2' : c2 ≤ 2) (hd2 : -1 ≤ d2) (hd2' : d2 ≤ 1)
    (hm : 2 ≤ m) (hm64 : m < 2 ^ 64) (N : NumPow p q m) :
    WS C E (.law a none tabs) [some .own, some (.fz (.int m)), some (.fz (.lst ([a1, b1, c1, d1].map .int))), some (.fz (.lst ([a2, b2, c2, d2].map .int))), some (.fz (rd (p, q))), some (.fz (.bool false)), none, none, none, none, none, none, none, some (.fz (.int (0 - m))), some (.fz (.tup [.gd [(kindOf a1 b1 c1 d1 1, (p, q))], .gd [(kindOf a2 b2 c2 d2 1, (1, 1))]]))]
      ((fnB 39).drop 5) (fun o' _ => o' = .law a none tabs ∧ DV.none = .bool true) (fun o' d => o' = .law a none tabs ∧ d = .bool true) := by
  conv => arg 5; whnf
  one_item
  show Bin C.X C.A (binaryOp .Pow) (.int p) (.int m) _
  refine bin_pow (by omega) N.hp ?_
  one_item
  show Bin C.X C.A (binaryOp .Pow) (.int q) (.int m) _
  refine bin_pow (by omega) N.hq ?_
  one_item
  refine we_dict I rfl rfl (by decide) (by decide) fun C4 I4 => ?_
  show WE C4 _ _ _ _ _
  one_item
  refine fn_at (kind_ok G Lp a1 b1 c1 d1 m ⟨ha1, ha1'⟩ ⟨hb1, hb1'⟩ ⟨hc1, hc1'⟩ ⟨hd1, hd1'⟩ (by omega)) ?_
  refine ⟨_, rfl, ?_⟩
  one_item
  refine ⟨(p ^ m.toNat, q ^ m.toNat), rfl, by simp, (show 1 ≤ 100 by decide), ?_⟩
  one_item
  refine we_dict I rfl rfl (by decide) (by decide) fun C5 I5 => ?_
  show WE C5 _ _ _ _ _
  one_item
  refine fn_at (kind_ok G Lp a2 b2 c2 d2 m ⟨ha2, ha2'⟩ ⟨hb2, hb2'⟩ ⟨hc2, hc2'⟩ ⟨hd2, hd2'⟩ (by omega)) ?_
  refine ⟨_, rfl, ?_⟩
  one_item
  refine ⟨(1, 1), rfl, by simp, (show 1 ≤ 100 by decide), ?_⟩
  one_item
  refine fn_at (gr_down G (n := n + 3) ⟨hc1, hc1'⟩ ⟨hc2, hc2'⟩ (by omega) hm64 N) ?_
  one_item
  refine c_neSame I (by simp) (by simp) ?_
  one_item
  refine x_unpk2 I (by rfl) (.inl (by rfl)) (by rfl) (.inl (by rfl)) ?_
  one_item
  refine ⟨_, _, rfl, ?_⟩
  one_item
  · refine bin_mul ?_ (.of_left (by decide))
    one_item
    refine bin_mul ?_ (.of_left (by decide))
    one_item
    refine c_ltL I (by rfl) ?_
    one_item
    · refine fn_at (gr_down G (n := n + 3) ⟨hc1, hc1'⟩ ⟨hc2, hc2'⟩ (by omega) hm64 N) ?_
      one_item
      refine fn_at (far_down G (n := n + 4) (by omega) N) ?_
      one_item
      refine c_eqI I (by rfl) ?_
      one_item
      · exact c_leafRd I (r := (1 * q ^ m.toNat, 1 * p ^ m.toNat)) ((by rw [farV_eq (by assumption), if_pos (by assumption)]; congr 1; simp)) ⟨rfl, rfl⟩
      · exact c_leafRd I (r := (0, 1)) (farV_lt (by assumption) (by assumption)) ⟨rfl, rfl⟩
    · refine ⟨_, 1, rfl, rfl, by decide, by decide, .str (Str.ofString "inf"), .inr ⟨by decide, rfl⟩, ?_⟩
      one_item
      refine fn_at (gr_down G (n := n + 3) ⟨hc1, hc1'⟩ ⟨hc2, hc2'⟩ (by omega) hm64 N) ?_
      one_item
      refine fn_at (far_down G (n := n + 4) (by omega) N) ?_
      one_item
      refine c_eqI I (by rfl) ?_
      one_item
      · exact c_leafRd I (r := (1 * q ^ m.toNat, 1 * p ^ m.toNat)) ((by rw [farV_eq (by assumption), if_pos (by assumption)]; congr 1; simp)) ⟨rfl, rfl⟩
      · exact c_leafStr I (farV_gt1 (by assumption) (by assumption) (by assumption) N.Q0) ⟨rfl, rfl⟩
  · refine bin_mul ?_ (.of_left (by decide))
    one_item
    refine bin_mul ?_ (.of_left (by decide))
    one_item
    refine c_ltL I (by rfl) ?_
    one_item
    · refine fn_at (gr_down G (n := n + 3) ⟨hc1, hc1'⟩ ⟨hc2, hc2'⟩ (by omega) hm64 N) ?_
      one_item
      refine fn_at (far_down G (n := n + 4) (by omega) N) ?_
      one_item
      refine c_eqI I (by rfl) ?_
      one_item
      · exact c_leafRd I (r := ((-1) * q ^ m.toNat, (-1) * p ^ m.toNat)) ((by rw [farV_eq (by assumption), if_neg (by assumption)]; congr 1; simp)) ⟨rfl, rfl⟩
      · exact c_leafRd I (r := (0, 1)) (farV_lt (by assumption) (by assumption)) ⟨rfl, rfl⟩
    · refine ⟨_, -1, rfl, rfl, by decide, by decide, .str (Str.ofString "-inf"), .inl ⟨by decide, by decide, rfl⟩, ?_⟩
      one_item
      refine fn_at (gr_down G (n := n + 3) ⟨hc1, hc1'⟩ ⟨hc2, hc2'⟩ (by omega) hm64 N) ?_
      one_item
      refine fn_at (far_down G (n := n + 4) (by omega) N) ?_
      one_item
      refine c_eqI I (by rfl) ?_
      one_item
      · exact c_leafRd I (r := ((-1) * q ^ m.toNat, (-1) * p ^ m.toNat)) ((by rw [farV_eq (by assumption), if_neg (by assumption)]; congr 1; simp)) ⟨rfl, rfl⟩
      · exact c_leafStr I (farV_gt2 (by assumption) (by assumption) (by assumption) N.Q0) ⟨rfl, rfl⟩

end
section

open PySem PySem.W PySem.Calls PyProof.Rows PySem.SeqAt


variable {X : Stx}

set_option maxHeartbeats 16000000 in
theorem single_ok (G : Prg X) (K : Cas X) (Lp : LawP X) {n : Nat} {a Pt : Addr} {tabs : List (Pos × Str × Addr)} (hnd : (tabs.map (·.2.2)).Nodup) (hT : TabFor X Lp.single Pt)
    (hq : (⟨201, 28, 201, 61⟩, Str.ofString "_law_single_right" ++ ".<locals>." ++ "<lambda>", Pt) ∈ tabs) (m : Int) (hm : 2 ≤ m) (hm2 : m < 2 ^ 60) :
    FnG X (n + 13) Lp.single (.law a none tabs) [.own, .fz (.int m)] (fun o' d => o' = .law a none tabs ∧ d = .bool true) noK := by
  refine fn_enterE G.wf Lp.hsingle (fnA 39) (fnL 39) (by one_sign) rfl rfl (by decide +kernel) (by decide +kernel) (by decide +kernel) rfl rfl rfl (fun _ _ _ _ _ _ _ h => h.elim) fun C E I hD hee _ hE => ?_
  obtain ⟨⟨cc, hcode, hC⟩, hqual⟩ := tab_env hT hee
  show WS C E (.law a none tabs) [some .own, some (.fz (.int m)), none, none, none, none, none, none, none, none, none, none, none, none, none] (fnB 39) _ _
  one_item
  refine mark_at G Lp fun l1 ⟨a1, b1, c1, d1, e1, ha1, ha1', hb1, hb1', hc1, hc1', hd1, hd1'⟩ => ?_
  one_item
  refine mark_at G Lp fun l2 ⟨a2, b2, c2, d2, e2, ha2, ha2', hb2, hb2', hc2, hc2', hd2, hd2'⟩ => ?_
  subst e1 e2
  one_item
  refine take_at G Lp ⟨by decide, fun k1 hk1 hk1' => ?_⟩
  obtain ⟨p, q, hpq, hget⟩ := num_at hk1 hk1'
  refine item_lst (e := rd (p, q)) hk1 (by omega) hget ?_
  one_item
  refine take_at G Lp ⟨by decide, fun k2 hk2 hk2' => ?_⟩
  one_item
  have hm64 : m < 2 ^ 64 := by omega
  have N : ¬ (gmax p q > 1 ∧ m > 100000) → NumPow p q m := fun h => numPow hpq (by omega) h
  have hG : gmax p q > 1 → gmax p q = 2 ∨ gmax p q = 3 := fun h => by
    rcases gmax_num hpq with h1 | h1
    · omega
    · exact h1
  generalize decide (k2 = 0) = b
  refine we_dict I rfl rfl (by decide) (by decide) fun C2 I2 => ?_
  show WE C2 _ _ _ _ _
  one_item
  refine fn_at (kind_ok G Lp a1 b1 c1 d1 1 ⟨ha1, ha1'⟩ ⟨hb1, hb1'⟩ ⟨hc1, hc1'⟩ ⟨hd1, hd1'⟩ (by decide)) ?_
  refine ⟨_, rfl, ?_⟩
  one_item
  refine ⟨(p, q), rfl, by simp, (show 1 ≤ 100 by decide), ?_⟩
  one_item
  refine we_dict I rfl rfl (by decide) (by decide) fun C3 I3 => ?_
  show WE C3 _ _ _ _ _
  one_item
  refine fn_at (kind_ok G Lp a2 b2 c2 d2 1 ⟨ha2, ha2'⟩ ⟨hb2, hb2'⟩ ⟨hc2, hc2'⟩ ⟨hd2, hd2'⟩ (by decide)) ?_
  refine ⟨_, rfl, ?_⟩
  one_item
  refine ⟨(1, 1), rfl, by simp, (show 1 ≤ 100 by decide), ?_⟩
  refine wl_nil ⟨le1000 (by rfl), ?_⟩
  show WS C E (.law a none tabs) [some .own, some (.fz (.int m)), some (.fz (.lst ([a1, b1, c1, d1].map .int))), some (.fz (.lst ([a2, b2, c2, d2].map .int))), some (.fz (rd (p, q))), some (.fz (.bool b)), none, none, none, none, none, none, none, none, some (.fz (.tup [.gd [(kindOf a1 b1 c1 d1 1, (p, q))], .gd [(kindOf a2 b2 c2 d2 1, (1, 1))]]))] ((fnB 39).drop 3) _ _
  conv => arg 5; whnf
  refine ws_cons (x_setC I (by rfl) (by rfl) (we_if (wt_nm I (by rfl) (by rfl) ?_)))
  cases b
  · refine ⟨fun h => (nomatch h), fun _ => ?_⟩
    refine w_bin I (we_int (we_nm I (by rfl) (by rfl) (bin_sub ?_)))
    show WS C E (.law a none tabs) [some .own, some (.fz (.int m)), some (.fz (.lst ([a1, b1, c1, d1].map .int))), some (.fz (.lst ([a2, b2, c2, d2].map .int))), some (.fz (rd (p, q))), some (.fz (.bool false)), none, none, none, none, none, none, none, some (.fz (.int (0 - m))), some (.fz (.tup [.gd [(kindOf a1 b1 c1 d1 1, (p, q))], .gd [(kindOf a2 b2 c2 d2 1, (1, 1))]]))] ((fnB 39).drop 4) _ _
    conv => arg 5; whnf
    refine ws_then (¬ (gmax p q > 1 ∧ m > 100000)) ?_ fun hn => single_down G Lp I ha1 ha1' hb1 hb1' hc1 hc1' hd1 hd1' ha2 ha2' hb2 hb2' hc2 hc2' hd2 hd2' hm hm64 (N hn)
    one_item
    · refine we_refused I K Lp G.hgratio_power hq hnd hcode hC (by rw [hqual]) (by rfl) (by rfl) (by rfl) (by rfl) (.inl (by rfl)) (.inl (by rfl)) (by rfl) (by decide) ⟨by decide, by rfl⟩ ⟨by decide, by rfl⟩ (by rfl) (by decide) rfl rfl rfl (gr_lim_down G K (n := n + 1) ⟨hc2, hc2'⟩ (by omega) hm64 (hG (by assumption))) ?_
      one_item
      exact ⟨rfl, rfl⟩
    · exact ⟨rfl, rfl, fun h => absurd h.2 (by assumption)⟩
    · exact ⟨rfl, rfl, fun h => absurd h.1 (by assumption)⟩
  · refine ⟨fun _ => ?_, fun h => (nomatch h)⟩
    refine we_nm I (by rfl) (by rfl) ?_
    show WS C E (.law a none tabs) [some .own, some (.fz (.int m)), some (.fz (.lst ([a1, b1, c1, d1].map .int))), some (.fz (.lst ([a2, b2, c2, d2].map .int))), some (.fz (rd (p, q))), some (.fz (.bool true)), none, none, none, none, none, none, none, some (.fz (.int m)), some (.fz (.tup [.gd [(kindOf a1 b1 c1 d1 1, (p, q))], .gd [(kindOf a2 b2 c2 d2 1, (1, 1))]]))] ((fnB 39).drop 4) _ _
    conv => arg 5; whnf
    refine ws_then (¬ (gmax p q > 1 ∧ m > 100000)) ?_ fun hn => single_up G Lp I ha1 ha1' hb1 hb1' hc1 hc1' hd1 hd1' ha2 ha2' hb2 hb2' hc2 hc2' hd2 hd2' hm hm64 (N hn)
    one_item
    · refine we_refused I K Lp G.hgratio_power hq hnd hcode hC (by rw [hqual]) (by rfl) (by rfl) (by rfl) (by rfl) (.inl (by rfl)) (.inl (by rfl)) (by rfl) (by decide) ⟨by decide, by rfl⟩ ⟨by decide, by rfl⟩ (by rfl) (by decide) rfl rfl rfl (gr_lim_up G K (n := n + 1) (by omega) hm64 (hG (by assumption))) ?_
      one_item
      exact ⟨rfl, rfl⟩
    · exact ⟨rfl, rfl, fun h => absurd h.2 (by assumption)⟩
    · exact ⟨rfl, rfl, fun h => absurd h.1 (by assumption)⟩

end
section

open PySem PySem.W PySem.Calls PyProof.Rows PySem.SeqAt

/-- a row of the triangle -/
noncomputable def rowZ : Nat → List Int
  | 0 => [1]
  | t + 1 => [1] ++ (List.range t).map (fun i => (rowZ t).getD i 0 + (rowZ t).getD (i + 1) 0) ++ [1]
theorem rowZ_len : ∀ t, (rowZ t).length = t + 1 := by
  intro t
  induction t with
  | zero => rfl
  | succ t ih => unfold rowZ; simp
noncomputable def dueE (v : Int) (f : Nat) (i : Nat) : Int × Int := ((i : Int), (rowZ f).getD i 0 * v ^ (f - i))
noncomputable def dueZ (v : Int) (f : Nat) : List (Int × Int) := (List.range (f + 1)).map (dueE v f)

structure SumF (v : Int) (f : Nat) (lc : List (Int × Int)) : Prop where
  pw : powZ [(1, 1), (0, v)] f = some lc
  pre : ∀ i, i < f → ∃ l, powZ [(1, 1), (0, v)] i = some l ∧ (l.map (·.1)).Nodup ∧ l.length ≤ 100
  eq : gdEq (gx lc) (gx (dueZ v f)) = true
  nd : (lc.map (·.1)).Nodup
  hz : ∀ e ∈ lc, e.2 ≠ 0
  hl : lc.length ≤ 100
  hb : ∀ e ∈ lc, -(2 ^ 64) < e.2 ∧ e.2 < 2 ^ 64
  fast : lc.foldl upd none = some (f : Int)
  at_ : lookZ lc f = some 1
noncomputable def preOk (v : Int) (f : Nat) : Bool := (List.range f).all fun i => match powZ [(1, 1), (0, v)] i with | some l => decide ((l.map (·.1)).Nodup) && decide (l.length ≤ 100) | none => false
theorem preOk_at {v : Int} {f : Nat} (h : preOk v f = true) : ∀ i, i < f → ∃ l, powZ [(1, 1), (0, v)] i = some l ∧ (l.map (·.1)).Nodup ∧ l.length ≤ 100 := fun i hi => by
  have := List.all_eq_true.mp h i (List.mem_range.mpr hi)
  cases e : powZ [(1, 1), (0, v)] i with
  | none => rw [e] at this; cases this
  | some l =>
    rw [e] at this
    simp only [Bool.and_eq_true, decide_eq_true_eq] at this
    exact ⟨l, rfl, this.1, this.2⟩
theorem sumF {v : Int} {f : Nat} (hv : v = 1 ∨ v = -2 ∨ v = 3) (h1 : 1 ≤ f) (h4 : f ≤ 4) : ∃ lc, SumF v f lc := by
  have hf : f = 1 ∨ f = 2 ∨ f = 3 ∨ f = 4 := by omega
  rcases hf with rfl | rfl | rfl | rfl <;> rcases hv with rfl | rfl | rfl <;>
    exact ⟨_, rfl, preOk_at (by decide +kernel), by decide +kernel, by decide +kernel, by decide +kernel, by decide +kernel, by decide +kernel, by decide +kernel, by decide +kernel⟩

section
variable {X : Stx}
theorem pol00 : pol 0 0 = [] := rfl
theorem gpx (G : Prg X) {n : Nat} {i m : Int} (hi : i = 0 ∨ i = 1) (hm : 0 < m) (hm64 : m < 2 ^ 64) : Fn X (n + 5) G.gpower [.gd (gx [(i, 1)]), .int m] (fun z => z = .gd (gx [(i * m, 1)])) := by
  have N := numOne hm
  have h := gpower_one G (n := n) 0 0 (i, 1) 0 1 1 m hm hm64 (show (1 : Int) * 1 ≠ 0 by decide) (by show Builtin.Int.intBits 1 ≤ 64; decide) (by
    show (Int.gcd (i * m) (1 * 1)).log2 < 9000
    rw [show (1 : Int) * 1 = 1 from rfl, gcd_one']; decide) N.h N.hp N.hq
  rw [Int.zero_mul, pow_one1, show tmul (i, 1) m = (i * m, 1) from by show ratS (i * m) (1 * 1) = _; rw [show (1 : Int) * 1 = 1 from rfl, ratS_one]] at h
  exact h

variable {v : Int} {f : Nat} {lc : List (Int × Int)}
theorem gpla (G : Prg X) {n : Nat} (hv : v = 1 ∨ v = -2 ∨ v = 3) (h4 : f ≤ 4) (S : SumF v f lc) : Fn X (n + 8) G.gpower [.gd (gx [(1, 1), (0, v)]), .int f] (fun z => z = .gd (gx lc)) := by
  refine gpower_gx G [(1, 1), (0, v)] f h4 (by simp) (by simp) (by simp) ?_ ?_ lc S.pre S.pw
  · rcases hv with rfl | rfl | rfl <;> decide +kernel
  · rcases hv with rfl | rfl | rfl <;> decide +kernel

noncomputable abbrev toldD (v : Int) : DV := .tup [.gd (gx [(1, 1), (0, v)]), .gd (gx [(1, 1)])]
theorem iabs_nat {f : Nat} (h : 1 ≤ f) : iabs (f : Int) = f := iabs_pos (by omega)
theorem gs_up (G : Prg X) {n : Nat} (hv : v = 1 ∨ v = -2 ∨ v = 3) (h1 : 1 ≤ f) (h4 : f ≤ 4) (S : SumF v f lc) : Fn X (n + 9) G.gratio_power [toldD v, .int f] (fun z => z = .tup [.gd (gx lc), .gd (gx [((f : Int), 1)])]) := by
  refine gratio_ok G _ _ _ _ f (by omega) ?_ ?_
  · rw [if_pos (by omega), iabs_pos (by omega)]; exact gpla G (n := n) hv h4 S
  · rw [if_pos (by omega), iabs_pos (by omega)]
    have := gpx G (n := n + 3) (i := 1) (m := f) (.inr rfl) (by omega) (by omega)
    rw [Int.one_mul] at this
    exact this
theorem gs_down (G : Prg X) {n : Nat} (hv : v = 1 ∨ v = -2 ∨ v = 3) (h1 : 1 ≤ f) (h4 : f ≤ 4) (S : SumF v f lc) : Fn X (n + 9) G.gratio_power [toldD v, .int (0 - f)] (fun z => z = .tup [.gd (gx [((f : Int), 1)]), .gd (gx lc)]) := by
  refine gratio_ok G _ _ _ _ (0 - f) (by omega) ?_ ?_
  · rw [if_neg (by omega), iabs_negd (by omega)]
    have := gpx G (n := n + 3) (i := 1) (m := f) (.inr rfl) (by omega) (by omega)
    rw [Int.one_mul] at this
    exact this
  · rw [if_neg (by omega), iabs_negd (by omega)]; exact gpla G (n := n) hv h4 S
theorem gs_far (G : Prg X) (K : Cas X) {n : Nat} {m : Int} (hm : 200 < m) : Fails X (n + 9) G.gratio_power [toldD v, .int m] K.cas "domain" := by
  refine gratio_fail1 G K _ _ m _ (by omega) ?_
  rw [if_pos (by omega), iabs_pos (by omega)]
  exact gpower_far G K (n := n + 3) _ m (by simp [gx]) (by simp [gx]) hm
theorem gs_farN (G : Prg X) (K : Cas X) {n : Nat} {m : Int} (hm : 200 < m) (hm64 : m < 2 ^ 64) : Fails X (n + 9) G.gratio_power [toldD v, .int (0 - m)] K.cas "domain" := by
  refine gratio_fail2 G K _ _ (gx [(1 * m, 1)]) (0 - m) _ (by omega) ?_ ?_
  · rw [if_neg (by omega), iabs_negd (by omega)]; exact gpx G (n := n + 3) (.inr rfl) (by omega) hm64
  · rw [if_neg (by omega), iabs_negd (by omega)]
    exact gpower_far G K (n := n + 3) _ m (by simp [gx]) (by simp [gx]) hm
theorem gs_nil (G : Prg X) {n : Nat} {m : Int} (hm : 0 < m) (hm64 : m < 2 ^ 64) : Fn X (n + 9) G.gratio_power [.tup [.gd [], .gd (gx [(1, 1)])], .int m] (fun z => z = .tup [.gd [], .gd (gx [(m, 1)])]) := by
  refine gratio_ok G _ _ _ _ m (by omega) ?_ ?_
  · rw [if_pos (by omega)]; exact gpower_nil G (n := n + 3) _
  · rw [if_pos (by omega), iabs_pos (by omega)]
    have := gpx G (n := n + 3) (i := 1) (m := m) (.inr rfl) (by omega) (by omega)
    rw [Int.one_mul] at this
    exact this
noncomputable abbrev sumT (v : Int) : DV := .tup [sD "sum", .tup [symD, numD v 1]]
noncomputable abbrev termD (m v : Int) (f : Nat) : DV := .tup [sD "prod", .tup [.tup [sD "pow", symD, numD m 1], .tup [sD "pow", sumT v, numD (0 - f) 1]]]
theorem gs_term (G : Prg X) {n : Nat} {m : Int} (hm : 0 < m) (hm64 : m < 2 ^ 64) (hv : v = 1 ∨ v = -2 ∨ v = 3) (h1 : 1 ≤ f) (h4 : f ≤ 4) (S : SumF v f lc) :
    Fn X (n + 12) G.growth_of [termD m v f, sD "x"] (fun z => z = .tup [.gd (gx [(m, 1)]), .gd (gx lc)]) := by
  refine growth_prod G (n := n + 4) _ _ m lc S.nd S.hz S.hl S.hb ?_ ?_
  · refine growth_pow G (n := n + 9) symD (.tup [.gd (gx [(1, 1)]), .gd (gx [(0, 1)])]) _ m (fn_mono (growth_sym G (n := n)) (by omega) fun _ h => h) ?_
    refine gratio_ok G _ _ _ _ m (by omega) ?_ ?_
    · rw [if_pos (by omega), iabs_pos (by omega)]
      have := gpx G (n := n + 3) (i := 1) (m := m) (.inr rfl) (by omega) (by omega)
      rw [Int.one_mul] at this
      exact this
    · rw [if_pos (by omega), iabs_pos (by omega)]
      have := gpx G (n := n + 3) (i := 0) (m := m) (.inl rfl) (by omega) (by omega)
      rw [Int.zero_mul] at this
      exact this
  · refine growth_pow G (n := n + 9) (sumT v) (.tup [.gd (gx [(1, 1), (0, v)]), .gd (gx [(0, 1)])]) _ (0 - f) (fn_mono (growth_sum G (n := n) v (by omega)) (by omega) fun _ h => h) ?_
    refine gratio_ok G _ _ _ _ (0 - f) (by omega) ?_ ?_
    · rw [if_neg (by omega), iabs_negd (by omega)]
      have := gpx G (n := n + 3) (i := 0) (m := f) (.inl rfl) (by omega) (by omega)
      rw [Int.zero_mul] at this
      exact this
    · rw [if_neg (by omega), iabs_negd (by omega)]; exact gpla G (n := n) hv h4 S
noncomputable def sgnZ (x : Int) : Int := if x > 0 then 1 else if x < 0 then -1 else 0
theorem gs_limit (G : Prg X) {n : Nat} {m : Int} (S : SumF v f lc) : Fn X (n + 8) G.far_limit [.tup [.gd (gx [(m, 1)]), .gd (gx lc)]] (fun z => z = farV (sgnZ (m - f)) (1, 1)) := by
  have r1 : ratS 1 1 = (1, 1) := by decide
  have h4 := rpower_inv G (n := n + 3) 1 1 (by decide) (by decide) (by rw [r1]; decide) (by rw [r1]; decide)
  rw [r1] at h4
  have h5 := rmul1 G (n := n + 4) 1 1 (.of_right (show Builtin.Int.intBits 1 ≤ 64 by decide))
  have h3 := kind_compare_ok G (n := n) 0 0 (m, 1) 0 0 0 ((f : Int), 1) 0 (.of_right (show Builtin.Int.intBits 1 ≤ 64 by decide)) (.of_right (show Builtin.Int.intBits 1 ≤ 64 by decide))
  have e : kcmp (pol 0 0, (m, 1), 0) (pol 0 0, ((f : Int), 1), 0) (0 - 0) (0 - 0) = sgnZ (m - f) := by
    unfold kcmp sgnZ
    simp only [Int.sub_self, ne_eq, not_true, if_false, Int.mul_one, gt_iff_lt, Int.lt_irrefl, decide_false]
    by_cases h1 : 0 < m - f
    · have h2 : ¬ m - f < 0 := by omega
      simp [h1, h2, b2i]
    · have h1' : ¬ (f : Int) < m := by omega
      by_cases h2 : m - f < 0 <;> simp [h1', h2, b2i]
  rw [e] at h3
  exact far_limit_ok G _ _ (kx m) (kx f) (1, 1) (1, 1) (1, 1) (1, 1) _ (fastest_one G (n := n) _ _) (fastest_gx G (n := n) lc S.fast S.at_) (fn_mono h3 (by omega) fun _ h => h) h4 h5
end

end
section

open PySem PySem.W PySem.Calls PyProof.Rows PySem.SeqAt


variable {X : Stx}
noncomputable def st40 (i : Nat) : Stmt := (fnB 40).getD i (.Pass ⟨0, 0, 0, 0⟩)

theorem ws_seq {C : Cx} {E : Value → Shared → Prop} {own : Own} {ρ : Locals} {N N1 : Own → Locals → Prop} {R : Own → DV → Prop} {st : Stmt} {rest : List Stmt} (h1 : WX C E own ρ st N1 R) (h2 : ∀ o r, N1 o r → WS C E o r rest N R) : WS C E own ρ (st :: rest) N R :=
  ws_cons fun g s S => wpAny_mono (h1 g s S) (fun f s' x => x.mono h2 fun _ _ h => h) fun _ _ x => x

/-- what the frame holds -/
noncomputable def frm (m v : Int) (f : Nat) (row : List Int) (turn due : Option LV) : Locals :=
  [some .own, some (.fz (.int m)), some (.fz (kd (kx 1))), some (.fz (.int v)), some (.fz (.int f)), some (.fz (kd (kx 0))), some (.fz (.lst (row.map .int))), turn, due, none, none, none, none, none, some (.fz (toldD v))]

noncomputable def rowF (t : Nat) : DV → Option DV
  | .int i => some (.int ((rowZ t).getD i.toNat 0 + (rowZ t).getD (i.toNat + 1) 0))
  | _ => none
theorem row_get {l : List Int} {i : Nat} (h : i < l.length) : (l.map DV.int)[i]? = some (.int (l.getD i 0)) := by
  rw [List.getElem?_map, List.getElem?_eq_getElem h, List.getD_eq_getElem?_getD, List.getElem?_eq_getElem h]; rfl
theorem upto_at {f i : Nat} {d : DV} (h : (upto f)[i]? = some d) : i < f ∧ d = .int (i : Int) := by
  unfold upto at h
  rw [List.getElem?_map] at h
  by_cases hi : i < f
  · rw [List.getElem?_range hi] at h
    cases h
    exact ⟨hi, rfl⟩
  · rw [List.getElem?_eq_none (by simpa using Nat.le_of_not_lt hi)] at h
    cases h
theorem upto_len (f : Nat) : (upto f).length = f := by simp [upto]
theorem rowF_map (t : Nat) : (upto t).filterMap (rowF t) = ((List.range t).map fun i => (rowZ t).getD i 0 + (rowZ t).getD (i + 1) 0).map DV.int := by
  unfold upto
  generalize List.range t = l
  induction l with
  | nil => rfl
  | cons i l ih => simp only [List.map_cons, List.filterMap_cons, rowF, Int.toNat_natCast, ih]
theorem idx_next (i : Nat) : ((i : Int) + 1).toNat = i + 1 := by omega

set_option maxHeartbeats 16000000 in
theorem sum_loop (G : Prg X) {n : Nat} {own : Own} {C : Cx} {E : Value → Shared → Prop} (I : C.Is X (fnL 40) (fnS 40) (n + 12)) {m v : Int} {f : Nat} (h4 : f ≤ 4) {R : Own → DV → Prop} :
    WX C E own (frm m v f [1] none none) (st40 3) (fun o r => o = own ∧ ∃ t, r = frm m v f (rowZ f) t none) R := by
  show WX C E _ _ ((fnB 40).getD 3 (.Pass ⟨0, 0, 0, 0⟩)) _ _
  conv => arg 5; whnf
  refine x_for I (wi_range I G.range (by rfl) ?_)
  refine we_nm I (by rfl) (by rfl) ?_
  refine ⟨f, rfl, by omega, fun i o r => o = own ∧ ∃ t, r = frm m v f (rowZ i) t none, ⟨rfl, none, rfl⟩, ?_, ?_⟩
  · rintro C3 E3 I3 i d o r hd ⟨rfl, t, rfl⟩
    obtain ⟨hi, rfl⟩ := upto_at hd
    refine a_name I3 (by rfl) (by rfl) ?_
    show WS C3 E3 o (frm m v f (rowZ i) (some (.fz (.int (i : Int)))) none) _ _ _
    refine ws_cons (x_setC I3 (by rfl) (by rfl) (w_addL I3 (w_addL I3 ?_)))
    one_item
    refine we_lcomp I3 [Str.ofString "at"] [Str.ofString "row"] (by decide +kernel) rfl (by decide +kernel) (by decide +kernel) (by decide +kernel) (by decide +kernel) (wi_range I3 G.range (by rfl) ?_)
    refine we_nm I3 (by rfl) (by rfl) ?_
    refine ⟨i, rfl, by omega, ?_⟩
    refine ⟨by rw [upto_len]; omega, rowF i, ?_, ?_⟩
    · rintro C' E' I' j dd tv hdd htv
      obtain ⟨hj, rfl⟩ := upto_at hdd
      obtain ⟨z, rfl⟩ : ∃ z, tv = [z] := by
        match tv, htv with
        | [z], _ => exact ⟨z, rfl⟩
      refine a_name I' (by rfl) (by rfl) ⟨[some (.fz (.int (j : Int)))], rfl, rfl, ⟨fun _ => ?_, fun h => nomatch h⟩⟩
      show WE C' E' _ [some (.fz (.int (j : Int))), some (.fz (.lst ((rowZ i).map .int)))] _ _
      have hrl := rowZ_len i
      one_item
      refine item_lst (e := .int ((rowZ i).getD j 0)) (by omega) (by omega) (by rw [Int.toNat_natCast]; exact row_get (by omega)) ?_
      one_item
      refine item_lst (e := .int ((rowZ i).getD (j + 1) 0)) (by omega) (by omega) (by rw [idx_next]; exact row_get (by omega)) ?_
      one_item
      show rowF i (.int (j : Int)) = _
      rw [rowF, Int.toNat_natCast]
    · rw [rowF_map]
      refine ⟨[.int 1], _, rfl, rfl, by simp, by simp; omega, ?_⟩
      one_item
      refine ⟨_, [.int 1], rfl, rfl, by simp; omega, by simp, ?_⟩
      refine ws_nil ⟨rfl, some (.fz (.int (i : Int))), ?_⟩
      have e : [DV.int 1] ++ ((List.range i).map fun k => (rowZ i).getD k 0 + (rowZ i).getD (k + 1) 0).map DV.int ++ [.int 1] = (rowZ (i + 1)).map DV.int := by
        rw [rowZ, List.map_append, List.map_append]; rfl
      rw [e]
      rfl
  · rintro o r ⟨rfl, t, rfl⟩
    rw [upto_len]
    exact ⟨rfl, t, rfl⟩

noncomputable def dueF (v : Int) (f : Nat) : DV → Kind × Rt
  | .int i => (kx i, ((rowZ f).getD i.toNat 0 * v ^ (f - i.toNat), 1))
  | _ => (kx 0, (0, 1))
theorem dueF_map (v : Int) (f : Nat) : (upto (f + 1)).map (dueF v f) = gx (dueZ v f) := by
  unfold upto gx dueZ
  rw [List.map_map, List.map_map]
  rfl
theorem due_keys (v : Int) (f : Nat) : ((gx (dueZ v f)).map (·.1)).Nodup := by
  unfold gx dueZ
  rw [List.map_map, List.map_map]
  show ((List.range (f + 1)).map fun i => kx ((i : Nat) : Int)).Nodup
  refine List.Pairwise.map _ (fun a b h e => h ?_) List.nodup_range
  rw [kx_inj] at e
  omega
theorem row_bits {f i : Nat} (h4 : f ≤ 4) (hi : i ≤ f) : Builtin.Int.intBits ((rowZ f).getD i 0) ≤ 64 := by
  have hf : f = 0 ∨ f = 1 ∨ f = 2 ∨ f = 3 ∨ f = 4 := by omega
  have hi' : i = 0 ∨ i = 1 ∨ i = 2 ∨ i = 3 ∨ i = 4 := by omega
  rcases hf with rfl | rfl | rfl | rfl | rfl <;> rcases hi' with rfl | rfl | rfl | rfl | rfl <;> decide +kernel

set_option maxHeartbeats 16000000 in
theorem sum_due (G : Prg X) {n : Nat} {own : Own} {C : Cx} {E : Value → Shared → Prop} (I : C.Is X (fnL 40) (fnS 40) (n + 12)) {m v : Int} {f : Nat} {t : Option LV} (hv : v = 1 ∨ v = -2 ∨ v = 3) (h4 : f ≤ 4) {R : Own → DV → Prop} :
    WX C E own (frm m v f (rowZ f) t none) (st40 4) (fun o r => o = own ∧ r = frm m v f (rowZ f) t (some (.fz (.gd (gx (dueZ v f)))))) R := by
  show WX C E _ _ ((fnB 40).getD 4 (.Pass ⟨0, 0, 0, 0⟩)) _ _
  conv => arg 5; whnf
  refine x_dcomp I [Str.ofString "at"] [Str.ofString "few", Str.ofString "number", Str.ofString "row"] (by rfl) (by rfl) (by rfl) (by rfl) (by decide +kernel) (by decide +kernel) rfl (by decide +kernel) (by decide +kernel) (by decide +kernel) (by decide +kernel) (fun _ _ => by rfl) (wi_range I G.range (by rfl) ?_)
  one_item
  refine ⟨f + 1, rfl, by omega, by rw [upto_len]; omega, dueF v f, ?_, ?_, ?_⟩
  · rw [dueF_map]; exact due_keys v f
  · rintro C' E' I' j dd tv hdd htv
    obtain ⟨hj, rfl⟩ := upto_at hdd
    obtain ⟨z, rfl⟩ : ∃ z, tv = [z] := by
      match tv, htv with
      | [z], _ => exact ⟨z, rfl⟩
    refine a_name I' (by rfl) (by rfl) ⟨[some (.fz (.int (j : Int)))], rfl, rfl, ?_⟩
    show WE C' E' _ [some (.fz (.int (j : Int))), some (.fz (.int (f : Int))), some (.fz (.int v)), some (.fz (.lst ((rowZ f).map .int)))] _ _
    have hrl := rowZ_len f
    one_item
    refine ⟨rfl, ?_⟩
    show WE C' E' _ [some (.fz (.int (j : Int))), some (.fz (.int (f : Int))), some (.fz (.int v)), some (.fz (.lst ((rowZ f).map .int)))] _ _
    one_item
    refine item_lst (e := .int ((rowZ f).getD j 0)) (by omega) (by omega) (by rw [Int.toNat_natCast]; exact row_get (by omega)) ?_
    one_item
    show Bin C'.X C'.A (binaryOp .Pow) (.int v) (.int ((f : Int) - (j : Int))) _
    refine bin_pow (by omega) ?_ ?_
    · rcases hv with rfl | rfl | rfl
      · exact .inr (.inl rfl)
      · refine .inr (.inr (.inr ?_))
        show ((2 : Nat) : Int) * _ ≤ _
        omega
      · refine .inr (.inr (.inr ?_))
        show ((2 : Nat) : Int) * _ ≤ _
        omega
    refine bin_mul ?_ (.of_left (row_bits h4 (by omega)))
    one_item
    show _ = rd (dueF v f (.int (j : Int))).2
    rw [dueF, Int.toNat_natCast, show ((f : Int) - (j : Int)).toNat = f - j by omega]
    rfl
  · rw [dueF_map]
    exact ⟨rfl, rfl⟩

end
section

open PySem PySem.W PySem.Calls PyProof.Rows PySem.SeqAt


variable {X : Stx}
noncomputable def frm2 (m v : Int) (f : Nat) (t : Option LV) (T : Int) : Locals :=
  [some .own, some (.fz (.int m)), some (.fz (kd (kx 1))), some (.fz (.int v)), some (.fz (.int f)), some (.fz (kd (kx 0))), some (.fz (.lst ((rowZ f).map .int))), t, some (.fz (.gd (gx (dueZ v f)))), some (.fz (.gd (gx [((f : Int), 1)]))), some (.fz (.lst [.int T, .int (10 ^ 30)])), none, none, none, some (.fz (toldD v))]

set_option maxHeartbeats 16000000 in
theorem sum_refuse (G : Prg X) (K : Cas X) (Lp : LawP X) {n : Nat} {a Pt cc : Addr} {tabs : List (Pos × Str × Addr)} (hnd : (tabs.map (·.2.2)).Nodup) {C : Cx} {E : Value → Shared → Prop} (I : C.Is X (fnL 40) (fnS 40) (n + 12)) (hcode : C.env.code = .ref cc) (hC : CodeHd X.h0 cc Pt)
    (hqual : C.env.qual = Str.ofString "_law_sum_right" ++ ".<locals>.") (hct : C.env.cells.lookup (Str.ofString "times") = none)
    (hq : (⟨224, 21, 224, 54⟩, Str.ofString "_law_sum_right" ++ ".<locals>." ++ "<lambda>", Pt) ∈ tabs) {m v T : Int} {f : Nat} {t : Option LV} (hT : 201 ≤ T) (hT2 : T ≤ 1200) {R : Own → DV → Prop} :
    WX C E (.law a none tabs) (frm2 m v f t T) (st40 9) (fun o r => o = .law a none tabs ∧ r = frm2 m v f t T) R := by
  show WX C E _ _ ((fnB 40).getD 9 (.Pass ⟨0, 0, 0, 0⟩)) _ _
  conv => arg 5; whnf
  refine wx_if (t_cmp I (we_lcompC I (t := Str.ofString "times") (n0 := Str.ofString ".0") (f := Str.ofString "_law_refused") (u := Str.ofString "told") ⟨rfl, by decide +kernel, by decide +kernel, rfl, by decide +kernel, by decide +kernel⟩ hct (by decide +kernel) rfl (.inl (by rfl)) (wi_we I.wf (w_addL I ?_))))
  one_item
  refine ⟨[.int T, .int (10 ^ 30)], [.int (0 - T)], rfl, rfl, by simp, by simp, ?_⟩
  refine ⟨_, rfl, by simp, fun _ => .str "domain", ?_, ?_⟩
  · rintro C' E' I' hcode' hqual' i d tv hd htv
    obtain ⟨z0, z1, rfl⟩ : ∃ z0 z1, tv = [z0, z1] := by
      match tv, htv with
      | [z0, z1], _ => exact ⟨z0, z1, rfl⟩
    refine wa_name I'.wf 1 (I'.at_ (by rfl)) (I'.place (.inr (by rfl))) ⟨[z0, some (.fz d)], rfl, rfl, ?_⟩
    show WE C' E' _ [z0, some (.fz d), some (.fz (toldD v))] _ _
    have hf : Fails X (n + 1 + 9) G.gratio_power [toldD v, d] K.cas "domain" := by
      match i, hd with
      | 0, hd => cases hd; exact gs_far G K (by omega)
      | 1, hd => cases hd; exact gs_far G K (by decide)
      | 2, hd => cases hd; exact gs_farN G K (by omega) (by omega)
      | i + 3, hd => cases hd
    exact we_refused I' K Lp G.hgratio_power hq hnd (hcode'.trans hcode) hC (by rw [hqual', hqual]) (by rfl) (by rfl) (by rfl) (by rfl) (.inl (by rfl)) (.inl (by rfl)) (by rfl) (by decide) ⟨by decide, by rfl⟩ ⟨by decide, by rfl⟩ (by rfl) (by decide) rfl rfl rfl hf rfl
  · refine w_mulL I ?_
    one_item
    refine ⟨_, _, rfl, rfl, by decide, by decide, ?_⟩
    refine c_neL I (by rfl) ?_ ?_ ?_
    · simp [shpL, shp]
    · simp [deepL, deepD]
    · refine ⟨_, rfl, ?_⟩
      refine ⟨fun h => ?_, fun _ => ws_nil ⟨rfl, rfl⟩⟩
      exfalso
      revert h
      show ¬ (!(eqDL [.str "domain", .str "domain", .str "domain"] [.str "domain", .str "domain", .str "domain"])) = true
      decide

end
section

open PySem PySem.W PySem.Calls PyProof.Rows PySem.SeqAt


variable {X : Stx}
theorem three_at {k : Int} (h : 0 ≤ k) (h' : k < 3) : ∃ v : Int, (v = 1 ∨ v = -2 ∨ v = 3) ∧ [DV.int 1, DV.int (-2), DV.int 3][k.toNat]? = some (.int v) := by
  have : k = 0 ∨ k = 1 ∨ k = 2 := by omega
  rcases this with rfl | rfl | rfl
  · exact ⟨1, .inl rfl, rfl⟩
  · exact ⟨-2, .inr (.inl rfl), rfl⟩
  · exact ⟨3, .inr (.inr rfl), rfl⟩
theorem ws_if {C : Cx} {E : Value → Shared → Prop} {own : Own} {ρ : Locals} {N : Own → Locals → Prop} {R : Own → DV → Prop} {t : Expr} {b : List Stmt} {pos : Pos} {rest : List Stmt} (h1 : WT C E own ρ t fun c => c = false) (h2 : WS C E own ρ rest N R) : WS C E own ρ (.If t b [] pos :: rest) N R :=
  ws_cons (wx_if (wt_mono h1 fun c e => ⟨fun q => (by rw [e] at q; cases q), fun _ => ws_nil h2⟩))
theorem gdEq_selfX {l : List (Int × Int)} (h : (l.map (·.1)).Nodup) : gdEq (gx l) (gx l) = true := by
  refine gdEq_self ?_
  unfold gx
  rw [List.map_map]
  have key : ((l.map (·.1)).map kx).Nodup := List.Pairwise.map _ (fun a b h e => h (kx_inj.mp e)) h
  rw [List.map_map] at key
  exact key

set_option maxHeartbeats 16000000 in
theorem sum_tests (G : Prg X) {n : Nat} {own : Own} {C : Cx} {E : Value → Shared → Prop} (I : C.Is X (fnL 40) (fnS 40) (n + 12)) {m v : Int} {f : Nat} {lc : List (Int × Int)} {t : Option LV} (hv : v = 1 ∨ v = -2 ∨ v = 3) (h1 : 1 ≤ f) (h4 : f ≤ 4) (S : SumF v f lc) {N : Own → Locals → Prop} {R : Own → DV → Prop}
    (h : WS C E own [some .own, some (.fz (.int m)), some (.fz (kd (kx 1))), some (.fz (.int v)), some (.fz (.int f)), some (.fz (kd (kx 0))), some (.fz (.lst ((rowZ f).map .int))), t, some (.fz (.gd (gx (dueZ v f)))), some (.fz (.gd (gx [((f : Int), 1)]))), none, none, none, none, some (.fz (toldD v))] ((fnB 40).drop 8) N R) :
    WS C E own (frm m v f (rowZ f) t (some (.fz (.gd (gx (dueZ v f)))))) ((fnB 40).drop 5) N R := by
  conv => arg 5; whnf
  have hu := I.units
  have e1 : gdEq (gx [((f : Int), 1)]) (gx [((f : Int), 1)]) = true := gdEq_selfX (by simp)
  one_item
  refine we_dict I rfl rfl (by decide) (by decide) fun C2 I2 => ?_
  show WE C2 _ _ _ _ _
  one_item
  refine ⟨kx f, rfl, ?_⟩
  one_item
  refine ⟨(1, 1), rfl, by simp, (show 1 ≤ 100 by decide), ?_⟩
  show WS C E own [some .own, some (.fz (.int m)), some (.fz (kd (kx 1))), some (.fz (.int v)), some (.fz (.int f)), some (.fz (kd (kx 0))), some (.fz (.lst ((rowZ f).map .int))), t, some (.fz (.gd (gx (dueZ v f)))), some (.fz (.gd (gx [((f : Int), 1)]))), none, none, none, none, some (.fz (toldD v))] _ _ _
  refine ws_if ?_ (ws_if ?_ h)
  · one_item
    refine fn_at (gs_up G (n := n + 3) hv h1 h4 S) ?_
    one_item
    refine c_nePair (by omega) ?_
    rw [S.eq, e1]
    one_item
    refine fn_at (gs_down G (n := n + 3) hv h1 h4 S) ?_
    one_item
    refine c_nePair (by omega) ?_
    rw [S.eq, e1]
    one_item
    rfl
  · one_item
    refine fn_at (gratio_zero G (n := n + 3) _) ?_
    one_item
    refine we_dict I rfl rfl (by decide) (by decide) fun C3 I3 => ?_
    show WE C3 _ _ _ _ _
    one_item
    refine ⟨kx 0, rfl, ?_⟩
    one_item
    refine ⟨(1, 1), rfl, by simp, (show 1 ≤ 100 by decide), ?_⟩
    one_item
    refine we_dict I rfl rfl (by decide) (by decide) fun C3 I3 => ?_
    show WE C3 _ _ _ _ _
    one_item
    refine ⟨kx 0, rfl, ?_⟩
    one_item
    refine ⟨(1, 1), rfl, by simp, (show 1 ≤ 100 by decide), ?_⟩
    one_item
    refine c_neSame I (by simp) (by simp) ?_
    one_item
    rfl


end
section

open PySem PySem.W PySem.Calls PyProof.Rows PySem.SeqAt


variable {X : Stx}
noncomputable abbrev frm3 (m v : Int) (f : Nat) (t : Option LV) (T : Int) : Locals :=
  [some .own, some (.fz (.int m)), some (.fz (kd (kx 1))), some (.fz (.int v)), some (.fz (.int f)), some (.fz (kd (kx 0))), some (.fz (.lst ((rowZ f).map .int))), t, some (.fz (.gd (gx (dueZ v f)))), some (.fz (.gd (gx [((f : Int), 1)]))), some (.fz (.lst [.int T, .int (10 ^ 30)])), some (.fz symD), some (.fz (.tup [sD "pow", symD, numD m 1])), some (.fz (termD m v f)), some (.fz (toldD v))]

set_option maxHeartbeats 16000000 in
theorem sum_last (G : Prg X) {n : Nat} {a : Addr} {tabs : List (Pos × Str × Addr)} {C : Cx} {E : Value → Shared → Prop} (I : C.Is X (fnL 40) (fnS 40) (n + 12)) {m v T : Int} {f : Nat} {lc : List (Int × Int)} {t : Option LV} (hm : 2 ≤ m) (hm2 : m < 2 ^ 60) (hv : v = 1 ∨ v = -2 ∨ v = 3) (h1 : 1 ≤ f) (h4 : f ≤ 4) (S : SumF v f lc) :
    WS C E (.law a none tabs) (frm3 m v f t T) ((fnB 40).drop 14) (fun o' _ => o' = .law a none tabs ∧ DV.none = .bool true) (fun o' d => o' = .law a none tabs ∧ d = .bool true) := by
  conv => arg 5; whnf
  one_item
  · refine fn_at (gs_term G (n := n) (m := m) (by omega) (by omega) hv h1 h4 S) ?_
    one_item
    refine fn_at (gs_limit G (n := n + 4) (m := m) S) ?_
    one_item
    refine c_leafStr I (h := ?_) ⟨rfl, rfl⟩
    have hgt : m > f := by assumption
    unfold farV sgnZ
    rw [if_pos (show m - f > 0 by omega)]
    rfl
  · refine fn_at (gs_term G (n := n) (m := m) (by omega) (by omega) hv h1 h4 S) ?_
    one_item
    refine fn_at (gs_limit G (n := n + 4) (m := m) S) ?_
    one_item
    refine c_leafRd I (r := (0, 1)) ?_ ⟨rfl, rfl⟩
    have hlt : m < f := by assumption
    unfold farV sgnZ
    rw [if_neg (show ¬ m - f > 0 by omega), if_pos (show m - f < 0 by omega)]
    rfl
  · refine fn_at (gs_term G (n := n) (m := m) (by omega) (by omega) hv h1 h4 S) ?_
    one_item
    refine fn_at (gs_limit G (n := n + 4) (m := m) S) ?_
    one_item
    refine c_leafRd I (r := (1, 1)) ?_ ⟨rfl, rfl⟩
    have hgt : ¬ m > f := by assumption
    have hlt : ¬ m < f := by assumption
    unfold farV sgnZ
    rw [if_neg (show ¬ m - f > 0 by omega), if_neg (show ¬ m - f < 0 by omega)]
    rfl

set_option maxHeartbeats 16000000 in
theorem sum_end (G : Prg X) {n : Nat} {a : Addr} {tabs : List (Pos × Str × Addr)} {C : Cx} {E : Value → Shared → Prop} (I : C.Is X (fnL 40) (fnS 40) (n + 12)) {m v T : Int} {f : Nat} {lc : List (Int × Int)} {t : Option LV} (hm : 2 ≤ m) (hm2 : m < 2 ^ 60) (hv : v = 1 ∨ v = -2 ∨ v = 3) (h1 : 1 ≤ f) (h4 : f ≤ 4) (S : SumF v f lc) :
    WS C E (.law a none tabs) (frm2 m v f t T) ((fnB 40).drop 10) (fun o' _ => o' = .law a none tabs ∧ DV.none = .bool true) (fun o' d => o' = .law a none tabs ∧ d = .bool true) := by
  conv => arg 5; whnf
  have hu := I.units
  have e1 : gdEq (gx [(m, 1)]) (gx [(m, 1)]) = true := gdEq_selfX (by simp)
  refine ws_if ?_ ?_
  · one_item
    refine we_dict I rfl rfl (by decide) (by decide) fun C3 I3 => ?_
    show WE C3 _ _ _ _ _
    one_item
    refine ⟨kx 1, rfl, ?_⟩
    one_item
    refine ⟨(1, 1), rfl, by simp, (show 1 ≤ 100 by decide), ?_⟩
    one_item
    refine fn_at (gs_nil G (n := n + 3) (m := m) (by omega) (by omega)) ?_
    one_item
    refine we_dict I rfl rfl (by decide) (by decide) fun C3 I3 => ?_
    show WE C3 _ _ _ _ _
    one_item
    refine ⟨kx m, rfl, ?_⟩
    one_item
    refine ⟨(1, 1), rfl, by simp, (show 1 ≤ 100 by decide), ?_⟩
    one_item
    refine c_nePair (by omega) ?_
    show ∃ b, DV.bool (!(gdEq [] [] && gdEq (gx [(m, 1)]) (gx [(m, 1)]))) = DV.bool b ∧ b = false
    rw [e1]
    exact ⟨_, rfl, rfl⟩
  · refine ws_cons (x_set I (by rfl) (by rfl) (we_mono (P := fun d => d = symD) ?_ fun d hd => ?_))
    · one_item
      rfl
    subst hd
    show WS C E (.law a none tabs) [some .own, some (.fz (.int m)), some (.fz (kd (kx 1))), some (.fz (.int v)), some (.fz (.int f)), some (.fz (kd (kx 0))), some (.fz (.lst ((rowZ f).map .int))), t, some (.fz (.gd (gx (dueZ v f)))), some (.fz (.gd (gx [((f : Int), 1)]))), some (.fz (.lst [.int T, .int (10 ^ 30)])), some (.fz symD), none, none, some (.fz (toldD v))] _ _ _
    refine ws_cons (x_set I (by rfl) (by rfl) (we_mono (P := fun d => d = .tup [sD "pow", symD, numD m 1]) ?_ fun d hd => ?_))
    · one_item
      rfl
    subst hd
    show WS C E (.law a none tabs) [some .own, some (.fz (.int m)), some (.fz (kd (kx 1))), some (.fz (.int v)), some (.fz (.int f)), some (.fz (kd (kx 0))), some (.fz (.lst ((rowZ f).map .int))), t, some (.fz (.gd (gx (dueZ v f)))), some (.fz (.gd (gx [((f : Int), 1)]))), some (.fz (.lst [.int T, .int (10 ^ 30)])), some (.fz symD), some (.fz (.tup [sD "pow", symD, numD m 1])), none, some (.fz (toldD v))] _ _ _
    refine ws_cons (x_set I (by rfl) (by rfl) (we_mono (P := fun d => d = termD m v f) ?_ fun d hd => ?_))
    · one_item
      rfl
    subst hd
    exact sum_last G I hm hm2 hv h1 h4 S

end
section

open PySem PySem.W PySem.Calls PyProof.Rows PySem.SeqAt


variable {X : Stx}
theorem times_none {L f : Addr} {x : Str} {ps : Arguments} {body : List Stmt} {pm cd doc : Value} : (callEnvC (docDef x ps body (fnS 40) pm cd doc) L f).cells.lookup (Str.ofString "times") = none := rfl

set_option maxHeartbeats 16000000 in
theorem sum_ok (G : Prg X) (K : Cas X) (Lp : LawP X) {n : Nat} {a Pt : Addr} {tabs : List (Pos × Str × Addr)} (hnd : (tabs.map (·.2.2)).Nodup) (hT : TabFor X Lp.sum Pt)
    (hq : (⟨224, 21, 224, 54⟩, Str.ofString "_law_sum_right" ++ ".<locals>." ++ "<lambda>", Pt) ∈ tabs) (m : Int) (hm : 2 ≤ m) (hm2 : m < 2 ^ 60) :
    FnG X (n + 13) Lp.sum (.law a none tabs) [.own, .fz (.int m)] (fun o' d => o' = .law a none tabs ∧ d = .bool true) noK := by
  refine fn_enterE G.wf Lp.hsum (fnA 40) (fnL 40) (by one_sign) rfl rfl (by decide +kernel) (by decide +kernel) (by decide +kernel) rfl rfl rfl (fun _ _ _ _ _ _ _ h => h.elim) fun C E I hD hee _ hE => ?_
  obtain ⟨⟨cc, hcode, hC⟩, hqual⟩ := tab_env hT hee
  have hct : C.env.cells.lookup (Str.ofString "times") = none := by
    obtain ⟨L, ob, pm, cd, doc, _, _, e⟩ := hee
    rw [e]
    exact times_none
  show WS C E (.law a none tabs) [some .own, some (.fz (.int m)), none, none, none, none, none, none, none, none, none, none, none, none, none] (fnB 40) _ _
  conv => arg 5; whnf
  refine ws_cons (x_unpk3 I (by rfl) (.inl (by rfl)) (by rfl) (.inr (by rfl)) (by rfl) (.inr (by rfl)) (hw := I.swap fun _ => by rfl) ?_)
  one_item
  refine take_at G Lp ⟨by decide, fun k1 hk1 hk1' => ?_⟩
  obtain ⟨v, hv, hget⟩ := three_at hk1 hk1'
  refine item_lst (e := .int v) hk1 (by omega) hget ?_
  one_item
  refine take_at G Lp ⟨by decide, fun k2 hk2 hk2' => ?_⟩
  obtain ⟨f, hf, h1, h4⟩ : ∃ f : Nat, 1 + k2 = (f : Int) ∧ 1 ≤ f ∧ f ≤ 4 := ⟨(1 + k2).toNat, by omega, by omega, by omega⟩
  obtain ⟨lc, S⟩ := sumF hv h1 h4
  refine bin_add ?_
  rw [hf]
  refine wl_nil ⟨le1000 (by rfl), _, _, _, rfl, ?_⟩
  show WS C E (.law a none tabs) [some .own, some (.fz (.int m)), some (.fz (kd (kx 1))), some (.fz (.int v)), some (.fz (.int f)), none, none, none, none, none, none, none, none, none, none] _ _ _
  refine ws_cons (x_set I (by rfl) (by rfl) (we_mono (P := fun d => d = kd (kx 0)) ?_ fun d hd => ?_))
  · one_item
    rfl
  subst hd
  show WS C E (.law a none tabs) [some .own, some (.fz (.int m)), some (.fz (kd (kx 1))), some (.fz (.int v)), some (.fz (.int f)), some (.fz (kd (kx 0))), none, none, none, none, none, none, none, none, none] _ _ _
  refine ws_cons (x_unpk2 I (by rfl) (.inr (by rfl)) (by rfl) (.inr (by rfl)) (hw := I.swap fun _ => by rfl) (we_mono (P := fun d => d = .tup [toldD v, .lst [.int 1]]) ?_ fun d hd => ?_))
  · one_item
    refine we_dict I rfl rfl (by decide) (by decide) fun C2 I2 => ?_
    show WE C2 _ _ _ _ _
    one_item
    refine ⟨kx 1, rfl, ?_⟩
    one_item
    refine ⟨(1, 1), rfl, ?_⟩
    show WE C2 _ _ _ _ _
    one_item
    refine ⟨kx 0, rfl, ?_⟩
    one_item
    refine ⟨(v, 1), rfl, by simp [kx], (show 2 ≤ 100 by decide), ?_⟩
    one_item
    refine we_dict I rfl rfl (by decide) (by decide) fun C2 I2 => ?_
    show WE C2 _ _ _ _ _
    one_item
    refine ⟨kx 1, rfl, ?_⟩
    one_item
    refine ⟨(1, 1), rfl, by simp, (show 1 ≤ 100 by decide), ?_⟩
    one_item
    rfl
  subst hd
  refine ⟨_, _, rfl, ?_⟩
  show WS C E (.law a none tabs) (frm m v f [1] none none) _ _ _
  refine ws_seq (sum_loop G (n := n) I h4) ?_
  rintro _ _ ⟨rfl, t, rfl⟩
  refine ws_seq (sum_due G (n := n) I hv h4) ?_
  rintro _ _ ⟨rfl, rfl⟩
  refine sum_tests G (n := n) I hv h1 h4 S ?_
  conv => arg 5; whnf
  refine ws_cons (x_set I (by rfl) (by rfl) (we_mono (P := fun d => ∃ T : Int, 201 ≤ T ∧ T ≤ 1200 ∧ d = .lst [.int T, .int (10 ^ 30)]) ?_ fun d hd => ?_))
  · one_item
    refine take_at G Lp ⟨by decide, fun k3 hk3 hk3' => ?_⟩
    one_item
    show Bin C.X C.A (binaryOp .Pow) (.int 10) (.int 30) _
    refine bin_pow (by decide) (by decide) ?_
    one_item
    exact ⟨201 + k3, by omega, by omega, rfl⟩
  obtain ⟨T, hT1, hT2, rfl⟩ := hd
  show WS C E (.law a none tabs) (frm2 m v f t T) _ _ _
  refine ws_seq (sum_refuse G K Lp hnd (n := n) I hcode hC hqual hct hq hT1 hT2) ?_
  rintro _ _ ⟨rfl, rfl⟩
  exact sum_end G I hm hm2 hv h1 h4 S

end
section

open PySem PySem.W PySem.Calls PyProof.Rows PySem.SeqAt


section
variable {C : Cx} {E : Value → Shared → Prop} {own : Own} {ρ : Locals} {N : Own → Locals → Prop} {R : Own → DV → Prop} {X : Stx} {ns : List Str} {sc : Scope} {n : Nat} {tabs : List (Pos × Str × Addr)}

theorem ints_of_rd {g : G} : ∀ {vs : List Value} {ks : List Int}, RdL g vs (ks.map .int) → IntsAre vs ks
  | _, [], h => by cases h; exact .nil
  | _, k :: ks, h => by
    cases h with
    | cons a b =>
    cases a
    exact .cons _ _ (ints_of_rd b)

/-- e[:k] of a list of whole numbers -/
theorem w_slice (I : C.Is X ns sc n) {e : Expr} {k : Int} {kk : Nat} {pp p pos : Pos} {P : DV → Prop} (h : WE C E own ρ e fun d => ∃ l : List Int, d = .lst (l.map .int) ∧ l.length ≤ 100 ∧ ∀ m : List Int, m.length ≤ 100 → P (.lst (m.map .int)))
    (ht : ∀ o r, letTemporaryGo e o r = pure () := by intro _ _; rfl) :
    WE C E own ρ (.Subscript e (.Slice none (some (.Constant (.int k) kk pp)) none p) pos) P := fun g s S => by
  have W := I.wf
  refine wpAny_Subscript_list_slice (WE.on h S (fun v s1 g1 d l1 S1 r1 ⟨l, hd, hlen, hP⟩ => wpAny_evalPart_none (wpAny_evalPart_some (wpAny_Constant_int ?_)))) ht
  subst hd
  cases r1 with
  | @lst a o its nn _ a1 a2 a3 a4 =>
  have hsz : its.size = l.length := by rw [← Array.length_toList, a4.length, List.length_map]
  refine ⟨a, its, none, some k, rfl, ⟨o, S1.le _ _ a1, a2, nn, a3⟩, by rw [hsz, sizeLine_eq]; omega, .none, .int _ _, ?_⟩
  have hi := ints_of_rd a4
  have e0 : slicePick its none (some k) none = slicePick its (some 0) (some k) none := by
    unfold slicePick sliceBounds
    have : (max 0 (min 0 (its.size : Int))) = 0 := by omega
    simp [this]
  have hi2 := slice_ints_plain hi 0 k
  have e1 : its.toList.toArray = its := by simp
  rw [e1, ← e0] at hi2
  generalize hms : ((l.drop (clipAt l.length 0)).take (clipAt l.length k - clipAt l.length 0)) = ms at hi2
  have hml : ms.length ≤ 100 := by
    rw [← hms, List.length_take, List.length_drop]; omega
  have S2 := S1.keep W (t := s1.toks + 1) (h' := s1.heap.push { cls := .type "slice", data := .fields #[.none, .int k s1.toks, .none] }) fun _ _ e => Heap.get?_push_of_some _ e
  obtain ⟨l5, S5⟩ := S2.push1 W (t := s1.toks + 1) (A := s1.heap.objs.size + 1) (o := { cls := .type "list", data := .seq (slicePick its none (some k) none) }) (h' := (s1.heap.push { cls := .type "slice", data := .fields #[.none, .int k s1.toks, .none] }).push { cls := .type "list", data := .seq (slicePick its none (some k) none) }) (fun _ _ e => Heap.get?_push_of_some _ e)
    (by have := fresh_none (s1.heap.push { cls := .type "slice", data := .fields #[.none, .int k s1.toks, .none] }); rw [Heap.size_push] at this; exact this)
    (by have := Heap.get?_push_size (s1.heap.push { cls := .type "slice", data := .fields #[.none, .int k s1.toks, .none] }) (o := { cls := .type "list", data := .seq (slicePick its none (some k) none) }) rfl; rw [Heap.size_push] at this; exact this)
  exact ⟨_, _, l1.trans l5, S5, .lst (if_pos rfl) rfl rfl (ints_rd hi2), hP ms hml⟩

/-- the box is made -/
theorem St.box (W : C.Wf) {g : G} {s : Shared} {D : Addr} (S : St C (.tb tabs) ρ g s) (F : Fresh C (.tb tabs) g D) (hO : OwnOk g s.heap C.frs (.law D none tabs)) : St C (.law D none tabs) ρ g s := by
  have hne : ∀ {c}, c ≠ D → c ∉ (Own.tb tabs).addrs → c ∉ (Own.law D none tabs).addrs := fun h h2 => by
    show _ ∉ D :: tabs.map (·.2.2)
    rw [List.mem_cons]
    rintro (q | q)
    · exact h q
    · exact h2 q
  have hρ : ∀ {v : Value} {d : LV}, VR g (.tb tabs) v d → VR g (.law D none tabs) v d := fun {v d} x => by
    cases d with
    | fz d => exact x
    | own => obtain ⟨_, e, _⟩ := x; cases e
    | fn f H => exact x
  refine ⟨S.step, hO, S.frs, S.frf, S.lfree, hne (Ne.symm F.loc) S.lown, fun x c hc => ?_, ?_, fun p hp => ?_, fun c hc => ?_⟩
  · obtain ⟨c1, c2, c3, r⟩ := S.cells x c hc
    exact ⟨c1, c2, hne (fun e => F.cells x (e ▸ hc)) c3, r⟩
  · obtain ⟨m, hn, hv⟩ := S.vars
    refine ⟨m, hn, fun i x d h1 h2 => ?_⟩
    obtain ⟨v, h3, h4⟩ := hv i x d h1 h2
    exact ⟨v, h3, hρ h4⟩
  · obtain ⟨h1, h2, h3⟩ := S.prot p hp
    exact ⟨h1, h2, hne (F.prot p hp) h3⟩
  · rcases List.mem_cons.mp hc with e | e
    · rw [e]; exact .inr F.s0
    · exact S.whole c e

theorem x_box (I : C.Is X ns sc n) {i : Nat} {x : Str} {e : Expr} {p1 pc p2 pos : Pos} {kk : Nat} (hi : idx ns x 0 = some i) (hk : sc.names.lookup x = some .local)
    (h : WE C E (.tb tabs) ρ e fun d => ∃ l : List Int, d = .lst (l.map .int) ∧ l.length ≤ 100 ∧ ∀ a, N (.law a none tabs) (ρ.set i (some .own)))
    (he : starEach (e :: [.Constant (.int 0) kk pc]) C.env = (false, eval e C.env) :: starEach [.Constant (.int 0) kk pc] C.env := by rfl)
    (hs : swapsWith (.List [e, .Constant (.int 0) kk pc] p2) (some (.Name x p1)) pos.line C.env = pure false := by rfl) :
    WX C E (.tb tabs) ρ (.Assign [.Name x p1] (.List [e, .Constant (.int 0) kk pc] p2) pos) N R := fun g s S => by
  have W := I.wf
  have hwl : WL C E (.tb tabs) ρ [e, .Constant (.int 0) kk pc] (fun ds => ∃ l : List Int, ds = [.lst (l.map .int), .int 0] ∧ l.length ≤ 100 ∧ ∀ a, N (.law a none tabs) (ρ.set i (some .own))) :=
    wl_cons (we_mono h fun d ⟨l, hd, h1, h2⟩ => by subst hd; exact wl_cons (we_int (wl_nil ⟨l, rfl, h1, h2⟩))) he
  refine wpAny_Assign_Name (List_ (WL.on hwl p2 S (fun vs s1 g1 ds l1 S1 r1 ⟨l, hd, hlen, hN⟩ => ?_))) hs
  subst hd
  cases r1 using RdL.consE with
  | cons ra r1 =>
  cases r1 using RdL.consE with
  | cons rb r1 =>
  cases r1 using RdL.nilE
  cases rb using Rd.intE with
  | int t =>
  cases ra using Rd.lstE with
  | @lst b o its nn a1 a2 a3 a4 =>
  refine wpAny_newObj_type ?_ (by show 2 ≤ sizeLine; rw [sizeLine_eq]; omega)
  have S2 : St C (.tb tabs) ρ g1 { s1 with heap := s1.heap.push { cls := .type "list", data := .seq [.ref b, .int 0 t].toArray } } := S1.keep W (t := s1.toks) fun _ _ e => Heap.get?_push_of_some _ e
  have F := fresh_new W S1 (fresh_none s1.heap)
  have hO : OwnOk g1 (s1.heap.push { cls := .type "list", data := .seq [.ref b, .int 0 t].toArray }) C.frs (.law s1.heap.objs.size none tabs) := by
    refine ⟨F.gn, F.frs, ⟨_, 0, b, 0, t, l, Heap.get?_push_size _ rfl, rfl, rfl, ⟨by decide, fun _ h => nomatch h⟩, hlen, .lst a1 a2 a3 a4⟩, fun q hq => ?_⟩
    obtain ⟨q1, q2, q3⟩ := S2.hown q hq
    exact ⟨q1, fun e => F.own (by rw [← e]; exact List.mem_map.mpr ⟨q, hq, rfl⟩), q2, q3⟩
  have S3 := S2.box W F hO
  exact wpAny_mono (st_store W S3 (I.at_ hi) (.inl (I.kind hk)) (d := .own) ⟨_, rfl, rfl⟩) (fun _ s2 S5 => .next g1 _ _ l1 S5 (hN _)) fun _ _ x => x

theorem we_and2 {e1 e2 : Expr} {pos : Pos} {P : DV → Prop} (h : WE C E own ρ e1 fun d => d = .bool true ∧ WE C E own ρ e2 P) : WE C E own ρ (.BoolOp .And [e1, e2] pos) P := fun g s S =>
  BoolOp_and (WE.on h S (fun v s1 g1 d l1 S1 r1 ⟨hd, h2⟩ => by
    subst hd
    cases r1 using Rd.boolE
    refine wpAny_truthy_bool ?_
    refine BoolOp_one (WE.on h2 S1 (fun u s2 g2 d2 l2 S2 r2 hp => ⟨g2, d2, l1.trans l2, S2, r2, hp⟩))))
end
variable {X : Stx}
theorem four_at {k : Int} (h : 0 ≤ k) (h' : k < 4) : ∃ v : Int, 2 ≤ v ∧ v ≤ 10 ^ 9 ∧ [DV.int 2, DV.int (10 ^ 9), DV.int 3, DV.int 1000][k.toNat]? = some (.int v) := by
  have : k = 0 ∨ k = 1 ∨ k = 2 ∨ k = 3 := by omega
  rcases this with rfl | rfl | rfl | rfl
  · exact ⟨2, by decide, by decide, rfl⟩
  · exact ⟨10 ^ 9, by decide, by decide, rfl⟩
  · exact ⟨3, by decide, by decide, rfl⟩
  · exact ⟨1000, by decide, by decide, rfl⟩

set_option maxHeartbeats 16000000 in
theorem law_ws (G : Prg X) (K : Cas X) (Lp : LawP X) {n : Nat} {tabs : List (Pos × Str × Addr)} (hnd : (tabs.map (·.2.2)).Nodup) {P1 P2 : Addr} (hT1 : TabFor X Lp.single P1) (hT2 : TabFor X Lp.sum P2)
    (hq1 : (⟨201, 28, 201, 61⟩, Str.ofString "_law_single_right" ++ ".<locals>." ++ "<lambda>", P1) ∈ tabs) (hq2 : (⟨224, 21, 224, 54⟩, Str.ofString "_law_sum_right" ++ ".<locals>." ++ "<lambda>", P2) ∈ tabs)
    {C : Cx} {E : Value → Shared → Prop} (I : C.Is X (fnL 41) (fnS 41) (n + 13)) (l : List Int) (hl : l.length ≤ 100) :
    WS C E (.tb tabs) [some (.fz (.lst (l.map .int))), none, none] (fnB 41) (fun _ _ => False) (fun o' d => ∃ a, o' = .law a none tabs ∧ d = .bool true) := by
  conv => arg 5; whnf
  refine ws_cons (x_box I (by rfl) (by rfl) (w_list I G.list (by rfl) (w_slice I (we_nm I (by rfl) (by rfl) ⟨l, rfl, hl, fun m hm => ⟨_, .inr rfl, by rw [List.length_map]; omega, m, rfl, hm, fun a => ?_⟩⟩))))
  show WS C E (.law a none tabs) [some (.fz (.lst (l.map .int))), some .own, none] _ _ _
  refine ws_cons (x_set I (by rfl) (by rfl) (we_mono (P := fun d => ∃ m : Int, 2 ≤ m ∧ m ≤ 10 ^ 9 + 2 ∧ d = .int m) ?_ fun d hd => ?_))
  · one_item
    show Bin C.X C.A (binaryOp .Pow) (.int 10) (.int 9) _
    refine bin_pow (by decide) (by decide) ?_
    one_item
    refine take_at G Lp ⟨by decide, fun k1 hk1 hk1' => ?_⟩
    obtain ⟨v, hv, hv2, hget⟩ := four_at hk1 hk1'
    refine item_lst (e := .int v) hk1 (by omega) hget ?_
    one_item
    refine take_at G Lp ⟨by decide, fun k2 hk2 hk2' => ?_⟩
    one_item
    exact ⟨v + k2, by omega, by omega, rfl⟩
  obtain ⟨m, hm, hm2, rfl⟩ := hd
  show WS C E (.law a none tabs) [some (.fz (.lst (l.map .int))), some .own, some (.fz (.int m))] _ _ _
  refine ws_cons (x_set I (by rfl) (by rfl) (we_mono (P := fun d => ∃ m : Int, 2 ≤ m ∧ m < 2 ^ 60 ∧ d = .int m) ?_ fun d hd => ?_))
  · one_item
    · exact ⟨m, hm, by omega, rfl⟩
    · refine take_at G Lp ⟨by decide, fun k3 hk3 hk3' => ?_⟩
      one_item
      · exact ⟨m, hm, by omega, rfl⟩
      · show Bin C.X C.A (binaryOp .Pow) (.int 10) (.int 9) _
        refine bin_pow (by decide) (by decide) ?_
        one_item
        refine ⟨m + 10 ^ (9 : Int).toNat, ?_, ?_, rfl⟩
        · show 2 ≤ m + 10 ^ 9; omega
        · show m + 10 ^ 9 < 2 ^ 60; omega
  obtain ⟨m', hm', hm2', rfl⟩ := hd
  show WS C E (.law a none tabs) [some (.fz (.lst (l.map .int))), some .own, some (.fz (.int m'))] _ _ _
  refine ws_cons (x_ret I (we_and2 (we_callO I Lp.hsingle (by rfl) (by rfl) (by rfl) (wl_cons (we_nm I (by rfl) (by rfl) (wl_nil (fnG_mono (single_ok G K Lp hnd hT1 hq1 m' hm' hm2') (Nat.le_refl _) fun o d ⟨h1, h2⟩ => ⟨h1, h2, ?_⟩)))))))
  refine we_callO I Lp.hsum (by rfl) (by rfl) (by rfl) (wl_cons (we_nm I (by rfl) (by rfl) (wl_nil (fnG_mono (sum_ok G K Lp hnd hT2 hq2 m' hm' hm2') (Nat.le_refl _) fun o d ⟨h1, h2⟩ => ⟨h1, a, rfl, h2⟩))))

end
section

open PySem PySem.W PySem.Calls PyProof.Rows PySem.SeqAt

/-- what a well-formed text is of -/
noncomputable abbrev Stx.Wf.st {X : Stx} (_ : X.Wf) : Stx := X
noncomputable abbrev q1 : Str := Str.ofString "_law_single_right" ++ ".<locals>." ++ "<lambda>"
noncomputable abbrev q2 : Str := Str.ofString "_law_sum_right" ++ ".<locals>." ++ "<lambda>"
noncomputable abbrev tabs2 (P1 P2 : Addr) : List (Pos × Str × Addr) := [(⟨201, 28, 201, 61⟩, q1, P1), (⟨224, 21, 224, 54⟩, q2, P2)]

theorem caller_roomy (env : Env) : Roomy (callerA.deeper env) 20 := by
  constructor
  · show 1 + claimMargin + 1 + 20 < recursionLimit; decide
  · show 4 + 3 + 4 * 20 + 50 < cLine; decide

set_option maxHeartbeats 4000000 in
theorem law_run {X : Stx} (G : Prg X) (K : Cas X) (Lp : LawP X) {P1 P2 : Addr} (hT1 : TabFor X Lp.single P1) (hT2 : TabFor X Lp.sum P2) (hP : P1 ≠ P2) {s : Shared} {h₁ : Heap} {tk : Nat} {L fa a : Addr} {cd : Value} {m : Str → Option Value} (F : Fr X.h0 L h₁ m)
    (hm : m (Str.ofString "script") = some (.ref a)) {vs : List Value} (hL : X.h0.IsList a vs.toArray) {l : List Int} (hi : IntsAre vs l) (hl : l.length ≤ 100)
    (n1 : h₁.get? P1 = some (tabObj #[]) ∧ P1 ≠ L ∧ X.h0.get? P1 = none) (n2 : h₁.get? P2 = some (tabObj #[]) ∧ P2 ≠ L ∧ X.h0.get? P2 = none) {Q : Flow → Shared → Prop} {E : Value → Shared → Prop}
    (hQ : ∀ s', (∀ b o, X.h0.get? b = some o → s'.heap.get? b = some o) → s'.gens = s.gens → s'.os = s.os → GrownAt P1 s'.heap → GrownAt P2 s'.heap → Q (.ret (.bool true)) s') :
    wpAny (model X.prog X.w) (callerA.deeper (envOf (Str.ofString "law") (fnS 41) L fa cd)) (execs (fnB 41) (envOf (Str.ofString "law") (fnS 41) L fa cd)) Q E { heap := h₁, gens := s.gens, drawn := s.drawn, toks := tk, os := s.os } := by
  have hL0 : X.h0.get? L = none := by
    cases e : X.h0.get? L with
    | none => rfl
    | some o => exact absurd (Nat.lt_of_lt_of_le (Heap.lt_size e) F.above) (Nat.lt_irrefl _)
  let env := envOf (Str.ofString "law") (fnS 41) L fa cd
  let C : Cx := { X := X, A := callerA.deeper env, env := env, stk := [env], fr := [], g0 := X.h0.get?, s0 := { heap := X.h0, gens := s.gens, drawn := s.drawn, toks := tk, os := s.os }, D := [], names := fnL 41, room := 20 }
  have hfrs : C.frs = [L] := rfl
  have I : C.Is X (fnL 41) (fnS 41) (7 + 13) := by
    refine ⟨⟨G.wf, Le.refl _, Le.refl _, rfl, rfl, rfl, (show (fnL 41).Nodup by decide +kernel), fun L' hL' => ?_, fun _ _ _ e => (nomatch e), hL0, fun _ _ _ e => (nomatch e), fun _ _ e => (nomatch e), fun _ h => (nomatch h), rfl, rfl, caller_roomy env, fun _ h => (nomatch h)⟩, rfl, rfl, rfl, rfl, fun _ h => (nomatch h), fun x hx => ?_⟩
    · rw [hfrs, List.mem_singleton] at hL'
      subst hL'
      exact .inl hL0
    · exfalso
      have key : ∀ z ∈ (fnS 41).names, z.2 ≠ .cell ∧ z.2 ≠ .free := by decide +kernel
      rcases hx with q | q
      · exact (key _ (lookup_mem' q)).1 rfl
      · exact (key _ (lookup_mem' q)).2 rfl
  obtain ⟨o, ho, hc, nn, hd⟩ := hL
  have S : St C (.tb (tabs2 P1 P2)) [some (.fz (.lst (l.map .int))), none, none] X.h0.get? { heap := h₁, gens := s.gens, drawn := s.drawn, toks := tk, os := s.os } := by
    refine ⟨⟨fun b hb => ?_, fun b o e _ => .inl (F.keep b o e), fun _ _ => rfl, fun b o e => F.keep b o e, rfl, rfl, rfl⟩, ?_, ?_, fun b hb => ?_, hL0, ?_, fun _ _ e => (nomatch e), ⟨m, F.ns, fun i x d h1 h2 => ?_⟩, fun _ h => (nomatch h), fun b hb => ?_⟩
    · obtain ⟨o, e⟩ := Option.ne_none_iff_exists'.mp hb
      exact isn (F.keep b o e)
    · intro q hq
      simp only [List.mem_cons, List.not_mem_nil, or_false] at hq
      rcases hq with rfl | rfl
      · exact ⟨n1.2.2, by rw [hfrs]; simpa using n1.2.1, #[], n1.1, .inl rfl⟩
      · exact ⟨n2.2.2, by rw [hfrs]; simpa using n2.2.1, #[], n2.1, .inl rfl⟩
    · exact Heap.FunFrames.cons (by show (fnS 41).kind ≠ .module; decide +kernel) rfl F.ns hL0 trivial
    · rw [hfrs, List.mem_singleton] at hb
      rw [hb]; exact hL0
    · show L ∉ [P1, P2]
      simp only [List.mem_cons, List.not_mem_nil, or_false, not_or]
      exact ⟨Ne.symm n1.2.1, Ne.symm n2.2.1⟩
    · match i, h2 with
      | 0, h2 =>
        cases h2
        have : x = Str.ofString "script" := by cases h1; rfl
        subst this
        refine ⟨.ref a, .inl ⟨by rfl, hm⟩, ?_⟩
        exact .lst ho hc hd (by exact ints_rd hi)
      | 1, h2 => cases h2
      | 2, h2 => cases h2
      | i + 3, h2 => cases h2
    · have hb : b ∈ [P1, P2] := hb
      simp only [List.mem_cons, List.not_mem_nil, or_false] at hb
      rcases hb with rfl | rfl
      · exact .inr n1.2.2
      · exact .inr n2.2.2
  have W := law_ws G K Lp (n := 7) (tabs := tabs2 P1 P2) (by simp [hP]) hT1 hT2 (.head _) (.tail _ (.head _)) (E := E) I l hl X.h0.get? _ S
  refine wpAny_mono W (fun f s' x => ?_) fun _ _ x => x
  cases x with
  | next _ _ _ _ _ h => exact h.elim
  | ret v g' own' d hr hrd hD =>
    obtain ⟨D, hown, hdv⟩ := hD
    subst hown hdv
    cases hrd using Rd.boolE
    refine hQ s' (fun b o e => ?_) hr.1.gens hr.1.os ?_ ?_
    · rcases hr.1.keep b o e (fun h => nomatch h) with q | ⟨q, _⟩
      · exact q
      · exact nomatch q
    · cases (hr.2.2.2.2 _ (.head _)).2.2.2 with
      | mk ps hps => exact ⟨ps, hps⟩
    · cases (hr.2.2.2.2 _ (.tail _ (.head _))).2.2.2 with
      | mk ps hps => exact ⟨ps, hps⟩

section
variable {X : Stx} {K : Frag}
theorem defAt_of (X' : K.In X.h0) (gN : X.h0.Ns mainGlobals X.mg) {x : Str} {f c i : Nat} {o oc : Obj} {vs : Array Value} {t : Tok} {pm doc : Value} (h1 : nsIn K mainGlobals x = some (some (.ref f))) (h2 : K.lookup f = some o) (h3 : o.data = .func (docDef x (fnP i) (fnB i) (fnS i) pm (.ref c) doc))
    (h4 : K.lookup c = some oc) (h5 : oc.data = .fields vs) (h6 : vs[1]? = some (.str x t)) : DefAt X x f (fnP i) (fnB i) (fnS i) :=
  ⟨mg_of X' gN h1, o, pm, .ref c, doc, X' _ _ h2, h3, c, oc, vs, t, rfl, X' _ _ h4, h5, h6⟩
theorem tabFor_of (X' : K.In X.h0) {f c P : Nat} {o : Obj} {fd : FuncData} (h2 : K.lookup f = some o) (h3 : o.data = .func fd) (h4 : fd.code = .ref c) (hC : CodeHd X.h0 c P) : TabFor X f P := fun ob fd' e1 e2 => by
  rw [X' _ _ h2] at e1
  cases e1
  rw [h3] at e2
  cases e2
  exact ⟨c, h4, hC⟩
theorem rd2_of (X' : K.In X.h0) {a : Nat} {o : Obj} {x y : Int} {t u : Tok} {n : Nat} (h : K.lookup a = some o) (hc : o.cls = .type "tuple") (hd : o.data = .seq #[.int x t, .int y u] n) : Rd X.h0.get? (.ref a) (rd (x, y)) :=
  .tup (X' _ _ h) hc hd (.cons (.int _ _) (.cons (.int _ _) .nil))
theorem still_of (X' : K.In X.h0) {a b c : Nat} {o ob : Obj} {t : Tok} {n k : Nat} (h : K.lookup a = some o) (hc : o.cls = .type "tuple") (hd : o.data = .seq #[.ref b, .ref c, .int 0 t] n) (h2 : K.lookup b = some ob) (hc2 : ob.cls = .type "tuple") (hd2 : ob.data = .seq #[] k)
    (h3 : Rd X.h0.get? (.ref c) (rd (0, 1))) : Rd X.h0.get? (.ref a) (kd ([], (0, 1), 0)) :=
  .tup (X' _ _ h) hc hd (.cons (.tup (X' _ _ h2) hc2 hd2 .nil) (.cons h3 (.cons (.int _ _) .nil)))
theorem cas_of (X' : K.In X.h0) (gN : X.h0.Ns mainGlobals X.mg) {cas init N c : Nat} {o oi oN oc : Obj} {fd : FuncData} {nm q : Str} {bs : List Value} {sn : List Str} {sub : List Value} {ab : Bool} {col : Option Bool} {dd : Option Addr} {k0 k1 k2 k3 k5 : Option Value} {es : Array DictEntry} {ep : Nat} {vs : Array Value} {t : Tok}
    (h1 : nsIn K mainGlobals (Str.ofString "CasFail") = some (some (.ref cas))) (h2 : X.mg (Str.ofString "Exception") = none) (h3 : K.lookup cas = some o) (h4 : o = excClassObj nm q cas N bs EB true sn sub ab col dd k0 k1 k2 k3 k5 "Exception.__new__")
    (h5 : K.lookup N = some oN) (h6 : oN.data = .dict es ep) (h7 : StrKeys es) (n1 : nsFind es (Str.ofString "__init__") = some (.ref init)) (n2 : nsFind es (Str.ofString "__setattr__") = none) (n3 : nsFind es (Str.ofString "__getattribute__") = none) (n4 : nsFind es (Str.ofString "__getattr__") = none) (n5 : nsFind es (Str.ofString "kind") = none) (n6 : nsFind es (Str.ofString "text") = none)
    (f1 : K.lookup init = some oi) (f2 : oi.cls = .type "function") (f3 : oi.data = .func fd) (f4 : fd.body = .stmts iniB) (f5 : fd.scope = iniS) (f6 : fd.closure = []) (f7 : fd.globals = mainGlobals) (f8 : fd.builtins = builtinsNs)
    (f9 : ∀ a b c : Value, bindArgs fd ⟨[a, b, c], []⟩ = pure [((Str.ofString "self"), a), ((Str.ofString "kind"), b), ((Str.ofString "text"), c)]) (f10 : fd.code = .ref c) (f11 : K.lookup c = some oc) (f12 : oc.data = .fields vs) (f13 : vs[1]? = some (.str fd.qualname t)) : Nonempty (Cas X) :=
  ⟨{ cas := cas, init := init, at_ := mg_of X' gN h1, exc := h2,
     obj := ⟨nm, q, N, bs, sn, sub, ab, col, dd, k0, k1, k2, k3, k5, nsFind es, by rw [X' _ _ h3, h4], ⟨oN, es, ep, X' _ _ h5, h6, h7, fun _ => rfl⟩, n1, n2, n3, n4, n5, n6⟩,
     fn := ⟨oi, fd, X' _ _ f1, f2, f3, f4, f5, f6, f7, f8, f9, c, oc, vs, t, f10, X' _ _ f11, f12, f13⟩ }⟩
end

end
section
open PySem PySem.W PyProof.Rows
theorem post_ok (l : List Int) : PySem.Challenge.rw_rh0030_01.row.claim.post [ofPy (PyData.list (l.map PyData.int))] (WData.bool true) [ofPy (PyData.list (l.map PyData.int))] = true := by
  refine postW_of (X := true) (by rfl) ?_ rfl
  wtm_val
end
end GP
open PySem PySem.W PyProof.Rows
set_option maxRecDepth 100000 in
set_option maxHeartbeats 8000000 in
theorem PySem.Challenge.cw_rh0030_01_holds : PySem.Challenge.rw_rh0030_01.Holds := by
  w_on
  refine holds_law GP.okW fun said => ?_
  refine holds_open (q := GP.vq) (loose := [Str.ofString "STILL"]) (Xt := fun s => xlAt GP.vq GP.still s && recOk (RowW.records _) s) (XP := XL GP.vq GP.still) (Yf := (kmHook GP.KK GP.KA (fun _ => by kernel_rfl) [226, 219]).obs) (Ya := (kmHook GP.KK GP.KA (fun _ => by kernel_rfl) [226, 219]).val) (YP := (kmHook GP.KK GP.KA (fun _ => by kernel_rfl) [226, 219]).says) (N := 2628) ?hl (kmHook GP.KK GP.KA (fun _ => by kernel_rfl) [226, 219]).of (kmHook GP.KK GP.KA (fun _ => by kernel_rfl) [226, 219]).keeps (fun s e => xl_of s (Bool.and_eq_true_iff.mp e).1) XL.keeps (by rfl) (by rfl) (by rfl) (fun s e => recFacts_of (Bool.and_eq_true_iff.mp e).2) (by rfl) (by first | assumption | decide +kernel) (by decide +kernel) ⟨rfl, rfl, rfl, rfl, rfl, by decide +kernel⟩ ?hw ?hc
  case hl => exact GP.hlX
  case hw => w_witness2
  k_go0
  rename World => w
  rename Shared => s₁
  rename Frag.In _ _ => X'
  rename Top topProg _ _ _ _ _ => T'
  rename Fr _ _ _ _ => F'
  rename News _ _ _ _ => N'
  rename IntsAre _ _ => hI
  rename Shared.gens _ = #[] => hg
  rename ¬ _ => hlen
  have hw : GP.Stx.Wf ⟨PySem.Challenge.rw_rh0030_01.row.prog, w, _, _, _⟩ := ⟨T'.g, T'.b, T'.nolimit, T'.builtins⟩
  have gN := hw.g
  have G : GP.Prg _ := {
    wf := hw
    abs := mg_none_of X' gN (by k_is)
    max := mg_none_of X' gN (by k_is)
    len := mg_none_of X' gN (by k_is)
    sorted := mg_none_of X' gN (by k_is)
    tuple := mg_none_of X' gN (by k_is)
    list := mg_none_of X' gN (by k_is)
    dict := mg_none_of X' gN (by k_is)
    range := mg_none_of X' gN (by k_is)
    R0 := .ref 49
    hR0 := ⟨mg_of X' gN (by k_is), GP.rd2_of X' (a := 49) (by k_is) rfl rfl⟩
    R1 := .ref 50
    hR1 := ⟨mg_of X' gN (by k_is), GP.rd2_of X' (a := 50) (by k_is) rfl rfl⟩
    STILL := .ref 101
    hSTILL := ⟨mg_of X' gN (by k_is), GP.still_of X' (a := 101) (b := 100) (c := 49) (by k_is) rfl rfl (by k_is) rfl rfl (GP.rd2_of X' (a := 49) (by k_is) rfl rfl)⟩
    MB := .int 200000 248
    hMB := ⟨mg_of X' gN (by k_is), .int _ _⟩
    MT := .int 200 311
    hMT := ⟨mg_of X' gN (by k_is), .int _ _⟩
    MK := .int 1000 313
    hMK := ⟨mg_of X' gN (by k_is), .int _ _⟩
    gcd := 41
    hgcd := GP.defAt_of X' gN (f := 41) (c := 40) (i := 3) (by k_is) (by k_is) rfl (by k_is) rfl rfl
    rat := 57
    hrat := GP.defAt_of X' gN (f := 57) (c := 56) (i := 9) (by k_is) (by k_is) rfl (by k_is) rfl rfl
    radd := 64
    hradd := GP.defAt_of X' gN (f := 64) (c := 63) (i := 10) (by k_is) (by k_is) rfl (by k_is) rfl rfl
    rmul := 71
    hrmul := GP.defAt_of X' gN (f := 71) (c := 70) (i := 11) (by k_is) (by k_is) rfl (by k_is) rfl rfl
    rneg := 78
    hrneg := GP.defAt_of X' gN (f := 78) (c := 77) (i := 12) (by k_is) (by k_is) rfl (by k_is) rfl rfl
    rinv := 85
    hrinv := GP.defAt_of X' gN (f := 85) (c := 84) (i := 13) (by k_is) (by k_is) rfl (by k_is) rfl rfl
    rcompare := 99
    hrcompare := GP.defAt_of X' gN (f := 99) (c := 98) (i := 15) (by k_is) (by k_is) rfl (by k_is) rfl rfl
    bits_of := 48
    hbits_of := GP.defAt_of X' gN (f := 48) (c := 47) (i := 4) (by k_is) (by k_is) rfl (by k_is) rfl rfl
    rpower := 92
    hrpower := GP.defAt_of X' gN (f := 92) (c := 91) (i := 14) (by k_is) (by k_is) rfl (by k_is) rfl rfl
    ginsert := 108
    hginsert := GP.defAt_of X' gN (f := 108) (c := 107) (i := 20) (by k_is) (by k_is) rfl (by k_is) rfl rfl
    gadd := 115
    hgadd := GP.defAt_of X' gN (f := 115) (c := 114) (i := 21) (by k_is) (by k_is) rfl (by k_is) rfl rfl
    poly_sum := 120
    hpoly_sum := GP.defAt_of X' gN (f := 120) (c := 119) (i := 22) (by k_is) (by k_is) rfl (by k_is) rfl rfl
    kind_product := 127
    hkind_product := GP.defAt_of X' gN (f := 127) (c := 126) (i := 23) (by k_is) (by k_is) rfl (by k_is) rfl rfl
    gmul := 134
    hgmul := GP.defAt_of X' gN (f := 134) (c := 133) (i := 24) (by k_is) (by k_is) rfl (by k_is) rfl rfl
    kind_compare := 139
    hkind_compare := GP.defAt_of X' gN (f := 139) (c := 138) (i := 25) (by k_is) (by k_is) rfl (by k_is) rfl rfl
    fastest := 146
    hfastest := GP.defAt_of X' gN (f := 146) (c := 145) (i := 26) (by k_is) (by k_is) rfl (by k_is) rfl rfl
    gpower := 158
    hgpower := GP.defAt_of X' gN (f := 158) (c := 157) (i := 28) (by k_is) (by k_is) rfl (by k_is) rfl rfl
    gratio_power := 165
    hgratio_power := GP.defAt_of X' gN (f := 165) (c := 164) (i := 29) (by k_is) (by k_is) rfl (by k_is) rfl rfl
    growth_of := 177
    hgrowth_of := GP.defAt_of X' gN (f := 177) (c := 176) (i := 31) (by k_is) (by k_is) rfl (by k_is) rfl rfl
    growth_of_other := 184
    hgrowth_of_other := GP.defAt_of X' gN (f := 184) (c := 183) (i := 32) (by k_is) (by k_is) rfl (by k_is) rfl rfl
    far_limit := 191
    hfar_limit := GP.defAt_of X' gN (f := 191) (c := 190) (i := 33) (by k_is) (by k_is) rfl (by k_is) rfl rfl }
  obtain ⟨Lp, hs1, hs2⟩ : ∃ Lp : GP.LawP hw.st, Lp.single = 224 ∧ Lp.sum = 229 := ⟨{
    take := 198
    htake := GP.defAt_of X' gN (f := 198) (c := 197) (i := 35) (by k_is) (by k_is) rfl (by k_is) rfl rfl
    mark := 205
    hmark := GP.defAt_of X' gN (f := 205) (c := 204) (i := 36) (by k_is) (by k_is) rfl (by k_is) rfl rfl
    kind := 210
    hkind := GP.defAt_of X' gN (f := 210) (c := 209) (i := 37) (by k_is) (by k_is) rfl (by k_is) rfl rfl
    refused := 217
    hrefused := GP.defAt_of X' gN (f := 217) (c := 216) (i := 38) (by k_is) (by k_is) rfl (by k_is) rfl rfl
    single := 224
    hsingle := GP.defAt_of X' gN (f := 224) (c := 223) (i := 39) (by k_is) (by k_is) rfl (by k_is) rfl rfl
    sum := 229
    hsum := GP.defAt_of X' gN (f := 229) (c := 228) (i := 40) (by k_is) (by k_is) rfl (by k_is) rfl rfl
    bmain := T'.bmain }, rfl, rfl⟩
  obtain ⟨K⟩ := GP.cas_of (X := hw.st) X' gN (cas := 31) (init := 28) (N := 30) (c := 27) (by k_is) (mg_none_of X' gN (by k_is)) (by k_is) rfl (by k_is) rfl (by intro e he; simp at he; rcases he with rfl | rfl | rfl | rfl | rfl | rfl <;> exact ⟨_, _, rfl⟩) rfl rfl rfl rfl rfl rfl (by k_is) rfl rfl rfl rfl rfl rfl rfl (fun _ _ _ => rfl) rfl (by k_is) rfl rfl
  have hT1 : GP.TabFor hw.st Lp.single 219 := by rw [hs1]; exact GP.tabFor_of X' (f := 224) (c := 223) (by k_is) rfl rfl (by assumption)
  have hT2 : GP.TabFor hw.st Lp.sum 226 := by rw [hs2]; exact GP.tabFor_of X' (f := 229) (c := 228) (by k_is) rfl rfl (by assumption)
  refine GP.law_run (X := hw.st) G K Lp hT1 hT2 (by decide) (s := s₁) F' rfl lifted hI (by omega) (N' _ (.tail _ (.head _))) (N' _ (.head _)) (fun s' k1 k2 k3 k4 k5 => ?_)
  refine ⟨⟨.inl ⟨.bool true, .bool true, [], rfl, fun _ => rfl, .bool true, ?_, fun _ => ⟨.nil, fun _ h => nomatch h⟩⟩, k1, k3, k2.trans hg⟩, k5, k4, trivial⟩
  exact GP.post_ok _
