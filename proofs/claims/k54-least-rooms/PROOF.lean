import PyProof.Rows.All
import Wide.All
import OpenK.AllK
import Wide.FinOn
import HandS.TupMul
import HandS.SortInts
import HandS.List
import KE.DataMinMax
import KE.DatumOrd
import HandS.ForMost
import HandS.Flow
import HandS.Strs
import HandS.IsInst
import HandS.More
import HandS.Lambda
import KE.KDictKeyed
import KE.KeyNested
import HandS.TupAny
import HandS.DictComp
import KE.GoesMore
import HandS.Style
import HandS.SortKw
import HandS.Conv
import HandS.Deep
import HandS.WordsDict
import HandS.Iter
import HandS.SetFor
import HandS.ExcValue
import HandS.EndBits
import PyProof.IsRules
import HandS.Zip
import HandS.Codes
import HandS.WordsExc
import HandS.TryOnly
import HandS.TryMany
import HandS.ExcIs
import HandS.ExcField
import HandS.ExcBuiltin
import HandS.EndTab
import HandS.OwnEq
import HandS.Text
import HandS.RaiseMore
import KE.KIndexOf
import PyProof.EqKinds
import KE.KSuper
import KE.KExcSuper
import HandS.ExcInit
import KE.KExcIs
import KE.SortData
import HandS.TupLen
import KE.KDictDisplayH
import PyProof.Rows.StrJoin2
import KE.KDictPairs
import KE.KDictCopyH
import KE.GoesEnum
import KE.OsArith
import HandS.Ends
import PyProof.ReprLen
import PyProof.ReprRoads
import PyProof.InstNe
import PySem.Challenge.RW_oneroommore_k54_whole_least_rooms_of_web
set_option genSizeOf false
set_option Elab.async false
set_option linter.all false
set_option maxRecDepth 100000
set_option maxHeartbeats 4000000
/-! tuple * 0, tuple * 1 -/
namespace L2
open PySem PySem.Spec PyProof.Rows
theorem tuple_mul1 (l : Addr) (items : Array Value) (n : Nat) (dd : Option Addr) (sl : Array (Option Value)) (u : Tok) :
    Meets (Builtin.«tuple.__mul__» ⟨[.ref l, .int 1 u], []⟩) (fun _ R s => s.heap.get? l = some { cls := .type "tuple", dict := dd, data := .seq items n, slots := sl } ∧
      R (.ok (.ret (Value.ref l))) s) :=
  .of_wp fun prog w A R s h => by
    obtain ⟨hp, g, d, tk, os⟩ := s
    obtain ⟨hl, h⟩ := h
    have f1 := AutoSeq1.idx_int
    have c1 : (items.isEmpty || (1 : Int) == 1) = true := by rw [show ((1 : Int) == 1) = true from rfl, Bool.or_true]
    wp_walk using wpAny_loadPart' hl
    repeat (first
      | (refine wpAny_ite_false (decide_eq_false (by decide)) ?_; wp_walk using wpAny_loadPart' hl)
      | (refine wpAny_ite_true (decide_eq_true c1) ?_; wp_walk using wpAny_loadPart' hl))
    exact ⟨_, rfl, h⟩
theorem tuple_mul0 (l : Addr) (items : Array Value) (n : Nat) (dd : Option Addr) (sl : Array (Option Value)) (u : Tok) (hi : items.isEmpty = false) :
    Meets (Builtin.«tuple.__mul__» ⟨[.ref l, .int 0 u], []⟩) (fun _ R s => s.heap.get? l = some { cls := .type "tuple", dict := dd, data := .seq items n, slots := sl } ∧
      R (.ok (.ret (Value.ref s.heap.objs.size))) { s with heap := s.heap.push { cls := Value.type "tuple", data := Data.seq #[] } }) :=
  .of_wp fun prog w A R s h => by
    obtain ⟨hp, g, d, tk, os⟩ := s
    obtain ⟨hl, h⟩ := h
    have f1 := AutoSeq1.idx_int
    have c1 : (items.isEmpty || (0 : Int) == 1) = false := by rw [hi]; rfl
    have c2 : (decide ((0 : Int) ≤ 0) || items.isEmpty) = true := by rw [hi]; rfl
    wp_walk using wpAny_loadPart' hl
    repeat (first
      | (refine wpAny_ite_false (decide_eq_false (by decide)) ?_; wp_walk using wpAny_loadPart' hl)
      | (refine wpAny_ite_false (decide_eq_false (by rw [c1]; exact Bool.false_ne_true)) ?_; wp_walk using wpAny_loadPart' hl)
      | (refine wpAny_ite_true (decide_eq_true c2) ?_; wp_walk using wpAny_loadPart' hl))
    exact ⟨_, rfl, h⟩
noncomputable def rRep01 (K : PySem.W.Frag) : R2 := fun x y H Q => ∃ l k xs, x = .ref l ∧ y = .int k ∧ SqT K H l xs ∧ xs ≠ [] ∧ ((k = 1 ∧ Q (.ref l) H) ∨ (k = 0 ∧ ∀ p, H p = none → Q (.ref p) (upd H p (.tup []))))
section
variable {X : Cx}
theorem op_rep01 : OpR X (binaryOp .Mult) (rRep01 X.K) := by
  intro pins s σ H x y v u Q I rx ry h
  obtain ⟨l, k, xs, rfl, rfl, hT, hne, q⟩ := h
  cases rx
  obtain ⟨t, rfl⟩ := ry
  obtain ⟨its, r, ⟨⟨cls, dd, data, sl⟩, ho, hc, n, hd⟩, hs⟩ := I.tuple hT
  simp only at hc hd
  subst hc hd
  have hle : its.length = xs.length := r.length.symm
  have hn : its ≠ [] := fun e => hne (by
    rw [e] at hle
    exact List.eq_nil_of_length_eq_zero hle.symm)
  have hi : its.toArray.isEmpty = false := by
    cases its with
    | nil => exact absurd rfl hn
    | cons a b => rfl
  rcases q with ⟨rfl, q⟩ | ⟨rfl, q⟩
  · refine wpAny_binaryOp_repeat_ref (T := "tuple") (U := "int") (by decide) ⟨_, ho, rfl⟩ (fun s' => typeIs_int s' 1 t) noFill_tuple_mul F.fills_int_mul F.slot_int_rmul repeat_tuple F.slot_int_index.lookup
      (call_meets F.slot_int_rmul (typeIs_int s 1 t) F.entry_int_rmul (F.args_int_rmul_2 _ _) (int_rmul_tuple 1 t l its.toArray n dd sl)
        ⟨ho, rfl, ⟨_, ho, rfl⟩, call_meets F.slot_tuple_mul ⟨_, ho, rfl⟩ F.entry_tuple_mul (F.args_tuple_mul_2 _ _) (tuple_mul1 l its.toArray n dd sl t) ⟨ho, ?_⟩⟩)
    exact ⟨V.ref l, H, I, rfl, q⟩
  · refine wpAny_binaryOp_repeat_ref (T := "tuple") (U := "int") (by decide) ⟨_, ho, rfl⟩ (fun s' => typeIs_int s' 0 t) noFill_tuple_mul F.fills_int_mul F.slot_int_rmul repeat_tuple F.slot_int_index.lookup
      (call_meets F.slot_int_rmul (typeIs_int s 0 t) F.entry_int_rmul (F.args_int_rmul_2 _ _) (int_rmul_tuple 0 t l its.toArray n dd sl)
        ⟨ho, rfl, ⟨_, ho, rfl⟩, call_meets F.slot_tuple_mul ⟨_, ho, rfl⟩ F.entry_tuple_mul (F.args_tuple_mul_2 _ _) (tuple_mul0 l its.toArray n dd sl t hi) ⟨ho, ?_⟩⟩)
    refine ⟨.ref s.heap.objs.size, _, I.laid (t' := s.toks) (o := .tup []) (fun b ob q => Heap.get?_push_of_some _ q) (Nat.le_refl _) ?_, rfl, q _ (I.hok.fresh (Nat.le_refl _))⟩
    exact ⟨by decide, [], .nil, IsTup.new _ _⟩
end
end L2
set_option Elab.async false
set_option linter.all false
set_option maxRecDepth 100000
set_option maxHeartbeats 4000000
/-! sorted(tuple of ints) -/
namespace L2
open PySem PySem.Spec PyProof.Rows
section
variable {prog : Program} {w : World} {A : Around} {E : Value → Shared → Prop} {s : Shared}
theorem collect_tup {l : Addr} {vs : List Value} {Q : List Value → Shared → Prop} (hl : s.heap.IsTuple l vs.toArray)
    (h : Q vs { s with heap := (s.heap.push (seqObj "list" #[] 0)).update s.heap.objs.size (Obj.mapSeq (· ++ vs.toArray)) }) (hsz : vs.length ≤ sizeLine) :
    wpAny (model prog w) A (collect (.ref l)) Q E s := by
  obtain ⟨o, ho, hc, n, hd⟩ := id hl
  unfold collect
  refine wpAny_bind (wpAny_runValue (codeAny_builtin entry_proto_collect' ?_))
  show wpAny _ _ (do again (.builtin "list.__iadd__" ⟨[← newList [], .ref l], []⟩)) _ _ s
  refine wpAny_bind (wpAny_newList (wpAny_pure ⟨Code.quiet_builtin _ (by decide +kernel), codeAny_builtin entry_list_iadd' ?_⟩))
  show wpAny _ _ (Builtin.List.listExtendWith (.ref s.heap.objs.size) (.ref l) (.ref s.heap.objs.size)) _ _ { s with heap := s.heap.push (seqObj "list" #[] 0) }
  unfold Builtin.List.listExtendWith
  have ho' : (s.heap.push (seqObj "list" #[] 0)).get? l = some o := Heap.get?_push_of_some _ ho
  refine wpAny_bind (wpAny_typeOf (T := "tuple") ⟨o, ho', hc⟩ ?_)
  have ht : (Value.type "tuple" == Value.type "tuple") = true := by rfl
  rw [if_pos (by rw [ht]; simp)]
  refine wpAny_bind (listItems_at ho' hd ?_)
  refine wpAny_bind (listItems_at (xs := #[]) (n := 0) (Heap.get?_push_size _ rfl) rfl ?_)
  rw [if_neg (by simp)]
  refine wpAny_bind (listUpdate_at (xs := #[]) (n := 0) (Heap.get?_push_size _ rfl) rfl ?_ (Nat.zero_le _) (by show (#[] ++ vs.toArray).size ≤ sizeLine + 1; simp only [Array.size_append, List.size_toArray, List.length_nil]; omega))
  refine wpAny_pure ?_
  show wpAny (model prog w) A (do
      let o ← load s.heap.objs.size
      match o.data with
      | .seq xs _ => pure xs.toList
      | _ => unsupported "internal:collect") Q E { s with heap := (s.heap.push (seqObj "list" #[] 0)).update s.heap.objs.size (Obj.mapSeq (· ++ vs.toArray)) }
  refine wpAny_bind (wpAny_load (get?_update_seq (Heap.get?_push_size _ rfl) _) ?_)
  show wpAny _ _ (pure ((#[] : Array Value) ++ vs.toArray).toList) Q E _
  rw [show ((#[] : Array Value) ++ vs.toArray).toList = vs by simp]
  exact wpAny_pure h
theorem sorted_ordT {l : Addr} {vs : List Value} {ltv : Value → Value → Bool} {Q : Value → Shared → Prop} (O : SrtO.Swo ltv) (hl : s.heap.IsTuple l vs.toArray) (hz : vs.length ≤ sizeLine)
    (hS : 2 ≤ vs.length → ∀ (h₁ : Heap) (a : Addr), h₁.get? a = some (seqObj "list" vs.toArray 0) → (∀ b o, s.heap.get? b = some o → b ≠ a ∧ h₁.get? b = some o) → SrtO.SortableO prog w A.in1.in1 { s with heap := h₁ } a vs ltv)
    (h : ∀ out : List Value, SrtO.Srtd ltv out → SrtO.Stb ltv out vs → Q (.ref (s.heap.objs.size + 1)) { s with heap := sortedAll s.heap vs out.toArray }) :
    wpAny (model prog w) A (call (.builtin "sorted") [.ref l]) Q E s := by
  refine Calls.call_function_entry kind_sorted plain_sorted entry_sorted (args_sorted1 _) ?_
  unfold Builtin.«sorted»
  refine wpAny_bind (m := checkCount "sorted" 1 1 _) (wpAny_pure ?_)
  refine wpAny_bind (collect_tup hl ?_ hz)
  refine wpAny_bind (wpAny_newList ?_ hz)
  have hsz : ((s.heap.push (seqObj "list" #[] 0)).update s.heap.objs.size (Obj.mapSeq (· ++ vs.toArray))).objs.size = s.heap.objs.size + 1 := by
    rw [Heap.size_update, size_push']
  have hoL : (((s.heap.push (seqObj "list" #[] 0)).update s.heap.objs.size (Obj.mapSeq (· ++ vs.toArray))).push (seqObj "list" vs.toArray 0)).get? (s.heap.objs.size + 1) = some (seqObj "list" vs.toArray 0) := by
    rw [← hsz]; exact Heap.get?_push_size _ rfl
  have keep : ∀ b o, s.heap.get? b = some o → b ≠ s.heap.objs.size + 1 ∧ (((s.heap.push (seqObj "list" #[] 0)).update s.heap.objs.size (Obj.mapSeq (· ++ vs.toArray))).push (seqObj "list" vs.toArray 0)).get? b = some o := fun b o q => by
    have hlt : b < s.heap.objs.size := Heap.lt_size q
    refine ⟨Nat.ne_of_lt (Nat.lt_succ_of_lt hlt), Heap.get?_push_of_some _ ?_⟩
    rw [Heap.get?_update_ne _ _ _ _ (Nat.ne_of_lt hlt)]
    exact Heap.get?_push_of_some _ q
  show wpAny _ _ _ _ _ { s with heap := ((s.heap.push (seqObj "list" #[] 0)).update s.heap.objs.size (Obj.mapSeq (· ++ vs.toArray))).push (seqObj "list" vs.toArray 0) }
  rw [hsz]
  refine wpAny_bind (wpAny_holding (wpAny_call_entry slot_list_sort ⟨_, hoL, rfl⟩ entry_list_sort (SrtO.list_sort_ord O hoL hz (fun h2 => hS h2 _ _ hoL keep) fun out hs hb => ⟨_, rfl, ?_⟩) (args_list_sort _)))
  exact wpAny_pure ⟨_, rfl, h out hs hb⟩
end
noncomputable def rSortedTI (K : PySem.W.Frag) : List V → Hp → VK → Prop := fun vs H Q => ∃ (a : Addr) (ns : List Int), vs = [V.ref a] ∧ SqT K H a (ns.map V.int) ∧
  ∀ (ns' : List Int) (p : Addr), ns'.Perm ns → ns'.Pairwise (· ≤ ·) → H p = none → Q (.ref p) (upd H p (.lst (ns'.map V.int)))
section
variable {X : Cx}
theorem cr_sortedTI : CallR X (.builtin "sorted") (rSortedTI X.K) := by
  intro pins s σ H vs us Q I r h
  obtain ⟨a, ns, rfl, hs, q⟩ := h
  obtain ⟨its, rv, hl, hz⟩ := I.tuple hs
  rw [Vals.ref1 r]
  have hi := rv.ints
  refine sorted_ordT SrtO.swo_int hl (by rw [← rv.length]; exact hz) (fun h2 h₁ a' _ _ => SrtO.ints_sortable hi h2) fun out h1 h2 => ?_
  obtain ⟨k1, k2, k3⟩ := SrtO.ints_out hi h1 h2
  obtain ⟨ep, he'⟩ := PyProof.Rows.sortedAll_at s.heap its out.toArray
  have hlen : ((out.map SrtO.iv).map V.int).length ≤ sizeLine := by
    rw [List.length_map, k2.length_eq]
    rw [List.length_map] at hz
    exact hz
  exact ⟨.ref _, upd H (s.heap.objs.size + 1) (.lst ((out.map SrtO.iv).map V.int)), I.laid (t' := s.toks) (fun _ _ => PyProof.Rows.sortedAll_old) (Nat.le_succ _) ⟨hlen, out, ep, vals_of_ints k1, he'⟩, rfl, q _ _ k2 k3 (I.hok.fresh (Nat.le_succ _))⟩
end
end L2
set_option Elab.async false
set_option linter.all false
set_option maxRecDepth 100000
set_option maxHeartbeats 1000000
/-! # The W-layer: values as trees (tuples are pure), a heap of the mutable objects alone -/
namespace WL
open PySem PySem.Spec PyProof.Rows L2
inductive W where
  | non | bl (b : Bool) | int (i : Int) | str (x : Str) | tup (l : List W) | ref (a : Addr) | ty (n : String) | kl (l : List W)
mutual
inductive Rw (K : PySem.W.Frag) (H : Hp) : W → V → Prop
  | non : Rw K H .non .non
  | bl (b : Bool) : Rw K H (.bl b) (.bl b)
  | int (i : Int) : Rw K H (.int i) (.int i)
  | str (x : Str) : Rw K H (.str x) (.str x)
  | ref (a : Addr) : Rw K H (.ref a) (.ref a)
  | ty (n : String) : Rw K H (.ty n) (.ty n)
  | tup {p : Addr} {vs : List V} {ws : List W} (h : SqT K H p vs) (r : Rws K H ws vs) : Rw K H (.tup ws) (.ref p)
  | kl {p : Addr} {vs : List V} {ws : List W} (h : ∀ H, SqL K H p vs) (r : Rws K H ws vs) : Rw K H (.kl ws) (.ref p)
inductive Rws (K : PySem.W.Frag) (H : Hp) : List W → List V → Prop
  | nil : Rws K H [] []
  | cons {w : W} {v : V} {ws : List W} {vs : List V} (h : Rw K H w v) (t : Rws K H ws vs) : Rws K H (w :: ws) (v :: vs)
end
/-- mutable objects, by what they hold; rol, rod: they may be read alone; tab: a table of code objects of one name -/
inductive WO where
  | lst (l : List W) | rol (l : List W)
  | dct (l : List (Key × W)) | rod (l : List (Key × W))
  | dtt (l : List (List Key × W)) | rdt (l : List (List Key × W))
  | ins (C : Addr) (fs : List (Str × W))
  | tab (q : Str)
  | nst (l : List (NestedKey × W))
  | tpd (l : List W)
noncomputable abbrev WHp := Addr → Option WO
noncomputable abbrev WEnv := List (Option W)
noncomputable def updG (G : WHp) (a : Addr) (o : WO) : WHp := fun b => if b = a then some o else G b
theorem updG_same {G : WHp} {a : Addr} {o : WO} : updG G a o a = some o := by unfold updG; rw [if_pos rfl]
theorem updG_ne {G : WHp} {a b : Addr} {o : WO} (h : b ≠ a) : updG G a o b = G b := by unfold updG; rw [if_neg h]
inductive RwK {κ : Type} (K : PySem.W.Frag) (H : Hp) : List (κ × W) → List (κ × V) → Prop
  | nil : RwK K H [] []
  | cons {k : κ} {w : W} {v : V} {ws : List (κ × W)} {vs : List (κ × V)} (h : Rw K H w v) (t : RwK K H ws vs) : RwK K H ((k, w) :: ws) ((k, v) :: vs)
/-! ### dicts whose keys are nested tuples of ints and None -/
mutual
noncomputable def nkW : W → Option NestedKey
  | .int i => some (.num i)
  | .non => some .none
  | .tup l => (nksW l).map .tup
  | _ => none
noncomputable def nksW : List W → Option (List NestedKey)
  | [] => some []
  | w :: r => (nkW w).bind fun k => (nksW r).map (k :: ·)
end
/-- a tuple that is a key stands there -/
noncomputable def KeyAt (K : PySem.W.Frag) (H : Hp) (k : NestedKey) (p : Addr) : Prop := ∃ ws, nkW (.tup ws) = some k ∧ k.depth ≤ 8 ∧ Rw K H (.tup ws) (.ref p)
/-- a raw dict -/
noncomputable def NstO (a : Addr) (es : Array DictEntry) : HO := .ext fun h => ∃ o ep, h.get? a = some o ∧ o.ExactDict ∧ o.data = .dict es ep
inductive NP (K : PySem.W.Frag) (H : Hp) : List (NestedKey × W) → List (NestedKey × Addr × Value) → Prop
  | nil : NP K H [] []
  | cons {k : NestedKey} {w : W} {p : Addr} {v : V} {u : Value} {l : List (NestedKey × W)} {xs : List (NestedKey × Addr × Value)} (hk : KeyAt K H k p) (hw : Rw K H w v) (hv : RelV v u) (t : NP K H l xs) : NP K H ((k, w) :: l) ((k, p, u) :: xs)
noncomputable def OSim (K : PySem.W.Frag) (H : Hp) (a : Addr) : WO → Prop
  | .lst ws => ∃ vs, H a = some (.lst vs) ∧ Rws K H ws vs
  | .rol ws => ∃ vs, Rd H a (.lst vs) ∧ Rws K H ws vs
  | .dct ws => ∃ vs, H a = some (.dK vs) ∧ RwK K H ws vs
  | .rod ws => ∃ o vs, H a = some (.frz o (.dK vs)) ∧ RwK K H ws vs
  | .dtt ws => ∃ vs, H a = some (.dT vs) ∧ RwK K H ws vs
  | .rdt ws => ∃ o vs, H a = some (.frz o (.dT vs)) ∧ RwK K H ws vs
  | .ins C fs => ∃ dx vs, H a = some (.ins C dx vs) ∧ RwK K H fs vs
  | .tab q => LamX.TabS H a q
  | .nst l => ∃ (es : Array DictEntry) (xs : List (NestedKey × Addr × Value)), H a = some (NstO a es) ∧ (∀ w : World, es.toList = xs.map fun x => ⟨x.1.hash w, .ref x.2.1, x.2.2⟩) ∧ l.length ≤ sizeLine ∧ (a == sysModules) = false ∧ (xs.map (·.1)).Nodup ∧ NP K H l xs
  | .tpd ws => ∃ o vs, H a = some (.frz o (.tup vs)) ∧ o.cls = .type "tuple" ∧ o.dict = none ∧ Rws K H ws vs
noncomputable def Sim (K : PySem.W.Frag) (H : Hp) (G : WHp) : Prop := ∀ a o, G a = some o → OSim K H a o
/-- what W does not know stays, and what is locked -/
structure Step (H : Hp) (G : WHp) (H' : Hp) (G' : WHp) : Prop where
  fr : ∀ a o, H a = some o → G a = none → (∀ ps, o ≠ .tbl ps) → H' a = some o ∧ G' a = none
  fz : ∀ a o u, H a = some (.frz o u) → H' a = some (.frz o u)
theorem Step.refl {H : Hp} {G : WHp} : Step H G H G := ⟨fun _ _ h g _ => ⟨h, g⟩, fun _ _ _ h => h⟩
theorem Step.trans {H H1 H2 : Hp} {G G1 G2 : WHp} (a : Step H G H1 G1) (b : Step H1 G1 H2 G2) : Step H G H2 G2 := ⟨fun x o h g n =>
  let ⟨h1, g1⟩ := a.fr x o h g n
  b.fr x o h1 g1 n, fun x o u h => b.fz x o u (a.fz x o u h)⟩
section
variable {K : PySem.W.Frag} {H H' : Hp} {G G' : WHp} {a : Addr}
theorem Sim.there (s : Sim K H G) {o : WO} (h : G a = some o) : ∃ u, H a = some u := by
  have q := s a o h
  cases o with
  | lst ws => obtain ⟨vs, e, _⟩ := q; exact ⟨_, e⟩
  | rol ws => obtain ⟨vs, e, _⟩ := q; rcases e with e | ⟨o, e⟩ <;> exact ⟨_, e⟩
  | dct ws => obtain ⟨vs, e, _⟩ := q; exact ⟨_, e⟩
  | rod ws => obtain ⟨o, vs, e, _⟩ := q; exact ⟨_, e⟩
  | dtt ws => obtain ⟨vs, e, _⟩ := q; exact ⟨_, e⟩
  | rdt ws => obtain ⟨o, vs, e, _⟩ := q; exact ⟨_, e⟩
  | ins C fs => obtain ⟨dx, vs, e, _⟩ := q; exact ⟨_, e⟩
  | tab q' => obtain ⟨ps, e, _⟩ := q; exact ⟨_, e⟩
  | nst l => obtain ⟨es, xs, e, _⟩ := q; exact ⟨_, e⟩
  | tpd ws => obtain ⟨o, vs, e, _⟩ := q; exact ⟨_, e⟩
theorem Sim.fresh (s : Sim K H G) (h : H a = none) : G a = none := by
  cases e : G a with
  | none => rfl
  | some o =>
    obtain ⟨u, q⟩ := s.there e
    rw [h] at q; cases q
theorem Sim.notTup (s : Sim K H G) {xs : List V} (h : H a = some (.tup xs)) : G a = none := by
  cases e : G a with
  | none => rfl
  | some o =>
    have q := s a o e
    cases o with
    | lst ws => obtain ⟨vs, e, _⟩ := q; rw [h] at e; cases e
    | rol ws => obtain ⟨vs, e, _⟩ := q; rcases e with e | ⟨o, e⟩ <;> (rw [h] at e; cases e)
    | dct ws => obtain ⟨vs, e, _⟩ := q; rw [h] at e; cases e
    | rod ws => obtain ⟨o, vs, e, _⟩ := q; rw [h] at e; cases e
    | dtt ws => obtain ⟨vs, e, _⟩ := q; rw [h] at e; cases e
    | rdt ws => obtain ⟨o, vs, e, _⟩ := q; rw [h] at e; cases e
    | ins C fs => obtain ⟨dx, vs, e, _⟩ := q; rw [h] at e; cases e
    | tab q' => obtain ⟨ps, e, _⟩ := q; rw [h] at e; cases e
    | nst l => obtain ⟨es, xs, e, _⟩ := q; rw [h] at e; exact nomatch (Option.some.inj e)
    | tpd ws => obtain ⟨o, vs, e, _⟩ := q; rw [h] at e; cases e
theorem nst_code {a c : Addr} {es : Array DictEntry} {q : Str} : NstO a es ≠ LamX.CodeO c q := fun z => by
  unfold NstO LamX.CodeO at z
  injection z with z
  have hD : ∃ h : Heap, h.get? a = some { cls := .type "dict", data := .dict es } ∧ h.get? c = some { cls := .type "dict", data := .dict es } := by
    refine ⟨⟨Array.replicate (max a c + 1) { cls := .type "dict", data := .dict es }, {}⟩, ?_, ?_⟩
    · show (match (Array.replicate (max a c + 1) ({ cls := .type "dict", data := .dict es } : Obj))[a]? with
        | some ⟨_, _, .freed, _⟩ => none
        | o => o) = _
      rw [Array.getElem?_replicate, if_pos (by omega)]
    · show (match (Array.replicate (max a c + 1) ({ cls := .type "dict", data := .dict es } : Obj))[c]? with
        | some ⟨_, _, .freed, _⟩ => none
        | o => o) = _
      rw [Array.getElem?_replicate, if_pos (by omega)]
  obtain ⟨h, h1, h2⟩ := hD
  have := congrFun z h
  rw [eq_iff_iff] at this
  obtain ⟨oc, vs, t, e1, e2, _⟩ := this.mp ⟨_, _, h1, ⟨rfl, rfl, rfl⟩, rfl⟩
  rw [h2] at e1
  cases e1
  cases e2
theorem Sim.notCode (s : Sim K H G) {c : Addr} {q₀ : Str} (h : H a = some (LamX.CodeO c q₀)) : G a = none := by
  cases e : G a with
  | none => rfl
  | some o =>
    have q := s a o e
    cases o with
    | lst ws => obtain ⟨vs, e, _⟩ := q; rw [h] at e; exact nomatch (Option.some.inj e)
    | rol ws => obtain ⟨vs, e, _⟩ := q; rcases e with e | ⟨o, e⟩ <;> (rw [h] at e; exact nomatch (Option.some.inj e))
    | dct ws => obtain ⟨vs, e, _⟩ := q; rw [h] at e; exact nomatch (Option.some.inj e)
    | rod ws => obtain ⟨o, vs, e, _⟩ := q; rw [h] at e; exact nomatch (Option.some.inj e)
    | dtt ws => obtain ⟨vs, e, _⟩ := q; rw [h] at e; exact nomatch (Option.some.inj e)
    | rdt ws => obtain ⟨o, vs, e, _⟩ := q; rw [h] at e; exact nomatch (Option.some.inj e)
    | ins C fs => obtain ⟨dx, vs, e, _⟩ := q; rw [h] at e; exact nomatch (Option.some.inj e)
    | tab q' => obtain ⟨ps, e, _⟩ := q; rw [h] at e; exact nomatch (Option.some.inj e)
    | nst l => obtain ⟨es, xs, e, _⟩ := q; rw [h] at e; exact absurd (Option.some.inj e).symm nst_code
    | tpd ws => obtain ⟨o, vs, e, _⟩ := q; rw [h] at e; exact nomatch (Option.some.inj e)
/-- tuples and code objects stay -/
structure TupX (K : PySem.W.Frag) (H H' : Hp) : Prop where
  t : ∀ p vs, SqT K H p vs → SqT K H' p vs
  c : ∀ c q, H c = some (LamX.CodeO c q) → H' c = some (LamX.CodeO c q)
theorem TupX.of (s : Sim K H G) (st : Step H G H' G') : TupX K H H' := ⟨fun p vs h => by
  rcases h with (h | ⟨o, h⟩) | h
  · exact .inl (.inl (st.fr p _ h (s.notTup h) fun _ z => nomatch z).1)
  · exact .inl (.inr ⟨o, st.fz p _ _ h⟩)
  · exact .inr h, fun c q h => (st.fr c _ h (s.notCode h) fun _ z => nomatch z).1⟩
theorem TupX.chg {o u : HO} (h : H a = some u) (hu : ∀ xs, u ≠ .tup xs) (hf : ∀ ob xs, u ≠ .frz ob (.tup xs)) (hx : ∀ c q, u ≠ LamX.CodeO c q := by intro _ _ z; unfold LamX.CodeO at z; cases z) : TupX K H (upd H a o) := by
  have ne : ∀ {p z}, H p = some z → z ≠ u → p ≠ a := fun hz d => by rintro rfl; rw [h] at hz; exact d (Option.some.inj hz).symm
  refine ⟨fun p vs e => ?_, fun c q e => by rw [upd_ne (ne e (Ne.symm (hx _ _)))]; exact e⟩
  rcases e with (e | ⟨ob, e⟩) | e
  · exact .inl (.inl (by rw [upd_ne (ne e (Ne.symm (hu _)))]; exact e))
  · exact .inl (.inr ⟨ob, by rw [upd_ne (ne e (Ne.symm (hf _ _)))]; exact e⟩)
  · exact .inr e
theorem TupX.new {o : HO} (h : H a = none) : TupX K H (upd H a o) := by
  have ne : ∀ {p z}, H p = some z → p ≠ a := fun hz => ne_of_none hz h
  refine ⟨fun p vs e => ?_, fun c q e => by rw [upd_ne (ne e)]; exact e⟩
  rcases e with (e | ⟨ob, e⟩) | e
  · exact .inl (.inl (by rw [upd_ne (ne e)]; exact e))
  · exact .inl (.inr ⟨ob, by rw [upd_ne (ne e)]; exact e⟩)
  · exact .inr e
mutual
theorem Rw.mono (x : TupX K H H') : ∀ {w : W} {v : V}, Rw K H w v → Rw K H' w v
  | _, _, .non => .non
  | _, _, .bl b => .bl b
  | _, _, .int i => .int i
  | _, _, .str s => .str s
  | _, _, .ref a => .ref a
  | _, _, .ty n => .ty n
  | _, _, .tup h r => .tup (x.t _ _ h) (Rws.mono x r)
  | _, _, .kl h r => .kl h (Rws.mono x r)
theorem Rws.mono (x : TupX K H H') : ∀ {ws : List W} {vs : List V}, Rws K H ws vs → Rws K H' ws vs
  | _, _, .nil => .nil
  | _, _, .cons h t => .cons (Rw.mono x h) (Rws.mono x t)
end
theorem RwK.mono {κ : Type} (x : TupX K H H') : ∀ {ws : List (κ × W)} {vs : List (κ × V)}, RwK K H ws vs → RwK K H' ws vs
  | _, _, .nil => .nil
  | _, _, .cons h t => .cons (h.mono x) (RwK.mono x t)
theorem Rws.length : ∀ {ws : List W} {vs : List V}, Rws K H ws vs → ws.length = vs.length
  | _, _, .nil => rfl
  | _, _, .cons _ t => by rw [List.length_cons, List.length_cons, Rws.length t]
theorem Rws.append : ∀ {ws us : List W} {vs xs : List V}, Rws K H ws vs → Rws K H us xs → Rws K H (ws ++ us) (vs ++ xs)
  | _, _, _, _, .nil, s => s
  | _, _, _, _, .cons h t, s => .cons h (Rws.append t s)
theorem Rws.get : ∀ {ws : List W} {vs : List V} {i : Nat} {w : W}, Rws K H ws vs → ws[i]? = some w → ∃ v, vs[i]? = some v ∧ Rw K H w v
  | _, _, _, _, .nil, e => by simp at e
  | _, _, 0, _, .cons h _, e => by simp at e; subst e; exact ⟨_, rfl, h⟩
  | _, _, i + 1, w, .cons _ t, e => by
    obtain ⟨v, e1, e2⟩ := Rws.get (i := i) (w := w) t (by simpa using e)
    exact ⟨v, by simpa using e1, e2⟩
theorem Rws.getV : ∀ {ws : List W} {vs : List V} {i : Nat} {v : V}, Rws K H ws vs → vs[i]? = some v → ∃ w, ws[i]? = some w ∧ Rw K H w v
  | _, _, _, _, .nil, e => by simp at e
  | _, _, 0, _, .cons h _, e => by simp at e; subst e; exact ⟨_, rfl, h⟩
  | _, _, i + 1, w, .cons _ t, e => by
    obtain ⟨v, e1, e2⟩ := Rws.getV (i := i) (v := w) t (by simpa using e)
    exact ⟨v, by simpa using e1, e2⟩
theorem Rws.set {w : W} {v : V} (r : Rw K H w v) : ∀ {ws : List W} {vs : List V} (i : Nat), Rws K H ws vs → Rws K H (ws.set i w) (vs.set i v)
  | _, _, _, .nil => .nil
  | _, _, 0, .cons _ t => .cons r t
  | _, _, i + 1, .cons q t => .cons q (Rws.set r i t)
theorem Rws.take : ∀ {ws : List W} {vs : List V} (n : Nat), Rws K H ws vs → Rws K H (ws.take n) (vs.take n)
  | _, _, 0, _ => .nil
  | _, _, _ + 1, .nil => .nil
  | _, _, n + 1, .cons h t => .cons h (Rws.take n t)
theorem Rws.drop : ∀ {ws : List W} {vs : List V} (n : Nat), Rws K H ws vs → Rws K H (ws.drop n) (vs.drop n)
  | _, _, 0, r => r
  | _, _, _ + 1, .nil => .nil
  | _, _, n + 1, .cons _ t => Rws.drop n t
theorem Rws.reverse {ws : List W} {vs : List V} (h : Rws K H ws vs) : Rws K H ws.reverse vs.reverse := by
  have key : ∀ {ws : List W} {vs : List V}, Rws K H ws vs → ∀ {us : List W} {xs : List V}, Rws K H us xs → Rws K H (ws.reverse ++ us) (vs.reverse ++ xs) := by
    intro ws vs h
    induction ws generalizing vs with
    | nil => intro us xs s; cases h; exact s
    | cons w ws ih =>
      intro us xs s
      cases h with
      | cons h t =>
        rw [List.reverse_cons, List.reverse_cons, List.append_assoc, List.append_assoc]
        exact ih t (.cons h s)
  have := key h .nil
  simpa using this
theorem Rws.rep {ws : List W} {vs : List V} (h : Rws K H ws vs) : ∀ k : Nat, Rws K H (List.replicate k ws).flatten (List.replicate k vs).flatten
  | 0 => .nil
  | k + 1 => by
    rw [List.replicate_succ, List.replicate_succ, List.flatten_cons, List.flatten_cons]
    exact h.append (Rws.rep h k)
theorem Rws.ints : ∀ {ns : List Int} {vs : List V}, Rws K H (ns.map W.int) vs → vs = ns.map V.int
  | [], _, .nil => rfl
  | _ :: _, _, .cons (.int _) t => by rw [List.map_cons, Rws.ints t]
theorem Rws.of_ints : ∀ ns : List Int, Rws K H (ns.map W.int) (ns.map V.int)
  | [] => .nil
  | n :: ns => .cons (.int n) (Rws.of_ints ns)
theorem Rws.bls : ∀ {ns : List Bool} {vs : List V}, Rws K H (ns.map W.bl) vs → vs = ns.map V.bl
  | [], _, .nil => rfl
  | _ :: _, _, .cons (.bl _) t => by rw [List.map_cons, Rws.bls t]
theorem KeyAt.mono (x : TupX K H H') {k : NestedKey} {p : Addr} (h : KeyAt K H k p) : KeyAt K H' k p := let ⟨ws, e, d, r⟩ := h; ⟨ws, e, d, r.mono x⟩
theorem NP.mono (x : TupX K H H') : ∀ {l : List (NestedKey × W)} {xs : List (NestedKey × Addr × Value)}, NP K H l xs → NP K H' l xs
  | _, _, .nil => .nil
  | _, _, .cons hk hw hv t => .cons (hk.mono x) (hw.mono x) hv (NP.mono x t)
theorem OSim.mono (x : TupX K H H') (h : H' a = H a) {o : WO} (s : OSim K H a o) : OSim K H' a o := by
  cases o with
  | lst ws => obtain ⟨vs, e, r⟩ := s; exact ⟨vs, h.trans e, r.mono x⟩
  | rol ws => obtain ⟨vs, e, r⟩ := s; exact ⟨vs, e.elim (fun e => .inl (h.trans e)) (fun ⟨o, e⟩ => .inr ⟨o, h.trans e⟩), r.mono x⟩
  | dct ws => obtain ⟨vs, e, r⟩ := s; exact ⟨vs, h.trans e, r.mono x⟩
  | rod ws => obtain ⟨o, vs, e, r⟩ := s; exact ⟨o, vs, h.trans e, r.mono x⟩
  | dtt ws => obtain ⟨vs, e, r⟩ := s; exact ⟨vs, h.trans e, r.mono x⟩
  | rdt ws => obtain ⟨o, vs, e, r⟩ := s; exact ⟨o, vs, h.trans e, r.mono x⟩
  | ins C fs => obtain ⟨dx, vs, e, r⟩ := s; exact ⟨dx, vs, h.trans e, r.mono x⟩
  | tab q => obtain ⟨ps, e, e2, e3⟩ := s; exact ⟨ps, h.trans e, e2, fun pos cv hc => let ⟨c, h1, h2⟩ := e3 pos cv hc; ⟨c, h1, x.c _ _ h2⟩⟩
  | nst l => obtain ⟨es, xs, e, e2, e3, e4, e5, r⟩ := s; exact ⟨es, xs, h.trans e, e2, e3, e4, e5, r.mono x⟩
  | tpd ws => obtain ⟨o, vs, e, e2, e3, r⟩ := s; exact ⟨o, vs, h.trans e, e2, e3, r.mono x⟩
/-- a new object that W does not know (a tuple) -/
theorem Sim.hid {o : HO} (s : Sim K H G) (h : H a = none) : Sim K (upd H a o) G := fun b u e =>
  have hb : b ≠ a := by rintro rfl; obtain ⟨z, q⟩ := s.there e; rw [h] at q; cases q
  (s b u e).mono (.new h) (upd_ne hb)
theorem Step.hid {o : HO} (h : H a = none) : Step H G (upd H a o) G := ⟨fun b u e g _ => ⟨by rw [upd_ne (ne_of_none e h)]; exact e, g⟩, fun b o u e => by rw [upd_ne (ne_of_none e h)]; exact e⟩
/-- a new object that W knows -/
theorem Sim.new {o : HO} {wo : WO} (s : Sim K H G) (h : H a = none) (n : OSim K (upd H a o) a wo) : Sim K (upd H a o) (updG G a wo) := fun b u e => by
  by_cases hb : b = a
  · subst hb; rw [updG_same] at e; cases e; exact n
  · rw [updG_ne hb] at e
    exact (s b u e).mono (.new h) (upd_ne hb)
theorem Step.new {o : HO} {wo : WO} (h : H a = none) : Step H G (upd H a o) (updG G a wo) := ⟨fun b u e g _ => by
  have hb := ne_of_none e h
  exact ⟨by rw [upd_ne hb]; exact e, by rw [updG_ne hb]; exact g⟩, fun b o u e => by rw [upd_ne (ne_of_none e h)]; exact e⟩
/-- an object that W knows is changed -/
theorem Sim.set {o : HO} {wo wo' : WO} (s : Sim K H G) (h : G a = some wo) (hm : TupX K H (upd H a o)) (n : OSim K (upd H a o) a wo') : Sim K (upd H a o) (updG G a wo') := fun b u e => by
  by_cases hb : b = a
  · subst hb; rw [updG_same] at e; cases e; exact n
  · rw [updG_ne hb] at e
    exact (s b u e).mono hm (upd_ne hb)
theorem Step.set {o v : HO} {wo wo' : WO} (h : G a = some wo) (hv : H a = some v) (nf : ∀ ob u, v ≠ .frz ob u) : Step H G (upd H a o) (updG G a wo') := ⟨fun b u e g _ => by
  have hb : b ≠ a := by rintro rfl; rw [h] at g; cases g
  exact ⟨by rw [upd_ne hb]; exact e, by rw [updG_ne hb]; exact g⟩, fun b ob u e => by
  have hb : b ≠ a := by rintro rfl; rw [hv] at e; exact nf _ _ (Option.some.inj e)
  rw [upd_ne hb]; exact e⟩
end
/-! ### environments -/
noncomputable def EnvOk (K : PySem.W.Frag) (H : Hp) (ρ : WEnv) (σ : L2.St) : Prop := ρ.length = σ.length ∧ ∀ (i : Nat) (w : W), ρ[i]? = some (some w) → ∃ v, σ[i]? = some (some v) ∧ Rw K H w v
section
variable {K : PySem.W.Frag} {H H' : Hp} {G G' : WHp} {ρ : WEnv} {σ : L2.St}
theorem EnvOk.mono (e : EnvOk K H ρ σ) (x : TupX K H H') : EnvOk K H' ρ σ := ⟨e.1, fun i w h => let ⟨v, h1, h2⟩ := e.2 i w h; ⟨v, h1, h2.mono x⟩⟩
theorem EnvOk.set {w : W} {v : V} (e : EnvOk K H ρ σ) (r : Rw K H w v) (i : Nat) : EnvOk K H (ρ.set i (some w)) (σ.set i (some v)) := by
  refine ⟨by rw [List.length_set, List.length_set, e.1], fun j w' h => ?_⟩
  by_cases hj : i = j
  · subst hj
    by_cases hl : i < ρ.length
    · rw [List.getElem?_set_self hl] at h
      cases h
      exact ⟨v, by rw [List.getElem?_set_self (by rw [← e.1]; exact hl)], r⟩
    · rw [List.getElem?_eq_none (by simpa using hl)] at h
      cases h
  · rw [List.getElem?_set_ne hj] at h ⊢
    exact e.2 j w' h
noncomputable def wipeW (ρ : WEnv) : List Nat → WEnv
  | [] => ρ
  | v :: vs => (wipeW ρ vs).set v none
theorem EnvOk.unset (e : EnvOk K H ρ σ) (i : Nat) : EnvOk K H (ρ.set i none) (σ.set i none) := by
  refine ⟨by rw [List.length_set, List.length_set, e.1], fun j w' h => ?_⟩
  by_cases hj : i = j
  · subst hj
    by_cases hl : i < ρ.length
    · rw [List.getElem?_set_self hl] at h; cases h
    · rw [List.getElem?_eq_none (by simpa using hl)] at h; cases h
  · rw [List.getElem?_set_ne hj] at h ⊢
    exact e.2 j w' h
theorem EnvOk.wipe (e : EnvOk K H ρ σ) : ∀ vs : List Nat, EnvOk K H (wipeW ρ vs) (wipe σ vs)
  | [] => e
  | v :: vs => (EnvOk.wipe e vs).unset v
end
/-! ### readings -/
noncomputable abbrev WK := W → WHp → Prop
noncomputable abbrev WTE := WEnv → WHp → WK → Prop
noncomputable abbrev WTT := WEnv → WHp → (Bool → WHp → Prop) → Prop
noncomputable abbrev WTA := WEnv → WHp → (List W → WHp → Prop) → Prop
structure WEnds where
  nx : WEnv → WHp → Prop
  rt : WK
  bk : WEnv → WHp → Prop := fun _ _ => False
  ct : WEnv → WHp → Prop := fun _ _ => False
noncomputable abbrev WTS := WEnds → WEnv → WHp → Prop
/-- a promise -/
noncomputable abbrev WSp := List W → WHp → WK → Prop
/-- what may be told of a value behind (H, G) -/
noncomputable def Aft (K : PySem.W.Frag) (H : Hp) (G : WHp) (P : WK) (Q : VK) : Prop := ∀ w G' v H', P w G' → Rw K H' w v → Sim K H' G' → Step H G H' G' → Q v H'
noncomputable def AftB (K : PySem.W.Frag) (H : Hp) (G : WHp) (P : Bool → WHp → Prop) (Q : Bool → Hp → Prop) : Prop := ∀ b G' H', P b G' → Sim K H' G' → Step H G H' G' → Q b H'
noncomputable def AftA (K : PySem.W.Frag) (H : Hp) (G : WHp) (P : List W → WHp → Prop) (Q : List V → Hp → Prop) : Prop := ∀ ws G' vs H', P ws G' → Rws K H' ws vs → Sim K H' G' → Step H G H' G' → Q vs H'
noncomputable def AftS (K : PySem.W.Frag) (H : Hp) (G : WHp) (P : WEnv → WHp → Prop) (Q : L2.St → Hp → Prop) : Prop := ∀ ρ G' σ H', P ρ G' → EnvOk K H' ρ σ → Sim K H' G' → Step H G H' G' → Q σ H'
section
variable {K : PySem.W.Frag} {H H' : Hp} {G G' : WHp}
theorem Aft.step {P : WK} {Q : VK} (k : Aft K H G P Q) (s : Step H G H' G') : Aft K H' G' P Q := fun w G2 v H2 p r m t => k w G2 v H2 p r m (s.trans t)
theorem AftB.step {P : Bool → WHp → Prop} {Q : Bool → Hp → Prop} (k : AftB K H G P Q) (s : Step H G H' G') : AftB K H' G' P Q := fun w G2 H2 p m t => k w G2 H2 p m (s.trans t)
theorem AftA.step {P : List W → WHp → Prop} {Q : List V → Hp → Prop} (k : AftA K H G P Q) (s : Step H G H' G') : AftA K H' G' P Q := fun w G2 v H2 p r m t => k w G2 v H2 p r m (s.trans t)
theorem AftS.step {P : WEnv → WHp → Prop} {Q : L2.St → Hp → Prop} (k : AftS K H G P Q) (s : Step H G H' G') : AftS K H' G' P Q := fun w G2 v H2 p r m t => k w G2 v H2 p r m (s.trans t)
end
noncomputable def toTE (K : PySem.W.Frag) (t : WTE) : TE := fun σ H Q => ∃ ρ G P, EnvOk K H ρ σ ∧ Sim K H G ∧ t ρ G P ∧ Aft K H G P Q
noncomputable def toTT (K : PySem.W.Frag) (t : WTT) : TT := fun σ H Q => ∃ ρ G P, EnvOk K H ρ σ ∧ Sim K H G ∧ t ρ G P ∧ AftB K H G P Q
noncomputable def toTA (K : PySem.W.Frag) (t : WTA) : TA := fun σ H Q => ∃ ρ G P, EnvOk K H ρ σ ∧ Sim K H G ∧ t ρ G P ∧ AftA K H G P Q
structure AftD (K : PySem.W.Frag) (H : Hp) (G : WHp) (P : WEnds) (D : Ends) : Prop where
  nx : AftS K H G P.nx D.nx
  rt : Aft K H G P.rt D.rt
  bk : AftS K H G P.bk D.bk
  ct : AftS K H G P.ct D.ct
theorem AftD.step {K : PySem.W.Frag} {H H' : Hp} {G G' : WHp} {P : WEnds} {D : Ends} (k : AftD K H G P D) (s : Step H G H' G') : AftD K H' G' P D := ⟨k.nx.step s, k.rt.step s, k.bk.step s, k.ct.step s⟩
noncomputable def toTS (K : PySem.W.Frag) (t : WTS) : TS := fun D σ H => ∃ ρ G P, EnvOk K H ρ σ ∧ Sim K H G ∧ t P ρ G ∧ AftD K H G P D
noncomputable def toSp (K : PySem.W.Frag) (sp : WSp) : Sp := fun vs H Q _ => ∃ ws G P, Rws K H ws vs ∧ Sim K H G ∧ sp ws G P ∧ Aft K H G P Q
noncomputable abbrev WE (X : Cx) (e : Expr) (t : WTE) : Prop := PE X e (toTE X.K t)
noncomputable abbrev WT (X : Cx) (e : Expr) (t : WTT) : Prop := PT X e (toTT X.K t)
noncomputable abbrev WA (X : Cx) (es : List Expr) (t : WTA) : Prop := PA X es (toTA X.K t)
noncomputable abbrev WS (X : Cx) (s : Stmt) (t : WTS) : Prop := PS X s (toTS X.K t)
noncomputable abbrev WSs (X : Cx) (s : List Stmt) (t : WTS) : Prop := PSs X s (toTS X.K t)
end WL
namespace L2
open PySem PySem.Spec PyProof.Rows
section
variable {X : Cx} {e : Expr} {es : List Expr} {st : Stmt} {sts : List Stmt}
theorem PE.imp {t t' : TE} (h : PE X e t) (i : ∀ σ H Q, t' σ H Q → t σ H Q) : PE X e t' := ⟨fun pins s σ H Q I q => h.run pins s σ H Q I (i _ _ _ q)⟩
theorem PT.imp {t t' : TT} (h : PT X e t) (i : ∀ σ H Q, t' σ H Q → t σ H Q) : PT X e t' := ⟨fun pins s σ H Q I q => h.run pins s σ H Q I (i _ _ _ q)⟩
theorem PW.imp {t t' : TT} (h : PW X e t) (i : ∀ σ H Q, t' σ H Q → t σ H Q) : PW X e t' := ⟨fun wh pins s σ H Q I q => h.run wh pins s σ H Q I (i _ _ _ q)⟩
theorem PA.imp {t t' : TA} (h : PA X es t) (i : ∀ σ H Q, t' σ H Q → t σ H Q) : PA X es t' := ⟨fun pos pins s σ H Q I q => h.run pos pins s σ H Q I (i _ _ _ q)⟩
theorem PS.imp {t t' : TS} (h : PS X st t) (i : ∀ D σ H, t' D σ H → t D σ H) : PS X st t' := ⟨fun pins s σ H D I q => h.run pins s σ H D I (i _ _ _ q)⟩
theorem PSs.imp {t t' : TS} (h : PSs X sts t) (i : ∀ D σ H, t' D σ H → t D σ H) : PSs X sts t' := ⟨fun pins s σ H D I q => h.run pins s σ H D I (i _ _ _ q)⟩
theorem PG.imp {t t' : TG} (h : PG X e t) (i : ∀ v σ H Q, t' v σ H Q → t v σ H Q) : PG X e t' := ⟨fun pins s σ H v u Q I r q => h.run pins s σ H v u Q I r (i _ _ _ _ q)⟩
theorem PI.imp {tg it : Expr} {t t' : TI} (h : PI X tg it t) (i : ∀ σ H R, t' σ H R → t σ H R) : PI X tg it t' := ⟨fun pins s σ H R I q => h.run pins s σ H R I (i _ _ _ q)⟩
end
end L2
set_option Elab.async false
set_option linter.all false
set_option maxRecDepth 100000
set_option maxHeartbeats 1000000
namespace WL
open PySem PySem.Spec PyProof.Rows L2
/-! ### names and constants -/
noncomputable def lk : WEnv → Nat → (W → Prop) → Prop
  | [], _, _ => False
  | x :: _, 0, k => (match x with | some w => k w | none => False)
  | _ :: r, n + 1, k => lk r n k
theorem lk_get : ∀ {ρ : WEnv} {i : Nat} {k : W → Prop}, lk ρ i k → ∃ w, ρ[i]? = some (some w) ∧ k w
  | [], _, _, h => h.elim
  | none :: _, 0, _, h => False.elim h
  | some w :: _, 0, _, h => ⟨w, rfl, h⟩
  | x :: r, n + 1, k, h => by obtain ⟨w, h1, h2⟩ := lk_get (ρ := r) (i := n) (k := k) h; exact ⟨w, by simpa using h1, h2⟩
theorem lk_of : ∀ {ρ : WEnv} {i : Nat} {k : W → Prop} {w : W}, ρ[i]? = some (some w) → k w → lk ρ i k
  | [], _, _, _, h, _ => by simp at h
  | none :: _, 0, _, _, h, _ => by simp at h
  | some w :: _, 0, _, _, h, q => by simp at h; subst h; exact q
  | x :: r, n + 1, k, w, h, q => by
    have z : lk r n k := lk_of (w := w) (by simpa using h) q
    exact z
noncomputable def wV (i : Nat) : WTE := fun ρ G Q => lk ρ i fun w => Q w G
noncomputable def wC (c : W) : WTE := fun _ G Q => Q c G
section
variable {X : Cx} {pos : Pos}
theorem we_v (i : Nat) {x : Str} (hN : X.N[i]? = some x := by rfl) (hv : Vis X.env.scope x := by first | exact Or.inl rfl | exact Or.inr (Or.inl rfl) | exact Or.inr (Or.inr rfl)) (hd : (x == ("__debug__" : Str)) = false := by decide)
    (hcd : (x == ("__classdict__" : Str)) = false := by decide) : WE X (.Name x pos) (wV i) := (pv i hN hv hd hcd).imp fun σ H Q ⟨ρ, G, P, env, sim, h, k⟩ => by
  obtain ⟨w, e, q⟩ := lk_get h
  obtain ⟨v, e1, r⟩ := env.2 i w e
  exact ⟨v, e1, k w G v H q r sim Step.refl⟩
theorem we_c {e : Expr} {v : V} {c : W} (h : PE X e (tC v)) (r : ∀ H, Rw X.K H c v) : WE X e (wC c) := h.imp fun σ H Q ⟨ρ, G, P, env, sim, h, k⟩ => k c G v H h (r H) sim Step.refl
theorem we_int {i j} : WE X (.Constant (.int i) j pos) (wC (.int i)) := we_c pe_int fun _ => .int i
theorem we_bl {b j} : WE X (.Constant (.bool b) j pos) (wC (.bl b)) := we_c pe_bl fun _ => .bl b
theorem we_non {j} : WE X (.Constant .none j pos) (wC .non) := we_c pe_non fun _ => .non
theorem we_str {x j} : WE X (.Constant (.str x) j pos) (wC (.str x)) := we_c pe_str fun _ => .str x
theorem we_glob {x : Str} {c : W} {v : V} {u : Value} (hm : X.mg x = some u) (r : RelV v u) (rw : ∀ H, Rw X.K H c v) (hg : Gl X x := by rfl) (hd : (x == ("__debug__" : Str)) = false := by decide) : WE X (.Name x pos) (wC c) :=
  we_c (pe_glob hg hm r hd) rw
end
/-! ### operators by values -/
noncomputable def lift2 (K : PySem.W.Frag) (f : W → W → WHp → WK → Prop) : R2 := fun x y H Q => ∃ a b G P, Rw K H a x ∧ Rw K H b y ∧ Sim K H G ∧ f a b G P ∧ Aft K H G P Q
noncomputable def liftA (K : PySem.W.Frag) (f : List W → WHp → WK → Prop) : List V → Hp → VK → Prop := fun x H Q => ∃ a G P, Rws K H a x ∧ Sim K H G ∧ f a G P ∧ Aft K H G P Q
noncomputable def liftM (K : PySem.W.Frag) (f : W → List W → WHp → WK → Prop) : V → List V → Hp → VK → Prop := fun x xs H Q => ∃ a as G P, Rw K H a x ∧ Rws K H as xs ∧ Sim K H G ∧ f a as G P ∧ Aft K H G P Q
noncomputable def wOp (f : W → W → WHp → WK → Prop) (ta tb : WTE) : WTE := fun ρ G Q => ta ρ G fun x G1 => tb ρ G1 fun y G2 => f x y G2 Q
noncomputable def wUn (f : W → WHp → WK → Prop) (ta : WTE) : WTE := fun ρ G Q => ta ρ G fun x G1 => f x G1 Q
noncomputable def wNil : WTA := fun _ G Q => Q [] G
noncomputable def wCons (ta : WTE) (tr : WTA) : WTA := fun ρ G Q => ta ρ G fun x G1 => tr ρ G1 fun xs G2 => Q (x :: xs) G2
noncomputable def wApp (f : List W → WHp → WK → Prop) (ta : WTA) : WTE := fun ρ G Q => ta ρ G fun xs G1 => f xs G1 Q
noncomputable def isB (w : W) (k : Bool → Prop) : Prop := match w with
  | .bl b => k b
  | _ => False
theorem isB_get {w : W} {k : Bool → Prop} (h : isB w k) : ∃ b, w = .bl b ∧ k b := by
  cases w <;> first | exact h.elim | exact ⟨_, rfl, h⟩
noncomputable def wTest (t : WTE) : WTT := fun ρ G Q => t ρ G fun w G1 => isB w fun b => Q b G1
section
variable {K : PySem.W.Frag} {σ : L2.St} {H : Hp} {Q : VK} {ta tb : WTE}
theorem toTE_op {f : W → W → WHp → WK → Prop} (h : toTE K (wOp f ta tb) σ H Q) : tOp (lift2 K f) (toTE K ta) (toTE K tb) σ H Q := by
  obtain ⟨ρ, G, P, env, sim, h, k⟩ := h
  exact ⟨ρ, G, _, env, sim, h, fun x G1 v1 H1 h1 r1 s1 st1 => ⟨ρ, G1, _, env.mono (.of sim st1), s1, h1, fun y G2 v2 H2 h2 r2 s2 st2 => ⟨x, y, G2, P, r1.mono (.of s1 st2), r2, s2, h2, k.step (st1.trans st2)⟩⟩⟩
theorem toTT_test {Q : Bool → Hp → Prop} (h : toTT K (wTest ta) σ H Q) : tTest (toTE K ta) σ H Q := by
  obtain ⟨ρ, G, P, env, sim, h, k⟩ := h
  refine ⟨ρ, G, _, env, sim, h, fun x G1 v1 H1 h1 r1 s1 st1 => ?_⟩
  obtain ⟨b, rfl, q⟩ := isB_get h1
  cases r1
  exact ⟨b, rfl, k b G1 H1 q s1 st1⟩
end
section
variable {X : Cx} {a b c : Expr} {ta tb tc : WTE} {pos : Pos} {f f' : W → W → WHp → WK → Prop}
theorem we_bin {op : Operator} (ho : OpR X (binaryOp op) (lift2 X.K f)) (ha : WE X a ta) (hb : WE X b tb) : WE X (.BinOp a op b pos) (wOp f ta tb) := (pe_op ho ha hb).imp fun _ _ _ h => toTE_op h
theorem we_cmp {op : CmpOp} (ho : OpR X (compareOp op) (lift2 X.K f)) (ha : WE X a ta) (hb : WE X b tb) (hm : behindInMarks op b = false := by rfl) : WE X (.Compare a [op] [b] pos) (wOp f ta tb) := (pe_cmpR ho ha hb hm).imp fun _ _ _ h => toTE_op h
theorem wt_cmp {op : CmpOp} (ho : OpR X (compareOp op) (lift2 X.K f)) (ha : WE X a ta) (hb : WE X b tb) (hm : behindInMarks op b = false := by rfl) : WT X (.Compare a [op] [b] pos) (wTest (wOp f ta tb)) :=
  (pt_cmpR ho ha hb hm).imp fun σ H Q h => by
    obtain ⟨ρ, G, P, env, sim, h, k⟩ := h
    refine toTE_op (f := f) (ta := ta) (tb := tb) ⟨ρ, G, _, env, sim, h, fun x G1 v1 H1 h1 r1 s1 st1 => ?_⟩
    obtain ⟨b, rfl, q⟩ := isB_get h1
    cases r1
    exact ⟨b, rfl, k b G1 H1 q s1 st1⟩
/-- a op1 b op2 c -/
noncomputable def wChain (f f' : W → W → WHp → WK → Prop) (ta tb tc : WTE) : WTE := fun ρ G Q => ta ρ G fun x G1 => tb ρ G1 fun y G2 => f x y G2 fun z G3 => isB z fun k => if k = true then tc ρ G3 fun w G4 => f' y w G4 Q else Q (.bl false) G3
theorem toTE_chain {K : PySem.W.Frag} {σ : L2.St} {H : Hp} {Q : VK} (h : toTE K (wChain f f' ta tb tc) σ H Q) : tChain (lift2 K f) (lift2 K f') (toTE K ta) (toTE K tb) (toTE K tc) σ H Q := by
  obtain ⟨ρ, G, P, env, sim, h, k⟩ := h
  refine ⟨ρ, G, _, env, sim, h, fun x G1 v1 H1 h1 r1 s1 st1 => ⟨ρ, G1, _, env.mono (.of sim st1), s1, h1, fun y G2 v2 H2 h2 r2 s2 st2 => ⟨x, y, G2, _, r1.mono (.of s1 st2), r2, s2, h2, fun z G3 v3 H3 h3 r3 s3 st3 => ?_⟩⟩⟩
  obtain ⟨b, rfl, q⟩ := isB_get h3
  cases r3
  refine ⟨b, rfl, ?_⟩
  have st := (st1.trans st2).trans st3
  cases b with
  | true =>
    rw [if_pos rfl] at q ⊢
    exact ⟨ρ, G3, _, env.mono (.of sim st), s3, q, fun w G4 v4 H4 h4 r4 s4 st4 => ⟨y, w, G4, P, r2.mono (.of s2 (st3.trans st4)), r4, s4, h4, k.step (st.trans st4)⟩⟩
  | false =>
    rw [if_neg Bool.false_ne_true] at q ⊢
    exact k _ _ _ _ q (.bl false) s3 st
theorem we_chain {op op' : CmpOp} (ho : OpR X (compareOp op) (lift2 X.K f)) (ho' : OpR X (compareOp op') (lift2 X.K f')) (ha : WE X a ta) (hb : WE X b tb) (hc : WE X c tc)
    (hm : lastMarks [op, op'] [b, c] = false := by with_unfolding_all rfl) : WE X (.Compare a [op, op'] [b, c] pos) (wChain f f' ta tb tc) := (pe_chain ho ho' ha hb hc hm).imp fun _ _ _ h => toTE_chain h
/-- an expression that gives a flag, as a test -/
theorem wt_val {t : WTE} (h : WE X a t) (he : ∀ whole, isTrue a X.env whole = (do let v ← whole; standAt a.pos; holding [v] (truthy v)) := by intro _; rfl) : WT X a (wTest t) := (pt_val h he).imp fun σ H Q h => toTT_test h
/-! ### and, or, not, if -/
noncomputable def wAndT (t u : WTT) : WTT := fun ρ G Q => t ρ G fun c G1 => if c = true then u ρ G1 Q else Q false G1
noncomputable def wOrT (t u : WTT) : WTT := fun ρ G Q => t ρ G fun c G1 => if c = true then Q true G1 else u ρ G1 Q
noncomputable def wNotT (t : WTT) : WTT := fun ρ G Q => t ρ G fun c G1 => Q (!c) G1
noncomputable def wAnd (ta tb : WTE) : WTE := fun ρ G Q => ta ρ G fun x G1 => isB x fun c => if c = true then tb ρ G1 Q else Q (.bl false) G1
noncomputable def wOr (ta tb : WTE) : WTE := fun ρ G Q => ta ρ G fun x G1 => isB x fun c => if c = true then Q (.bl true) G1 else tb ρ G1 Q
noncomputable def wNot (ta : WTE) : WTE := fun ρ G Q => ta ρ G fun x G1 => isB x fun c => Q (.bl (!c)) G1
noncomputable def wIf (t : WTT) (ta tb : WTE) : WTE := fun ρ G Q => t ρ G fun c G1 => if c = true then ta ρ G1 Q else tb ρ G1 Q
noncomputable abbrev WW (X : Cx) (e : Expr) (t : WTT) : Prop := PW X e (toTT X.K t)
variable {t u : WTT} {rest : List Expr}
theorem ww_and1 (ha : WT X a t) : WW X (.BoolOp .And [a] pos) t := pw_and1 ha
theorem ww_or1 (ha : WT X a t) : WW X (.BoolOp .Or [a] pos) t := pw_or1 ha
theorem ww_and (ha : WT X a t) (hb : WW X (.BoolOp .And (b :: rest) pos) u) : WW X (.BoolOp .And (a :: b :: rest) pos) (wAndT t u) := (pw_and ha hb).imp fun σ H Q h => by
  obtain ⟨ρ, G, P, env, sim, h, k⟩ := h
  refine ⟨ρ, G, _, env, sim, h, fun c G1 H1 h1 s1 st1 => ?_⟩
  cases c with
  | true => rw [if_pos rfl] at h1 ⊢; exact ⟨ρ, G1, P, env.mono (.of sim st1), s1, h1, k.step st1⟩
  | false => rw [if_neg Bool.false_ne_true] at h1 ⊢; exact k _ _ _ h1 s1 st1
theorem ww_or (ha : WT X a t) (hb : WW X (.BoolOp .Or (b :: rest) pos) u) : WW X (.BoolOp .Or (a :: b :: rest) pos) (wOrT t u) := (pw_or ha hb).imp fun σ H Q h => by
  obtain ⟨ρ, G, P, env, sim, h, k⟩ := h
  refine ⟨ρ, G, _, env, sim, h, fun c G1 H1 h1 s1 st1 => ?_⟩
  cases c with
  | false => rw [if_neg Bool.false_ne_true] at h1 ⊢; exact ⟨ρ, G1, P, env.mono (.of sim st1), s1, h1, k.step st1⟩
  | true => rw [if_pos rfl] at h1 ⊢; exact k _ _ _ h1 s1 st1
theorem wt_bool {e : Expr} (h : WW X e t) : WT X e t := h.pt
theorem wt_not (ha : WT X a t) : WT X (.UnaryOp .Not a pos) (wNotT t) := (pt_not ha).imp fun σ H Q h => by
  obtain ⟨ρ, G, P, env, sim, h, k⟩ := h
  exact ⟨ρ, G, _, env, sim, h, fun c G1 H1 h1 s1 st1 => k _ _ _ h1 s1 st1⟩
theorem we_one {op} {t : WTE} (h : WE X a t) : WE X (.BoolOp op [a] pos) t := pe_one h
theorem we_and (ha : WE X a ta) (hb : WE X (.BoolOp .And (b :: rest) pos) tb) : WE X (.BoolOp .And (a :: b :: rest) pos) (wAnd ta tb) := (pe_and ha hb).imp fun σ H Q h => by
  obtain ⟨ρ, G, P, env, sim, h, k⟩ := h
  refine ⟨ρ, G, _, env, sim, h, fun x G1 v1 H1 h1 r1 s1 st1 => ?_⟩
  obtain ⟨c, rfl, q⟩ := isB_get h1
  cases r1
  refine ⟨c, rfl, ?_⟩
  cases c with
  | true => rw [if_pos rfl] at q ⊢; exact ⟨ρ, G1, P, env.mono (.of sim st1), s1, q, k.step st1⟩
  | false => rw [if_neg Bool.false_ne_true] at q ⊢; exact k _ _ _ _ q (.bl false) s1 st1
theorem we_not (ha : WE X a ta) : WE X (.UnaryOp .Not a pos) (wNot ta) := (pe_not ha).imp fun σ H Q h => by
  obtain ⟨ρ, G, P, env, sim, h, k⟩ := h
  refine ⟨ρ, G, _, env, sim, h, fun x G1 v1 H1 h1 r1 s1 st1 => ?_⟩
  obtain ⟨c, rfl, q⟩ := isB_get h1
  cases r1
  exact ⟨c, rfl, k _ _ _ _ q (.bl _) s1 st1⟩
theorem we_if (hc : WT X c t) (ha : WE X a ta) (hb : WE X b tb) : WE X (.IfExp c a b pos) (wIf t ta tb) := (pe_ifExp hc ha hb).imp fun σ H Q h => by
  obtain ⟨ρ, G, P, env, sim, h, k⟩ := h
  refine ⟨ρ, G, _, env, sim, h, fun x G1 H1 h1 s1 st1 => ?_⟩
  cases x with
  | true => rw [if_pos rfl] at h1 ⊢; exact ⟨ρ, G1, P, env.mono (.of sim st1), s1, h1, k.step st1⟩
  | false => rw [if_neg Bool.false_ne_true] at h1 ⊢; exact ⟨ρ, G1, P, env.mono (.of sim st1), s1, h1, k.step st1⟩
/-! ### argument lists, tuples, lists -/
variable {es : List Expr} {tes : WTA} {e : Expr}
theorem wa_nil : WA X [] wNil := (pa_nil (X := X)).imp fun σ H Q h => by
  obtain ⟨ρ, G, P, env, sim, h, k⟩ := h
  exact k _ _ _ _ h .nil sim Step.refl
theorem wa_cons (ha : WE X e ta) (hr : WA X es tes) (hs : starEach (e :: es) X.env = (false, eval e X.env) :: starEach es X.env := by rfl) : WA X (e :: es) (wCons ta tes) := (pa_cons ha hr hs).imp fun σ H Q h => by
  obtain ⟨ρ, G, P, env, sim, h, k⟩ := h
  exact ⟨ρ, G, _, env, sim, h, fun x G1 v1 H1 h1 r1 s1 st1 => ⟨ρ, G1, _, env.mono (.of sim st1), s1, h1, fun xs G2 vs H2 h2 r2 s2 st2 => k _ _ _ _ h2 (.cons (r1.mono (.of s1 st2)) r2) s2 (st1.trans st2)⟩⟩
noncomputable def wTup (t : WTA) : WTE := fun ρ G Q => t ρ G fun xs G1 => xs.length ≤ sizeLine ∧ Q (.tup xs) G1
noncomputable def wLst (t : WTA) : WTE := fun ρ G Q => t ρ G fun xs G1 => xs.length ≤ sizeLine ∧ ∀ p, G1 p = none → Q (.ref p) (updG G1 p (.lst xs))
/-- a new tuple -/
theorem aft_tup {K : PySem.W.Frag} {H : Hp} {G : WHp} {P : WK} {Q : VK} {ws : List W} {vs : List V} (k : Aft K H G P Q) (sim : Sim K H G) (r : Rws K H ws vs) (h : P (.tup ws) G) : ∀ p, H p = none → Q (.ref p) (upd H p (.tup vs)) := fun p hp =>
  k _ _ _ _ h (.tup (SqT.of upd_same) (r.mono (.new hp))) (sim.hid hp) (.hid hp)
theorem aft_lst {K : PySem.W.Frag} {H : Hp} {G : WHp} {P : WK} {Q : VK} {ws : List W} {vs : List V} (k : Aft K H G P Q) (sim : Sim K H G) (r : Rws K H ws vs) (h : ∀ p, G p = none → P (.ref p) (updG G p (.lst ws))) : ∀ p, H p = none → Q (.ref p) (upd H p (.lst vs)) := fun p hp =>
  k _ _ _ _ (h p (sim.fresh hp)) (.ref p) (sim.new hp ⟨vs, upd_same, r.mono (.new hp)⟩) (.new hp)
theorem we_tup {x1} (h : WA X es tes) : WE X (.Tuple es x1 pos) (wTup tes) := (pe_tup h).imp fun σ H Q h => by
  obtain ⟨ρ, G, P, env, sim, h, k⟩ := h
  exact ⟨ρ, G, _, env, sim, h, fun xs G1 vs H1 ⟨h1, h2⟩ r1 s1 st1 => ⟨by rw [← r1.length]; exact h1, aft_tup (k.step st1) s1 r1 h2⟩⟩
theorem we_lst (h : WA X es tes) : WE X (.List es pos) (wLst tes) := (pe_lst h).imp fun σ H Q h => by
  obtain ⟨ρ, G, P, env, sim, h, k⟩ := h
  exact ⟨ρ, G, _, env, sim, h, fun xs G1 vs H1 ⟨h1, h2⟩ r1 s1 st1 => ⟨by rw [← r1.length]; exact h1, aft_lst (k.step st1) s1 r1 h2⟩⟩
end
end WL
set_option Elab.async false
set_option linter.all false
set_option maxRecDepth 100000
set_option maxHeartbeats 1000000
namespace WL
open PySem PySem.Spec PyProof.Rows L2
/-! ### lists at an address -/
noncomputable def lsAt (G : WHp) (p : Addr) (k : List W → Prop) : Prop := match G p with
  | some (.lst xs) => k xs
  | some (.rol xs) => k xs
  | _ => False
/-- a list that may be changed -/
noncomputable def mlAt (G : WHp) (p : Addr) (k : List W → Prop) : Prop := match G p with
  | some (.lst xs) => k xs
  | _ => False
theorem mlAt_get {G : WHp} {p : Addr} {k : List W → Prop} (h : mlAt G p k) : ∃ xs, G p = some (.lst xs) ∧ k xs := by
  unfold mlAt at h
  split at h
  · rename_i xs e; exact ⟨xs, e, h⟩
  · exact h.elim
theorem mlAt_of {G : WHp} {p : Addr} {k : List W → Prop} {xs : List W} (h : G p = some (.lst xs)) (q : k xs) : mlAt G p k := by unfold mlAt; rw [h]; exact q
theorem lsAt_of {G : WHp} {p : Addr} {k : List W → Prop} {xs : List W} (h : G p = some (.lst xs)) (q : k xs) : lsAt G p k := by unfold lsAt; rw [h]; exact q
theorem lsAt_ro {G : WHp} {p : Addr} {k : List W → Prop} {xs : List W} (h : G p = some (.rol xs)) (q : k xs) : lsAt G p k := by unfold lsAt; rw [h]; exact q
theorem lsAt_get {K : PySem.W.Frag} {H : Hp} {G : WHp} {p : Addr} {k : List W → Prop} (sim : Sim K H G) (h : lsAt G p k) : ∃ xs vs, SqL K H p vs ∧ Rws K H xs vs ∧ k xs ∧ (G p = some (.lst xs) ∨ G p = some (.rol xs)) := by
  unfold lsAt at h
  split at h
  · rename_i xs e; obtain ⟨vs, e1, r⟩ := sim p _ e; exact ⟨xs, vs, SqL.of e1, r, h, .inl e⟩
  · rename_i xs e; obtain ⟨vs, e1, r⟩ := sim p _ e; exact ⟨xs, vs, .inl e1, r, h, .inr e⟩
  · exact h.elim
/-! ### arithmetic -/
noncomputable def addW : W → W → WHp → WK → Prop
  | .int i, .int j => fun G Q => Q (.int (i + j)) G
  | .str a, .str b => fun G Q => a.length + b.length ≤ sizeLine ∧ Q (.str (a ++ b)) G
  | .tup a, .tup b => fun G Q => a.length + b.length ≤ sizeLine ∧ Q (.tup (a ++ b)) G
  | .ref p, .ref q => fun G Q => mlAt G p fun a => mlAt G q fun b => a.length + b.length ≤ sizeLine ∧ ∀ r, G r = none → Q (.ref r) (updG G r (.lst (a ++ b)))
  | _, _ => fun _ _ => False
noncomputable def subW : W → W → WHp → WK → Prop
  | .int i, .int j => fun G Q => Q (.int (i - j)) G
  | _, _ => fun _ _ => False
/-- one factor within 64 bits; a list or tuple some times -/
noncomputable def mulW : W → W → WHp → WK → Prop
  | .int i, .int j => fun G Q => ((-(2 ^ 64) < i ∧ i < 2 ^ 64) ∨ (-(2 ^ 64) < j ∧ j < 2 ^ 64)) ∧ Q (.int (i * j)) G
  | .ref p, .int k => fun G Q => mlAt G p fun a => 0 ≤ k ∧ k ≤ 10000 ∧ a.length ≤ 1000 ∧ ∀ r, G r = none → Q (.ref r) (updG G r (.lst (List.replicate k.toNat a).flatten))
  | .tup a, .int k => fun G Q => a ≠ [] ∧ 0 ≤ k ∧ k ≤ 1000 ∧ a.length ≤ 1000 ∧ Q (.tup (List.replicate k.toNat a).flatten) G
  | _, _ => fun _ _ => False
noncomputable def modW : W → W → WHp → WK → Prop
  | .int i, .int j => fun G Q => 0 < j ∧ Q (.int (i % j)) G
  | _, _ => fun _ _ => False
noncomputable def fdivW : W → W → WHp → WK → Prop
  | .int i, .int j => fun G Q => 0 < j ∧ j < 1073741824 ∧ Q (.int (i / j)) G
  | _, _ => fun _ _ => False
noncomputable def powW : W → W → WHp → WK → Prop
  | .int i, .int j => fun G Q => (0 ≤ j ∧ j ≤ 1000000 ∧ i.natAbs < 2 ^ 64) ∧ Q (.int (i ^ j.toNat)) G
  | _, _ => fun _ _ => False
section
variable {X : Cx}
theorem opw_add : OpR X (binaryOp .Add) (lift2 X.K addW) := by
  intro pins s σ H x y v u Q I rx ry ⟨a, b, G, P, ra, rb, sim, h, k⟩
  cases a <;> cases b <;> first | exact False.elim h | skip
  · cases ra; cases rb
    exact op_add pins s σ H _ _ v u Q I rx ry ⟨_, _, rfl, rfl, k _ _ _ _ h (.int _) sim .refl⟩
  · cases ra; cases rb
    exact op_add_str pins s σ H _ _ v u Q I rx ry ⟨_, _, rfl, rfl, h.1, k _ _ _ _ h.2 (.str _) sim .refl⟩
  · rename_i l l'
    cases ra with
    | @tup p vs _ hp rp =>
      cases rb with
      | @tup q us _ hq rq =>
        refine op_catA pins s σ H _ _ v u Q I rx ry ⟨_, _, vs, us, rfl, rfl, hp, hq, by rw [← rp.length, ← rq.length]; exact h.1, fun e => ?_, fun _ e => ?_, fun _ _ => aft_tup k sim (rp.append rq) h.2⟩
        · subst e
          cases rp
          exact k _ _ _ _ h.2 (.tup hq rq) sim .refl
        · subst e
          cases rq
          have h2 := h.2
          rw [List.append_nil] at h2
          exact k _ _ _ _ h2 (.tup hp rp) sim .refl
  · cases ra; cases rb
    obtain ⟨as, ea, h⟩ := mlAt_get h
    obtain ⟨bs, eb, h1, h2⟩ := mlAt_get h
    obtain ⟨vs, ev, rv⟩ := sim _ _ ea
    obtain ⟨us, eu, ru⟩ := sim _ _ eb
    exact op_cat pins s σ H _ _ v u Q I rx ry ⟨_, _, vs, us, rfl, rfl, ev, eu, by rw [← rv.length, ← ru.length]; exact h1, aft_lst k sim (rv.append ru) h2⟩
theorem opw_sub : OpR X (binaryOp .Sub) (lift2 X.K subW) := by
  intro pins s σ H x y v u Q I rx ry ⟨a, b, G, P, ra, rb, sim, h, k⟩
  cases a <;> cases b <;> first | exact False.elim h | skip
  cases ra; cases rb
  exact op_sub pins s σ H _ _ v u Q I rx ry ⟨_, _, rfl, rfl, k _ _ _ _ h (.int _) sim .refl⟩
theorem opw_mul : OpR X (binaryOp .Mult) (lift2 X.K mulW) := by
  intro pins s σ H x y v u Q I rx ry ⟨a, b, G, P, ra, rb, sim, h, k⟩
  cases a <;> cases b <;> first | exact False.elim h | skip
  · cases ra; cases rb
    exact op_mul pins s σ H _ _ v u Q I rx ry ⟨_, _, rfl, rfl, h.1, k _ _ _ _ h.2 (.int _) sim .refl⟩
  · rename_i l n
    obtain ⟨hne, h0, h1, h2, h3⟩ := h
    cases ra with
    | @tup p vs _ hp rp =>
      cases rb
      have hv : vs ≠ [] := fun e => hne (List.eq_nil_of_length_eq_zero (by rw [rp.length, e]; rfl))
      rcases Int.lt_or_le n 2 with hn | hn
      · refine op_rep01 pins s σ H _ _ v u Q I rx ry ⟨_, _, vs, rfl, rfl, hp, hv, ?_⟩
        rcases Int.lt_or_le n 1 with hn' | hn'
        · have : n = 0 := by omega
          subst this
          exact .inr ⟨rfl, aft_tup k sim .nil h3⟩
        · have : n = 1 := by omega
          subst this
          refine .inl ⟨rfl, k _ _ _ _ h3 (.tup hp ?_) sim .refl⟩
          have := rp.rep 1
          simpa using rp
      · exact op_repT pins s σ H _ _ v u Q I rx ry ⟨_, _, vs, rfl, rfl, hp, hv, hn, h1, by rw [← rp.length]; exact h2, aft_tup k sim (rp.rep _) h3⟩
  · rename_i p n
    cases ra; cases rb
    obtain ⟨as, ea, h0, h1, h2, h3⟩ := mlAt_get h
    obtain ⟨vs, ev, rv⟩ := sim _ _ ea
    refine op_rep pins s σ H _ _ v u Q I rx ry ⟨_, _, vs, rfl, rfl, ev, by omega, by omega, ?_, aft_lst k sim (rv.rep _) h3⟩
    rw [← rv.length]
    have h4 : n.toNat ≤ 10000 := by omega
    have h5 := Nat.mul_le_mul h2 h4
    exact Nat.le_trans h5 (by decide)
theorem opw_mod : OpR X (binaryOp .Mod) (lift2 X.K modW) := by
  intro pins s σ H x y v u Q I rx ry ⟨a, b, G, P, ra, rb, sim, h, k⟩
  cases a <;> cases b <;> first | exact False.elim h | skip
  cases ra; cases rb
  exact op_mod pins s σ H _ _ v u Q I rx ry ⟨_, _, rfl, rfl, h.1, k _ _ _ _ h.2 (.int _) sim .refl⟩
theorem opw_fdiv : OpR X (binaryOp .FloorDiv) (lift2 X.K fdivW) := by
  intro pins s σ H x y v u Q I rx ry ⟨a, b, G, P, ra, rb, sim, h, k⟩
  cases a <;> cases b <;> first | exact False.elim h | skip
  cases ra; cases rb
  exact op_fdiv pins s σ H _ _ v u Q I rx ry ⟨_, _, rfl, rfl, ⟨h.1, h.2.1⟩, k _ _ _ _ h.2.2 (.int _) sim .refl⟩
theorem opw_pow : OpR X (binaryOp .Pow) (lift2 X.K powW) := by
  intro pins s σ H x y v u Q I rx ry ⟨a, b, G, P, ra, rb, sim, h, k⟩
  cases a <;> cases b <;> first | exact False.elim h | skip
  cases ra; cases rb
  exact op_pow pins s σ H _ _ v u Q I rx ry ⟨_, _, rfl, rfl, h.1, k _ _ _ _ h.2 (.int _) sim .refl⟩
noncomputable def negW : W → WHp → WK → Prop
  | .int i => fun G Q => Q (.int (-i)) G
  | _ => fun _ _ => False
end
/-! ### comparisons -/
noncomputable def cmpI (p : Int → Int → Bool) : W → W → WHp → WK → Prop
  | .int i, .int j => fun G Q => Q (.bl (p i j)) G
  | _, _ => fun _ _ => False
noncomputable abbrev ltW := cmpI fun i j => decide (i < j)
noncomputable abbrev leW := cmpI fun i j => decide (i ≤ j)
noncomputable abbrev gtW := cmpI fun i j => decide (j < i)
noncomputable abbrev geW := cmpI fun i j => decide (j ≤ i)
section
variable {X : Cx}
theorem opw_cmpI {op : CmpOp} {p : Int → Int → Bool} (ho : OpR X (compareOp op) (rI0 fun i j => .bl (p i j))) : OpR X (compareOp op) (lift2 X.K (cmpI p)) := by
  intro pins s σ H x y v u Q I rx ry ⟨a, b, G, P, ra, rb, sim, h, k⟩
  cases a <;> cases b <;> first | exact False.elim h | skip
  cases ra; cases rb
  exact ho pins s σ H _ _ v u Q I rx ry ⟨_, _, rfl, rfl, k _ _ _ _ h (.bl _) sim .refl⟩
theorem opw_lt : OpR X (compareOp .Lt) (lift2 X.K ltW) := opw_cmpI op_lt
theorem opw_le : OpR X (compareOp .LtE) (lift2 X.K leW) := opw_cmpI op_le
theorem opw_gt : OpR X (compareOp .Gt) (lift2 X.K gtW) := opw_cmpI op_gt
theorem opw_ge : OpR X (compareOp .GtE) (lift2 X.K geW) := opw_cmpI op_ge
end
/-- == of scalars -/
noncomputable def scW : W → W → Option Bool
  | .non, .non => some true | .non, .int _ => some false | .int _, .non => some false | .non, .bl _ => some false | .bl _, .non => some false | .non, .str _ => some false | .str _, .non => some false
  | .int i, .int j => some (decide (i = j)) | .bl a, .bl b => some (decide (a = b)) | .str x, .str y => some (decide (x = y))
  | .int _, .str _ => some false | .str _, .int _ => some false | .bl _, .str _ => some false | .str _, .bl _ => some false
  | _, _ => none
mutual
/-- data: tuples and lists at any depth -/
inductive Dw (G : WHp) : W → PyData → Prop
  | non : Dw G .non .none
  | bl (b : Bool) : Dw G (.bl b) (.bool b)
  | int (i : Int) : Dw G (.int i) (.int i)
  | str (x : Str) : Dw G (.str x) (.str x)
  | tup {ws : List W} {ds : List PyData} (h : Dws G ws ds) : Dw G (.tup ws) (.tuple ds)
  | lst {a : Addr} {ws : List W} {ds : List PyData} (e : G a = some (.lst ws) ∨ G a = some (.rol ws)) (h : Dws G ws ds) : Dw G (.ref a) (.list ds)
inductive Dws (G : WHp) : List W → List PyData → Prop
  | nil : Dws G [] []
  | cons {w : W} {d : PyData} {ws : List W} {ds : List PyData} (h : Dw G w d) (t : Dws G ws ds) : Dws G (w :: ws) (d :: ds)
end
mutual
theorem Dw.dp {K : PySem.W.Frag} {H : Hp} {G : WHp} (sim : Sim K H G) : ∀ {w : W} {d : PyData} {v : V}, Dw G w d → Rw K H w v → Dp K H v d
  | _, _, _, .non, .non => .non
  | _, _, _, .bl _, .bl b => .bl b
  | _, _, _, .int _, .int i => .int i
  | _, _, _, .str _, .str x => .str x
  | _, _, _, .tup h, .tup e r => .tup e (Dws.dp sim h r)
  | _, _, _, .lst e h, .ref _ => by
    rcases e with e | e
    · obtain ⟨vs, e1, r⟩ := sim _ _ e
      exact .lst (SqL.of e1) (Dws.dp sim h r)
    · obtain ⟨vs, e1, r⟩ := sim _ _ e
      exact .lst (.inl e1) (Dws.dp sim h r)
theorem Dws.dp {K : PySem.W.Frag} {H : Hp} {G : WHp} (sim : Sim K H G) : ∀ {ws : List W} {ds : List PyData} {vs : List V}, Dws G ws ds → Rws K H ws vs → DpAll K H vs ds
  | _, _, _, .nil, .nil => .nil
  | _, _, _, .cons h t, .cons r s => .cons (Dw.dp sim h r) (Dws.dp sim t s)
end
noncomputable def eqW (x y : W) (G : WHp) (Q : WK) : Prop := match scW x y with
  | some b => Q (.bl b) G
  | none => ∃ d e, Dw G x d ∧ Dw G y e ∧ SeqAt.shaped d = true ∧ SeqAt.shaped e = true ∧ Q (.bl (PyData.eqv d e)) G
noncomputable def neW (x y : W) (G : WHp) (Q : WK) : Prop := match scW x y with
  | some b => Q (.bl (!b)) G
  | none => ∃ d e, Dw G x d ∧ Dw G y e ∧ SeqAt.shaped d = true ∧ SeqAt.shaped e = true ∧ Q (.bl (!PyData.eqv d e)) G
theorem scW_of {K : PySem.W.Frag} {H : Hp} {x y : W} {v u : V} {b : Bool} (h : scW x y = some b) (r : Rw K H x v) (q : Rw K H y u) : scal v u = true ∧ decide (v = u) = b := by
  cases r <;> cases q <;> first | (exact absurd (show (none : Option Bool) = some b from h) (by simp)) | (have h' := Option.some.inj h; subst h'; exact ⟨rfl, by simp⟩)
section
variable {X : Cx}
theorem opw_eq (hu : X.A.units + 64 < cLine) : OpR X (compareOp .Eq) (lift2 X.K eqW) := by
  intro pins s σ H x y v u Q I rx ry ⟨a, b, G, P, ra, rb, sim, h, k⟩
  unfold eqW at h
  split at h
  · rename_i c e
    obtain ⟨h1, h2⟩ := scW_of e ra rb
    exact op_eq pins s σ H x y v u Q I rx ry ⟨h1, by rw [h2]; exact k _ _ _ _ h (.bl _) sim .refl⟩
  · obtain ⟨d, e, hd, he, sd, se, h⟩ := h
    exact op_eqD hu pins s σ H x y v u Q I rx ry ⟨d, e, hd.dp sim ra, he.dp sim rb, sd, se, k _ _ _ _ h (.bl _) sim .refl⟩
theorem opw_ne (hu : X.A.units + 64 < cLine) : OpR X (compareOp .NotEq) (lift2 X.K neW) := by
  intro pins s σ H x y v u Q I rx ry ⟨a, b, G, P, ra, rb, sim, h, k⟩
  unfold neW at h
  split at h
  · rename_i c e
    obtain ⟨h1, h2⟩ := scW_of e ra rb
    exact op_ne pins s σ H x y v u Q I rx ry ⟨h1, by rw [h2]; exact k _ _ _ _ h (.bl _) sim .refl⟩
  · obtain ⟨d, e, hd, he, sd, se, h⟩ := h
    exact op_neD hu pins s σ H x y v u Q I rx ry ⟨d, e, hd.dp sim ra, he.dp sim rb, sd, se, k _ _ _ _ h (.bl _) sim .refl⟩
/-- x is None -/
noncomputable def nonW : W → Bool
  | .non => true
  | _ => false
noncomputable def isNW (x y : W) (G : WHp) (Q : WK) : Prop := nonW y = true ∧ Q (.bl (nonW x)) G
noncomputable def notNW (x y : W) (G : WHp) (Q : WK) : Prop := nonW y = true ∧ Q (.bl (!nonW x)) G
theorem nonW_of {K : PySem.W.Frag} {H : Hp} {x : W} {v : V} (r : Rw K H x v) : decide (v = .non) = nonW x := by cases r <;> simp [nonW]
theorem opw_is : OpR X (compareOp .Is) (lift2 X.K isNW) := by
  intro pins s σ H x y v u Q I rx ry ⟨a, b, G, P, ra, rb, sim, ⟨h1, h⟩, k⟩
  cases rb <;> first | exact absurd h1 Bool.false_ne_true | skip
  exact op_isN pins s σ H x _ v u Q I rx ry ⟨rfl, by rw [nonW_of ra]; exact k _ _ _ _ h (.bl _) sim .refl⟩
theorem opw_isnot : OpR X (compareOp .IsNot) (lift2 X.K notNW) := by
  intro pins s σ H x y v u Q I rx ry ⟨a, b, G, P, ra, rb, sim, ⟨h1, h⟩, k⟩
  cases rb <;> first | exact absurd h1 Bool.false_ne_true | skip
  exact op_notN pins s σ H x _ v u Q I rx ry ⟨rfl, by rw [nonW_of ra]; exact k _ _ _ _ h (.bl _) sim .refl⟩
end
/-! ### keys, dicts -/
noncomputable def keyW : W → Option Key
  | .int i => some (.inl i)
  | .str x => some (.inr x)
  | _ => none
noncomputable def kW : Key → W
  | .inl i => .int i
  | .inr x => .str x
theorem keyW_of {K : PySem.W.Frag} {H : Hp} {x : W} {v : V} {k : Key} (h : keyW x = some k) (r : Rw K H x v) : v = kV k := by
  cases r <;> first | (exact absurd (show (none : Option Key) = some k from h) (by simp)) | (have h' := Option.some.inj h; subst h'; rfl)
noncomputable def valW {κ : Type} [DecidableEq κ] (kws : List (κ × W)) (k : κ) : Option W := (kws.find? fun kv => decide (kv.1 = k)).map (·.2)
noncomputable def putW {κ : Type} [DecidableEq κ] (kws : List (κ × W)) (k : κ) (w : W) : List (κ × W) :=
  if (valW kws k).isSome then kws.map fun kv => if kv.1 = k then (kv.1, w) else kv else kws ++ [(k, w)]
section
variable {κ : Type} [DecidableEq κ] {K : PySem.W.Frag} {H : Hp}
theorem RwK.val {k : κ} : ∀ {ws : List (κ × W)} {vs : List (κ × V)}, RwK K H ws vs → (∃ w v, valW ws k = some w ∧ valV vs k = some v ∧ Rw K H w v) ∨ (valW ws k = none ∧ valV vs k = none)
  | _, _, .nil => .inr ⟨rfl, rfl⟩
  | _, _, .cons (k := j) (w := w) (v := v) h t => by
    by_cases e : j = k
    · exact .inl ⟨w, v, by simp [valW, List.find?_cons, e], by simp [valV, List.find?_cons, e], h⟩
    · have e1 : ∀ r, valW ((j, w) :: r) k = valW r k := fun r => by simp [valW, List.find?_cons, e]
      have e2 : ∀ r, valV ((j, v) :: r) k = valV r k := fun r => by simp [valV, List.find?_cons, e]
      rw [e1, e2]
      exact RwK.val t
theorem RwK.map {k : κ} {w : W} {v : V} (h : Rw K H w v) : ∀ {ws : List (κ × W)} {vs : List (κ × V)}, RwK K H ws vs → RwK K H (ws.map fun kv => if kv.1 = k then (kv.1, w) else kv) (vs.map fun kv => if kv.1 = k then (kv.1, v) else kv)
  | _, _, .nil => .nil
  | _, _, .cons (k := j) q t => by
    rw [List.map_cons, List.map_cons]
    by_cases e : j = k
    · simp only [e, if_true]; exact .cons h (RwK.map h t)
    · simp only [e, if_false]; exact .cons q (RwK.map h t)
theorem RwK.snoc {k : κ} {w : W} {v : V} (h : Rw K H w v) : ∀ {ws : List (κ × W)} {vs : List (κ × V)}, RwK K H ws vs → RwK K H (ws ++ [(k, w)]) (vs ++ [(k, v)])
  | _, _, .nil => .cons h .nil
  | _, _, .cons q t => .cons q (RwK.snoc h t)
theorem RwK.length : ∀ {ws : List (κ × W)} {vs : List (κ × V)}, RwK K H ws vs → ws.length = vs.length
  | _, _, .nil => rfl
  | _, _, .cons _ t => by rw [List.length_cons, List.length_cons, RwK.length t]
end
end WL
set_option Elab.async false
set_option linter.all false
set_option maxRecDepth 100000
set_option maxHeartbeats 1000000
namespace L2
open PySem PySem.Spec PyProof.Rows
section
variable {X : Cx}
theorem sw_trueD {kx vx : Expr} {gs : List Comprehension} {scope : Scope} {pos py : Pos} {y : Str} {l : Nat} {env : Env} (hk : env.scope.kind = .function) (hy : env.scope.names.lookup y = some .local) (hl : (py.line == pos.line) = true)
    (ha : (scope.names.any fun (n, k) => n == y && (k == .local || k == .cell)) = false) : swapsWith (.DictComp kx vx gs scope pos) (some (.Name y py)) l env = pure true := by
  have ky : env.kindOf y = some .local := hy
  have hb : env.blockKind = .function := by unfold Env.blockKind; rw [hk]; rfl
  unfold swapsWith
  simp only [hb, ky, ha, Expr.pos, hl]
  rfl
end
end L2
namespace WL
open PySem PySem.Spec PyProof.Rows L2
/-! ### targets -/
noncomputable abbrev WTG := W → WEnv → WHp → (WEnv → WHp → Prop) → Prop
noncomputable def toTG (K : PySem.W.Frag) (g : WTG) : TG := fun v σ H Q => ∃ w ρ G P, Rw K H w v ∧ EnvOk K H ρ σ ∧ Sim K H G ∧ g w ρ G P ∧ AftS K H G P Q
noncomputable abbrev WG (X : Cx) (e : Expr) (g : WTG) : Prop := PG X e (toTG X.K g)
noncomputable def wName (i : Nat) : WTG := fun w ρ G Q => Q (ρ.set i (some w)) G
/-- names from a tuple -/
noncomputable def setsW : List Nat → List W → WEnv → WEnv
  | i :: is, w :: ws, ρ => setsW is ws (ρ.set i (some w))
  | _, _, ρ => ρ
noncomputable def wNames (is : List Nat) : WTG := fun w ρ G Q => match w with
  | .tup ws => ws.length = is.length ∧ Q (setsW is ws ρ) G
  | _ => False
/-- names as the targets of a tuple -/
noncomputable def gNames : List Nat → TGs
  | [] => gNil
  | i :: is => gCons (gName i) (gNames is)
theorem gNames_of {K : PySem.W.Frag} {H : Hp} {G : WHp} {P : WEnv → WHp → Prop} {Q : L2.St → Hp → Prop} (sim : Sim K H G) (k : AftS K H G P Q) : ∀ {is : List Nat} {ws : List W} {vs : List V} {ρ : WEnv} {σ : L2.St}, Rws K H ws vs → EnvOk K H ρ σ → ws.length = is.length → P (setsW is ws ρ) G → gNames is vs σ H Q
  | [], [], _, ρ, σ, .nil, env, _, h => ⟨rfl, k ρ G σ H h env sim .refl⟩
  | i :: is, w :: ws, _, ρ, σ, .cons r t, env, hl, h => ⟨_, _, rfl, gNames_of sim k t (env.set r i) (by simpa using hl) h⟩
section
variable {X : Cx} {pos : Pos}
theorem wg_name {i : Nat} {x : Str} (hN : X.N.Nodup) (hi : X.N[i]? = some x) (hx : Loc X.env.scope x) (hf : X.fn x = true ∨ X.env.scope.names.lookup x = some .local := by first | exact .inl rfl | exact .inr rfl | assumption) : WG X (.Name x pos) (wName i) :=
  (pg_name hN hi hx hf).imp fun v σ H Q ⟨w, ρ, G, P, r, env, sim, h, k⟩ => k _ _ _ _ h (env.set r i) sim .refl
theorem wg_names {es : List Expr} {k : Nat} {is : List Nat} (hc : X.calm = true) (h : PGs X es (gNames is)) (hl : es.length = is.length)
    (hn : (assignEach es X.env).length = es.length := by rfl) (hst : (assignEach es X.env).findIdx? (·.1) = none := by rfl) : WG X (.Tuple es k pos) (wNames is) :=
  (pg_tup (n := es.length) hc h hn hst).imp fun v σ H Q ⟨w, ρ, G, P, r, env, sim, h, k⟩ => by
    cases w <;> first | exact h.elim | skip
    cases r with
    | @tup p vs ws hp rs => exact ⟨p, vs, rfl, hp, by rw [← rs.length, hl]; exact h.1, gNames_of sim k rs env h.1 h.2⟩
end
/-! ### statements -/
section
variable {X : Cx} {e : Expr} {te : WTE} {pos : Pos} {st : Stmt} {rest : List Stmt} {t u : WTS}
noncomputable def wNext : WTS := fun D ρ G => D.nx ρ G
noncomputable def wSeq (t u : WTS) : WTS := fun D ρ G => t { D with nx := u D } ρ G
noncomputable def wAsg (te : WTE) (g : WTG) : WTS := fun D ρ G => te ρ G fun w G1 => g w ρ G1 D.nx
noncomputable def wSet (i : Nat) (te : WTE) : WTS := fun D ρ G => te ρ G fun w G1 => D.nx (ρ.set i (some w)) G1
noncomputable def wDrop (te : WTE) : WTS := fun D ρ G => te ρ G fun _ G1 => D.nx ρ G1
noncomputable def wRet (te : WTE) : WTS := fun D ρ G => te ρ G D.rt
noncomputable def wRetN : WTS := fun D _ G => D.rt .non G
noncomputable def wIfS (c : WTT) (t u : WTS) : WTS := fun D ρ G => c ρ G fun b G1 => if b = true then t D ρ G1 else u D ρ G1
noncomputable def wBreak : WTS := fun D ρ G => D.bk ρ G
noncomputable def wCont : WTS := fun D ρ G => D.ct ρ G
noncomputable def wNever : WTS := fun _ _ _ => False
theorem wss_nil : WSs X [] wNext := (pss_nil (X := X)).imp fun D σ H ⟨ρ, G, P, env, sim, h, k⟩ => k.nx _ _ _ _ h env sim .refl
theorem wss_cons (h1 : WS X st t) (h2 : WSs X rest u) : WSs X (st :: rest) (wSeq t u) := (pss_cons h1 h2).imp fun D σ H ⟨ρ, G, P, env, sim, h, k⟩ =>
  ⟨ρ, G, { P with nx := u P }, env, sim, h, ⟨fun ρ1 G1 σ1 H1 h1 env1 sim1 st1 => ⟨ρ1, G1, P, env1, sim1, h1, k.step st1⟩, k.rt, k.bk, k.ct⟩⟩
theorem wss_one (h1 : WS X st t) : WSs X [st] t := pss_one h1
theorem ws_never : WS X st wNever := (ps_never (X := X)).imp fun D σ H ⟨ρ, G, P, env, sim, h, k⟩ => h
theorem ws_expr (he : WE X e te) (hs : swapsWith e none pos.line X.env = pure false := by rfl) : WS X (.Expr e pos) (wDrop te) := (ps_expr he hs).imp fun D σ H ⟨ρ, G, P, env, sim, h, k⟩ =>
  ⟨ρ, G, _, env, sim, h, fun w G1 v H1 h1 r1 s1 st1 => k.nx _ _ _ _ h1 (env.mono (.of sim st1)) s1 st1⟩
theorem ws_ret (he : WE X e te) : WS X (.Return (some e) pos) (wRet te) := (ps_ret he).imp fun D σ H ⟨ρ, G, P, env, sim, h, k⟩ =>
  ⟨ρ, G, _, env, sim, h, k.rt⟩
theorem ws_if {c : Expr} {a b : List Stmt} {tc : WTT} (hc : WT X c tc) (ha : WSs X a t) (hb : WSs X b u) : WS X (.If c a b pos) (wIfS tc t u) := (ps_if hc ha hb).imp fun D σ H ⟨ρ, G, P, env, sim, h, k⟩ =>
  ⟨ρ, G, _, env, sim, h, fun x G1 H1 h1 s1 st1 => by
    cases x with
    | true => rw [if_pos rfl] at h1 ⊢; exact ⟨ρ, G1, P, env.mono (.of sim st1), s1, h1, k.step st1⟩
    | false => rw [if_neg Bool.false_ne_true] at h1 ⊢; exact ⟨ρ, G1, P, env.mono (.of sim st1), s1, h1, k.step st1⟩⟩
theorem ws_asg {tg : Expr} {g : WTG} (he : WE X e te) (hg : WG X tg g) (hs : swapsWithSole [tg] e pos.line X.env = pure false := by rfl) (hw : swappedStores [tg] e X.env = pure none := by rfl)
    (h1 : (assignEach [tg] X.env).map (·.2) = [assign tg X.env] := by rfl) : WS X (.Assign [tg] e pos) (wAsg te g) := (ps_asg he hg hs hw h1).imp fun D σ H ⟨ρ, G, P, env, sim, h, k⟩ =>
  ⟨ρ, G, _, env, sim, h, fun w G1 v H1 h1 r1 s1 st1 => ⟨w, ρ, G1, P.nx, r1, env.mono (.of sim st1), s1, h1, k.nx.step st1⟩⟩
theorem ws_set {i : Nat} {x : Str} {pos' : Pos} (hN : X.N.Nodup) (hi : X.N[i]? = some x) (hx : Loc X.env.scope x) (he : WE X e te) (hs : swapsWith e (some (.Name x pos')) pos.line X.env = pure false := by rfl) (hf : X.fn x = true ∨ X.env.scope.names.lookup x = some .local := by first | exact .inl rfl | exact .inr rfl | assumption) :
    WS X (.Assign [.Name x pos'] e pos) (wSet i te) := (ps_set hN hi hx he hs hf).imp fun D σ H ⟨ρ, G, P, env, sim, h, k⟩ =>
  ⟨ρ, G, _, env, sim, h, fun w G1 v H1 h1 r1 s1 st1 => k.nx _ _ _ _ h1 ((env.mono (.of sim st1)).set r1 i) s1 st1⟩
/-- x += e, ints (x in slot i) -/
noncomputable def wAug (i : Nat) (te : WTE) (f : Int → Int → Int) : WTS := fun D ρ G => lk ρ i fun x => te ρ G fun y G1 => match x, y with
  | .int a, .int b => D.nx (ρ.set i (some (.int (f a b)))) G1
  | _, _ => False
theorem ws_aug {i : Nat} {x : Str} {op : Operator} {f : Int → Int → Int} {pos' : Pos} (hN : X.N.Nodup) (hi : X.N[i]? = some x) (hx : Loc X.env.scope x) (he : WE X e te) (ho : PIp X op (ipI f)) (hf : X.fn x = true ∨ X.env.scope.names.lookup x = some .local := by first | exact .inl rfl | exact .inr rfl | assumption) :
    WS X (.AugAssign (.Name x pos') op e pos) (wAug i te f) := (ps_aug hN hi hx he ho hf).imp fun D σ H ⟨ρ, G, P, env, sim, h, k⟩ => by
  obtain ⟨w, e1, h⟩ := lk_get h
  obtain ⟨v, e2, r⟩ := env.2 i w e1
  refine ⟨v, e2, ρ, G, _, env, sim, h, fun w1 G1 v1 H1 h1 r1 s1 st1 => ?_⟩
  cases w <;> cases w1 <;> first | exact h1.elim | skip
  cases r; cases r1
  exact ⟨_, _, rfl, rfl, k.nx _ _ _ _ h1 ((env.mono (.of sim st1)).set (.int _) i) s1 st1⟩
/-! ### while -/
noncomputable def wWhile (c : WTT) (tb : WTS) : WTS := fun D ρ G => ∃ Iv : Nat → WEnv → WHp → Prop, (∃ m, Iv m ρ G) ∧ ∀ m ρ G, Iv m ρ G →
  c ρ G fun b G1 => if b = true then tb { D with nx := fun ρ' G' => ∃ m', m' < m ∧ Iv m' ρ' G', ct := fun ρ' G' => ∃ m', m' < m ∧ Iv m' ρ' G', bk := D.nx } ρ G1 else D.nx ρ G1
theorem ws_while {c : Expr} {body : List Stmt} {tc : WTT} {tb : WTS} (hp : PassesOwn (model X.prog X.w) X.A X.env X.xe) (hc : WT X c tc) (hb : WSs X body tb) : WS X (.While c body [] pos) (wWhile tc tb) := (ps_while hp hc hb).imp fun D σ H ⟨ρ, G, P, env, sim, ⟨Iv, ⟨m0, i0⟩, turn⟩, k⟩ => by
  refine ⟨fun m σ' H' => ∃ ρ' G', Iv m ρ' G' ∧ EnvOk X.K H' ρ' σ' ∧ Sim X.K H' G' ∧ Step H G H' G', ⟨m0, ρ, G, i0, env, sim, .refl⟩, ?_⟩
  rintro m σ1 H1 ⟨ρ1, G1, i1, env1, sim1, st1⟩
  refine ⟨ρ1, G1, _, env1, sim1, turn m ρ1 G1 i1, fun b G2 H2 h2 sim2 st2 => ?_⟩
  cases b with
  | true =>
    rw [if_pos rfl] at h2 ⊢
    refine ⟨fun σ' H' => ∃ m', m' < m ∧ ∃ ρ' G', Iv m' ρ' G' ∧ EnvOk X.K H' ρ' σ' ∧ Sim X.K H' G' ∧ Step H G H' G', fun σ' H' h => h, ρ1, G2, _, env1.mono (.of sim1 st2), sim2, h2, ?_⟩
    have st12 := st1.trans st2
    exact ⟨fun ρ3 G3 σ3 H3 ⟨m', hm, i3⟩ env3 sim3 st3 => ⟨m', hm, ρ3, G3, i3, env3, sim3, st12.trans st3⟩, k.rt.step st12, k.nx.step st12, fun ρ3 G3 σ3 H3 ⟨m', hm, i3⟩ env3 sim3 st3 => ⟨m', hm, ρ3, G3, i3, env3, sim3, st12.trans st3⟩⟩
  | false =>
    rw [if_neg Bool.false_ne_true] at h2 ⊢
    exact k.nx _ _ _ _ h2 (env1.mono (.of sim1 st2)) sim2 (st1.trans st2)
end
/-! ### what is walked -/
/-- tuples and what is locked stay -/
structure Kpt (K : PySem.W.Frag) (H H' : Hp) : Prop where
  tx : TupX K H H'
  fz : ∀ a o u, H a = some (.frz o u) → H' a = some (.frz o u)
theorem Kpt.of {K : PySem.W.Frag} {H H' : Hp} {G G' : WHp} (s : Sim K H G) (st : Step H G H' G') : Kpt K H H' := ⟨.of s st, st.fz⟩
structure JOk (K : PySem.W.Frag) (H0 : Hp) (J : It) (items : List W) (stable : WHp → Prop) : Prop where
  go : ∀ i H G, Kpt K H0 H → Sim K H G → stable G → i < items.length → J.go i H
  stop : ∀ i H G, Kpt K H0 H → Sim K H G → stable G → items.length ≤ i → J.stop i H
  yld : ∀ i H G x H', Kpt K H0 H → Sim K H G → stable G → i < items.length → J.yld i H x H' → ∃ w, items[i]? = some w ∧ Rw K H' w x ∧ Sim K H' G ∧ Step H G H' G
theorem TupX.refl {K : PySem.W.Frag} {H : Hp} : TupX K H H := ⟨fun _ _ h => h, fun _ _ h => h⟩
theorem TupX.trans {K : PySem.W.Frag} {H H1 H2 : Hp} (a : TupX K H H1) (b : TupX K H1 H2) : TupX K H H2 := ⟨fun p vs h => b.t p vs (a.t p vs h), fun c q h => b.c c q (a.c c q h)⟩
noncomputable abbrev WTI := WEnv → WHp → (List W → (WHp → Prop) → WHp → Prop) → Prop
noncomputable def toTI (K : PySem.W.Frag) (t : WTI) : TI := fun σ H R => ∃ ρ G P, EnvOk K H ρ σ ∧ Sim K H G ∧ t ρ G P ∧ ∀ items stable G' J H', P items stable G' → JOk K H' J items stable → Sim K H' G' → Step H G H' G' → R J H'
noncomputable abbrev WI (X : Cx) (tg iter : Expr) (t : WTI) : Prop := PI X tg iter (toTI X.K t)
section
variable {K : PySem.W.Frag} {H : Hp} {G : WHp} {a : Addr}
theorem JOk.list {ws : List W} (h : G a = some (.lst ws) ∨ G a = some (.rol ws)) : JOk K H (Itl K a) ws (fun G => G a = some (.lst ws) ∨ G a = some (.rol ws)) := by
  have get : ∀ {H' : Hp} {G' : WHp}, Sim K H' G' → (G' a = some (.lst ws) ∨ G' a = some (.rol ws)) → ∃ vs, SqL K H' a vs ∧ Rws K H' ws vs := fun sim e => by
    rcases e with e | e
    · obtain ⟨vs, e1, r⟩ := sim _ _ e; exact ⟨vs, SqL.of e1, r⟩
    · obtain ⟨vs, e1, r⟩ := sim _ _ e; exact ⟨vs, .inl e1, r⟩
  refine ⟨fun i H' G' _ sim st hi => ?_, fun i H' G' _ sim st hi => ?_, fun i H' G' x H2 _ sim st hi y => ?_⟩
  · obtain ⟨vs, hq, r⟩ := get sim st
    obtain ⟨v, hv, _⟩ := r.get (i := i) (w := ws[i]) (by simp [hi])
    exact ⟨vs, v, hq, hv⟩
  · obtain ⟨vs, hq, r⟩ := get sim st
    exact ⟨vs, hq, by rw [← r.length]; exact hi⟩
  · obtain ⟨rfl, y⟩ := y
    obtain ⟨vs, hq, r⟩ := get sim st
    obtain ⟨w, hw, rw'⟩ := r.getV (y vs hq)
    exact ⟨w, hw, rw', sim, .refl⟩
theorem JOk.tup {ws : List W} {vs : List V} (h : SqT K H a vs) (r : Rws K H ws vs) : JOk K H (Itt K a) ws (fun _ => True) := by
  refine ⟨fun i H' G' tx sim st hi => ?_, fun i H' G' tx sim st hi => ?_, fun i H' G' x H2 tx sim st hi y => ?_⟩
  · obtain ⟨v, hv, _⟩ := (r.mono tx.tx).get (i := i) (w := ws[i]) (by simp [hi])
    exact ⟨vs, v, tx.tx.t _ _ h, hv⟩
  · exact ⟨vs, tx.tx.t _ _ h, by rw [← r.length]; exact hi⟩
  · obtain ⟨rfl, y⟩ := y
    obtain ⟨w, hw, rw'⟩ := (r.mono tx.tx).getV (y vs (tx.tx.t _ _ h))
    exact ⟨w, hw, rw', sim, .refl⟩
noncomputable def rngW (lo : Int) (n : Nat) : List W := (List.range n).map fun (i : Nat) => W.int (lo + (i : Int))
theorem rngW_length {lo : Int} {n : Nat} : (rngW lo n).length = n := by simp [rngW]
theorem rngW_get {lo : Int} {n i : Nat} (h : i < n) : (rngW lo n)[i]? = some (.int (lo + (i : Int))) := by simp [rngW, h]
theorem JOk.rng {lo : Int} {n : Nat} : JOk K H (Itr lo n) (rngW lo n) (fun _ => True) := by
  refine ⟨fun i H' G' tx sim st hi => ?_, fun i H' G' tx sim st hi => ?_, fun i H' G' x H2 tx sim st hi y => ?_⟩
  · rw [rngW_length] at hi; exact hi
  · rw [rngW_length] at hi; exact hi
  · rw [rngW_length] at hi
    obtain ⟨rfl, rfl⟩ := y
    exact ⟨_, rngW_get hi, .int _, sim, .refl⟩
theorem RwK.getV {κ : Type} {K : PySem.W.Frag} {H : Hp} : ∀ {ws : List (κ × W)} {vs : List (κ × V)} {i : Nat} {k : κ} {v : V}, RwK K H ws vs → vs[i]? = some (k, v) → ∃ w, ws[i]? = some (k, w) ∧ Rw K H w v
  | _, _, _, _, _, .nil, e => by simp at e
  | _, _, 0, _, _, .cons h _, e => by simp at e; obtain ⟨e1, e2⟩ := e; subst e1 e2; exact ⟨_, rfl, h⟩
  | _, _, i + 1, k, v, .cons _ t, e => by
    obtain ⟨w, e1, e2⟩ := RwK.getV (i := i) (k := k) (v := v) t (by simpa using e)
    exact ⟨w, by simpa using e1, e2⟩
theorem rw_kW {K : PySem.W.Frag} {H : Hp} (k : Key) : Rw K H (kW k) (kV k) := by
  cases k with
  | inl i => exact .int i
  | inr x => exact .str x
theorem JOk.keys {od : Obj} {kws : List (Key × W)} {kvs : List (Key × V)} (r : RwK K H kws kvs) (hd : H a = some (.frz od (.dK kvs))) : JOk K H (Itk a od kvs) (kws.map fun kv => kW kv.1) (fun _ => True) := by
  refine ⟨fun i H' G' tx sim st hi => ?_, fun i H' G' tx sim st hi => ?_, fun i H' G' x H2 tx sim st hi y => ?_⟩
  · rw [List.length_map] at hi; exact ⟨tx.fz _ _ _ hd, by rw [← r.length]; exact hi⟩
  · rw [List.length_map] at hi; exact ⟨tx.fz _ _ _ hd, by rw [← r.length]; exact hi⟩
  · obtain ⟨rfl, k, v, h1, rfl⟩ := y
    obtain ⟨w, hw, _⟩ := r.getV h1
    exact ⟨kW k, by rw [List.getElem?_map, hw]; rfl, rw_kW k, sim, .refl⟩
end
end WL
set_option Elab.async false
set_option linter.all false
set_option maxRecDepth 100000
set_option maxHeartbeats 1000000
namespace WL
open PySem PySem.Spec PyProof.Rows L2
/-! ### sequences walked: a tuple, a list, the keys of a locked dict -/
noncomputable def seqOn (w : W) (G : WHp) (k : List W → (WHp → Prop) → Prop) : Prop := match w with
  | .tup ws => k ws (fun _ => True)
  | .ref a => match G a with
    | some (.lst ws) => k ws (fun G => G a = some (.lst ws) ∨ G a = some (.rol ws))
    | some (.rol ws) => k ws (fun G => G a = some (.lst ws) ∨ G a = some (.rol ws))
    | some (.rod kws) => k (kws.map fun kv => kW kv.1) (fun _ => True)
    | _ => False
  | _ => False
noncomputable def wSeqI (t : WTE) : WTI := fun ρ G R => t ρ G fun w G1 => seqOn w G1 fun ws st => R ws st G1
section
variable {X : Cx} {tg l e : Expr} {t : WTE} {ta : WTA} {p pos : Pos}
theorem wi_seq (hl : WE X l t) : WI X tg l (wSeqI t) := by
  refine ⟨fun pins s σ H R I ⟨ρ, G, P, env, sim, h, k⟩ => ?_⟩
  refine thn (hl.run pins s σ H (fun v H1 => ∃ w G1, seqOn w G1 (fun ws st => P ws st G1) ∧ Rw X.K H1 w v ∧ Sim X.K H1 G1 ∧ Step H G H1 G1) I ⟨ρ, G, _, env, sim, h, fun w G1 v H1 a b c d => ⟨w, G1, a, b, c, d⟩⟩) fun u s1 ⟨v, H1, I1, r1, w, G1, h1, rw1, sim1, st1⟩ => ?_
  unfold seqOn at h1
  split at h1
  · rename_i ws
    cases rw1 with
    | @tup p vs _ hp rs =>
      cases r1
      obtain ⟨its, rv, ht, hz⟩ := I1.tuple hp
      refine wpAny_pyIter_tuple (show s1.heap.IsTuple p its.toArray from ht) ?_
      exact pi_one (tk := s1.toks) I1 _ (turn_tuple p _) ⟨_, Heap.get?_push_size _ rfl, rfl, rfl⟩ (k _ _ _ _ _ h1 (.tup hp rs) sim1 st1)
  · rename_i a
    cases rw1
    cases r1
    have list : ∀ {ws : List W} {vs : List V}, SqL X.K H1 a vs → (G1 a = some (.lst ws) ∨ G1 a = some (.rol ws)) → P ws (fun G => G a = some (.lst ws) ∨ G a = some (.rol ws)) G1 → wpAny (model X.prog X.w) X.A (pyIter (.ref a)) (PIE X pins σ tg R) X.xe s1 := fun hq hg hp => by
      obtain ⟨its, rv, pl, hz⟩ := I1.list hq
      refine wpAny_pyIter_list pl.isList ?_
      exact pi_one (tk := s1.toks) I1 _ (turn_list a _) ⟨_, Heap.get?_push_size _ rfl, rfl, rfl⟩ (k _ _ _ _ _ hp (.list hg) sim1 st1)
    split at h1
    · rename_i ws eg
      obtain ⟨vs, e1, _⟩ := sim1 _ _ eg
      exact list (SqL.of e1) (.inl eg) h1
    · rename_i ws eg
      obtain ⟨vs, e1, _⟩ := sim1 _ _ eg
      exact list (.inl e1) (.inr eg) h1
    · rename_i kws eg
      obtain ⟨o, vs, e1, rk⟩ := sim1 _ _ eg
      obtain ⟨hs, hgd, hx, es, ep, vs', hdt, hsz, kv, hm⟩ := I1.frzK e1
      refine iter_keys hs hgd hx hdt (pi_one (tk := s1.toks) I1 _ (turn_keys _ hdt) ⟨_, Heap.get?_push_size _ rfl, rfl, ?_⟩ (k _ _ _ _ _ h1 (.keys rk e1) sim1 st1))
      rw [hsz] <;> rfl
    · exact h1.elim
  · exact h1.elim
/-! ### ranges -/
noncomputable def wRng1 (ta : WTA) : WTI := fun ρ G R => ta ρ G fun ws G1 => match ws with
  | [.int j] => -(2 ^ 62) ≤ j ∧ j < 2 ^ 62 ∧ R (rngW 0 j.toNat) (fun _ => True) G1
  | _ => False
noncomputable def wRng2 (ta : WTA) : WTI := fun ρ G R => ta ρ G fun ws G1 => match ws with
  | [.int i, .int j] => (-(2 ^ 62) ≤ i ∧ i < 2 ^ 62 ∧ -(2 ^ 62) ≤ j ∧ j < 2 ^ 62) ∧ R (rngW i (j - i).toNat) (fun _ => True) G1
  | _ => False
theorem wi_rng1 {a : Expr} (hm : X.mg "range" = none) (ha : WA X [a] ta) (hg : Gl X "range" := by rfl) (hs : starEach [a] X.env = [(false, eval a X.env)] := by rfl) : WI X tg (.Call (.Name "range" p) [a] [] pos) (wRng1 ta) :=
  (pi_range1 hg hm ha hs).imp fun σ H R ⟨ρ, G, P, env, sim, h, k⟩ => ⟨ρ, G, _, env, sim, h, fun ws G1 vs H1 h1 r1 s1 st1 => by
    split at h1
    · rename_i j
      cases r1 with
      | cons r rr =>
        cases r; cases rr
        exact ⟨j, rfl, h1.1, h1.2.1, k _ _ _ _ _ h1.2.2 .rng s1 st1⟩
    · exact h1.elim⟩
theorem wi_rng2 {a b : Expr} (hm : X.mg "range" = none) (ha : WA X [a, b] ta) (hg : Gl X "range" := by rfl) (hs : starEach [a, b] X.env = [(false, eval a X.env), (false, eval b X.env)] := by rfl) (hs2 : starEach [b] X.env = [(false, eval b X.env)] := by rfl) :
    WI X tg (.Call (.Name "range" p) [a, b] [] pos) (wRng2 ta) :=
  (pi_range2 hg hm ha hs hs2).imp fun σ H R ⟨ρ, G, P, env, sim, h, k⟩ => ⟨ρ, G, _, env, sim, h, fun ws G1 vs H1 h1 r1 s1 st1 => by
    split at h1
    · rename_i i j
      cases r1 with
      | cons r rr =>
        cases r
        cases rr with
        | cons r' rr =>
          cases r'; cases rr
          exact ⟨i, j, rfl, h1.1, k _ _ _ _ _ h1.2 .rng s1 st1⟩
    · exact h1.elim⟩
end
/-! ### for -/
section
variable {X : Cx} {pos : Pos}
noncomputable def wFor (ti : WTI) (g : WTG) (tb : WTS) : WTS := fun D ρ G => ti ρ G fun items stable G1 => ∃ Iv : Nat → WEnv → WHp → Prop, Iv 0 ρ G1 ∧ (∀ i ρ G, i ≤ items.length → Iv i ρ G → stable G) ∧
  (∀ i w ρ G, items[i]? = some w → Iv i ρ G → g w ρ G fun ρ' G' => tb { D with nx := Iv (i + 1), ct := Iv (i + 1), bk := D.nx } ρ' G') ∧ (∀ ρ G, Iv items.length ρ G → D.nx ρ G)
theorem ws_for {tg iter : Expr} {body : List Stmt} {ti : WTI} {g : WTG} {tb : WTS} (hp : PassesOwn (model X.prog X.w) X.A X.env X.xe) (hc : X.calm = true) (hi : WI X tg iter ti) (hg : WG X tg g) (hb : WSs X body tb)
    (hs : ∀ x, foldedSetIterable iter X.env x = pure x := by intro _; rfl) : WS X (.For tg iter body [] pos) (wFor ti g tb) := (ps_for hp hc hi hg hb hs).imp fun D σ H ⟨ρ, G, P, env, sim, h, k⟩ => by
  refine ⟨ρ, G, _, env, sim, h, fun items stable G1 J H1 ⟨Iv, i0, hst, turn, fin⟩ jok sim1 st1 => ?_⟩
  refine ⟨fun i m σ' H' => m = items.length - i ∧ i ≤ items.length ∧ ∃ ρ' G', Iv i ρ' G' ∧ EnvOk X.K H' ρ' σ' ∧ Sim X.K H' G' ∧ Step H1 G1 H' G', ⟨items.length, by simp, Nat.zero_le _, ρ, G1, i0, env.mono (.of sim st1), sim1, .refl⟩, ?_⟩
  rintro i m σ2 H2 ⟨rfl, hi, ρ2, G2, i2, env2, sim2, st2⟩
  have kp := Kpt.of sim1 st2
  have stb := hst i ρ2 G2 hi i2
  by_cases hlt : i < items.length
  · refine .inr ⟨jok.go i H2 G2 kp sim2 stb hlt, fun σ' H' => ∃ ρ' G', Iv (i + 1) ρ' G' ∧ EnvOk X.K H' ρ' σ' ∧ Sim X.K H' G' ∧ Step H1 G1 H' G', fun σ' H' q => ⟨items.length - (i + 1), by omega, rfl, hlt, q⟩, fun x H3 y => ?_⟩
    obtain ⟨w, hw, r3, sim3, st3⟩ := jok.yld i H2 G2 x H3 kp sim2 stb hlt y
    refine ⟨w, ρ2, G2, _, r3, env2.mono (.of sim2 st3), sim3, turn i w ρ2 G2 hw i2, fun ρ4 G4 σ4 H4 h4 env4 sim4 st4 => ?_⟩
    refine ⟨ρ4, G4, _, env4, sim4, h4, ?_⟩
    have stA := st2.trans (st3.trans st4)
    have stB := st1.trans stA
    exact ⟨fun ρ5 G5 σ5 H5 i5 env5 sim5 st5 => ⟨ρ5, G5, i5, env5, sim5, stA.trans st5⟩, k.rt.step stB, k.nx.step stB, fun ρ5 G5 σ5 H5 i5 env5 sim5 st5 => ⟨ρ5, G5, i5, env5, sim5, stA.trans st5⟩⟩
  · have e : i = items.length := by omega
    subst e
    exact .inl ⟨jok.stop _ H2 G2 kp sim2 stb (Nat.le_refl _), k.nx _ _ _ _ (fin ρ2 G2 i2) env2 sim2 (st1.trans st2)⟩
end
/-! ### comprehensions -/
section
variable {X : Cx} {pos : Pos}
structure WTs (X : Cx) (ifs : List Expr) (t : WTT) : Prop where
  run : PTs X ifs (toTT X.K t)
noncomputable def wYes : WTT := fun _ G Q => Q true G
theorem PTs.imp {ifs : List Expr} {t t' : TT} (h : PTs X ifs t) (i : ∀ σ H Q, t' σ H Q → t σ H Q) : PTs X ifs t' := ⟨fun pins s σ H Q I q => h.run pins s σ H Q I (i _ _ _ q)⟩
theorem wts_nil : WTs X [] wYes := ⟨PTs.imp (pts_nil (X := X)) fun σ H Q ⟨ρ, G, P, env, sim, h, k⟩ => k _ _ _ h sim .refl⟩
theorem wts_one {c : Expr} {t : WTT} (h : WT X c t) : WTs X [c] t := ⟨pts_one h⟩
/-- targets of a comprehension: one name, or names from a tuple; the slots are the block's own -/
inductive CTg where
  | one (j : Nat) | many (is : List Nat)
noncomputable def CTg.g (K : PySem.W.Frag) : CTg → TG
  | .one j => gName j
  | .many is => gTup K is.length (gNames is)
noncomputable def CTg.slots : CTg → List Nat
  | .one j => [j]
  | .many is => is
/-- the environment of a turn -/
noncomputable def CTg.on (c : CTg) (w : W) (ρ : WEnv) (k : WEnv → Prop) : Prop := match c with
  | .one j => k (ρ.set j (some w))
  | .many is => match w with
    | .tup ws => ws.length = is.length ∧ k (setsW is ws ρ)
    | _ => False
noncomputable def wLc (ti : WTI) (c : CTg) (tt : WTT) (te : WTE) (vs : List Nat) : WTE := fun ρ G Q => ti ρ G fun items stable G1 => ∃ Iv : Nat → List W → WHp → Prop, Iv 0 [] G1 ∧ (∀ i acc G, i ≤ items.length → Iv i acc G → stable G ∧ acc.length < sizeLine) ∧
  (∀ i w acc G, items[i]? = some w → Iv i acc G → c.on w (wipeW ρ vs) fun ρ' => tt ρ' G fun b G2 => if b = true then te ρ' G2 fun y G3 => Iv (i + 1) (acc ++ [y]) G3 else Iv (i + 1) acc G2) ∧
  (∀ acc G, Iv items.length acc G → ∀ D, G D = none → Q (.ref D) (updG G D (.lst acc)))
theorem wipe_comm (σ : L2.St) (i : Nat) (x : Option V) : ∀ vs : List Nat, i ∈ vs → wipe (σ.set i x) vs = wipe σ vs
  | [], h => by simp at h
  | v :: vs, h => by
    unfold wipe
    by_cases hv : i ∈ vs
    · rw [wipe_comm σ i x vs hv]
    · have e : i = v := by
        rcases List.mem_cons.mp h with e | e
        · exact e
        · exact absurd e hv
      subst e
      have push : ∀ (vs : List Nat) (σ : L2.St), i ∉ vs → wipe (σ.set i x) vs = (wipe σ vs).set i x := by
        intro vs
        induction vs with
        | nil => intro σ _; rfl
        | cons u us ih =>
          intro σ hn
          unfold wipe
          simp only [List.mem_cons, not_or] at hn
          rw [ih σ hn.2, List.set_comm _ _ hn.1]
      rw [push vs σ hv, List.set_set]
theorem wipe_idem (σ : L2.St) : ∀ vs us : List Nat, (∀ i ∈ us, i ∈ vs) → wipe (wipe σ us) vs = wipe σ vs
  | vs, [], _ => rfl
  | vs, u :: us, h => by
    show wipe ((wipe σ us).set u none) vs = wipe σ vs
    rw [wipe_comm _ u none vs (h u (by simp)), wipe_idem σ vs us fun i hi => h i (by simp [hi])]
/-- the target's store -/
theorem CTg.run {K : PySem.W.Frag} {H : Hp} {c : CTg} {w : W} {v : V} {ρ : WEnv} {σ : L2.St} {vs : List Nat} {k : WEnv → Prop} {Q : L2.St → Hp → Prop} (hs : ∀ i ∈ c.slots, i ∈ vs) (r : Rw K H w v) (env : EnvOk K H ρ σ) (h : c.on w (wipeW ρ vs) k)
    (q : ∀ ρ' σ', k ρ' → EnvOk K H ρ' σ' → wipe σ' vs = wipe σ vs → Q σ' H) : c.g K v (wipe σ vs) H Q := by
  have w0 : wipe (wipe σ vs) vs = wipe σ vs := wipe_idem σ vs vs fun _ h => h
  cases c with
  | one j =>
    show Q ((wipe σ vs).set j (some v)) H
    exact q _ _ h ((env.wipe vs).set r j) (by rw [wipe_comm _ j _ vs (hs j (by simp [CTg.slots]))]; exact w0)
  | many is =>
    cases w <;> first | exact h.elim | skip
    rename_i ws
    cases r with
    | @tup p us _ hp rs =>
      refine ⟨p, us, rfl, hp, by rw [← rs.length]; exact h.1, ?_⟩
      have go : ∀ (js : List Nat) (ws : List W) (us : List V) (ρ' : WEnv) (σ' : L2.St), (∀ i ∈ js, i ∈ vs) → Rws K H ws us → ws.length = js.length → EnvOk K H ρ' σ' → wipe σ' vs = wipe σ vs → k (setsW js ws ρ') → gNames js us σ' H Q := by
        intro js
        induction js with
        | nil =>
          intro ws us ρ' σ' _ rs hl e hw hk
          cases rs with
          | nil => exact ⟨rfl, q _ _ hk e hw⟩
          | cons _ _ => simp at hl
        | cons j js ih =>
          intro ws us ρ' σ' hj rs hl e hw hk
          cases rs with
          | nil => simp at hl
          | cons r1 rs => exact ⟨_, _, rfl, ih _ _ _ _ (fun i hi => hj i (by simp [hi])) rs (by simpa using hl) (e.set r1 j) (by rw [wipe_comm _ j _ vs (hj j (by simp))]; exact hw) hk⟩
      exact go is ws us _ _ hs rs h.1 (env.wipe vs) w0 h.2
theorem Sim.own {K : PySem.W.Frag} {H : Hp} {G : WHp} {D : Addr} {o : HO} (s : Sim K H G) (g : G D = none) (t : TupX K H (upd H D o)) : Sim K (upd H D o) G := fun b u e => by
  have hb : b ≠ D := by rintro rfl; rw [g] at e; cases e
  exact (s b u e).mono t (upd_ne hb)
theorem Step.own {H1 H : Hp} {G1 G : WHp} {D : Addr} {o v : HO} (s : Step H1 G1 H G) (h1 : H1 D = none) (hv : H D = some v) (nf : ∀ ob u, v ≠ .frz ob u) : Step H1 G1 (upd H D o) G := ⟨fun b u e g n => by
  have hb : b ≠ D := ne_of_none e h1
  rw [upd_ne hb]; exact s.fr b u e g n, fun b ob u e => by
  have hb : b ≠ D := ne_of_none e h1
  rw [upd_ne hb]; exact s.fz b ob u e⟩
theorem Sim.take {K : PySem.W.Frag} {H : Hp} {G : WHp} {D : Addr} {o : WO} (s : Sim K H G) (h : OSim K H D o) : Sim K H (updG G D o) := fun b u e => by
  by_cases hb : b = D
  · subst hb; rw [updG_same] at e; cases e; exact h
  · rw [updG_ne hb] at e; exact s b u e
theorem Step.take {H1 H : Hp} {G1 G : WHp} {D : Addr} {o : WO} (s : Step H1 G1 H G) (h1 : H1 D = none) : Step H1 G1 H (updG G D o) := ⟨fun b u e g n => by
  have hb : b ≠ D := ne_of_none e h1
  rw [updG_ne hb]; exact s.fr b u e g n, s.fz⟩
theorem toTE_lc {K : PySem.W.Frag} {ti : WTI} {c : CTg} {tt : WTT} {te : WTE} {vs : List Nat} {σ : L2.St} {H : Hp} {Q : VK} (hs : ∀ i ∈ c.slots, i ∈ vs) (hq : toTE K (wLc ti c tt te vs) σ H Q) : tLc (toTI K ti) (c.g K) (toTT K tt) (toTE K te) vs σ H Q := by
  obtain ⟨ρ, G, P, env, sim, h, k⟩ := hq
  refine ⟨ρ, G, _, env, sim, h, fun items stable G1 J H1 ⟨Iv, i0, hst, turn, fin⟩ jok sim1 st1 D hD => ?_⟩
  refine ⟨fun i m H' => m = items.length - i ∧ i ≤ items.length ∧ ∃ acc va G', Iv i acc G' ∧ H' D = some (.lst va) ∧ Rws K H' acc va ∧ Sim K H' G' ∧ G' D = none ∧ Step H1 G1 H' G',
    ⟨items.length, by simp, Nat.zero_le _, [], [], G1, i0, upd_same, .nil, sim1.hid hD, sim1.fresh hD, .hid hD⟩, ?_⟩
  rintro i m H2 ⟨rfl, hi, acc, va, G2, i2, eD, ra, sim2, gD, st2⟩
  have kp := Kpt.of sim1 st2
  have stb := hst i acc G2 hi i2
  by_cases hlt : i < items.length
  · refine .inr ⟨jok.go i H2 G2 kp sim2 stb.1 hlt, fun H' => ∃ acc va G', Iv (i + 1) acc G' ∧ H' D = some (.lst va) ∧ Rws K H' acc va ∧ Sim K H' G' ∧ G' D = none ∧ Step H1 G1 H' G', fun H' q => ⟨items.length - (i + 1), by omega, rfl, hlt, q⟩, fun x H3 y => ?_⟩
    obtain ⟨w, hw, r3, sim3, st3⟩ := jok.yld i H2 G2 x H3 kp sim2 stb.1 hlt y
    have h3 := turn i w acc G2 hw i2
    refine CTg.run hs r3 (env.mono ((TupX.of sim (st1.trans (st2.trans st3))))) h3 fun ρ' σ' hk env' hwp => ⟨hwp, ?_⟩
    refine ⟨ρ', G2, _, env', sim3, hk, fun b G4 H4 h4 sim4 st4 => ?_⟩
    obtain ⟨eD3, gD3⟩ := st3.fr D _ eD gD (fun _ z => nomatch z)
    obtain ⟨eD4, gD4⟩ := st4.fr D _ eD3 gD3 (fun _ z => nomatch z)
    have stA := st2.trans (st3.trans st4)
    cases b with
    | false =>
      rw [if_neg Bool.false_ne_true] at h4 ⊢
      exact ⟨acc, va, G4, h4, eD4, ra.mono (.of sim2 (st3.trans st4)), sim4, gD4, stA⟩
    | true =>
      rw [if_pos rfl] at h4 ⊢
      refine ⟨ρ', G4, _, env'.mono (.of sim3 st4), sim4, h4, fun y G5 vy H5 h5 r5 sim5 st5 => ?_⟩
      obtain ⟨eD5, gD5⟩ := st5.fr D _ eD4 gD4 (fun _ z => nomatch z)
      have stB := stA.trans st5
      have tD : TupX K H5 (upd H5 D (.lst (va ++ [vy]))) := TupX.chg eD5 (fun _ z => nomatch z) (fun _ _ z => nomatch z)
      exact ⟨va, eD5, by rw [← ra.length]; exact stb.2, acc ++ [y], va ++ [vy], G5, h5, upd_same, ((ra.mono (.of sim2 (st3.trans (st4.trans st5)))).append (.cons r5 .nil)).mono tD, sim5.own gD5 tD, gD5, stB.own hD eD5 fun _ _ z => nomatch z⟩
  · have e : i = items.length := by omega
    subst e
    exact .inl ⟨jok.stop _ H2 G2 kp sim2 stb.1 (Nat.le_refl _), k _ _ _ _ (fin acc G2 i2 D gD) (.ref D) (sim2.take ⟨va, eD, ra⟩) (st1.trans (st2.take hD))⟩
theorem we_lc {c : CTg} {elt tg iter : Expr} {ifs : List Expr} {scope : Scope} {own : List (Str × Nat)} {ti : WTI} {tt : WTT} {te : WTE} (hc : X.calm = true) (hN : X.N.Nodup) (hi : WI X tg iter ti) (ok : BlkOk X.N X.env.scope scope own) (hsl : ∀ i ∈ c.slots, i ∈ own.map (·.2))
    (hg : ∀ (s : Shared) (H : Hp) (C : Addr) (cl : List (Str × Addr)) (fp : List Addr), PG (X.blk s H scope (compEnvC scope cl C X.env) fp) tg (c.g X.K)) (ht : ∀ (s : Shared) (H : Hp) (C : Addr) (cl : List (Str × Addr)) (fp : List Addr), WTs (X.blk s H scope (compEnvC scope cl C X.env) fp) ifs tt)
    (he : ∀ (s : Shared) (H : Hp) (C : Addr) (cl : List (Str × Addr)) (fp : List Addr), WE (X.blk s H scope (compEnvC scope cl C X.env) fp) elt te) (hs : ∀ x, foldedSetIterable iter X.env x = pure x := by intro _; rfl) :
    WE X (.ListComp elt [⟨tg, iter, ifs, 0⟩] scope pos) (wLc ti c tt te (own.map (·.2))) :=
  (pe_lc (g := c.g X.K) (tt := toTT X.K tt) (te := toTE X.K te) hc hN hi ok hg (fun s H C cl fp => (ht s H C cl fp).run) he hs).imp fun σ H Q h => toTE_lc hsl h
theorem ws_setLc {i : Nat} {y : Str} {py : Pos} {c : CTg} {elt tg iter : Expr} {ifs : List Expr} {scope : Scope} {own : List (Str × Nat)} {ti : WTI} {tt : WTT} {te : WTE} {spos : Pos} (hc : X.calm = true) (hN : X.N.Nodup) (hy : X.N[i]? = some y) (hyl : X.env.scope.names.lookup y = some .local)
    (hsw : swapsWith (.ListComp elt [⟨tg, iter, ifs, 0⟩] scope pos) (some (.Name y py)) spos.line X.env = pure true) (hi : WI X tg iter ti) (ok : BlkOk X.N X.env.scope scope own) (hsl : ∀ i ∈ c.slots, i ∈ own.map (·.2))
    (hg : ∀ (s : Shared) (H : Hp) (C : Addr) (cl : List (Str × Addr)) (fp : List Addr), PG (X.blk s H scope (compEnvC scope cl C X.env) fp) tg (c.g X.K)) (ht : ∀ (s : Shared) (H : Hp) (C : Addr) (cl : List (Str × Addr)) (fp : List Addr), WTs (X.blk s H scope (compEnvC scope cl C X.env) fp) ifs tt)
    (he : ∀ (s : Shared) (H : Hp) (C : Addr) (cl : List (Str × Addr)) (fp : List Addr), WE (X.blk s H scope (compEnvC scope cl C X.env) fp) elt te) (hs : ∀ x, foldedSetIterable iter X.env x = pure x := by intro _; rfl) :
    WS X (.Assign [.Name y py] (.ListComp elt [⟨tg, iter, ifs, 0⟩] scope pos) spos) (wSet i (wLc ti c tt te (own.map (·.2)))) :=
  (ps_setLc (g := c.g X.K) (tt := toTT X.K tt) (te := toTE X.K te) hc hN hy hyl hsw hi ok hg (fun s H C cl fp => (ht s H C cl fp).run) he hs).imp fun D σ H ⟨ρ, G, P, env, sim, h, k⟩ =>
    toTE_lc hsl ⟨ρ, G, _, env, sim, h, fun w G1 v H1 h1 r1 s1 st1 => k.nx _ _ _ _ h1 ((env.mono (.of sim st1)).set r1 i) s1 st1⟩
end
end WL
set_option Elab.async false
set_option linter.all false
set_option maxRecDepth 100000
set_option maxHeartbeats 1000000
namespace L2
open PySem PySem.Spec PyProof.Rows
/-- d[y], by values -/
theorem ix_dictV {X : Cx} (hu : X.A.units + 1 < cLine) : IxR X (fun x y H Q => ∃ a v, x = .ref a ∧ DGet H a y (some v) ∧ Q v H) := by
  intro value slice pins s σ H x y v u Q I rx ry ⟨a, z, ex, g, q⟩ hs
  subst ex
  cases rx
  exact tail_any (dict_typeIs I g) PySem.F.slot_dict_getitem.lookup (d_getItem hu I g ry fun w' s' I' r => ⟨z, H, I', r, q⟩) hs
theorem set_dictV {X : Cx} (hu : X.A.units + 1 < cLine) : PSet X (fun o i v H Q => ∃ a H', o = .ref a ∧ DPut H a i v H' ∧ Q H') := by
  intro pins s σ H o i v ov iv u Q I ro ri rv ⟨a, H', ex, g, q⟩
  subst ex
  cases ro
  exact d_setItem hu I g ri rv fun s' I' => ⟨H', I', q⟩
theorem PO.imp {X : Cx} {e : Option Expr} {t t' : TO} (h : PO X e t) (i : ∀ σ H Q, t' σ H Q → t σ H Q) : PO X e t' := ⟨fun pins s σ H Q I q => h.run pins s σ H Q I (i _ _ _ q)⟩
end L2
namespace WL
open PySem PySem.Spec PyProof.Rows L2
/-! ### subscripts -/
noncomputable def optW (o : Option W) (k : W → Prop) : Prop := match o with
  | some w => k w
  | none => False
theorem optW_get {o : Option W} {k : W → Prop} (h : optW o k) : ∃ w, o = some w ∧ k w := by
  cases o <;> first | exact h.elim | exact ⟨_, rfl, h⟩
theorem optW_of {o : Option W} {k : W → Prop} {w : W} (e : o = some w) (h : k w) : optW o k := by subst e; exact h
/-- an int -/
noncomputable def isI (w : W) (k : Int → Prop) : Prop := match w with
  | .int i => k i
  | _ => False
theorem isI_get {w : W} {k : Int → Prop} (h : isI w k) : ∃ i, w = .int i ∧ k i := by
  cases w <;> first | exact h.elim | exact ⟨_, rfl, h⟩
/-- a key -/
noncomputable def isK (w : W) (k : Key → Prop) : Prop := match keyW w with
  | some i => k i
  | none => False
theorem isK_get {w : W} {k : Key → Prop} (h : isK w k) : ∃ i, keyW w = some i ∧ k i := by
  unfold isK at h
  split at h
  · rename_i i e; exact ⟨i, e, h⟩
  · exact h.elim
/-- what a dict holds: read or changed -/
noncomputable def dcAt (G : WHp) (p : Addr) (k : List (Key × W) → Prop) : Prop := match G p with
  | some (.dct xs) => k xs
  | some (.rod xs) => k xs
  | _ => False
noncomputable def mdAt (G : WHp) (p : Addr) (k : List (Key × W) → Prop) : Prop := match G p with
  | some (.dct xs) => k xs
  | _ => False
theorem mdAt_get {G : WHp} {p : Addr} {k : List (Key × W) → Prop} (h : mdAt G p k) : ∃ xs, G p = some (.dct xs) ∧ k xs := by
  unfold mdAt at h
  split at h
  · rename_i xs e; exact ⟨xs, e, h⟩
  · exact h.elim
theorem mdAt_of {G : WHp} {p : Addr} {k : List (Key × W) → Prop} {xs : List (Key × W)} (h : G p = some (.dct xs)) (q : k xs) : mdAt G p k := by unfold mdAt; rw [h]; exact q
theorem dcAt_of {G : WHp} {p : Addr} {k : List (Key × W) → Prop} {xs : List (Key × W)} (h : G p = some (.dct xs)) (q : k xs) : dcAt G p k := by unfold dcAt; rw [h]; exact q
theorem dcAt_get {K : PySem.W.Frag} {H : Hp} {G : WHp} {p : Addr} {k : List (Key × W) → Prop} (sim : Sim K H G) (h : dcAt G p k) : ∃ xs vs, Rd H p (.dK vs) ∧ RwK K H xs vs ∧ k xs ∧ (G p = some (.dct xs) ∨ G p = some (.rod xs)) := by
  unfold dcAt at h
  split at h
  · rename_i xs e; obtain ⟨vs, e1, r⟩ := sim p _ e; exact ⟨xs, vs, .inl e1, r, h, .inl e⟩
  · rename_i xs e; obtain ⟨o, vs, e1, r⟩ := sim p _ e; exact ⟨xs, vs, .inr ⟨o, e1⟩, r, h, .inr e⟩
  · exact h.elim
/-- what stands at an address -/
inductive Kd where
  | sq | dc | no
noncomputable def kdAt (G : WHp) (p : Addr) : Kd := match G p with
  | some (.lst _) => .sq
  | some (.rol _) => .sq
  | some (.dct _) => .dc
  | some (.rod _) => .dc
  | _ => .no
noncomputable def ixT (ws : List W) (y : W) (G : WHp) (Q : WK) : Prop := isI y fun i => optW (atI ws i) fun w => Q w G
noncomputable def ixR (a : Addr) (y : W) (G : WHp) (Q : WK) : Prop := match kdAt G a with
  | .sq => lsAt G a fun ws => ixT ws y G Q
  | .dc => dcAt G a fun kws => isK y fun k => optW (valW kws k) fun w => Q w G
  | .no => False
noncomputable def ixW : W → W → WHp → WK → Prop
  | .tup ws, y => ixT ws y
  | .ref a, y => ixR a y
  | _, _ => fun _ _ => False
theorem atI_rws {K : PySem.W.Frag} {H : Hp} {ws : List W} {vs : List V} {i : Int} {w : W} (r : Rws K H ws vs) (h : atI ws i = some w) : ∃ v, atI vs i = some v ∧ Rw K H w v := by
  unfold atI at h ⊢
  rw [r.length] at h
  cases e : ixN vs.length i with
  | none => rw [e] at h; cases h
  | some j =>
    rw [e] at h
    exact r.get h
theorem dget_of {K : PySem.W.Frag} {H : Hp} {a : Addr} {kws : List (Key × W)} {k : W} {y : V} {kk : Key} {w : W} {vs : List (Key × V)} (e : Rd H a (.dK vs)) (r : RwK K H kws vs) (ek : keyW k = some kk) (ry : Rw K H k y) (ew : valW kws kk = some w) : ∃ v, DGet H a y (some v) ∧ Rw K H w v := by
  have h1 := keyW_of ek ry
  subst h1
  rcases r.val (k := kk) with ⟨w', v, e1, e2, r'⟩ | ⟨e1, _⟩
  · rw [ew] at e1; cases e1
    exact ⟨v, .inl ⟨vs, kk, e, rfl, e2.symm⟩, r'⟩
  · rw [ew] at e1; cases e1
theorem dany_of {K : PySem.W.Frag} {H : Hp} {a : Addr} {kws : List (Key × W)} {k : W} {y : V} {kk : Key} {vs : List (Key × V)} (e : Rd H a (.dK vs)) (r : RwK K H kws vs) (ek : keyW k = some kk) (ry : Rw K H k y) : ∃ o, DGet H a y o ∧ o.isSome = (valW kws kk).isSome := by
  have h1 := keyW_of ek ry
  subst h1
  refine ⟨_, .inl ⟨vs, kk, e, rfl, rfl⟩, ?_⟩
  rcases r.val (k := kk) with ⟨w', v, e1, e2, r'⟩ | ⟨e1, e2⟩
  · rw [e1, e2]; rfl
  · rw [e1, e2]; rfl
theorem RwK.put {K : PySem.W.Frag} {H : Hp} {k : Key} {w : W} {v : V} (h : Rw K H w v) {ws : List (Key × W)} {vs : List (Key × V)} (r : RwK K H ws vs) : RwK K H (putW ws k w) (putK vs k v) := by
  unfold putW putK
  rw [valV_any]
  rcases r.val (k := k) with ⟨w', v', e1, e2, r'⟩ | ⟨e1, e2⟩
  · rw [e1, e2]; exact r.map h
  · rw [e1, e2]; exact r.snoc h
section
variable {X : Cx} {a b : Expr} {ta tb : WTE} {pos : Pos}
theorem ixw (hu : X.A.units + 1 < cLine) : IxR X (lift2 X.K ixW) := by
  intro value slice pins s σ H x y v u Q I rx ry ⟨wa, wb, G, P, ra, rb, sim, h, k⟩ hs
  cases wa <;> first | exact h.elim | skip
  · obtain ⟨i, rfl, h⟩ := isI_get h
    cases rb
    cases ra with
    | @tup p vs _ hp rs =>
      obtain ⟨w, e, q⟩ := optW_get h
      obtain ⟨z, e2, r⟩ := atI_rws rs e
      exact ix_tup value slice pins s σ H _ _ v u Q I rx ry ⟨p, vs, i, z, rfl, rfl, hp, e2, k _ _ _ _ q r sim .refl⟩ hs
  · cases ra
    have h : ixR _ wb G P := h
    unfold ixR at h
    split at h
    · obtain ⟨ws, vs, hq, rs, h, _⟩ := lsAt_get sim h
      obtain ⟨i, rfl, h⟩ := isI_get h
      cases rb
      obtain ⟨w, e, q⟩ := optW_get h
      obtain ⟨z, e2, r⟩ := atI_rws rs e
      exact ix_list value slice pins s σ H _ _ v u Q I rx ry ⟨_, vs, _, z, rfl, rfl, hq, e2, k _ _ _ _ q r sim .refl⟩ hs
    · obtain ⟨kws, vs, hq, rs, h, _⟩ := dcAt_get sim h
      obtain ⟨kk, ek, h⟩ := isK_get h
      obtain ⟨w, e, q⟩ := optW_get h
      obtain ⟨z, g, r⟩ := dget_of hq rs ek rb e
      exact ix_dictV hu value slice pins s σ H _ y v u Q I rx ry ⟨_, z, rfl, g, k _ _ _ _ q r sim .refl⟩ hs
    · exact h.elim
theorem we_ix (hu : X.A.units + 1 < cLine) (ha : WE X a ta) (hb : WE X b tb) (hs : PlainIx b := by exact fun _ _ => rfl) : WE X (.Subscript a b pos) (wOp ixW ta tb) := (pe_ix (ixw hu) ha hb hs).imp fun _ _ _ h => toTE_op h
end
/-! ### slices -/
noncomputable abbrev WTO := WEnv → WHp → (Option Int → WHp → Prop) → Prop
noncomputable def toTO (K : PySem.W.Frag) (t : WTO) : TO := fun σ H Q => ∃ ρ G P, EnvOk K H ρ σ ∧ Sim K H G ∧ t ρ G P ∧ ∀ o G' H', P o G' → Sim K H' G' → Step H G H' G' → Q o H'
noncomputable abbrev WO' (X : Cx) (e : Option Expr) (t : WTO) : Prop := PO X e (toTO X.K t)
noncomputable def wNoPart : WTO := fun _ G Q => Q none G
noncomputable def wPart (t : WTE) : WTO := fun ρ G Q => t ρ G fun w G1 => isI w fun i => Q (some i) G1
noncomputable def cutW (xs : List W) (lo hi : Option Int) : List W := (xs.drop (HT.sIx xs.length 0 lo)).take (HT.sIx xs.length xs.length hi - HT.sIx xs.length 0 lo)
theorem Rws.cut {K : PySem.W.Frag} {H : Hp} {ws : List W} {vs : List V} (r : Rws K H ws vs) (lo hi : Option Int) : Rws K H (cutW ws lo hi) (cutV vs lo hi) := by
  unfold cutW cutV
  rw [r.length]
  exact (r.drop _).take _
theorem cut_whole {ws : List W} {lo hi : Option Int} (h : HT.sIx ws.length 0 lo = 0 ∧ HT.sIx ws.length ws.length hi = ws.length) : cutW ws lo hi = ws := by
  unfold cutW
  rw [h.1, h.2]
  simp
noncomputable def slW : W → Option Int → Option Int → WHp → WK → Prop
  | .tup ws, lo, hi => fun G Q => Q (.tup (cutW ws lo hi)) G
  | .ref a, lo, hi => fun G Q => lsAt G a fun ws => ∀ p, G p = none → Q (.ref p) (updG G p (.lst (cutW ws lo hi)))
  | .kl ws, lo, hi => fun G Q => ∀ p, G p = none → Q (.ref p) (updG G p (.lst (cutW ws lo hi)))
  | .str z, lo, hi => fun G Q => z.length ≤ sizeLine ∧ Q (.str (cutS z lo hi)) G
  | _, _, _ => fun _ _ => False
noncomputable def wSl (te : WTE) (tl th : WTO) : WTE := fun ρ G Q => te ρ G fun x G1 => tl ρ G1 fun l G2 => th ρ G2 fun u G3 => slW x l u G3 Q
noncomputable def wRev (te : WTE) : WTE := fun ρ G Q => te ρ G fun x G1 => match x with
  | .ref a => lsAt G1 a fun ws => ∀ p, G1 p = none → Q (.ref p) (updG G1 p (.lst ws.reverse))
  | _ => False
section
variable {X : Cx} {e : Expr} {lo hi : Option Expr} {te : WTE} {tl th : WTO} {pos p2 : Pos}
theorem wo_none : WO' X none wNoPart := (po_none (X := X)).imp fun σ H Q ⟨ρ, G, P, env, sim, h, k⟩ => k _ _ _ h sim .refl
theorem wo_some (h : WE X e te) : WO' X (some e) (wPart te) := (po_some h).imp fun σ H Q ⟨ρ, G, P, env, sim, h, k⟩ => ⟨ρ, G, _, env, sim, h, fun w G1 v H1 h1 r1 s1 st1 => by
  obtain ⟨i, rfl, q⟩ := isI_get h1
  cases r1
  exact ⟨i, rfl, k _ _ _ q s1 st1⟩⟩
theorem we_slice (he : WE X e te) (hl : WO' X lo tl) (hu : WO' X hi th) : WE X (.Subscript e (.Slice lo hi none p2) pos) (wSl te tl th) := (pe_slice (sl_list.or (sl_tupA.or sl_str)) he hl hu).imp fun σ H Q ⟨ρ, G, P, env, sim, h, k⟩ =>
  ⟨ρ, G, _, env, sim, h, fun x G1 v1 H1 h1 r1 s1 st1 => ⟨ρ, G1, _, env.mono (.of sim st1), s1, h1, fun l G2 H2 h2 s2 st2 => ⟨ρ, G2, _, env.mono (.of sim (st1.trans st2)), s2, h2, fun u G3 H3 h3 s3 st3 => by
    have st := (st1.trans st2).trans st3
    have rx := r1.mono (.of s1 (st2.trans st3))
    have kk := k.step st
    cases x <;> first | exact h3.elim | skip
    · cases rx
      exact .inr (.inr ⟨_, rfl, h3.1, kk _ _ _ _ h3.2 (.str _) s3 .refl⟩)
    · cases rx with
      | @tup p vs ws hp rs =>
        refine .inr (.inl ⟨p, vs, rfl, hp, fun hw => ?_, fun hw => aft_tup kk s3 (rs.cut _ _) h3⟩)
        have h3' : P (.tup (cutW _ _ _)) G3 := h3
        rw [cut_whole (by rw [rs.length]; exact hw)] at h3'
        exact kk _ _ _ _ h3' (.tup hp rs) s3 .refl
    · cases rx
      obtain ⟨ws, vs, hq, rs, h4, _⟩ := lsAt_get s3 h3
      exact .inl ⟨_, vs, rfl, hq, aft_lst kk s3 (rs.cut _ _) h4⟩
    · cases rx with
      | @kl p vs ws hq rs => exact .inl ⟨p, vs, rfl, hq _, aft_lst kk s3 (rs.cut _ _) h3⟩⟩⟩⟩
theorem we_rev {k : Nat} {p1 p2 p3 : Pos} (he : WE X e te) : WE X (.Subscript e (.Slice none none (some (.UnaryOp .USub (.Constant (.int 1) k p1) p2)) p3) pos) (wRev te) := (pe_revL he).imp fun σ H Q ⟨ρ, G, P, env, sim, h, k⟩ =>
  ⟨ρ, G, _, env, sim, h, fun x G1 v1 H1 h1 r1 s1 st1 => by
    cases x <;> first | exact h1.elim | skip
    cases r1
    obtain ⟨ws, vs, hq, rs, h4, _⟩ := lsAt_get s1 h1
    exact ⟨_, vs, rfl, hq, aft_lst (k.step st1) s1 rs.reverse h4⟩⟩
end
/-! ### o[i] = v -/
noncomputable def wPutR (a : Addr) (i v : W) (G : WHp) (Q : WHp → Prop) : Prop := match kdAt G a with
  | .sq => mlAt G a fun ws => isI i fun n => ∃ j, ixN ws.length n = some j ∧ Q (updG G a (.lst (ws.set j v)))
  | .dc => mdAt G a fun kws => isK i fun k => kws.length < sizeLine ∧ Q (updG G a (.dct (putW kws k v)))
  | .no => False
noncomputable def wPut (o i v : W) (G : WHp) (Q : WHp → Prop) : Prop := match o with
  | .ref a => wPutR a i v G Q
  | _ => False
noncomputable def wgSub (to ti : WTE) : WTG := fun v ρ G Q => to ρ G fun o G1 => ti ρ G1 fun i G2 => wPut o i v G2 fun G3 => Q ρ G3
theorem PSet.or {X : Cx} {t t' : TSet} (h : PSet X t) (h' : PSet X t') : PSet X (fun o i v H Q => t o i v H Q ∨ t' o i v H Q) := by
  intro pins s σ H o i v ov iv u Q I ro ri rv q
  rcases q with q | q
  · exact h pins s σ H o i v ov iv u Q I ro ri rv q
  · exact h' pins s σ H o i v ov iv u Q I ro ri rv q
theorem put_set {K : PySem.W.Frag} {H : Hp} {G : WHp} {a : Addr} {ws : List W} {vs : List V} {w : W} {v : V} {j : Nat} (sim : Sim K H G) (e : G a = some (.lst ws)) (ev : H a = some (.lst vs)) (rs : Rws K H ws vs) (r : Rw K H w v) :
    Sim K (upd H a (.lst (vs.set j v))) (updG G a (.lst (ws.set j w))) ∧ Step H G (upd H a (.lst (vs.set j v))) (updG G a (.lst (ws.set j w))) ∧ TupX K H (upd H a (.lst (vs.set j v))) := by
  have tx : TupX K H (upd H a (.lst (vs.set j v))) := .chg ev (fun _ z => nomatch z) (fun _ _ z => nomatch z)
  exact ⟨sim.set e tx ⟨_, upd_same, (rs.mono tx).set (r.mono tx) j⟩, .set e ev (fun _ _ z => nomatch z), tx⟩
theorem lst_set {K : PySem.W.Frag} {H : Hp} {G : WHp} {a : Addr} {ws ws' : List W} {vs vs' : List V} (sim : Sim K H G) (e : G a = some (.lst ws)) (ev : H a = some (.lst vs)) (rs : Rws K H ws' vs') :
    Sim K (upd H a (.lst vs')) (updG G a (.lst ws')) ∧ Step H G (upd H a (.lst vs')) (updG G a (.lst ws')) ∧ TupX K H (upd H a (.lst vs')) := by
  have tx : TupX K H (upd H a (.lst vs')) := .chg ev (fun _ z => nomatch z) (fun _ _ z => nomatch z)
  exact ⟨sim.set e tx ⟨_, upd_same, rs.mono tx⟩, .set e ev (fun _ _ z => nomatch z), tx⟩
theorem dct_set {K : PySem.W.Frag} {H : Hp} {G : WHp} {a : Addr} {ws ws' : List (Key × W)} {vs vs' : List (Key × V)} (sim : Sim K H G) (e : G a = some (.dct ws)) (ev : H a = some (.dK vs)) (rs : RwK K H ws' vs') :
    Sim K (upd H a (.dK vs')) (updG G a (.dct ws')) ∧ Step H G (upd H a (.dK vs')) (updG G a (.dct ws')) ∧ TupX K H (upd H a (.dK vs')) := by
  have tx : TupX K H (upd H a (.dK vs')) := .chg ev (fun _ z => nomatch z) (fun _ _ z => nomatch z)
  exact ⟨sim.set e tx ⟨_, upd_same, rs.mono tx⟩, .set e ev (fun _ _ z => nomatch z), tx⟩
section
variable {X : Cx} {o i : Expr} {to ti : WTE} {pos : Pos}
theorem wg_sub (hu : X.A.units + 1 < cLine) (ho : WE X o to) (hi : WE X i ti)
    (ha : ∀ v, assign (.Subscript o i pos) X.env v = (do
      let ov ← holding [v] (eval o X.env)
      let iv ← holding [v, ov] (eval i X.env)
      standAt pos
      holding [v, ov, iv] (setItem ov iv v)
      release [v, ov, iv] []) := by intro _; rfl) : WG X (.Subscript o i pos) (wgSub to ti) := (pg_sub ho hi (PSet.or set_list (set_dictV hu)) ha).imp fun v σ H Q ⟨w, ρ, G, P, rv, env, sim, h, k⟩ =>
  ⟨ρ, G, _, env, sim, h, fun wo G1 vo H1 h1 r1 s1 st1 => ⟨ρ, G1, _, env.mono (.of sim st1), s1, h1, fun wi G2 vi H2 h2 r2 s2 st2 => by
    have st := st1.trans st2
    have ro := r1.mono (.of s1 st2)
    have rv' := rv.mono (.of sim st)
    have env' := env.mono (.of sim st)
    cases wo <;> first | exact h2.elim | skip
    cases ro
    have h2 : wPutR _ wi w G2 _ := h2
    unfold wPutR at h2
    split at h2
    · obtain ⟨ws, e, h2⟩ := mlAt_get h2
      obtain ⟨n, rfl, j, hj, q⟩ := isI_get h2
      cases r2
      obtain ⟨vs, ev, rs⟩ := s2 _ _ e
      obtain ⟨s3, st3, tx⟩ := put_set (j := j) s2 e ev rs rv'
      exact .inl ⟨_, vs, n, j, rfl, rfl, ev, by rw [← rs.length]; exact hj, k _ _ _ _ q (env'.mono tx) s3 (st.trans st3)⟩
    · obtain ⟨kws, e, h2⟩ := mdAt_get h2
      obtain ⟨kk, ek, hl, q⟩ := isK_get h2
      have := keyW_of ek r2
      subst this
      obtain ⟨vs, ev, rs⟩ := s2 _ _ e
      obtain ⟨s3, st3, tx⟩ := dct_set s2 e ev (rs.put (k := kk) rv')
      exact .inr ⟨_, _, rfl, .k ev (by rw [← rs.length]; exact hl), k _ _ _ _ q (env'.mono tx) s3 (st.trans st3)⟩
    · exact h2.elim⟩⟩
end
end WL
set_option Elab.async false
set_option linter.all false
set_option maxRecDepth 100000
set_option maxHeartbeats 1000000
namespace WL
open PySem PySem.Spec PyProof.Rows L2
/-! ### attributes of instances -/
noncomputable def putFW (f : Str) (v : W) : List (Str × W) → List (Str × W)
  | [] => [(f, v)]
  | (g, x) :: r => if g = f then (g, v) :: r else (g, x) :: putFW f v r
/-- the attributes of the instance of C at p -/
noncomputable def insAt (C : Addr) (G : WHp) (x : W) (k : Addr → List (Str × W) → Prop) : Prop := match x with
  | .ref p => match G p with
    | some (.ins D fs) => D = C ∧ k p fs
    | _ => False
  | _ => False
theorem insAt_get {C : Addr} {G : WHp} {x : W} {k : Addr → List (Str × W) → Prop} (h : insAt C G x k) : ∃ p fs, x = .ref p ∧ G p = some (.ins C fs) ∧ k p fs := by
  cases x <;> first | exact h.elim | skip
  rename_i p
  have h' : (match G p with
    | some (.ins D fs) => D = C ∧ k p fs
    | _ => False) := h
  split at h'
  · rename_i D fs e
    obtain ⟨rfl, q⟩ := h'
    exact ⟨p, fs, rfl, e, q⟩
  · exact h'.elim
theorem insAt_of {C : Addr} {G : WHp} {p : Addr} {fs : List (Str × W)} {k : Addr → List (Str × W) → Prop} (e : G p = some (.ins C fs)) (q : k p fs) : insAt C G (.ref p) k := by
  show (match G p with
    | some (.ins D fs) => D = C ∧ k p fs
    | _ => False)
  rw [e]
  exact ⟨rfl, q⟩
noncomputable def wFld (C : Addr) (ta : WTE) (f : Str) : WTE := fun ρ G Q => ta ρ G fun x G1 => insAt C G1 x fun _ fs => optW (fs.lookup f) fun w => Q w G1
/-- o.f = value -/
noncomputable def wPutF (C : Addr) (ta tv : WTE) (f : Str) : WTS := fun D ρ G => tv ρ G fun y G1 => ta ρ G1 fun x G2 => insAt C G2 x fun p fs => fs.length < 1000 ∧ D.nx ρ (updG G2 p (.ins C (putFW f y fs)))
section
variable {K : PySem.W.Frag} {H : Hp} {ws : List (Str × W)} {vs : List (Str × V)} {f : Str}
theorem RwK.lookup : ∀ {ws : List (Str × W)} {vs : List (Str × V)}, RwK K H ws vs → (∃ w v, ws.lookup f = some w ∧ vs.lookup f = some v ∧ Rw K H w v) ∨ (ws.lookup f = none ∧ vs.lookup f = none)
  | _, _, .nil => .inr ⟨rfl, rfl⟩
  | _, _, .cons (k := j) (w := w) (v := v) h t => by
    rw [List.lookup_cons, List.lookup_cons]
    cases e : (f == j) with
    | true => exact .inl ⟨w, v, rfl, rfl, h⟩
    | false => exact RwK.lookup t
theorem RwK.putF {w : W} {v : V} (r : Rw K H w v) : ∀ {ws : List (Str × W)} {vs : List (Str × V)}, RwK K H ws vs → RwK K H (putFW f w ws) (L2.putF f v vs)
  | _, _, .nil => .cons r .nil
  | _, _, .cons (k := j) h t => by
    unfold putFW L2.putF
    by_cases e : j = f
    · rw [if_pos e, if_pos e]; exact .cons r t
    · rw [if_neg e, if_neg e]; exact .cons h (RwK.putF r t)
theorem ins_set {G : WHp} {a dx C : Addr} {ws ws' : List (Str × W)} {vs vs' : List (Str × V)} (sim : Sim K H G) (e : G a = some (.ins C ws)) (ev : H a = some (.ins C dx vs)) (rs : RwK K H ws' vs') :
    Sim K (upd H a (.ins C dx vs')) (updG G a (.ins C ws')) ∧ Step H G (upd H a (.ins C dx vs')) (updG G a (.ins C ws')) ∧ TupX K H (upd H a (.ins C dx vs')) := by
  have tx : TupX K H (upd H a (.ins C dx vs')) := .chg ev (fun _ z => nomatch z) (fun _ _ z => nomatch z)
  exact ⟨sim.set e tx ⟨_, _, upd_same, rs.mono tx⟩, .set e ev (fun _ _ z => nomatch z), tx⟩
end
section
variable {X : Cx} {C : Addr} {o e value : Expr} {f : Str} {pos pos' : Pos} {ta tv : WTE}
theorem we_fld (c : Cls X.K C) (n : NoAttr X.K C f) (he : WE X e ta) (hb : attributeBase e f X.env (eval e X.env) = eval e X.env := by rfl) : WE X (.Attribute e f pos) (wFld C ta f) := (pe_fld he hb).imp fun σ H Q ⟨ρ, G, P, env, sim, h, k⟩ =>
  ⟨ρ, G, _, env, sim, h, fun w G1 v H1 h1 r1 s1 st1 => by
    obtain ⟨p, fs, rfl, eg, h1⟩ := insAt_get h1
    obtain ⟨z, ez, q⟩ := optW_get h1
    cases r1
    obtain ⟨dx, vs, ev, rs⟩ := s1 _ _ eg
    rcases rs.lookup (f := f) with ⟨w', v', e1, e2, r'⟩ | ⟨e1, _⟩
    · rw [ez] at e1; cases e1
      exact ⟨p, C, dx, vs, v', rfl, ev, c, n, e2, k _ _ _ _ q r' s1 st1⟩
    · rw [ez] at e1; cases e1⟩
theorem ws_fld (c : Cls X.K C) (n : NoAttr X.K C f) (ha : WE X o ta) (hv : WE X value tv) (hs : swapsWith value (some (.Attribute o f pos')) pos.line X.env = pure false := by rfl) : WS X (.Assign [.Attribute o f pos'] value pos) (wPutF C ta tv f) :=
  (ps_fld ha hv hs).imp fun D σ H ⟨ρ, G, P, env, sim, h, k⟩ =>
  ⟨ρ, G, _, env, sim, h, fun y G1 vy H1 h1 r1 s1 st1 => ⟨ρ, G1, _, env.mono (.of sim st1), s1, h1, fun w G2 v H2 h2 r2 s2 st2 => by
    obtain ⟨p, fs, rfl, eg, hl, q⟩ := insAt_get h2
    cases r2
    obtain ⟨dx, vs, ev, rs⟩ := s2 _ _ eg
    have ry := r1.mono (.of s1 st2)
    obtain ⟨s3, st3, tx⟩ := ins_set s2 eg ev (rs.putF (f := f) ry)
    have st := st1.trans st2
    exact ⟨p, C, dx, vs, rfl, ev, c, n, by rw [← rs.length]; exact hl, k.nx _ _ _ _ q ((env.mono (.of sim st)).mono tx) s3 (st.trans st3)⟩⟩⟩
end
/-! ### calls -/
/-- a def of the text that keeps its promise -/
structure Cal (P : Program) (w : World) (K : PySem.W.Frag) (mg : Str → Option Value) (base : Heap) (k : Nat) (x : Str) (sp : WSp) : Prop where
  ex : ∃ f fd ps, mg x = some (.ref f) ∧ PySem.W.keepIn K (.ref f) = true ∧ Binds K fd ps [] ∧ FnOk P w K mg base CX0 k f fd ps (toSp K sp)
/-- a class of the text whose __init__ keeps its promise -/
structure Mak (P : Program) (w : World) (K : PySem.W.Frag) (mg : Str → Option Value) (base : Heap) (k : Nat) (x : Str) (C : Addr) (sp : WSp) : Prop where
  ex : ∃ f fd ps, Mk K C f ∧ mg x = some (.ref C) ∧ Binds K fd ps [] ∧ FnOk P w K mg base CX0 k f fd ps (toSp K sp)
/-- a method -/
structure Met (P : Program) (w : World) (K : PySem.W.Frag) (mg : Str → Option Value) (base : Heap) (k : Nat) (C : Addr) (m : Str) (sp : WSp) : Prop where
  ex : ∃ f fd ps, Cls K C ∧ Meth K C m f ∧ Binds K fd ps [] ∧ FnOk P w K mg base CX0 k f fd ps (toSp K sp)
noncomputable def wCall (sp : WSp) (t : WTA) : WTE := fun ρ G Q => t ρ G fun ws G1 => sp ws G1 Q
noncomputable def wMake (C : Addr) (sp : WSp) (t : WTA) : WTE := fun ρ G Q => t ρ G fun ws G1 => ∀ x, G1 x = none → sp (.ref x :: ws) (updG G1 x (.ins C [])) fun v G2 => v = .non ∧ Q (.ref x) G2
section
variable {X : Cx} {k : Nat} {C : Addr} {x m : Str} {sp : WSp} {e o : Expr} {es : List Expr} {t : WTA} {to : WTE} {p pos apos : Pos}
theorem we_call (F : Cal X.prog X.w X.K X.mg X.base k x sp) (hr : Room k X.A) (ha : WA X (e :: es) t) (hg : Gl X x := by rfl) (hdb : (x == ("__debug__" : Str)) = false := by decide) (he : starEach (e :: es) X.env = (false, eval e X.env) :: starEach es X.env := by rfl)
    (hpl : (backTo pos (starEach es X.env)).any (·.1) = false := by rfl) : WE X (.Call (.Name x p) (e :: es) [] pos) (wCall sp t) := by
  obtain ⟨f, fd, ps, hm, hk, hb, F⟩ := F.ex
  refine (pe_call F hr hg hm hk hb .nil pass0 ha hdb he hpl).imp fun σ H Q ⟨ρ, G, P, env, sim, h, k⟩ => ⟨ρ, G, _, env, sim, h, fun ws G1 vs H1 h1 r1 s1 st1 => ?_⟩
  show toSp X.K sp (vs ++ []) H1 Q E0
  rw [List.append_nil]
  exact ⟨ws, G1, P, r1, s1, h1, k.step st1⟩
theorem we_make (F : Mak X.prog X.w X.K X.mg X.base k x C sp) (hr : Room (k + 1) X.A) (ha : WA X (e :: es) t) (hg : Gl X x := by rfl) (hdb : (x == ("__debug__" : Str)) = false := by decide) (he : starEach (e :: es) X.env = (false, eval e X.env) :: starEach es X.env := by rfl)
    (hpl : (backTo pos (starEach es X.env)).any (·.1) = false := by rfl) : WE X (.Call (.Name x p) (e :: es) [] pos) (wMake C sp t) := by
  obtain ⟨f, fd, ps, hM, hm, hb, F⟩ := F.ex
  refine (pe_make hM F hr hg hm hb .nil pass0 ha hdb he hpl).imp fun σ H Q ⟨ρ, G, P, env, sim, h, k⟩ => ⟨ρ, G, _, env, sim, h, fun ws G1 vs H1 h1 r1 s1 st1 => ?_⟩
  intro x dx hx hdx hne
  rw [List.append_nil]
  have hx' : upd H1 dx (.own x) x = none := by rw [upd_ne (Ne.symm hne)]; exact hx
  have s2 : Sim X.K (upd H1 dx (.own x)) G1 := s1.hid hdx
  have st2 : Step H1 G1 (upd H1 dx (.own x)) G1 := .hid hdx
  have s3 : Sim X.K (upd (upd H1 dx (.own x)) x (.ins C dx [])) (updG G1 x (.ins C [])) := s2.new hx' ⟨dx, [], upd_same, .nil⟩
  have st3 : Step (upd H1 dx (.own x)) G1 (upd (upd H1 dx (.own x)) x (.ins C dx [])) (updG G1 x (.ins C [])) := .new hx'
  refine ⟨.ref x :: ws, _, _, .cons (.ref x) (r1.mono ((TupX.of s1 st2).trans (.of s2 st3))), s3, h1 x (s2.fresh hx'), fun w G4 v H4 h4 r4 s4 st4 => ?_⟩
  obtain ⟨rfl, q⟩ := h4
  cases r4
  exact ⟨rfl, k _ _ _ _ q (.ref x) s4 (st1.trans (st2.trans (st3.trans st4)))⟩
end
/-! ### THE RULE for a def -/
noncomputable def startW (N : List Str) (ws : List W) : WEnv := ws.map some ++ List.replicate (N.length - ws.length) none
theorem EnvOk.start {K : PySem.W.Frag} {H : Hp} {N : List Str} {ws : List W} {vs : List V} (r : Rws K H ws vs) : EnvOk K H (startW N ws) (start N vs) := by
  refine ⟨by simp [startW, L2.start, r.length], fun i w h => ?_⟩
  unfold startW at h
  unfold L2.start
  by_cases hi : i < ws.length
  · rw [List.getElem?_append_left (by simpa using hi), List.getElem?_map] at h
    rw [List.getElem?_append_left (by rw [List.length_map, ← r.length]; exact hi), List.getElem?_map]
    cases e : ws[i]? with
    | none => rw [e] at h; cases h
    | some w' =>
      rw [e] at h
      cases h
      obtain ⟨v, e1, r1⟩ := r.get e
      exact ⟨v, by rw [e1]; rfl, r1⟩
  · rw [List.getElem?_append_right (by simpa using Nat.le_of_not_lt hi)] at h
    rw [List.getElem?_replicate] at h
    split at h <;> cases h
theorem fun_ok {P : Program} {w : World} {K : PySem.W.Frag} {mg : Str → Option Value} {base : Heap} {x qual : Str} {st : Stmt} {f : Addr} {fd : FuncData} {N ps : List Str} {k : Nat} {sp : WSp} {t : WTS} (F : Fun K x qual st f fd) (S : FnScope N ps (defScope st))
    (hlen : ∀ ws G Q, sp ws G Q → ws.length = ps.length)
    (hwalk : ∀ (cdv : Value) (A : Around) (outer : List Env) (s : Shared) (H : Hp) (E : XK), Room k (A.deeper (envOfC qual (defScope st) s.heap.objs.size f cdv)) → WSs (cxOf CX0 P w K mg base N qual (defScope st) f cdv A outer s H E).nox (defBody st) t)
    (hpure : ∀ ws G Q, sp ws G Q → t { nx := fun _ G' => Q .non G', rt := Q } (startW N ws) G) : FnOk P w K mg base CX0 (k + 1) f fd ps (toSp K sp) := by
  refine F.ok S (fun vs H Q E ⟨ws, G, P, r, sim, h, k⟩ => by rw [← r.length]; exact hlen _ _ _ h) (fun cdv A outer s H vs Q E hr ⟨ws, G, P, r, sim, h, k⟩ => ?_)
  refine ⟨_, hwalk cdv A outer s H E hr, startW N ws, G, _, .start r, sim, hpure ws G P h, ?_⟩
  exact ⟨fun ρ G' σ H' h' env' sim' st' => k _ _ _ _ h' .non sim' st', k, fun _ _ _ _ h => h.elim, fun _ _ _ _ h => h.elim⟩
end WL
set_option Elab.async false
set_option linter.all false
set_option maxRecDepth 100000
set_option maxHeartbeats 1000000
namespace WL
open PySem PySem.Spec PyProof.Rows L2
/-! ### calls of builtins -/
section
variable {X : Cx} {x : Str} {id T : String} {e : Expr} {es : List Expr} {t : WTA} {p pos : Pos} {f : List W → WHp → WK → Prop}
theorem toTE_app {K : PySem.W.Frag} {σ : L2.St} {H : Hp} {Q : VK} (h : toTE K (wApp f t) σ H Q) : tCB (liftA K f) (toTA K t) σ H Q := by
  obtain ⟨ρ, G, P, env, sim, h, k⟩ := h
  exact ⟨ρ, G, _, env, sim, h, fun ws G1 vs H1 h1 r1 s1 st1 => ⟨ws, G1, P, r1, s1, h1, k.step st1⟩⟩
theorem we_callB (hc : CallR X (.builtin id) (liftA X.K f)) (hm : X.mg x = none) (hv : bootBuiltins x = some (.builtin id)) (ha : WA X (e :: es) t) (hg : Gl X x := by rfl) (hn : x ≠ "__name__" := by decide) (hdb : (x == ("__debug__" : Str)) = false := by decide)
    (he : starEach (e :: es) X.env = (false, eval e X.env) :: starEach es X.env := by rfl) (hpl : (backTo pos (starEach es X.env)).any (·.1) = false := by rfl) : WE X (.Call (.Name x p) (e :: es) [] pos) (wApp f t) :=
  (pe_callB hc hg hm hv ha hn hdb he hpl).imp fun _ _ _ h => toTE_app h
theorem we_callTy (hc : CallR X (.type T) (liftA X.K f)) (hm : X.mg x = none) (hv : bootBuiltins x = some (.type T)) (ha : WA X (e :: es) t) (hg : Gl X x := by rfl) (hn : x ≠ "__name__" := by decide) (hdb : (x == ("__debug__" : Str)) = false := by decide)
    (he : starEach (e :: es) X.env = (false, eval e X.env) :: starEach es X.env := by rfl) (hpl : (backTo pos (starEach es X.env)).any (·.1) = false := by rfl) : WE X (.Call (.Name x p) (e :: es) [] pos) (wApp f t) :=
  (pe_callTy hc hg hm hv ha hn hdb he hpl).imp fun _ _ _ h => toTE_app h
theorem we_ty {n : String} (hm : X.mg x = none) (hv : bootBuiltins x = some (.type n)) (hg : Gl X x := by rfl) (hn : x ≠ "__name__" := by decide) (hd : (x == ("__debug__" : Str)) = false := by decide) : WE X (.Name x pos) (wC (.ty n)) :=
  we_c (pe_bltn (v := V.ty n) hg hm hv (show RelV (V.ty n) (Value.type n) from rfl) hn hd) fun _ => .ty n
end
/-- one argument; two -/
noncomputable def one (f : W → WHp → WK → Prop) : List W → WHp → WK → Prop
  | [x] => f x
  | _ => fun _ _ => False
noncomputable def two (f : W → W → WHp → WK → Prop) : List W → WHp → WK → Prop
  | [x, y] => f x y
  | _ => fun _ _ => False
theorem one_get {f : W → WHp → WK → Prop} {ws : List W} {G : WHp} {Q : WK} (h : one f ws G Q) : ∃ x, ws = [x] ∧ f x G Q := by
  match ws, h with
  | [x], h => exact ⟨x, rfl, h⟩
theorem two_get {f : W → W → WHp → WK → Prop} {ws : List W} {G : WHp} {Q : WK} (h : two f ws G Q) : ∃ x y, ws = [x, y] ∧ f x y G Q := by
  match ws, h with
  | [x, y], h => exact ⟨x, y, rfl, h⟩
theorem cr_one {X : Cx} {u : Value} {f : W → WHp → WK → Prop} (h : ∀ (pins : List (Addr × Obj)) (s : Shared) (σ : L2.St) (H : Hp) (x : V) (v : Value) (w : W) (G : WHp) (P : WK) (Q : VK), Inv X pins σ H s → Vals [x] [v] → RelV x v → Rw X.K H w x → Sim X.K H G → f w G P → Aft X.K H G P Q →
    wpAny (model X.prog X.w) X.A (call u [v]) (EP X pins σ Q) X.xe s) : CallR X u (liftA X.K (WL.one f)) := by
  intro pins s σ H xs us Q I r ⟨ws, G, P, rw, sim, h1, k⟩
  obtain ⟨w, rfl, h1⟩ := one_get h1
  cases rw with
  | cons r1 rr =>
    cases rr
    cases r with
    | cons r2 rr =>
      cases rr
      exact h pins s σ H _ _ w G P Q I (.cons r2 .nil) r2 r1 sim h1 k
theorem cr_two {X : Cx} {u : Value} {f : W → W → WHp → WK → Prop} (h : ∀ (pins : List (Addr × Obj)) (s : Shared) (σ : L2.St) (H : Hp) (x x' : V) (v v' : Value) (w w' : W) (G : WHp) (P : WK) (Q : VK), Inv X pins σ H s → Vals [x, x'] [v, v'] → Rw X.K H w x → Rw X.K H w' x' → Sim X.K H G → f w w' G P → Aft X.K H G P Q →
    wpAny (model X.prog X.w) X.A (call u [v, v']) (EP X pins σ Q) X.xe s) : CallR X u (liftA X.K (WL.two f)) := by
  intro pins s σ H xs us Q I r ⟨ws, G, P, rw, sim, h1, k⟩
  obtain ⟨w, w', rfl, h1⟩ := two_get h1
  cases rw with
  | cons r1 rr =>
    cases rr with
    | cons r1' rr =>
      cases rr
      cases r with
      | cons r2 rr =>
        cases rr with
        | cons r2' rr =>
          cases rr
          exact h pins s σ H _ _ _ _ w w' G P Q I (.cons r2 (.cons r2' .nil)) r1 r1' sim h1 k
/-! ### len, list, tuple, dict -/
noncomputable def lenR (a : Addr) (G : WHp) (Q : WK) : Prop := match kdAt G a with
  | .sq => lsAt G a fun ws => Q (.int ws.length) G
  | .dc => dcAt G a fun kws => Q (.int kws.length) G
  | .no => False
noncomputable def lenW : W → WHp → WK → Prop
  | .tup ws => fun G Q => Q (.int ws.length) G
  | .str x => fun G Q => x.length ≤ sizeLine ∧ Q (.int x.length) G
  | .ref a => lenR a
  | _ => fun _ _ => False
noncomputable def listR (a : Addr) (G : WHp) (Q : WK) : Prop := match kdAt G a with
  | .sq => lsAt G a fun ws => ∀ p, G p = none → Q (.ref p) (updG G p (.lst ws))
  | .dc => dcAt G a fun kws => ∀ p, G p = none → Q (.ref p) (updG G p (.lst (kws.map fun kv => kW kv.1)))
  | .no => False
noncomputable def listW : W → WHp → WK → Prop
  | .tup ws => fun G Q => ∀ p, G p = none → Q (.ref p) (updG G p (.lst ws))
  | .ref a => listR a
  | _ => fun _ _ => False
noncomputable def tupW : W → WHp → WK → Prop
  | .tup ws => fun G Q => Q (.tup ws) G
  | .ref a => fun G Q => lsAt G a fun ws => Q (.tup ws) G
  | _ => fun _ _ => False
theorem RwK.keysV {K : PySem.W.Frag} {H : Hp} : ∀ {kws : List (Key × W)} {kvs : List (Key × V)}, RwK K H kws kvs → Rws K H (kws.map fun kv => kW kv.1) (kvs.map fun kv => kV kv.1)
  | _, _, .nil => .nil
  | _, _, .cons (k := k) h t => by
    rw [List.map_cons, List.map_cons]
    exact .cons (rw_kW k) (RwK.keysV t)
section
variable {X : Cx}
theorem cw_len : CallR X (.builtin "len") (liftA X.K (one lenW)) := cr_one fun pins s σ H x v w G P Q I r rx rw sim h k => by
  cases rw <;> first | exact h.elim | skip
  · exact call_len pins s σ H _ _ Q I r ⟨_, _, rfl, ⟨h.1, rfl⟩, k _ _ _ _ h.2 (.int _) sim .refl⟩
  · rename_i a
    have h : lenR a G P := h
    unfold lenR at h
    split at h
    · obtain ⟨ws, vs, hq, rs, h, _⟩ := lsAt_get sim h
      exact call_len pins s σ H _ _ Q I r ⟨_, _, rfl, .inl ⟨vs, hq, rfl⟩, by rw [← rs.length]; exact k _ _ _ _ h (.int _) sim .refl⟩
    · obtain ⟨kws, vs, hq, rs, h, _⟩ := dcAt_get sim h
      cases rx
      exact d_len I hq fun t s' I' => ⟨.int vs.length, H, I', ⟨t, rfl⟩, by rw [← rs.length]; exact k _ _ _ _ h (.int _) sim .refl⟩
    · exact h.elim
  · rename_i p vs ws hp rs
    exact call_len pins s σ H _ _ Q I r ⟨_, _, rfl, .inr ⟨vs, hp, rfl⟩, by rw [← rs.length]; exact k _ _ _ _ h (.int _) sim .refl⟩
theorem cw_list (hc : X.calm = true) : CallR X (.type "list") (liftA X.K (one listW)) := cr_one fun pins s σ H x v w G P Q I r rx rw sim h k => by
  cases rw <;> first | exact h.elim | skip
  · rename_i a
    have h : listR a G P := h
    unfold listR at h
    split at h
    · obtain ⟨ws, vs, hq, rs, h, _⟩ := lsAt_get sim h
      exact call_list_of pins s σ H _ _ Q I r ⟨_, _, rfl, .inl hq, aft_lst k sim rs h⟩
    · obtain ⟨kws, vs, hq, rs, h, _⟩ := dcAt_get sim h
      exact call_listD hc pins s σ H _ _ Q I r ⟨_, _, rfl, hq, aft_lst k sim rs.keysV h⟩
    · exact h.elim
  · rename_i p vs ws hp rs
    exact call_list_of pins s σ H _ _ Q I r ⟨_, _, rfl, .inr hp, aft_lst k sim rs h⟩
theorem cw_tuple : CallR X (.type "tuple") (liftA X.K (one tupW)) := cr_one fun pins s σ H x v w G P Q I r rx rw sim h k => by
  cases rw <;> first | exact h.elim | skip
  · rename_i a
    obtain ⟨ws, vs, hq, rs, h, _⟩ := lsAt_get sim h
    exact call_tuple_of pins s σ H _ _ Q I r ⟨_, _, rfl, .inl ⟨hq, aft_tup k sim rs h⟩⟩
  · rename_i p vs ws hp rs
    exact call_tuple_of pins s σ H _ _ Q I r ⟨_, _, rfl, .inr ⟨hp, k _ _ _ _ h (.tup hp rs) sim .refl⟩⟩
end
/-! ### list(range(..)), tuple(range(..)) -/
noncomputable abbrev WTR := WEnv → WHp → (Int → Int → WHp → Prop) → Prop
noncomputable def wR1 (ta : WTE) : WTR := fun ρ G Q => ta ρ G fun x G1 => isI x fun n => Q 0 n G1
noncomputable def wR2 (ta tb : WTE) : WTR := fun ρ G Q => ta ρ G fun x G1 => tb ρ G1 fun y G2 => isI x fun i => isI y fun j => Q i j G2
noncomputable def wLstRg (t : WTR) : WTE := fun ρ G Q => t ρ G fun a b G1 => RgOk a b ∧ ∀ p, G1 p = none → Q (.ref p) (updG G1 p (.lst (rngW a (b - a).toNat)))
noncomputable def wTupRg (t : WTR) : WTE := fun ρ G Q => t ρ G fun a b G1 => RgOk a b ∧ Q (.tup (rngW a (b - a).toNat)) G1
section
variable {X : Cx} {a b e : Expr} {ta tb : WTE} {t : WTR} {p pos : Pos}
theorem PRg.imp {t t' : L2.St → Hp → (Int → Int → Hp → Prop) → Prop} (h : PRg X e t) (i : ∀ σ H Q, t' σ H Q → t σ H Q) : PRg X e t' := fun pins s σ H Q I q => h pins s σ H Q I (i _ _ _ q)
end
/-! ### int, abs, min, max, sum, any, all, sorted -/
noncomputable def intW : W → WHp → WK → Prop
  | .int i => fun G Q => Q (.int i) G
  | .bl b => fun G Q => Q (.int (if b then 1 else 0)) G
  | _ => fun _ _ => False
noncomputable def absW (x : W) (G : WHp) (Q : WK) : Prop := isI x fun i => Q (.int (if i < 0 then -i else i)) G
/-- the ints of a list -/
noncomputable def isL (x : W) (G : WHp) (k : List W → Prop) : Prop := match x with
  | .ref a => lsAt G a k
  | _ => False
theorem isL_get {K : PySem.W.Frag} {H : Hp} {G : WHp} {x : W} {v : V} {k : List W → Prop} (sim : Sim K H G) (r : Rw K H x v) (h : isL x G k) : ∃ a ws vs, x = .ref a ∧ v = .ref a ∧ SqL K H a vs ∧ Rws K H ws vs ∧ k ws := by
  cases r <;> first | exact h.elim | skip
  obtain ⟨ws, vs, hq, rs, h, _⟩ := lsAt_get sim h
  exact ⟨_, ws, vs, rfl, rfl, hq, rs, h⟩
noncomputable def sumW (x : W) (G : WHp) (Q : WK) : Prop := isL x G fun ws => ∃ ns : List Int, ws = ns.map .int ∧ Q (.int ns.sum) G
noncomputable def allW (x : W) (G : WHp) (Q : WK) : Prop := isL x G fun ws => ∃ bs : List Bool, ws = bs.map .bl ∧ Q (.bl (bs.all id)) G
/-- sorted: a list of ints; a dict with fewer than 64 int keys -/
noncomputable def sortR (a : Addr) (G : WHp) (Q : WK) : Prop := match kdAt G a with
  | .sq => lsAt G a fun ws => ∃ ns : List Int, ws = ns.map .int ∧ ∀ (ns' : List Int) (p : Addr), ns'.Perm ns → ns'.Pairwise (· ≤ ·) → G p = none → Q (.ref p) (updG G p (.lst (ns'.map .int)))
  | .dc => dcAt G a fun kws => ∃ ns : List Int, kws.map (·.1) = ns.map Sum.inl ∧ ns.length < 64 ∧ ∀ (ns' : List Int) (p : Addr), ns'.Perm ns → ns'.Pairwise (· ≤ ·) → G p = none → Q (.ref p) (updG G p (.lst (ns'.map .int)))
  | .no => False
noncomputable def sortW : W → WHp → WK → Prop
  | .ref a => sortR a
  | _ => fun _ _ => False
theorem RwK.keys {K : PySem.W.Frag} {H : Hp} {κ : Type} : ∀ {kws : List (κ × W)} {kvs : List (κ × V)}, RwK K H kws kvs → kws.map (·.1) = kvs.map (·.1)
  | _, _, .nil => rfl
  | _, _, .cons h t => by rw [List.map_cons, List.map_cons, RwK.keys t]
section
variable {X : Cx}
theorem cw_int : CallR X (.type "int") (liftA X.K (one intW)) := cr_one fun pins s σ H x v w G P Q I r rx rw sim h k => by
  cases rw <;> first | exact h.elim | skip
  · exact call_int1 pins s σ H _ _ Q I r (.inr ⟨_, rfl, k _ _ _ _ h (.int _) sim .refl⟩)
  · exact call_int1 pins s σ H _ _ Q I r (.inl ⟨_, rfl, k _ _ _ _ h (.int _) sim .refl⟩)
theorem cw_abs : CallR X (.builtin "abs") (liftA X.K (one absW)) := cr_one fun pins s σ H x v w G P Q I r rx rw sim h k => by
  obtain ⟨i, rfl, h⟩ := isI_get h
  cases rw
  exact call_abs pins s σ H _ _ Q I r ⟨_, rfl, k _ _ _ _ h (.int _) sim .refl⟩
theorem cw_sum (hc : X.calm = true) : CallR X (.builtin "sum") (liftA X.K (one sumW)) := cr_one fun pins s σ H x v w G P Q I r rx rw sim h k => by
  obtain ⟨a, ws, vs, rfl, rfl, hq, rs, ns, rfl, h⟩ := isL_get sim rw h
  have := rs.ints
  subst this
  exact cr_sum hc pins s σ H _ _ Q I r ⟨_, ns, rfl, hq, k _ _ _ _ h (.int _) sim .refl⟩
theorem cw_all (hc : X.calm = true) : CallR X (.builtin "all") (liftA X.K (one allW)) := cr_one fun pins s σ H x v w G P Q I r rx rw sim h k => by
  obtain ⟨a, ws, vs, rfl, rfl, hq, rs, ns, rfl, h⟩ := isL_get sim rw h
  have := rs.bls
  subst this
  exact cr_all hc pins s σ H _ _ Q I r ⟨_, ns, rfl, hq, k _ _ _ _ h (.bl _) sim .refl⟩
theorem cw_sorted (hc : X.calm = true) : CallR X (.builtin "sorted") (liftA X.K (one sortW)) := cr_one fun pins s σ H x v w G P Q I r rx rw sim h k => by
  cases rw <;> first | exact h.elim | skip
  rename_i a
  have h : sortR a G P := h
  unfold sortR at h
  split at h
  · obtain ⟨ws, vs, hq, rs, ⟨ns, rfl, h⟩, _⟩ := lsAt_get sim h
    have := rs.ints
    subst this
    exact cr_sortedI pins s σ H _ _ Q I r ⟨_, ns, rfl, hq, fun ns' p h1 h2 hp => aft_lst k sim (.of_ints ns') (fun p hp => h ns' p h1 h2 hp) p hp⟩
  · obtain ⟨kws, vs, hq, rs, ⟨ns, e, h0, h⟩, _⟩ := dcAt_get sim h
    exact call_sortedDI hc pins s σ H _ _ Q I r ⟨_, vs, ns, rfl, hq, by rw [← rs.keys]; exact e, h0, fun ns' p h1 h2 hp => aft_lst k sim (.of_ints ns') (fun p hp => h ns' p h1 h2 hp) p hp⟩
  · exact h.elim
end
/-! ### min(xs, default=d) -/
noncomputable def wCallD (f : W → W → WHp → WK → Prop) (ta td : WTE) : WTE := fun ρ G Q => ta ρ G fun x G1 => td ρ G1 fun d G2 => f x d G2 Q
end WL
set_option Elab.async false
set_option linter.all false
set_option maxRecDepth 100000
set_option maxHeartbeats 1000000
namespace L2
open PySem PySem.Spec PyProof.Rows
/-! ### enumerate of a tuple -/
section
variable {prog : Program} {w : World} {A : Around} {E : Value → Shared → Prop} {s : Shared}
theorem meets_enumerate_newT (l : Addr) (items : Array Value) (n : Nat) (dct : Option Addr) (sl : Array (Option Value)) :
    Meets (Builtin.«enumerate.__new__» ⟨[.type "enumerate", .ref l], []⟩) (fun _ R s => s.heap.get? l = some { cls := .type "tuple", dict := dct, data := .seq items n, slots := sl } ∧
      R (.ok (.ret (.ref (s.heap.push { cls := .type "tuple_iterator", data := .fields #[.ref l, .int 0 0] }).objs.size)))
        { s with heap := (s.heap.push { cls := .type "tuple_iterator", data := .fields #[.ref l, .int 0 0] }).push { cls := .type "enumerate", data := .fields #[.none, .bool false, .ref s.heap.objs.size, rawInt 0, .none, .none] } }) :=
  .of_wp fun prog w A R s h => by
    obtain ⟨hp, g, d, tk, os⟩ := s; obtain ⟨hl, h⟩ := h
    have hsub := sub_enumerate
    have hL : Heap.IsTuple (Shared.heap ⟨hp, g, d, tk, os⟩) l items := ⟨_, hl, rfl, n, rfl⟩
    wp_walk using AutoSeq1.wpAny_loadPart' hl
    refine wpAny_stack_any fun st => wpAny_pure ?_
    split
    · rename_i c _ _ _ _ _
      cases (c == Value.type "enumerate")
      · wp_walk using AutoSeq1.wpAny_loadPart' hl, wpAny_pyIter_tuple hL
        exact ⟨_, rfl, h⟩
      · wp_walk using AutoSeq1.wpAny_loadPart' hl, wpAny_pyIter_tuple hL
        exact ⟨_, rfl, h⟩
    · wp_walk using AutoSeq1.wpAny_loadPart' hl, wpAny_pyIter_tuple hL
      exact ⟨_, rfl, h⟩
theorem call_enumerate_tuple1 {l : Addr} {items : Array Value} {Q : Value → Shared → Prop} (hL : s.heap.IsTuple l items)
    (h : ∀ h', IsEnum h' (s.heap.objs.size + 1) s.heap.objs.size 0 .none → h'.IsTupleIter s.heap.objs.size l 0 → h'.objs.size = s.heap.objs.size + 2 →
      (∀ b o, s.heap.get? b = some o → h'.get? b = some o) → Q (.ref (s.heap.objs.size + 1)) { s with heap := h' }) :
    wpAny (model prog w) A (call (.type "enumerate") [.ref l]) Q E s := by
  obtain ⟨⟨c, dct, dt, sl⟩, hl, hc, n, hd⟩ := hL
  replace hc : c = .type "tuple" := hc
  replace hd : dt = .seq items n := hd
  subst hc hd
  refine callType_new F.called_enumerate (by decide) (F.typeCall_enumerate_1 _) (F.newCall_enumerate_1 _) (fun obj => F.args_object_init_2 obj _) F.entry_enumerate_new
    (meets_enumerate_newT l items n dct sl) ⟨hl, ?_⟩
  have hz : (s.heap.push { cls := .type "tuple_iterator", data := .fields #[.ref l, .int 0 0] }).objs.size = s.heap.objs.size + 1 := Heap.size_push ..
  show _ ∧ _
  rw [hz]
  have he : IsEnum ((s.heap.push { cls := .type "tuple_iterator", data := .fields #[.ref l, .int 0 0] }).push
      { cls := .type "enumerate", data := .fields #[.none, .bool false, .ref s.heap.objs.size, rawInt 0, .none, .none] }) (s.heap.objs.size + 1) s.heap.objs.size 0 .none := by
    have := Heap.get?_push_size (s.heap.push { cls := .type "tuple_iterator", data := .fields #[.ref l, .int 0 0] })
      (o := { cls := .type "enumerate", data := .fields #[.none, .bool false, .ref s.heap.objs.size, rawInt 0, .none, .none] }) rfl
    rw [hz] at this; exact this
  refine ⟨⟨_, he, rfl⟩, h _ he ⟨_, Heap.get?_push_of_some _ (Heap.get?_push_size _ rfl), rfl, rfl⟩ (by rw [Heap.size_push, hz]) fun b o x => Heap.get?_push_of_some _ (Heap.get?_push_of_some _ x)⟩
theorem wpAny_pyNext_enum_endT {e it l : Addr} {i : Nat} {items : Array Value} {old : Value} {Q : Option Value → Shared → Prop} (hh : A.handled = none)
    (he : IsEnum s.heap e it i old) (hit : s.heap.IsTupleIter it l i) (hl : s.heap.IsTuple l items) (hx : items[i]? = none)
    (hQ : ∀ h', Heap.ExtBut it s.heap h' → Q none { s with heap := h' }) : wpAny (model prog w) A (pyNext (.ref e)) Q E s := by
  have hT : s.TypeIs (.ref e) "enumerate" := ⟨_, he, rfl⟩
  unfold pyNext
  refine wpAny_bind (wpAny_attempt (wpAny_callSpecial?_slot (name := Str.ofString "__next__") hT F.slot_enumerate_next
    (wpAny_call_entry F.slot_enumerate_next hT F.entry_enumerate_next ?_ (F.args_enumerate_next_1 _))))
  show wpAny _ _ (field (.ref e) 2 >>= _) _ _ _
  refine wpAny_bind (wpAny_field he rfl (x := .ref it) rfl ?_)
  refine wpAny_bind (wpAny_nextOf_tuple_end hh hit hl hx fun h' x he' hx' => ?_)
  obtain ⟨o, ho, hc⟩ := hx'
  refine wpAny_bind (wpAny_isInstance (T := "StopIteration") (b := true) ⟨o, ho, hc⟩ isSubtype_stop ?_)
  exact wpAny_pure (hQ _ he')
end
/-- the tuple at a, each item in a new pair -/
noncomputable def IteT (K : PySem.W.Frag) (a : Addr) : It :=
  ⟨fun i H => ∃ (xs : List V) (x : V), SqT K H a xs ∧ xs[i]? = some x, fun i H v H' => ∃ T x, v = .ref T ∧ H T = none ∧ H' = upd H T (.tup [.int (i : Nat), x]) ∧ ∀ xs, SqT K H a xs → xs[i]? = some x, fun i H => ∃ xs : List V, SqT K H a xs ∧ xs.length ≤ i⟩
theorem turn_enumT {P : Program} {w : World} {K : PySem.W.Frag} {elts : List Expr} {kk : Nat} {tpos : Pos} (a e it : Addr) :
    Turn P w K (.Tuple elts kk tpos) (IteT K a) [e, it] e (fun i h => (∃ old, IsEnum h e it ((i : Nat) : Int) old) ∧ h.IsTupleIter it a i ∧ e ≠ it ∧ a ≠ it ∧ a ≠ e) where
  mem := by simp
  obj := fun i h st b hb => by
    obtain ⟨⟨old, he⟩, ⟨o, ho, hc, hd⟩, _⟩ := st
    have e' : b = e ∨ b = it := by simpa using hb
    rcases e' with z | z
    · rw [z]; exact ⟨_, he, fun v q => nomatch q⟩
    · rw [z]; exact ⟨o, ho, fun v q => by rw [hd] at q; cases q⟩
  keep := fun i h h' st k => let ⟨⟨old, he⟩, hi, hne⟩ := st; ⟨⟨old, k e (by simp) _ he⟩, hi.at fun o q => k it (by simp) o q, hne⟩
  item := by
    intro X hP hw hK hc i pins s σ H E I hf st hg
    subst hP hw hK
    obtain ⟨⟨old, he⟩, hit, hne, hai, hae⟩ := st
    obtain ⟨xs, x, hq, hx⟩ := hg
    obtain ⟨its, rv, p, hz⟩ := I.tuple hq
    obtain ⟨u, hu, ru⟩ := rv.get hx
    have hil : i < its.toArray.size := by
      have := (List.getElem?_eq_some_iff.mp hu).1
      simpa using this
    have hel : e < s.heap.objs.size := Heap.lt_size he
    have hitl : it < s.heap.objs.size := by obtain ⟨_, q, _⟩ := hit; exact Heap.lt_size q
    refine wpAny_pyNext_enum_itemD (Draws.tuple (prog := X.prog) (w := X.w) (A := X.A.in1) (show X.A.in1.handled = none from I.ok.hd hc) it a hai its.toArray) he ⟨hit, p⟩ hil hne (by simp [hne, Ne.symm hae]) fun x' h' tk hx' ho hst' hT hsz hk => ?_
    have hxu : x' = u := by
      have : its.toArray[i]? = some x' := hx'
      rw [List.getElem?_toArray, hu] at this
      exact (Option.some.inj this).symm
    subst hxu
    obtain ⟨hit', _⟩ := hst'
    refine ⟨_, rfl, wpAny_letOwnedTupleGo_enum (s := { s with heap := h', toks := tk + 1 }) ho fun h'' he' sb => ?_⟩
    have hT2 : h''.get? s.heap.objs.size = some { cls := .type "tuple", data := .seq #[.int i tk, x'] } := (sb.2 _ (Nat.ne_of_gt hel)).trans hT
    have new : ObjOk X.prog X.w (upd H s.heap.objs.size (.tup [.int (i : Nat), x])) h'' s.heap.objs.size (.tup [.int (i : Nat), x]) :=
      ⟨by show 2 ≤ sizeLine; decide, [.int i tk, x'], .cons ⟨_, rfl⟩ (.cons ru .nil), ⟨_, hT2, rfl, _, rfl⟩⟩
    have I1 : Inv X pins σ (upd H s.heap.objs.size (.tup [.int (i : Nat), x])) { s with heap := h'', toks := tk + 1 } :=
      I.turnedNew (ch := [e, it]) (fun b ob hb q => (sb.2 b (fun z => hb (by simp [z]))).trans (hk b ob (fun z => hb (by simp [z])) (fun z => hb (by simp [z])) q)) hf (Nat.le_refl _) new
    refine ⟨.ref s.heap.objs.size, _, I1, rfl, ⟨_, x, rfl, I.hok.fresh (Nat.le_refl _), rfl, fun ys hy => by rw [I.tuple_inj hy hq]; exact hx⟩, ⟨⟨x', ?_⟩, hit'.at fun o q => (sb.2 it (Ne.symm hne)).trans q, hne, hai, hae⟩, fun b hb => ?_⟩
    · have e1 : ((i + 1 : Nat) : Int) = (i : Int) + 1 := by omega
      rw [e1]; exact he'
    · have hb' : b < s.heap.objs.size := by
        have e' : b = e ∨ b = it := by simpa using hb
        rcases e' with z | z
        · rw [z]; exact hel
        · rw [z]; exact hitl
      rw [upd_ne (Nat.ne_of_lt hb')]
      exact (hf b hb).1
  done := by
    intro X hP hw hK hc i pins s σ H E I hf st hg
    subst hP hw hK
    obtain ⟨⟨old, he⟩, hit, hne, _⟩ := st
    obtain ⟨xs, hq, hx⟩ := hg
    obtain ⟨its, rv, p, hz⟩ := I.tuple hq
    obtain ⟨f0, f1, f2, f3, f4, f5⟩ := hf it (by simp)
    have hl := rv.length
    exact wpAny_pyNext_enum_endT (I.ok.hd hc) he hit p (by simp; omega) fun h' eb => ⟨rfl, I.turned (t' := s.toks) (fun b o hb q => eb b o hb q) f0 f1 f3 f4 f5⟩
  self := fun A i s Q E st h => let ⟨⟨_, he⟩, _⟩ := st; wpAny_pyIter_enum he h
end L2
namespace WL
open PySem PySem.Spec PyProof.Rows L2
noncomputable def numW (i : Nat) : List W → List W
  | [] => []
  | w :: ws => .tup [.int i, w] :: numW (i + 1) ws
theorem numW_get : ∀ {ws : List W} {i j : Nat} {w : W}, ws[j]? = some w → (numW i ws)[j]? = some (.tup [.int ((i + j : Nat) : Int), w])
  | [], _, _, _, h => by simp at h
  | w :: ws, i, 0, _, h => by simp at h; subst h; simp [numW]
  | w :: ws, i, j + 1, w', h => by
    have := numW_get (ws := ws) (i := i + 1) (j := j) (w := w') (by simpa using h)
    simp only [numW, List.getElem?_cons_succ]
    rw [this]
    have e : i + 1 + j = i + (j + 1) := by omega
    rw [e]
theorem numW_length : ∀ {ws : List W} {i : Nat}, (numW i ws).length = ws.length
  | [], _ => rfl
  | _ :: ws, i => by simp [numW, numW_length (ws := ws)]
section
variable {K : PySem.W.Frag} {H : Hp} {a : Addr}
theorem JOk.enumT {ws : List W} {vs : List V} (h : SqT K H a vs) (r : Rws K H ws vs) : JOk K H (IteT K a) (numW 0 ws) (fun _ => True) := by
  refine ⟨fun i H' G' tx sim st hi => ?_, fun i H' G' tx sim st hi => ?_, fun i H' G' x H2 tx sim st hi y => ?_⟩
  · rw [numW_length] at hi
    obtain ⟨v, hv, _⟩ := (r.mono tx.tx).get (i := i) (w := ws[i]) (by simp [hi])
    exact ⟨vs, v, tx.tx.t _ _ h, hv⟩
  · rw [numW_length] at hi
    exact ⟨vs, tx.tx.t _ _ h, by rw [← r.length]; exact hi⟩
  · rw [numW_length] at hi
    obtain ⟨T, z, rfl, hT, rfl, y⟩ := y
    obtain ⟨w, hw, rw'⟩ := (r.mono tx.tx).getV (y vs (tx.tx.t _ _ h))
    refine ⟨.tup [.int (i : Int), w], by have := numW_get (i := 0) hw; rw [Nat.zero_add] at this; exact this, ?_, sim.hid hT, .hid hT⟩
    exact .tup (SqT.of upd_same) (.cons (.int _) (.cons (rw'.mono (.new hT)) .nil))
theorem JOk.enumL {ws : List W} (h : ∃ vs, H a = some (.lst vs) ∧ Rws K H ws vs) : JOk K H (Ite K a) (numW 0 ws) (fun G => G a = some (.lst ws)) := by
  refine ⟨fun i H' G' tx sim st hi => ?_, fun i H' G' tx sim st hi => ?_, fun i H' G' x H2 tx sim st hi y => ?_⟩
  · rw [numW_length] at hi
    obtain ⟨vs, e, r⟩ := sim _ _ st
    obtain ⟨v, hv, _⟩ := r.get (i := i) (w := ws[i]) (by simp [hi])
    exact ⟨vs, v, SqL.of e, hv⟩
  · rw [numW_length] at hi
    obtain ⟨vs, e, r⟩ := sim _ _ st
    exact ⟨vs, SqL.of e, by rw [← r.length]; exact hi⟩
  · rw [numW_length] at hi
    obtain ⟨T, z, rfl, hT, rfl, y⟩ := y
    obtain ⟨vs, e, r⟩ := sim _ _ st
    obtain ⟨w, hw, rw'⟩ := r.getV (y vs (SqL.of e))
    refine ⟨.tup [.int (i : Int), w], by have := numW_get (i := 0) hw; rw [Nat.zero_add] at this; exact this, ?_, sim.hid hT, .hid hT⟩
    exact .tup (SqT.of upd_same) (.cons (.int _) (.cons (rw'.mono (.new hT)) .nil))
end
/-- enumerate of a tuple, of a list -/
noncomputable def enumOn (w : W) (G : WHp) (k : List W → (WHp → Prop) → Prop) : Prop := match w with
  | .tup ws => k (numW 0 ws) (fun _ => True)
  | .ref a => mlAt G a fun ws => k (numW 0 ws) (fun G => G a = some (.lst ws))
  | _ => False
noncomputable def wEnum (ta : WTA) : WTI := fun ρ G R => ta ρ G fun ws G1 => match ws with
  | [w] => enumOn w G1 fun items st => R items st G1
  | _ => False
section
variable {X : Cx} {e : Expr} {ta : WTA} {p pos tpos : Pos} {elts : List Expr} {kk : Nat}
theorem wi_enum (hm : X.mg "enumerate" = none) (ha : WA X [e] ta) (hg : Gl X "enumerate" := by rfl) (hs : starEach [e] X.env = [(false, eval e X.env)] := by rfl) : WI X (.Tuple elts kk tpos) (.Call (.Name "enumerate" p) [e] [] pos) (wEnum ta) := by
  refine ⟨fun pins s σ H R I ⟨ρ, G, P, env, sim, h, k⟩ => ?_⟩
  refine Call_ (ld_blt I hg hm boot_enumerate (PyProof.Rows.callWith_type1 (thn (ha.run pos pins s σ H (fun vs H1 => ∃ w G1, enumOn w G1 (fun items st => P items st G1) ∧ Rws X.K H1 [w] vs ∧ Sim X.K H1 G1 ∧ Step H G H1 G1) I ⟨ρ, G, _, env, sim, h, fun ws G1 vs H1 h1 r1 s1 st1 => by
    split at h1
    · exact ⟨_, G1, h1, r1, s1, st1⟩
    · exact h1.elim⟩) fun us s1 ⟨vs, H1, I1, r1, w, G1, h1, rw1, sim1, st1⟩ => ?_) hs rfl))
  cases rw1 with
  | cons rw1 rr =>
    cases rr
    cases r1 with
    | cons r rr =>
      cases rr
      have fp : ∀ b ∈ [s1.heap.objs.size + 1, s1.heap.objs.size], FpOk X pins H1 b := fun b hb => by
        have e' : b = s1.heap.objs.size + 1 ∨ b = s1.heap.objs.size := by simpa using hb
        have hle : s1.heap.objs.size ≤ b := by
          rcases e' with z | z
          · rw [z]; exact Nat.le_add_right _ _
          · rw [z]; exact Nat.le_refl _
        exact I1.fpOk hle (I1.hok.fresh hle)
      cases rw1 with
      | ref a =>
        cases r
        obtain ⟨ws, e1, h1⟩ := mlAt_get h1
        obtain ⟨vs, ev, rs⟩ := sim1 _ _ e1
        obtain ⟨its, rv, p', hz⟩ := I1.list (SqL.of ev)
        refine call_enumerate_list p'.isList fun h' he hit hsz hk => wpAny_pyIter_enum he ?_
        have I2 : Inv X pins σ H1 { s1 with heap := h' } := I1.kept (t' := s1.toks) hk
        exact ⟨s1.heap.objs.size + 1, [s1.heap.objs.size + 1, s1.heap.objs.size], _, _, H1, rfl, I2, turn_enum a (s1.heap.objs.size + 1) s1.heap.objs.size, ⟨⟨.none, he⟩, hit, Nat.succ_ne_self _⟩, fp, k _ _ _ _ _ h1 (.enumL ⟨vs, ev, rs⟩) sim1 st1⟩
      | @tup a vs ws hp rs =>
        cases r
        obtain ⟨its, rv, p', hz⟩ := I1.tuple hp
        have hlt : a < s1.heap.objs.size := by obtain ⟨o, ho, _⟩ := p'; exact Heap.lt_size ho
        refine call_enumerate_tuple1 p' fun h' he hit hsz hk => wpAny_pyIter_enum he ?_
        have I2 : Inv X pins σ H1 { s1 with heap := h' } := I1.kept (t' := s1.toks) hk
        exact ⟨s1.heap.objs.size + 1, [s1.heap.objs.size + 1, s1.heap.objs.size], _, _, H1, rfl, I2, turn_enumT a (s1.heap.objs.size + 1) s1.heap.objs.size, ⟨⟨.none, he⟩, hit, Nat.succ_ne_self _, Nat.ne_of_lt hlt, Nat.ne_of_lt (Nat.lt_succ_of_lt hlt)⟩, fp, k _ _ _ _ _ h1 (.enumT hp rs) sim1 st1⟩
      | _ => exact h1.elim
end
/-! ### a dict that is locked while a statement runs -/
noncomputable def wLock (t : WTS) : WTS := fun D ρ G => ∃ d kws, G d = some (.dct kws) ∧ t { nx := fun ρ' G' => G' d = some (.rod kws) ∧ D.nx ρ' (updG G' d (.dct kws)), rt := fun v G' => G' d = some (.rod kws) ∧ D.rt v (updG G' d (.dct kws)), bk := fun ρ' G' => G' d = some (.rod kws) ∧ D.bk ρ' (updG G' d (.dct kws)), ct := fun ρ' G' => G' d = some (.rod kws) ∧ D.ct ρ' (updG G' d (.dct kws)) } ρ (updG G d (.rod kws))
noncomputable def wLockE (t : WTE) : WTE := fun ρ G Q => ∃ d kws, G d = some (.dct kws) ∧ t ρ (updG G d (.rod kws)) fun v G' => G' d = some (.rod kws) ∧ Q v (updG G' d (.dct kws))
end WL
set_option Elab.async false
set_option linter.all false
set_option maxRecDepth 100000
set_option maxHeartbeats 1000000
namespace L2
open PySem PySem.Spec PyProof.Rows
section
variable {X : Cx}
/-- sorted(set(xs)), xs a tuple of fewer than 64 ints -/
noncomputable def tSortSet (K : PySem.W.Frag) (ta : TE) : TE := fun σ H Q => ta σ H fun x H1 => ∃ (l : Addr) (ns : List Int), x = .ref l ∧ SqT K H1 l (ns.map V.int) ∧ ns.length < 64 ∧
  ∀ (ms : List Int) (p : Addr), ms.Pairwise (· < ·) → (∀ k, k ∈ ms ↔ k ∈ ns) → H1 p = none → Q (.ref p) (upd H1 p (.lst (ms.map V.int)))
theorem pe_sortSet {a : Expr} {ta : TE} {p p2 q pos : Pos} (hg : Gl X "sorted") (hm : X.mg "sorted" = none) (hg2 : Gl X "set") (hm2 : X.mg "set" = none) (ha : PE X a ta) (hc : X.calm = true := by rfl)
    (na : starEach [a] X.env = (false, eval a X.env) :: starEach [] X.env := by rfl) : PE X (.Call (.Name "sorted" p) [.Call (.Name "set" p2) [a] [] q] [] pos) (tSortSet X.K ta) := by
  refine ⟨fun pins s σ H Q I h => ?_⟩
  refine Call_ (ld_blt I hg hm boot_sorted ?_)
  refine PyProof.Rows.callWith_builtin1 (PyProof.Rows.args_cons ?_ rfl) rfl rfl
  refine Call_ (ld_blt I hg2 hm2 boot_set ?_)
  refine PyProof.Rows.callWith_type1 (PyProof.Rows.args_cons (thn (ha.run pins s σ H _ I h) fun v s1 ⟨x, H1, I1, r1, q1⟩ => PyProof.Rows.args_nil ?_) na) na rfl
  obtain ⟨l, ns, rfl, hq, hl, q1⟩ := q1
  cases r1
  obtain ⟨its, r, pl, hz⟩ := I1.tuple hq
  refine call_set_tupI ns (I1.ok.hd hc) pl (by simpa using intsAre_of r) (by unfold scanBound; omega) fun h' tk c hR hc' hk => ?_
  refine PyProof.Rows.args_nil ?_
  have I2 : Inv X pins σ H1 { s1 with heap := h', toks := tk } := I1.kept hk
  refine sorted_set (s := { s1 with heap := h', toks := tk }) hR (I1.ok.hd hc) (by omega) fun s' p out c2 ms k g o hp hgt hi hs hm3 hl3 => ?_
  have hlen : (ms.map V.int).length ≤ sizeLine := by rw [List.length_map, hl3, sizeLine_eq]; omega
  have hn : H1 p = none := I2.hok.fresh hp
  have hnp : s1.heap.get? p = none := by
    cases e : s1.heap.get? p with
    | none => rfl
    | some u => exact absurd (Nat.lt_of_lt_of_le (Heap.lt_size (hk p u e)) hp) (Nat.lt_irrefl _)
  have k' : ∀ b o, s1.heap.get? b = some o → s'.heap.get? b = some o := fun b o e => k b o (hk b o e)
  have J : Inv X pins σ (upd H1 p (.lst (ms.map V.int))) { s1 with heap := s'.heap, gens := s'.gens, drawn := s'.drawn, toks := s'.toks } :=
    I1.call (ch := []) (Un.laidN k' hnp hn) (I1.hok.laidN k' hn ⟨hlen, out.toList, c2, vals_of_ints hi, hgt⟩) (by rw [g]; exact I1.bare) (fun _ z => nomatch z)
  have e : s' = { s1 with heap := s'.heap, gens := s'.gens, drawn := s'.drawn, toks := s'.toks } := by
    cases s'
    cases s1
    cases o
    rfl
  rw [e]
  exact ⟨.ref p, _, J, rfl, q1 ms p hs (fun k => (hm3 k).trans (by simp)) hn⟩
end
/-- isinstance(x, T), T a tuple of classes wherever it stands -/
noncomputable def rIsiS (K : PySem.W.Frag) : List V → Hp → VK → Prop := fun xs H Q => ∃ (x : V) (tp : Addr) (cs : List V) (t : Value) (us : List Value) (b : Bool), xs = [x, .ref tp] ∧ SqT K H tp cs ∧ Paired ClsV cs us ∧ TyX K H x t ∧ PySem.W.kitAny K t us = some b ∧ Q (.bl b) H
theorem call_isiS {X : Cx} : CallR X (.builtin "isinstance") (rIsiS X.K) := by
  intro pins s σ H xs us Q I r h
  obtain ⟨x, tp, cs, t, ws, b, rfl, hT, k, ty, e, q⟩ := h
  obtain ⟨u1, u2, rfl, r1, r2⟩ := vals2 r
  cases (show u2 = Value.ref tp from r2)
  obtain ⟨P, Z, p, hx⟩ := kit_of I r1 ty
  obtain ⟨its, rv, ⟨o, h1, h2, n, h3⟩, _⟩ := I.tuple hT
  have e3 := ClsV.all k rv
  subst e3
  obtain ⟨oc, od, dt, sl⟩ := o
  simp only at h2 h3
  subst h2 h3
  exact PySem.W.kia_tup Z I.kIn p h1 e hx fun tk => ⟨.bl b, H, I.tok tk, rfl, q⟩
end L2
namespace WL
open PySem PySem.Spec PyProof.Rows L2
/-! ### in, not in -/
noncomputable def flatW : W → Bool
  | .non => true | .bl _ => true | .int _ => true | .str _ => true
  | _ => false
noncomputable def eqFW : W → W → Bool
  | .non, .non => true
  | .bl a, .bl b => a == b
  | .bl a, .int b => (if a then 1 else 0) == b
  | .int a, .bl b => a == (if b then 1 else 0)
  | .int a, .int b => a == b
  | .str a, .str b => a == b
  | _, _ => false
noncomputable def hasW (x : W) (ws : List W) : Bool := ws.any fun y => eqFW y x
theorem flatW_of {K : PySem.W.Frag} {H : Hp} {w : W} {v : V} (r : Rw K H w v) (f : flatW w = true) : flatV v = true := by
  cases r <;> first | rfl | exact absurd f Bool.false_ne_true
theorem eqFW_of {K : PySem.W.Frag} {H : Hp} {w w' : W} {v v' : V} (r : Rw K H w v) (r' : Rw K H w' v') (f : flatW w = true) (f' : flatW w' = true) : eqV v v' = eqFW w w' := by
  cases r <;> cases r' <;> first | rfl | exact absurd f Bool.false_ne_true | exact absurd f' Bool.false_ne_true
theorem flatW_all {K : PySem.W.Frag} {H : Hp} : ∀ {ws : List W} {vs : List V}, Rws K H ws vs → ws.all flatW = true → vs.all flatV = true
  | _, _, .nil, _ => rfl
  | _, _, .cons h t, f => by
    rw [List.all_cons, Bool.and_eq_true] at f ⊢
    exact ⟨flatW_of h f.1, flatW_all t f.2⟩
theorem hasW_of {K : PySem.W.Frag} {H : Hp} {x : W} {v : V} (r : Rw K H x v) (fx : flatW x = true) : ∀ {ws : List W} {vs : List V}, Rws K H ws vs → ws.all flatW = true → inV v vs = hasW x ws
  | _, _, .nil, _ => rfl
  | _, _, .cons h t, f => by
    rw [List.all_cons, Bool.and_eq_true] at f
    show ((eqV _ _) || inV v _) = ((eqFW _ _) || hasW x _)
    rw [eqFW_of h r f.1 fx, hasW_of r fx t f.2]
/-- among the items: flat ones; data of any depth in a list -/
noncomputable def inL (neg : Bool) (x : W) (ws : List W) (G : WHp) (Q : WK) : Prop := flatW x = true ∧ ws.all flatW = true ∧ Q (.bl (hasW x ws != neg)) G
noncomputable def inD (neg : Bool) (x y : W) (G : WHp) (Q : WK) : Prop := ∃ d ds, Dw G x d ∧ Dw G y (.list ds) ∧ SeqAt.shaped d = true ∧ SeqAt.shaped (.list ds) = true ∧ Q (.bl ((ds.any fun z => PyData.eqv z d) != neg)) G
noncomputable def inR (neg : Bool) (x : W) (a : Addr) (G : WHp) (Q : WK) : Prop := match kdAt G a with
  | .sq => (lsAt G a fun ws => inL neg x ws G Q) ∨ inD neg x (.ref a) G Q
  | .dc => dcAt G a fun kws => isK x fun k => Q (.bl ((valW kws k).isSome != neg)) G
  | .no => False
noncomputable def inW (neg : Bool) (x y : W) (G : WHp) (Q : WK) : Prop := match y with
  | .tup ws => inL neg x ws G Q
  | .ref a => inR neg x a G Q
  | _ => False
section
variable {X : Cx}
theorem opw_in (hu : X.A.units + 65 < cLine) : OpR X (compareOp .In) (lift2 X.K (inW false)) := by
  intro pins s σ H x y v u Q I rx ry ⟨a, b, G, P, ra, rb, sim, h, k⟩
  cases b <;> first | exact h.elim | skip
  · cases rb with
    | @tup p vs _ hp rs =>
      obtain ⟨f1, f2, q⟩ := h
      exact op_in_seq pins s σ H _ _ v u Q I rx ry ⟨p, vs, rfl, .inr hp, flatW_of ra f1, flatW_all rs f2, by rw [if_neg Bool.false_ne_true, hasW_of ra f1 rs f2]; rw [Bool.bne_false] at q; exact k _ _ _ _ q (.bl _) sim .refl⟩
  · cases rb
    have h : inR false a _ G P := h
    unfold inR at h
    split at h
    · rcases h with h | ⟨d, ds, hd, he, sd, se, q⟩
      · obtain ⟨ws, vs, hq, rs, ⟨f1, f2, q⟩, _⟩ := lsAt_get sim h
        exact op_in_seq pins s σ H _ _ v u Q I rx ry ⟨_, vs, rfl, .inl hq, flatW_of ra f1, flatW_all rs f2, by rw [if_neg Bool.false_ne_true, hasW_of ra f1 rs f2]; rw [Bool.bne_false] at q; exact k _ _ _ _ q (.bl _) sim .refl⟩
      · rw [Bool.bne_false] at q
        exact op_inD hu pins s σ H _ _ v u Q I rx ry ⟨d, ds, hd.dp sim ra, he.dp sim (.ref _), sd, se, k _ _ _ _ q (.bl _) sim .refl⟩
    · obtain ⟨kws, vs, hq, rs, h, _⟩ := dcAt_get sim h
      obtain ⟨kk, ek, q⟩ := isK_get h
      obtain ⟨o, g, eo⟩ := dany_of hq rs ek ra
      cases ry
      exact d_in (by omega) I g rx fun s' I' => ⟨.bl o.isSome, H, I', rfl, by rw [eo]; rw [Bool.bne_false] at q; exact k _ _ _ _ q (.bl _) sim .refl⟩
    · exact h.elim
theorem opw_notin (hu : X.A.units + 65 < cLine) : OpR X (compareOp .NotIn) (lift2 X.K (inW true)) := by
  intro pins s σ H x y v u Q I rx ry ⟨a, b, G, P, ra, rb, sim, h, k⟩
  cases b <;> first | exact h.elim | skip
  · cases rb with
    | @tup p vs _ hp rs =>
      obtain ⟨f1, f2, q⟩ := h
      exact op_notIn_seq pins s σ H _ _ v u Q I rx ry ⟨p, vs, rfl, .inr hp, flatW_of ra f1, flatW_all rs f2, by rw [if_pos rfl, hasW_of ra f1 rs f2]; rw [Bool.bne_true] at q; exact k _ _ _ _ q (.bl _) sim .refl⟩
  · cases rb
    have h : inR true a _ G P := h
    unfold inR at h
    split at h
    · rcases h with h | ⟨d, ds, hd, he, sd, se, q⟩
      · obtain ⟨ws, vs, hq, rs, ⟨f1, f2, q⟩, _⟩ := lsAt_get sim h
        exact op_notIn_seq pins s σ H _ _ v u Q I rx ry ⟨_, vs, rfl, .inl hq, flatW_of ra f1, flatW_all rs f2, by rw [if_pos rfl, hasW_of ra f1 rs f2]; rw [Bool.bne_true] at q; exact k _ _ _ _ q (.bl _) sim .refl⟩
      · rw [Bool.bne_true] at q
        exact op_notInD hu pins s σ H _ _ v u Q I rx ry ⟨d, ds, hd.dp sim ra, he.dp sim (.ref _), sd, se, k _ _ _ _ q (.bl _) sim .refl⟩
    · obtain ⟨kws, vs, hq, rs, h, _⟩ := dcAt_get sim h
      obtain ⟨kk, ek, q⟩ := isK_get h
      obtain ⟨o, g, eo⟩ := dany_of hq rs ek ra
      cases ry
      exact d_notIn (by omega) I g rx fun s' I' => ⟨.bl (!o.isSome), H, I', rfl, by rw [eo]; rw [Bool.bne_true] at q; exact k _ _ _ _ q (.bl _) sim .refl⟩
    · exact h.elim
end
/-! ### isinstance with built-in types -/
/-- the name of a value's built-in type -/
noncomputable def tyW (G : WHp) : W → Option String
  | .non => some "NoneType" | .bl _ => some "bool" | .int _ => some "int" | .str _ => some "str" | .tup _ => some "tuple"
  | .ref a => match G a with
    | some (.lst _) => some "list"
    | some (.rol _) => some "list"
    | some (.dct _) => some "dict"
    | some (.rod _) => some "dict"
    | _ => none
  | .ty _ => none
  | .kl _ => none
noncomputable def kitN (t : String) : List String → Option Bool
  | [] => some false
  | c :: cs => match kitB t c with
    | some true => some true
    | some false => kitN t cs
    | none => none
noncomputable def isiW (x c : W) (G : WHp) (Q : WK) : Prop := match c with
  | .ty n => ∃ t b, tyW G x = some t ∧ kitB t n = some b ∧ Q (.bl b) G
  | .tup cs => ∃ t ns b, tyW G x = some t ∧ cs = ns.map .ty ∧ kitN t ns = some b ∧ Q (.bl b) G
  | _ => False
theorem tyX_of {K : PySem.W.Frag} {H : Hp} {G : WHp} {x : W} {v : V} {t : String} (sim : Sim K H G) (r : Rw K H x v) (h : tyW G x = some t) : TyX K H v (.type t) := by
  cases r with
  | non => cases h; exact .base .non
  | bl b => cases h; exact .base (.bl b)
  | int i => cases h; exact .base (.int i)
  | str x => cases h; exact .base (.str x)
  | ty n => cases h
  | kl _ _ => cases h
  | ref a =>
    have h' : (match G a with
      | some (.lst _) => some "list"
      | some (.rol _) => some "list"
      | some (.dct _) => some "dict"
      | some (.rod _) => some "dict"
      | _ => none) = some t := h
    split at h'
    · rename_i e; cases h'; obtain ⟨vs, e1, _⟩ := sim _ _ e; exact .base (.lst e1)
    · rename_i e; cases h'; obtain ⟨vs, e1, _⟩ := sim _ _ e
      rcases e1 with e1 | ⟨o, e1⟩
      · exact .base (.lst e1)
      · exact .base (.frz e1)
    · rename_i e; cases h'; obtain ⟨vs, e1, _⟩ := sim _ _ e; exact .base (.dK e1)
    · rename_i e; cases h'; obtain ⟨o, vs, e1, _⟩ := sim _ _ e; exact .fDict e1
    · cases h'
  | tup hp rs =>
    cases h
    rcases hp with (hp | ⟨o, hp⟩) | ⟨o, its, n, hk, hc, _⟩
    · exact .base (.tup hp)
    · exact .fTuple hp
    · exact .kTuple hk hc
theorem rws_tys {K : PySem.W.Frag} {H : Hp} : ∀ {ns : List String} {vs : List V}, Rws K H (ns.map W.ty) vs → Paired ClsV vs (ns.map Value.type)
  | [], _, .nil => .nil
  | n :: ns, _, .cons (.ty _) t => .cons (.ty n) (rws_tys t)
theorem kitN_of {K : PySem.W.Frag} {t : String} : ∀ {ns : List String} {b : Bool}, kitN t ns = some b → PySem.W.kitAny K (.type t) (ns.map Value.type) = some b
  | [], b, h => h
  | c :: cs, b, h => by
    unfold kitN at h
    split at h
    · rename_i e
      cases h
      exact kitAny_cons (kit_ty e) (fun z => absurd z.symm Bool.false_ne_true) fun _ => rfl
    · rename_i e
      exact kitAny_cons (kit_ty e) (fun _ => kitN_of h) fun z => absurd z Bool.false_ne_true
    · cases h
section
variable {X : Cx}
theorem cw_isi : CallR X (.builtin "isinstance") (liftA X.K (two isiW)) := cr_two fun pins s σ H x x' v v' w w' G P Q I r rw rw' sim h k => by
  cases w' <;> first | exact h.elim | skip
  · obtain ⟨t, ns, b, e1, rfl, e2, q⟩ := h
    cases rw' with
    | @tup p vs _ hp rs =>
      exact call_isiS pins s σ H _ _ Q I r ⟨x, p, vs, .type t, _, b, rfl, hp, rws_tys rs, tyX_of sim rw e1, kitN_of e2, k _ _ _ _ q (.bl b) sim .refl⟩
  · obtain ⟨t, b, e1, e2, q⟩ := h
    cases rw'
    exact call_isi pins s σ H _ _ Q I r ⟨x, _, .type t, _, b, rfl, .ty _, tyX_of sim rw e1, kit_ty e2, k _ _ _ _ q (.bl b) sim .refl⟩
end
end WL
set_option Elab.async false
set_option linter.all false
set_option maxRecDepth 100000
set_option maxHeartbeats 1000000
namespace WL
open PySem PySem.Spec PyProof.Rows L2
/-! ### sorted(set(xs)) -/
noncomputable def wSortSet (ta : WTE) : WTE := fun ρ G Q => ta ρ G fun x G1 => match x with
  | .tup ws => ∃ ns : List Int, ws = ns.map .int ∧ ns.length < 64 ∧ ∀ (ms : List Int) (p : Addr), ms.Pairwise (· < ·) → (∀ k, k ∈ ms ↔ k ∈ ns) → G1 p = none → Q (.ref p) (updG G1 p (.lst (ms.map .int)))
  | _ => False
theorem we_sortSet {X : Cx} {a : Expr} {ta : WTE} {p p2 q pos : Pos} (hm : X.mg "sorted" = none) (hm2 : X.mg "set" = none) (ha : WE X a ta) (hc : X.calm = true := by rfl) (hg : Gl X "sorted" := by rfl) (hg2 : Gl X "set" := by rfl)
    (na : starEach [a] X.env = (false, eval a X.env) :: starEach [] X.env := by rfl) : WE X (.Call (.Name "sorted" p) [.Call (.Name "set" p2) [a] [] q] [] pos) (wSortSet ta) := (pe_sortSet hg hm hg2 hm2 ha hc na).imp fun σ H Q ⟨ρ, G, P, env, sim, h, k⟩ =>
  ⟨ρ, G, _, env, sim, h, fun w G1 v H1 h1 r1 s1 st1 => by
    split at h1
    · obtain ⟨ns, rfl, hl, h1⟩ := h1
      cases r1 with
      | @tup p vs _ hp rs =>
        have := rs.ints
        subst this
        exact ⟨p, ns, rfl, hp, hl, fun ms q h2 h3 hq => aft_lst (k.step st1) s1 (.of_ints ms) (fun q hq => h1 ms q h2 h3 hq) q hq⟩
    · exact h1.elim⟩
/-! ### methods of lists and dicts -/
noncomputable def MdW (f : W → List W → WHp → WK → Prop) (ty : W → WHp → Prop) (to : WTE) (t : WTA) : WTE := fun ρ G Q => to ρ G fun x G1 => ty x G1 ∧ t ρ G1 fun ws G2 => f x ws G2 Q
noncomputable def isLs (x : W) (G : WHp) : Prop := isL x G fun _ => True
noncomputable def isM (x : W) (G : WHp) (k : Addr → List W → Prop) : Prop := match x with
  | .ref a => mlAt G a (k a)
  | _ => False
theorem isM_get {G : WHp} {x : W} {k : Addr → List W → Prop} (h : isM x G k) : ∃ a ws, x = .ref a ∧ G a = some (.lst ws) ∧ k a ws := by
  cases x <;> first | exact h.elim | skip
  obtain ⟨ws, e, q⟩ := mlAt_get h
  exact ⟨_, ws, rfl, e, q⟩
noncomputable def appendW (x : W) (ys : List W) (G : WHp) (Q : WK) : Prop := isM x G fun a ws => match ys with
  | [y] => ws.length < sizeLine ∧ Q .non (updG G a (.lst (ws ++ [y])))
  | _ => False
noncomputable def extendW (x : W) (ys : List W) (G : WHp) (Q : WK) : Prop := isM x G fun a ws => match ys with
  | [.ref b] => mlAt G b fun us => ws.length + us.length ≤ sizeLine ∧ Q .non (updG G a (.lst (ws ++ us)))
  | _ => False
noncomputable def mergeW (kws more : List (Key × W)) : List (Key × W) := more.foldl (fun acc kv => putW acc kv.1 kv.2) kws
theorem RwK.merge {K : PySem.W.Frag} {H : Hp} {more : List (Key × W)} {moreV : List (Key × V)} (m : RwK K H more moreV) : ∀ {kws : List (Key × W)} {kvs : List (Key × V)}, RwK K H kws kvs → RwK K H (mergeW kws more) (mergeK kvs moreV) := by
  induction m with
  | nil => intro _ _ r; exact r
  | cons h t ih => intro _ _ r; exact ih (r.put h)
section
variable {X : Cx} {o e : Expr} {es : List Expr} {to : WTE} {t : WTA} {name : Str} {apos cpos : Pos} {T id : String} {f : W → List W → WHp → WK → Prop} {ty : W → WHp → Prop}
theorem md_of {K : PySem.W.Frag} {σ : L2.St} {H : Hp} {Q : VK} (hty : ∀ H G w v, Sim K H G → Rw K H w v → ty w G → tyV K T v H) (h : toTE K (MdW f ty to t) σ H Q) : tBM K T (liftM K f) (toTE K to) (toTA K t) σ H Q := by
  obtain ⟨ρ, G, P, env, sim, h, k⟩ := h
  exact ⟨ρ, G, _, env, sim, h, fun w G1 v H1 h1 r1 s1 st1 => ⟨hty _ _ _ _ s1 r1 h1.1, ρ, G1, _, env.mono (.of sim st1), s1, h1.2, fun ws G2 vs H2 h2 r2 s2 st2 => ⟨w, ws, G2, P, r1.mono (.of s1 st2), r2, s2, h2, k.step (st1.trans st2)⟩⟩⟩
theorem ty_list {K : PySem.W.Frag} : ∀ (H : Hp) (G : WHp) (w : W) (v : V), Sim K H G → Rw K H w v → isLs w G → tyV K "list" v H := fun H G w v sim r h => by
  obtain ⟨a, ws, vs, rfl, rfl, hq, _⟩ := isL_get sim r h
  exact .inl ⟨rfl, vs, hq⟩
theorem we_bm (pa : PlainAttrs T) (slot : Slot T name id) (hty : typeOf (.builtin id) = pure (.type "method_descriptor")) (hT : ∀ H G w v, Sim X.K H G → Rw X.K H w v → ty w G → tyV X.K T v H) (hm : MtR X id (liftM X.K f)) (ho : WE X o to) (ha : WA X (e :: es) t)
    (hbase : attributeBase o name X.env (eval o X.env) = eval o X.env := by rfl)
    (hfew : ((backTo cpos (starEach (e :: es) X.env)).all (fun x => !x.1) && (backToKw cpos (keywordEach [] X.env)).all (fun x => x.1.isSome)
      && decide ((e :: es).length + ([] : List Keyword).length + (if ([] : List Keyword).isEmpty then 0 else 1) < 30)) = true := by rfl)
    (hline : (apos.endLine == cpos.line) = true := by rfl) (hs : starEach (e :: es) X.env = (false, eval e X.env) :: starEach es X.env := by rfl) (hplain : (backTo cpos (starEach es X.env)).any (·.1) = false := by rfl) :
    WE X (.Call (.Attribute o name apos) (e :: es) [] cpos) (MdW f ty to t) := (pe_bm pa slot hty hm ho ha hbase hfew hline hs hplain).imp fun _ _ _ h => md_of hT h
theorem mw_append : MtR X "list.append" (liftM X.K appendW) := by
  intro pins s σ H x vs v us Q I rx rv ⟨w, ws, G, P, r, rs, sim, h, k⟩
  obtain ⟨a, xs, rfl, e, h⟩ := isM_get h
  split at h
  · cases r
    obtain ⟨ys, ev, ry⟩ := sim _ _ e
    cases rs with
    | cons r1 rr =>
      cases rr
      obtain ⟨s3, st3, tx⟩ := lst_set sim e ev (ry.append (.cons r1 .nil))
      exact mt_append pins s σ H _ _ v us Q I rx rv ⟨_, ys, _, rfl, rfl, ev, by rw [← ry.length]; exact h.1, k _ _ _ _ h.2 .non s3 st3⟩
  · exact h.elim
theorem mw_extend : MtR X "list.extend" (liftM X.K extendW) := by
  intro pins s σ H x vs v us Q I rx rv ⟨w, ws, G, P, r, rs, sim, h, k⟩
  obtain ⟨a, xs, rfl, e, h⟩ := isM_get h
  cases r
  obtain ⟨ys, ev, ry⟩ := sim _ _ e
  split at h
  · obtain ⟨us', eu, h1, q⟩ := mlAt_get h
    obtain ⟨zs, ez, rz⟩ := sim _ _ eu
    cases rs with
    | cons r1 rr =>
      cases rr
      cases r1
      obtain ⟨s3, st3, tx⟩ := lst_set sim e ev (ry.append rz)
      exact mt_extend pins s σ H _ _ v us Q I rx rv ⟨_, _, ys, zs, rfl, rfl, ev, ez, by rw [← ry.length, ← rz.length]; exact h1, k _ _ _ _ q .non s3 st3⟩
  · exact h.elim
end
/-! ### {..} -/
noncomputable def wDNew : WTE := fun _ G Q => ∀ p, G p = none → Q (.ref p) (updG G p (.dct []))
noncomputable def wPairs : List (WTE × WTE) → WEnv → WHp → (List (W × W) → WHp → Prop) → Prop
  | [], _, G, Q => Q [] G
  | (tk, tv) :: r, ρ, G, Q => tk ρ G fun x G1 => tv ρ G1 fun y G2 => wPairs r ρ G2 fun ps G3 => Q ((x, y) :: ps) G3
inductive RwP (K : PySem.W.Frag) (H : Hp) : List (W × W) → List (V × V) → Prop
  | nil : RwP K H [] []
  | cons {x y : W} {v u : V} {ws : List (W × W)} {vs : List (V × V)} (h : Rw K H x v) (g : Rw K H y u) (t : RwP K H ws vs) : RwP K H ((x, y) :: ws) ((v, u) :: vs)
noncomputable def keyP : List (W × W) → Option (List (Key × W))
  | [] => some []
  | (x, y) :: r => match keyW x, keyP r with
    | some k, some ks => some ((k, y) :: ks)
    | _, _ => none
theorem keyP_of {K : PySem.W.Frag} {H : Hp} : ∀ {ps : List (W × W)} {vs : List (V × V)} {ks : List (Key × W)}, keyP ps = some ks → RwP K H ps vs → ∃ kvs : List (Key × V), vs = kvs.map (fun kv => (kV kv.1, kv.2)) ∧ RwK K H ks kvs
  | [], _, ks, h, .nil => by cases (show some [] = some ks from h); exact ⟨[], rfl, .nil⟩
  | (x, y) :: r, _, ks, h, .cons hx hy t => by
    unfold keyP at h
    split at h
    · rename_i k ks' e1 e2
      cases h
      obtain ⟨kvs, rfl, rk⟩ := keyP_of e2 t
      rw [keyW_of e1 hx]
      exact ⟨(k, _) :: kvs, rfl, .cons hy rk⟩
    · cases h
theorem pairs_of {K : PySem.W.Frag} : ∀ {trs : List (WTE × WTE)} {ρ : WEnv} {σ : L2.St} {H : Hp} {G : WHp} {P : List (W × W) → WHp → Prop} {Q : List (V × V) → Hp → Prop}, EnvOk K H ρ σ → Sim K H G → wPairs trs ρ G P →
    (∀ ws G' vs H', P ws G' → RwP K H' ws vs → Sim K H' G' → Step H G H' G' → Q vs H') → tPairs (trs.map fun p => (toTE K p.1, toTE K p.2)) σ H Q
  | [], _, _, _, _, _, _, env, sim, h, k => k _ _ _ _ h .nil sim .refl
  | (tk, tv) :: r, ρ, σ, H, G, P, Q, env, sim, h, k => ⟨ρ, G, _, env, sim, h, fun x G1 v1 H1 h1 r1 s1 st1 => ⟨ρ, G1, _, env.mono (.of sim st1), s1, h1, fun y G2 v2 H2 h2 r2 s2 st2 =>
      pairs_of (env.mono (.of sim (st1.trans st2))) s2 h2 fun ws G3 vs H3 h3 r3 s3 st3 => k _ _ _ _ h3 (.cons (r1.mono (.of s1 (st2.trans st3))) (r2.mono (.of s2 st3)) r3) s3 ((st1.trans st2).trans st3)⟩⟩
noncomputable def wDisp (trs : List (WTE × WTE)) : WTE := fun ρ G Q => wPairs trs ρ G fun ps G1 => ∃ ks, keyP ps = some ks ∧ ks.length ≤ 15 ∧ ∀ p, G1 p = none → Q (.ref p) (updG G1 p (.dct (mergeW [] ks)))
structure WPs (X : Cx) (pos : Pos) (keys : List (Option Expr)) (values : List Expr) (trs : List (WTE × WTE)) : Prop where
  run : PPs X pos keys values (trs.map fun p => (toTE X.K p.1, toTE X.K p.2))
section
variable {X : Cx} {pos : Pos}
theorem wps_nil : WPs X pos [] [] [] := ⟨pps_nil⟩
theorem wps_cons {k v : Expr} {ks : List (Option Expr)} {vs : List Expr} {tk tv : WTE} {trs : List (WTE × WTE)} (hk : WE X k tk) (hv : WE X v tv) (hr : WPs X pos ks vs trs) : WPs X pos (some k :: ks) (v :: vs) ((tk, tv) :: trs) := ⟨pps_cons hk hv hr.run⟩
theorem we_disp {keys : List (Option Expr)} {values : List Expr} {trs : List (WTE × WTE)} (h : WPs X pos keys values trs) (hall : keys.all (·.isSome) = true := by rfl) (hl : keys.length = values.length := by rfl) (h0 : keys ≠ [] := by exact fun z => nomatch z)
    (h15 : keys.length ≤ 15 := by decide) : WE X (.Dict keys values pos) (wDisp trs) := (pe_disp h.run hall hl h0 h15).imp fun σ H Q ⟨ρ, G, P, env, sim, h, k⟩ => by
  intro p hp
  have s1 : Sim X.K (upd H p (.dK [])) G := sim.hid hp
  refine pairs_of (env.mono (.new hp)) s1 h fun ws G1 vs H1 ⟨ks, ek, hl, q⟩ r1 s2 st1 => ?_
  obtain ⟨e1, g1⟩ := st1.fr p _ upd_same (sim.fresh hp) (fun _ z => nomatch z)
  obtain ⟨kvs, rfl, rk⟩ := keyP_of ek r1
  have tx : TupX X.K H1 (upd H1 p (.dK (mergeK [] kvs))) := .chg e1 (fun _ z => nomatch z) (fun _ _ z => nomatch z)
  have st2 : Step H G (upd H1 p (.dK (mergeK [] kvs))) G1 := (Step.trans (.hid hp) st1).own hp e1 fun _ _ z => nomatch z
  have s3 : Sim X.K (upd H1 p (.dK (mergeK [] kvs))) G1 := s2.own g1 tx
  exact ⟨e1, kvs, rfl, by rw [← rk.length]; exact hl, k _ _ _ _ (q p g1) (.ref p) (s3.take ⟨_, upd_same, (rk.merge .nil).mono tx⟩) (st2.take hp)⟩
end
/-! ### {k: v for ..} -/
end WL
set_option Elab.async false
set_option linter.all false
set_option maxRecDepth 100000
set_option maxHeartbeats 1000000
namespace WL
open PySem PySem.Spec PyProof.Rows L2
noncomputable def blkB (N : List Str) (sc scope : Scope) (own : List (Str × Nat)) : Bool :=
  decide (scope.kind = .function) && decide (∀ y ∈ scope.names, scope.names.lookup y.1 = some y.2) && decide (∀ p ∈ own, N[p.2]? = some p.1) &&
  decide (∀ y ∈ scope.names, y.2 = .free → sc.names.lookup y.1 = some .cell ∨ sc.names.lookup y.1 = some .free) && decide (∀ y ∈ scope.names, y.2 = .local ∨ y.2 = .cell → y.1 ∈ own.map (·.1) ∨ y.1 ∉ N)
theorem blk_of {N : List Str} {sc scope : Scope} {own : List (Str × Nat)} (h : blkB N sc scope own = true) : BlkOk N sc scope own := by
  unfold blkB at h
  simp only [Bool.and_eq_true, decide_eq_true_eq] at h
  obtain ⟨⟨⟨⟨h1, h2⟩, h3⟩, h4⟩, h5⟩ := h
  exact ⟨h1, h2, h3, h4, h5⟩
theorem hu65 {k : Nat} {A : Around} (r : Room k A) : A.units + 65 < cLine := by have := r.un; omega
theorem we_globI {X : Cx} {x : Str} {i : Int} {pos : Pos} (hm : ∃ t, X.mg x = some (.int i t)) (hg : Gl X x := by rfl) (hd : (x == ("__debug__" : Str)) = false := by decide) : WE X (.Name x pos) (wC (.int i)) := by
  obtain ⟨t, hm⟩ := hm
  exact we_glob hm (v := .int i) ⟨t, rfl⟩ (fun _ => .int i) hg hd
end WL
set_option Elab.async false
set_option linter.all false
set_option maxRecDepth 100000
set_option maxHeartbeats 1000000
namespace WL
open PySem PySem.Spec PyProof.Rows L2
theorem isB_bl {b : Bool} {k : Bool → Prop} : isB (.bl b) k = k b := rfl
theorem isI_int {i : Int} {k : Int → Prop} : isI (.int i) k = k i := rfl
theorem optW_some {w : W} {k : W → Prop} : optW (some w) k = k w := rfl
/-- the script as it is handed in -/
noncomputable def scrAt (G : WHp) (w : W) (ns : List Int) : Prop := (∃ a, w = .ref a ∧ G a = some (.rol (ns.map .int))) ∨ w = .kl (ns.map .int)
/-- the law's promise -/
noncomputable def spL : WSp := fun ws G Q => ∃ w ns, ws = [w] ∧ ns.length ≤ 63 ∧ scrAt G w ns ∧ ∀ G', Q (.bl true) G'
theorem spL_of {K : PySem.W.Frag} {H : Hp} {a : Addr} {ns : List Int} (hl : ns.length ≤ 63) (hO : Only H) (hS : SqL K H a (ns.map V.int)) : toSp K spL [.ref a] H (fun v _ => v = .bl true) (fun _ _ _ => False) := by
  have fin : Aft K H (fun b => if b = a then some (.rol (ns.map .int)) else none) (fun v _ => v = .bl true) (fun v _ => v = V.bl true) := fun w G' v H' h r _ _ => by subst h; cases r; rfl
  rcases hS with h | h
  · refine ⟨[.ref a], fun b => if b = a then some (.rol (ns.map .int)) else none, fun v _ => v = .bl true, .cons (.ref a) .nil, fun b o e => ?_, ⟨.ref a, ns, rfl, hl, .inl ⟨a, rfl, if_pos rfl⟩, fun _ => rfl⟩, fin⟩
    by_cases hb : b = a
    · subst hb
      have e' : (if b = b then some (WO.rol (ns.map .int)) else none) = some o := e
      rw [if_pos rfl] at e'
      cases e'
      exact ⟨_, h, .of_ints ns⟩
    · have e' : (if b = a then some (WO.rol (ns.map .int)) else none) = some o := e
      rw [if_neg hb] at e'
      cases e'
  · refine ⟨[.kl (ns.map .int)], fun _ => none, fun v _ => v = .bl true, .cons (.kl (fun H => .inr h) (.of_ints ns)) .nil, fun b o e => (by cases e), ⟨.kl (ns.map .int), ns, rfl, hl, .inr rfl, fun _ => rfl⟩, fun w G' v H' h r _ _ => by subst h; cases r; rfl⟩
end WL
set_option Elab.async false
set_option linter.all false
set_option maxRecDepth 100000
set_option maxHeartbeats 1000000
set_option pp.maxSteps 400
namespace WL
open PySem PySem.Spec PyProof.Rows L2
/-! ### heaps that grow -/
noncomputable def Ext (G G' : WHp) : Prop := ∀ a o, G a = some o → G' a = some o
theorem Ext.refl {G : WHp} : Ext G G := fun _ _ h => h
theorem Ext.trans {G G1 G2 : WHp} (a : Ext G G1) (b : Ext G1 G2) : Ext G G2 := fun x o h => b x o (a x o h)
theorem Ext.new {G : WHp} {p : Addr} {o : WO} (h : G p = none) : Ext G (updG G p o) := fun a u e => by
  have hb : a ≠ p := by rintro rfl; rw [h] at e; cases e
  rw [updG_ne hb]; exact e
/-- all but what stands at p -/
noncomputable def ExtB (p : Addr) (G G' : WHp) : Prop := ∀ a o, a ≠ p → G a = some o → G' a = some o
theorem Ext.b {p : Addr} {G G' : WHp} (h : Ext G G') : ExtB p G G' := fun a o _ e => h a o e
theorem ExtB.refl {p : Addr} {G : WHp} : ExtB p G G := fun _ _ _ h => h
theorem ExtB.trans {p : Addr} {G G1 G2 : WHp} (a : ExtB p G G1) (b : ExtB p G1 G2) : ExtB p G G2 := fun x o n h => b x o n (a x o n h)
theorem ExtB.set {p : Addr} {G : WHp} {o : WO} : ExtB p G (updG G p o) := fun a u n e => by rw [updG_ne n]; exact e
theorem kd_lst {G : WHp} {a : Addr} {ws : List W} (h : G a = some (.lst ws)) : kdAt G a = .sq := by unfold kdAt; rw [h]
theorem kd_dct {G : WHp} {a : Addr} {ws : List (Key × W)} (h : G a = some (.dct ws)) : kdAt G a = .dc := by unfold kdAt; rw [h]
theorem ixW_lst {G : WHp} {a : Addr} {ws : List W} {i : Nat} {w : W} {Q : WK} (h : G a = some (.lst ws)) (e : ws[i]? = some w) (q : Q w G) : ixW (.ref a) (.int (i : Int)) G Q := by
  show ixR a _ G Q
  unfold ixR
  rw [kd_lst h]
  exact lsAt_of h (optW_of (atI_nat e) q)
theorem ixW_tup {G : WHp} {ws : List W} {i : Nat} {w : W} {Q : WK} (e : ws[i]? = some w) (q : Q w G) : ixW (.tup ws) (.int (i : Int)) G Q := optW_of (atI_nat e) q
theorem ixW_dct {G : WHp} {a : Addr} {ws : List (Key × W)} {i : Int} {w : W} {Q : WK} (h : G a = some (.dct ws)) (e : valW ws (Sum.inl i : Key) = some w) (q : Q w G) : ixW (.ref a) (.int i) G Q := by
  show ixR a _ G Q
  unfold ixR
  rw [kd_dct h]
  exact dcAt_of h (optW_of e q)
theorem len_lst {G : WHp} {a : Addr} {ws : List W} {Q : WK} (h : G a = some (.lst ws)) (q : Q (.int ws.length) G) : lenW (.ref a) G Q := by
  show lenR a G Q
  unfold lenR
  rw [kd_lst h]
  exact lsAt_of h q
theorem put_lst {G : WHp} {a : Addr} {ws : List W} {i : Nat} {v : W} {Q : WHp → Prop} (h : G a = some (.lst ws)) (hi : i < ws.length) (q : Q (updG G a (.lst (ws.set i v)))) : wPut (.ref a) (.int (i : Int)) v G Q := by
  show wPutR a _ v G Q
  unfold wPutR
  rw [kd_lst h]
  exact mlAt_of h ⟨i, by unfold ixN; rw [if_pos (by omega), if_pos (by omega)]; rfl, q⟩
theorem put_dct {G : WHp} {a : Addr} {ws : List (Key × W)} {i : Int} {v : W} {Q : WHp → Prop} (h : G a = some (.dct ws)) (hi : ws.length < sizeLine) (q : Q (updG G a (.dct (putW ws (Sum.inl i) v)))) : wPut (.ref a) (.int i) v G Q := by
  show wPutR a _ v G Q
  unfold wPutR
  rw [kd_dct h]
  exact mdAt_of h ⟨hi, q⟩
theorem app_lst {G : WHp} {a : Addr} {ws : List W} {v : W} {Q : WK} (h : G a = some (.lst ws)) (hi : ws.length < sizeLine) (q : Q .non (updG G a (.lst (ws ++ [v])))) : appendW (.ref a) [v] G Q := mlAt_of h ⟨hi, q⟩
theorem isLs_of {G : WHp} {a : Addr} {ws : List W} (h : G a = some (.lst ws)) : isLs (.ref a) G := lsAt_of h trivial
theorem seqOn_tup {G : WHp} {ws : List W} {k : List W → (WHp → Prop) → Prop} : seqOn (.tup ws) G k = k ws (fun _ => True) := rfl
theorem enumOn_tup {G : WHp} {ws : List W} {k : List W → (WHp → Prop) → Prop} : enumOn (.tup ws) G k = k (numW 0 ws) (fun _ => True) := rfl
theorem seq_lst {G : WHp} {a : Addr} {ws : List W} {k : List W → (WHp → Prop) → Prop} (h : G a = some (.lst ws)) (q : k ws (fun G => G a = some (.lst ws) ∨ G a = some (.rol ws))) : seqOn (.ref a) G k := by unfold seqOn; simp only [h]; exact q
theorem notin_dct {G : WHp} {a : Addr} {kws : List (Key × W)} {i : Int} {Q : WK} (h : G a = some (.dct kws)) (q : Q (.bl (!(valW kws (Sum.inl i : Key)).isSome)) G) : inW true (.int i) (.ref a) G Q := by
  show inR true _ a G Q
  unfold inR
  rw [kd_dct h]
  refine dcAt_of h ?_
  show Q (.bl ((valW kws (Sum.inl i : Key)).isSome != true)) G
  rw [Bool.bne_true]; exact q
theorem hasW_ints (i : Int) (ns : List Int) : hasW (.int i) (ns.map .int) = decide (i ∈ ns) := by
  unfold hasW
  induction ns with
  | nil => simp
  | cons n r ih =>
    rw [List.map_cons, List.any_cons, ih]
    show ((n == i) || decide (i ∈ r)) = _
    by_cases e : i = n
    · subst e; simp
    · have h1 : (n == i) = false := beq_eq_false_iff_ne.mpr (Ne.symm e)
      rw [h1, Bool.false_or]
      exact decide_eq_decide.mpr (by simp [e])
theorem flat_ints (ns : List Int) : (ns.map W.int).all flatW = true := by
  rw [List.all_map, List.all_eq_true]; intro _ _; rfl
theorem in_tup {G : WHp} {ns : List Int} {i : Int} {Q : WK} (q : Q (.bl (decide (i ∈ ns))) G) : inW false (.int i) (.tup (ns.map .int)) G Q :=
  ⟨rfl, flat_ints ns, by rw [hasW_ints, Bool.bne_false]; exact q⟩
theorem notin_tup {G : WHp} {ns : List Int} {i : Int} {Q : WK} (q : Q (.bl (!decide (i ∈ ns))) G) : inW true (.int i) (.tup (ns.map .int)) G Q :=
  ⟨rfl, flat_ints ns, by rw [hasW_ints, Bool.bne_true]; exact q⟩
/-! ### comprehensions in which the heap only grows -/
theorem lc_fm {c : CTg} {tt : WTT} {te : WTE} {vs : List Nat} {ρ : WEnv} {G1 : WHp} {Q : WK} {items : List W} {stable : WHp → Prop} (g : W → Option W) (hlen : items.length < sizeLine) (hst : ∀ G, Ext G1 G → stable G)
    (turn : ∀ (i : Nat) (w : W), items[i]? = some w → ∀ G, Ext G1 G → ∀ R : Option W → WHp → Prop, (∀ G', Ext G G' → R (g w) G') → c.on w (wipeW ρ vs) fun ρ' => tt ρ' G fun b G2 => if b = true then te ρ' G2 fun y G3 => R (some y) G3 else R none G2)
    (fin : ∀ D G', Ext G1 G' → G' D = none → Q (.ref D) (updG G' D (.lst (items.filterMap g)))) :
    ∃ Iv : Nat → List W → WHp → Prop, Iv 0 [] G1 ∧ (∀ i acc G, i ≤ items.length → Iv i acc G → stable G ∧ acc.length < sizeLine) ∧
      (∀ i w acc G, items[i]? = some w → Iv i acc G → c.on w (wipeW ρ vs) fun ρ' => tt ρ' G fun b G2 => if b = true then te ρ' G2 fun y G3 => Iv (i + 1) (acc ++ [y]) G3 else Iv (i + 1) acc G2) ∧
      (∀ acc G, Iv items.length acc G → ∀ D, G D = none → Q (.ref D) (updG G D (.lst acc))) := by
  refine ⟨fun i acc G => acc = (items.take i).filterMap g ∧ Ext G1 G, ⟨by simp, .refl⟩, ?_, ?_, ?_⟩
  · rintro i acc G hi ⟨rfl, e⟩
    refine ⟨hst G e, Nat.lt_of_le_of_lt (Nat.le_trans (List.length_filterMap_le _ _) ?_) hlen⟩
    rw [List.length_take]; omega
  · rintro i w acc G hw ⟨rfl, e⟩
    have hk : (items.take (i + 1)).filterMap g = (items.take i).filterMap g ++ (g w).toList := by
      rw [List.take_add_one, List.filterMap_append, hw]
      cases h : g w <;> simp [h]
    have := turn i w hw G e (fun o G' => (items.take i).filterMap g ++ o.toList = (items.take (i + 1)).filterMap g ∧ Ext G1 G') fun G' e' => ⟨hk.symm, e.trans e'⟩
    have conv : (fun ρ' => tt ρ' G fun b G2 => if b = true then te ρ' G2 fun y G3 => ((items.take i).filterMap g ++ (some y).toList = (items.take (i + 1)).filterMap g ∧ Ext G1 G3) else ((items.take i).filterMap g ++ (none : Option W).toList = (items.take (i + 1)).filterMap g ∧ Ext G1 G2)) =
      (fun ρ' => tt ρ' G fun b G2 => if b = true then te ρ' G2 fun y G3 => ((items.take i).filterMap g ++ [y] = (items.take (i + 1)).filterMap g ∧ Ext G1 G3) else ((items.take i).filterMap g = (items.take (i + 1)).filterMap g ∧ Ext G1 G2)) := by
      simp
    rw [conv] at this
    exact this
  · rintro acc G ⟨rfl, e⟩ D hD
    have := fin D G e hD
    rw [List.take_length]
    exact this
theorem wLc_fm {ti : WTI} {c : CTg} {tt : WTT} {te : WTE} {vs : List Nat} {ρ : WEnv} {G G1 : WHp} {Q : WK} {items : List W} {stable : WHp → Prop} (hti : ∀ R, R items stable G1 → ti ρ G R) (g : W → Option W) (hlen : items.length < sizeLine) (hst : ∀ G, Ext G1 G → stable G)
    (turn : ∀ (i : Nat) (w : W), items[i]? = some w → ∀ G, Ext G1 G → ∀ R : Option W → WHp → Prop, (∀ G', Ext G G' → R (g w) G') → c.on w (wipeW ρ vs) fun ρ' => tt ρ' G fun b G2 => if b = true then te ρ' G2 fun y G3 => R (some y) G3 else R none G2)
    (fin : ∀ D G', Ext G1 G' → G' D = none → Q (.ref D) (updG G' D (.lst (items.filterMap g)))) : wLc ti c tt te vs ρ G Q := hti _ (lc_fm g hlen hst turn fin)
theorem wLc_of {ti : WTI} {c : CTg} {tt : WTT} {te : WTE} {vs : List Nat} {ρ : WEnv} {G G1 : WHp} {Q : WK} {items : List W} {stable : WHp → Prop} (hti : ∀ R, R items stable G1 → ti ρ G R) (Iv : Nat → List W → WHp → Prop) (h0 : Iv 0 [] G1) (hst : ∀ i acc G, i ≤ items.length → Iv i acc G → stable G ∧ acc.length < sizeLine)
    (turn : ∀ i w acc G, items[i]? = some w → Iv i acc G → c.on w (wipeW ρ vs) fun ρ' => tt ρ' G fun b G2 => if b = true then te ρ' G2 fun y G3 => Iv (i + 1) (acc ++ [y]) G3 else Iv (i + 1) acc G2)
    (fin : ∀ acc G, Iv items.length acc G → ∀ D, G D = none → Q (.ref D) (updG G D (.lst acc))) : wLc ti c tt te vs ρ G Q := hti _ ⟨Iv, h0, hst, turn, fin⟩
theorem add_lst {G : WHp} {a b : Addr} {xs ys : List W} {Q : WK} (ha : G a = some (.lst xs)) (hb : G b = some (.lst ys)) (hl : xs.length + ys.length ≤ sizeLine) (q : ∀ p, G p = none → Q (.ref p) (updG G p (.lst (xs ++ ys)))) : addW (.ref a) (.ref b) G Q := mlAt_of ha (mlAt_of hb ⟨hl, q⟩)
theorem none_of_ext {G G' : WHp} {p : Addr} (e : Ext G G') (h : G' p = none) : G p = none := by
  cases q : G p with
  | none => rfl
  | some o => rw [e _ _ q] at h; cases h
theorem ne_of_at {G : WHp} {a b : Addr} {o : WO} (h : G a = some o) (h' : G b = none) : a ≠ b := by rintro rfl; rw [h] at h'; cases h'
theorem allW_of {G : WHp} {p : Addr} {bs : List Bool} {Q : WK} (h : G p = some (.lst (bs.map .bl))) (q : Q (.bl (bs.all id)) G) : allW (.ref p) G Q := lsAt_of h ⟨bs, rfl, q⟩
theorem fm_map {l : List W} {f : W → W} : l.filterMap (fun w => some (f w)) = l.map f := by rw [List.filterMap_eq_map']
theorem fm_map2 {α β γ : Type} {a : α → γ} {f : γ → Option β} {b : α → β} : ∀ {l : List α}, (∀ x ∈ l, f (a x) = some (b x)) → (l.map a).filterMap f = l.map b
  | [], _ => rfl
  | x :: l, h => by
    rw [List.map_cons, List.filterMap_cons, h x (by simp), List.map_cons, fm_map2 fun y hy => h y (by simp [hy])]
/-- those for which p holds -/
theorem fm_filter {α β γ : Type} {a : α → γ} {f : γ → Option β} {b : α → β} {p : α → Bool} : ∀ {l : List α}, (∀ x ∈ l, f (a x) = if p x = true then some (b x) else none) → (l.map a).filterMap f = (l.filter p).map b
  | [], _ => rfl
  | x :: l, h => by
    rw [List.map_cons, List.filterMap_cons, h x (by simp), List.filter_cons]
    have ih := fm_filter (l := l) (a := a) (f := f) (b := b) (p := p) fun y hy => h y (by simp [hy])
    cases hp : p x with
    | true => rw [if_pos rfl, if_pos rfl, List.map_cons, ih]
    | false => rw [if_neg Bool.false_ne_true, if_neg Bool.false_ne_true, ih]
theorem numW_at {ws : List W} {i j : Nat} {w : W} (h : (numW i ws)[j]? = some w) : ∃ x, ws[j]? = some x ∧ w = .tup [.int ((i + j : Nat) : Int), x] := by
  have hj : j < ws.length := by
    have := (List.getElem?_eq_some_iff.mp h).1
    rw [numW_length] at this; exact this
  have e : ws[j]? = some ws[j] := by simp [hj]
  rw [numW_get e] at h
  exact ⟨_, e, (Option.some.inj h).symm⟩
theorem wLc_P {ti : WTI} {c : CTg} {tt : WTT} {te : WTE} {vs : List Nat} {ρ : WEnv} {G : WHp} {Q : WK} (P : List W → (WHp → Prop) → WHp → Prop) (hti : ∀ R : List W → (WHp → Prop) → WHp → Prop, (∀ items stable G1, P items stable G1 → R items stable G1) → ti ρ G R)
    (h : ∀ items stable G1, P items stable G1 → ∃ Iv : Nat → List W → WHp → Prop, Iv 0 [] G1 ∧ (∀ i acc G, i ≤ items.length → Iv i acc G → stable G ∧ acc.length < sizeLine) ∧
      (∀ i w acc G, items[i]? = some w → Iv i acc G → c.on w (wipeW ρ vs) fun ρ' => tt ρ' G fun b G2 => if b = true then te ρ' G2 fun y G3 => Iv (i + 1) (acc ++ [y]) G3 else Iv (i + 1) acc G2) ∧
      (∀ acc G, Iv items.length acc G → ∀ D, G D = none → Q (.ref D) (updG G D (.lst acc)))) : wLc ti c tt te vs ρ G Q := hti _ h
theorem tup_lst {G : WHp} {a : Addr} {ws : List W} {Q : WK} (h : G a = some (.lst ws)) (q : Q (.tup ws) G) : tupW (.ref a) G Q := lsAt_of h q
theorem wFor_of {ti : WTI} {g : WTG} {tb : WTS} {D : WEnds} {ρ : WEnv} {G G1 : WHp} {items : List W} {stable : WHp → Prop} (hti : ∀ R, R items stable G1 → ti ρ G R) (Iv : Nat → WEnv → WHp → Prop) (h0 : Iv 0 ρ G1) (hst : ∀ i ρ G, i ≤ items.length → Iv i ρ G → stable G)
    (turn : ∀ i w ρ G, items[i]? = some w → Iv i ρ G → g w ρ G fun ρ' G' => tb { D with nx := Iv (i + 1), ct := Iv (i + 1), bk := D.nx } ρ' G') (fin : ∀ ρ G, Iv items.length ρ G → D.nx ρ G) : wFor ti g tb D ρ G := hti _ ⟨Iv, h0, hst, turn, fin⟩
theorem wWhile_of {c : WTT} {tb : WTS} {D : WEnds} {ρ : WEnv} {G : WHp} (Iv : Nat → WEnv → WHp → Prop) {m : Nat} (h0 : Iv m ρ G)
    (turn : ∀ m ρ G, Iv m ρ G → c ρ G fun b G1 => if b = true then tb { D with nx := fun ρ' G' => ∃ m', m' < m ∧ Iv m' ρ' G', ct := fun ρ' G' => ∃ m', m' < m ∧ Iv m' ρ' G', bk := D.nx } ρ G1 else D.nx ρ G1) : wWhile c tb D ρ G := ⟨Iv, ⟨m, h0⟩, turn⟩
/-! ### small facts by which readings become shorter -/
theorem eqW_str {a b : Str} {G : WHp} {Q : WK} : eqW (.str a) (.str b) G Q = Q (.bl (decide (a = b))) G := rfl
theorem neW_str {a b : Str} {G : WHp} {Q : WK} : neW (.str a) (.str b) G Q = Q (.bl (!decide (a = b))) G := rfl
theorem eqW_int {a b : Int} {G : WHp} {Q : WK} : eqW (.int a) (.int b) G Q = Q (.bl (decide (a = b))) G := rfl
theorem neW_int {a b : Int} {G : WHp} {Q : WK} : neW (.int a) (.int b) G Q = Q (.bl (!decide (a = b))) G := rfl
theorem eqW_bl {a b : Bool} {G : WHp} {Q : WK} : eqW (.bl a) (.bl b) G Q = Q (.bl (decide (a = b))) G := rfl
theorem neW_bl {a b : Bool} {G : WHp} {Q : WK} : neW (.bl a) (.bl b) G Q = Q (.bl (!decide (a = b))) G := rfl
theorem ixW_tupE {ws : List W} {i : Int} {G : WHp} {Q : WK} : ixW (.tup ws) (.int i) G Q = optW (atI ws i) fun w => Q w G := rfl
theorem slW_tupE {ws : List W} {lo hi : Option Int} {G : WHp} {Q : WK} : slW (.tup ws) lo hi G Q = Q (.tup (cutW ws lo hi)) G := rfl
theorem lenW_tupE {ws : List W} {G : WHp} {Q : WK} : lenW (.tup ws) G Q = Q (.int ws.length) G := rfl
theorem tupW_tupE {ws : List W} {G : WHp} {Q : WK} : tupW (.tup ws) G Q = Q (.tup ws) G := rfl
theorem listW_tupE {ws : List W} {G : WHp} {Q : WK} : listW (.tup ws) G Q = ∀ p, G p = none → Q (.ref p) (updG G p (.lst ws)) := rfl
theorem atI_0 {a : W} {r : List W} : atI (a :: r) 0 = some a := atI_nat (j := 0) rfl
theorem atI_1 {a b : W} {r : List W} : atI (a :: b :: r) 1 = some b := atI_nat (j := 1) rfl
theorem atI_2 {a b c : W} {r : List W} : atI (a :: b :: c :: r) 2 = some c := atI_nat (j := 2) rfl
theorem atI_3 {a b c d : W} {r : List W} : atI (a :: b :: c :: d :: r) 3 = some d := atI_nat (j := 3) rfl
theorem atI_4 {a b c d e : W} {r : List W} : atI (a :: b :: c :: d :: e :: r) 4 = some e := atI_nat (j := 4) rfl
theorem dT {p : Prop} [Decidable p] (h : p) : decide p = true := decide_eq_true h
theorem addW_int {i j : Int} {G : WHp} {Q : WK} : addW (.int i) (.int j) G Q = Q (.int (i + j)) G := rfl
theorem addW_tup {a b : List W} {G : WHp} {Q : WK} : addW (.tup a) (.tup b) G Q = (a.length + b.length ≤ sizeLine ∧ Q (.tup (a ++ b)) G) := rfl
theorem addW_str {a b : Str} {G : WHp} {Q : WK} : addW (.str a) (.str b) G Q = (a.length + b.length ≤ sizeLine ∧ Q (.str (a ++ b)) G) := rfl
theorem subW_int {i j : Int} {G : WHp} {Q : WK} : subW (.int i) (.int j) G Q = Q (.int (i - j)) G := rfl
theorem mulW_int {i j : Int} {G : WHp} {Q : WK} : mulW (.int i) (.int j) G Q = (((-(2 ^ 64) < i ∧ i < 2 ^ 64) ∨ (-(2 ^ 64) < j ∧ j < 2 ^ 64)) ∧ Q (.int (i * j)) G) := rfl
theorem modW_int {i j : Int} {G : WHp} {Q : WK} : modW (.int i) (.int j) G Q = (0 < j ∧ Q (.int (i % j)) G) := rfl
theorem fdivW_int {i j : Int} {G : WHp} {Q : WK} : fdivW (.int i) (.int j) G Q = (0 < j ∧ j < 1073741824 ∧ Q (.int (i / j)) G) := rfl
theorem powW_int {i j : Int} {G : WHp} {Q : WK} : powW (.int i) (.int j) G Q = ((0 ≤ j ∧ j ≤ 1000000 ∧ i.natAbs < 2 ^ 64) ∧ Q (.int (i ^ j.toNat)) G) := rfl
theorem negW_int {i : Int} {G : WHp} {Q : WK} : negW (.int i) G Q = Q (.int (-i)) G := rfl
theorem intW_int {i : Int} {G : WHp} {Q : WK} : intW (.int i) G Q = Q (.int i) G := rfl
theorem intW_bl {b : Bool} {G : WHp} {Q : WK} : intW (.bl b) G Q = Q (.int (if b then 1 else 0)) G := rfl
/-! ### types of values -/
noncomputable def tyL : List String := ["NoneType", "bool", "int", "str", "tuple", "list", "dict"]
theorem kit_int {t : String} (h : t ∈ tyL) : kitB t "int" = some (t == "int" || t == "bool") := by
  revert t; decide +kernel
theorem kit_bool {t : String} (h : t ∈ tyL) : kitB t "bool" = some (t == "bool") := by
  revert t; decide +kernel
theorem kit_tuple {t : String} (h : t ∈ tyL) : kitB t "tuple" = some (t == "tuple") := by
  revert t; decide +kernel
theorem kit_str {t : String} (h : t ∈ tyL) : kitB t "str" = some (t == "str") := by
  revert t; decide +kernel
noncomputable def intB : W → Bool
  | .int _ => true
  | _ => false
noncomputable def boolB : W → Bool
  | .bl _ => true
  | _ => false
noncomputable def tupB : W → Bool
  | .tup _ => true
  | _ => false
noncomputable def strB : W → Bool
  | .str _ => true
  | _ => false
/-- a thing whose kind is known -/
noncomputable def Tyd (G : WHp) (x : W) : Prop := ∃ t, tyW G x = some t ∧ t ∈ tyL
theorem ty_ref {G : WHp} {a : Addr} {t : String} (h : tyW G (.ref a) = some t) : t = "list" ∨ t = "dict" := by
  have h' : (match G a with
    | some (.lst _) => some "list"
    | some (.rol _) => some "list"
    | some (.dct _) => some "dict"
    | some (.rod _) => some "dict"
    | _ => none) = some t := h
  split at h' <;> first | exact .inl (Option.some.inj h').symm | exact .inr (Option.some.inj h').symm | cases h'
theorem Tyd.ext {G G' : WHp} {x : W} (h : Tyd G x) (e : Ext G G') : Tyd G' x := by
  obtain ⟨t, h1, h2⟩ := h
  cases x with
  | ref a =>
    have h' : (match G a with
      | some (.lst _) => some "list"
      | some (.rol _) => some "list"
      | some (.dct _) => some "dict"
      | some (.rod _) => some "dict"
      | _ => none) = some t := h1
    split at h' <;> first
      | (rename_i q; cases h'; refine ⟨_, ?_, h2⟩; show (match G' a with | some (.lst _) => some "list" | some (.rol _) => some "list" | some (.dct _) => some "dict" | some (.rod _) => some "dict" | _ => none) = _; rw [e _ _ q])
      | cases h'
  | _ => exact ⟨t, h1, h2⟩
theorem Tyd.bool {G : WHp} {x : W} (h : Tyd G x) : ∃ t, tyW G x = some t ∧ kitB t "bool" = some (boolB x) := by
  obtain ⟨t, h1, h2⟩ := h
  refine ⟨t, h1, (kit_bool h2).trans (congrArg some ?_)⟩
  cases x <;> first | (rcases ty_ref h1 with rfl | rfl <;> (first | rfl | (show _ = false; decide +kernel))) | (cases h1 <;> rfl) | cases h1
theorem Tyd.int {G : WHp} {x : W} (h : Tyd G x) : ∃ t, tyW G x = some t ∧ kitB t "int" = some (intB x || boolB x) := by
  obtain ⟨t, h1, h2⟩ := h
  refine ⟨t, h1, (kit_int h2).trans (congrArg some ?_)⟩
  cases x <;> first | (rcases ty_ref h1 with rfl | rfl <;> (first | rfl | (show _ = false; decide +kernel))) | (cases h1 <;> rfl) | cases h1
theorem Tyd.tuple {G : WHp} {x : W} (h : Tyd G x) : ∃ t, tyW G x = some t ∧ kitB t "tuple" = some (tupB x) := by
  obtain ⟨t, h1, h2⟩ := h
  refine ⟨t, h1, (kit_tuple h2).trans (congrArg some ?_)⟩
  cases x <;> first | (rcases ty_ref h1 with rfl | rfl <;> (first | rfl | (show _ = false; decide +kernel))) | (cases h1 <;> rfl) | cases h1
theorem Tyd.str {G : WHp} {x : W} (h : Tyd G x) : ∃ t, tyW G x = some t ∧ kitB t "str" = some (strB x) := by
  obtain ⟨t, h1, h2⟩ := h
  refine ⟨t, h1, (kit_str h2).trans (congrArg some ?_)⟩
  cases x <;> first | (rcases ty_ref h1 with rfl | rfl <;> (first | rfl | (show _ = false; decide +kernel))) | (cases h1 <;> rfl) | cases h1
theorem isi_b {G : WHp} {x : W} {n : String} {b : Bool} {Q : WK} (h : ∃ t, tyW G x = some t ∧ kitB t n = some b) (q : Q (.bl b) G) : isiW x (.ty n) G Q := by
  obtain ⟨t, h1, h2⟩ := h
  exact ⟨t, b, h1, h2, q⟩
theorem Tyd.i {G : WHp} {i : Int} : Tyd G (.int i) := ⟨_, rfl, by decide⟩
theorem Tyd.t {G : WHp} {i : List W} : Tyd G (.tup i) := ⟨_, rfl, by decide⟩
end WL
set_option Elab.async false
set_option linter.all false
set_option maxRecDepth 100000
set_option maxHeartbeats 1000000
set_option pp.maxSteps 400
namespace WL
open PySem PySem.Spec PyProof.Rows L2
theorem cut_take {xs : List W} {n : Nat} : cutW xs none (some (n : Int)) = xs.take n := by
  unfold cutW
  rw [HT.sIx_none, HT.sIx_nat, List.drop_zero, Nat.sub_zero]
  rw [List.take_eq_take_iff]
  omega
theorem cut_drop {xs : List W} {n : Nat} : cutW xs (some (n : Int)) none = xs.drop n := by
  unfold cutW
  rw [HT.sIx_none, HT.sIx_nat]
  by_cases h : n ≤ xs.length
  · rw [Nat.min_eq_left h, List.take_of_length_le (by simp)]
  · rw [Nat.min_eq_right (by omega), List.drop_length, List.drop_of_length_le (by omega)]
    simp
theorem sl_lst {G : WHp} {a : Addr} {ws : List W} {lo hi : Option Int} {Q : WK} (h : G a = some (.lst ws)) (q : ∀ p, G p = none → Q (.ref p) (updG G p (.lst (cutW ws lo hi)))) : slW (.ref a) lo hi G Q := lsAt_of h q
theorem sl_rol {G : WHp} {a : Addr} {ws : List W} {lo hi : Option Int} {Q : WK} (h : G a = some (.rol ws)) (q : ∀ p, G p = none → Q (.ref p) (updG G p (.lst (cutW ws lo hi)))) : slW (.ref a) lo hi G Q := lsAt_ro h q
theorem wLc_Pfm {ti : WTI} {c : CTg} {tt : WTT} {te : WTE} {vs : List Nat} {ρ : WEnv} {G : WHp} {Q : WK} (P : List W → (WHp → Prop) → WHp → Prop) (hti : ∀ R : List W → (WHp → Prop) → WHp → Prop, (∀ items stable G1, P items stable G1 → R items stable G1) → ti ρ G R)
    (h : ∀ items stable G1, P items stable G1 → ∃ g : W → Option W, items.length < sizeLine ∧ (∀ G, Ext G1 G → stable G) ∧
      (∀ (i : Nat) (w : W), items[i]? = some w → ∀ G, Ext G1 G → ∀ R : Option W → WHp → Prop, (∀ G', Ext G G' → R (g w) G') → c.on w (wipeW ρ vs) fun ρ' => tt ρ' G fun b G2 => if b = true then te ρ' G2 fun y G3 => R (some y) G3 else R none G2) ∧
      (∀ D G', Ext G1 G' → G' D = none → Q (.ref D) (updG G' D (.lst (items.filterMap g))))) : wLc ti c tt te vs ρ G Q :=
  wLc_P P hti fun items stable G1 hp => let ⟨g, h1, h2, h3, h4⟩ := h items stable G1 hp; lc_fm g h1 h2 h3 h4
theorem wFor_P {ti : WTI} {g : WTG} {tb : WTS} {D : WEnds} {ρ : WEnv} {G : WHp} (P : List W → (WHp → Prop) → WHp → Prop) (hti : ∀ R : List W → (WHp → Prop) → WHp → Prop, (∀ items stable G1, P items stable G1 → R items stable G1) → ti ρ G R)
    (h : ∀ items stable G1, P items stable G1 → ∃ Iv : Nat → WEnv → WHp → Prop, Iv 0 ρ G1 ∧ (∀ i ρ G, i ≤ items.length → Iv i ρ G → stable G) ∧
      (∀ i w ρ G, items[i]? = some w → Iv i ρ G → g w ρ G fun ρ' G' => tb { D with nx := Iv (i + 1), ct := Iv (i + 1), bk := D.nx } ρ' G') ∧ (∀ ρ G, Iv items.length ρ G → D.nx ρ G)) : wFor ti g tb D ρ G := hti _ h
end WL
set_option Elab.async false
set_option linter.all false
set_option maxRecDepth 100000
set_option maxHeartbeats 1000000
set_option pp.maxSteps 400
namespace WL
open PySem PySem.Spec PyProof.Rows L2
/-! ### == of plain data: ints, texts, None, tuples of these, lists of these -/
noncomputable def pureW : Nat → W → Bool
  | _, .non => true
  | _, .int _ => true
  | _, .str x => PyData.strOk x
  | n + 1, .tup l => l.all (pureW n)
  | _, _ => false
noncomputable def toD : Nat → W → PyData
  | _, .int i => .int i
  | _, .str x => .str x
  | n + 1, .tup l => .tuple (l.map (toD n))
  | _, _ => .none
theorem dws_of {G : WHp} {f : W → PyData} : ∀ {l : List W}, (∀ w ∈ l, Dw G w (f w)) → Dws G l (l.map f)
  | [], _ => .nil
  | w :: l, h => .cons (h w (by simp)) (dws_of fun x hx => h x (by simp [hx]))
theorem dw_pure {G : WHp} : ∀ {n : Nat} {w : W}, pureW n w = true → Dw G w (toD n w) := by
  intro n
  induction n with
  | zero =>
    intro w h
    cases w <;> first | exact absurd h Bool.false_ne_true | exact .non | exact .int _ | exact .str _
  | succ n ih =>
    intro w h
    cases w <;> first | exact absurd h Bool.false_ne_true | exact .non | exact .int _ | exact .str _ | skip
    rename_i l
    have h : l.all (pureW n) = true := h
    exact .tup (dws_of fun x hx => ih (List.all_eq_true.mp h x hx))
theorem eqvAll_iff {f : W → PyData} : ∀ {l m : List W}, (∀ x ∈ l, ∀ y ∈ m, (PyData.eqv (f x) (f y) = true ↔ x = y)) → (PyData.eqvAll (l.map f) (m.map f) = true ↔ l = m)
  | [], [], _ => by simp [PyData.eqvAll]
  | [], _ :: _, _ => by simp [PyData.eqvAll]
  | _ :: _, [], _ => by simp [PyData.eqvAll]
  | x :: l, y :: m, h => by
    have h1 := h x (by simp) y (by simp)
    have h2 := eqvAll_iff (l := l) (m := m) fun a ha b hb => h a (by simp [ha]) b (by simp [hb])
    rw [List.map_cons, List.map_cons, PyData.eqvAll, Bool.and_eq_true, h1, h2]
    constructor
    · rintro ⟨rfl, rfl⟩; rfl
    · intro e; cases e; exact ⟨rfl, rfl⟩
theorem eqv_pure : ∀ {n : Nat} {x y : W}, pureW n x = true → pureW n y = true → (PyData.eqv (toD n x) (toD n y) = true ↔ x = y) := by
  intro n
  induction n with
  | zero =>
    intro x y h1 h2
    cases x <;> first | exact absurd h1 Bool.false_ne_true | skip
    all_goals (cases y <;> first | exact absurd h2 Bool.false_ne_true | simp [toD, PyData.eqv])
  | succ n ih =>
    intro x y h1 h2
    cases x <;> first | exact absurd h1 Bool.false_ne_true | skip
    all_goals (cases y <;> first | exact absurd h2 Bool.false_ne_true | (simp [toD, PyData.eqv]; done) | skip)
    rename_i l m
    have h1 : l.all (pureW n) = true := h1
    have h2 : m.all (pureW n) = true := h2
    show PyData.eqvAll (l.map (toD n)) (m.map (toD n)) = true ↔ _
    rw [eqvAll_iff fun a ha b hb => ih (List.all_eq_true.mp h1 a ha) (List.all_eq_true.mp h2 b hb)]
    constructor
    · rintro rfl; rfl
    · intro e; cases e; rfl
theorem depAll_le {k : Nat} : ∀ {ds : List PyData}, (∀ d ∈ ds, d.depth ≤ k) → PyData.depthAll ds ≤ k
  | [], _ => by simp [PyData.depthAll]
  | d :: ds, h => by
    simp only [PyData.depthAll]
    have := h d (by simp)
    have := depAll_le (ds := ds) fun x hx => h x (by simp [hx])
    omega
theorem dep_pure : ∀ {n : Nat} {w : W}, (toD n w).depth ≤ n := by
  intro n
  induction n with
  | zero => intro w; cases w <;> simp [toD, PyData.depth]
  | succ n ih =>
    intro w
    cases w <;> first | (simp [toD, PyData.depth]; done) | skip
    rename_i l
    show PyData.depthAll (l.map (toD n)) + 1 ≤ n + 1
    have := depAll_le (k := n) (ds := l.map (toD n)) fun d hd => by
      obtain ⟨w, _, rfl⟩ := List.mem_map.mp hd
      exact ih
    omega
theorem layAll_of : ∀ {ds : List PyData}, (∀ d ∈ ds, d.canLay0 = true) → PyData.canLayAll0 ds = true
  | [], _ => by simp [PyData.canLayAll0]
  | d :: ds, h => by
    simp only [PyData.canLayAll0, Bool.and_eq_true]
    exact ⟨h d (by simp), layAll_of fun x hx => h x (by simp [hx])⟩
theorem lay_pure : ∀ {n : Nat} {w : W}, pureW n w = true → (toD n w).canLay0 = true := by
  intro n
  induction n with
  | zero =>
    intro w h
    cases w <;> first | exact absurd h Bool.false_ne_true | (simp [toD, PyData.canLay0]; done) | (simp [toD, PyData.canLay0]; exact h)
  | succ n ih =>
    intro w h
    cases w <;> first | exact absurd h Bool.false_ne_true | (simp [toD, PyData.canLay0]; done) | (simp [toD, PyData.canLay0]; exact h) | skip
    rename_i l
    have h : l.all (pureW n) = true := h
    show PyData.canLay0 (.tuple (l.map (toD n))) = true
    simp only [PyData.canLay0]
    refine layAll_of fun d hd => ?_
    obtain ⟨w, hw, rfl⟩ := List.mem_map.mp hd
    exact ih (List.all_eq_true.mp h w hw)
theorem shaped_pure {n : Nat} {w : W} (hn : n ≤ 60) (h : pureW n w = true) : SeqAt.shaped (toD n w) = true := by
  unfold SeqAt.shaped
  rw [lay_pure h, Bool.true_and]
  have := dep_pure (n := n) (w := w)
  exact decide_eq_true (by omega)
theorem shaped_list {n : Nat} {l : List W} (hn : n ≤ 60) (h : l.all (pureW n) = true) : SeqAt.shaped (.list (l.map (toD n))) = true := by
  unfold SeqAt.shaped
  have h1 : PyData.canLay0 (.list (l.map (toD n))) = true := by
    simp only [PyData.canLay0]
    refine layAll_of fun d hd => ?_
    obtain ⟨w, hw, rfl⟩ := List.mem_map.mp hd
    exact lay_pure (List.all_eq_true.mp h w hw)
  rw [h1, Bool.true_and]
  refine decide_eq_true ?_
  show PyData.depthAll (l.map (toD n)) + 1 ≤ 64
  have := depAll_le (k := n) (ds := l.map (toD n)) fun d hd => by
    obtain ⟨w, _, rfl⟩ := List.mem_map.mp hd
    exact dep_pure
  omega
theorem sc_iff {x y : W} {n : Nat} {b : Bool} (h : scW x y = some b) (hx : pureW n x = true) (hy : pureW n y = true) : b = true ↔ x = y := by
  cases x <;> cases y <;> first
    | (have h' := (show (none : Option Bool) = some b from h); cases h')
    | (have h' := Option.some.inj h; subst h'; simp; done)
    | (cases n <;> exact absurd hx Bool.false_ne_true)
    | (cases n <;> exact absurd hy Bool.false_ne_true)
theorem eqW_pure {n : Nat} {x y : W} {G : WHp} {Q : WK} (hn : n ≤ 60) (hx : pureW n x = true) (hy : pureW n y = true) (q : ∀ b, (b = true ↔ x = y) → Q (.bl b) G) : eqW x y G Q := by
  unfold eqW
  split
  · rename_i b e
    exact q b (sc_iff e hx hy)
  · exact ⟨_, _, dw_pure hx, dw_pure hy, shaped_pure hn hx, shaped_pure hn hy, q _ (eqv_pure hx hy)⟩
theorem eqW_lists {n : Nat} {a c : Addr} {l m : List W} {G : WHp} {Q : WK} (hn : n ≤ 60) (ha : G a = some (.lst l)) (hc : G c = some (.lst m)) (hl : l.all (pureW n) = true) (hm : m.all (pureW n) = true) (q : ∀ b, (b = true ↔ l = m) → Q (.bl b) G) : eqW (.ref a) (.ref c) G Q := by
  show ∃ d e, Dw G (.ref a) d ∧ Dw G (.ref c) e ∧ SeqAt.shaped d = true ∧ SeqAt.shaped e = true ∧ Q (.bl (PyData.eqv d e)) G
  refine ⟨.list (l.map (toD n)), .list (m.map (toD n)), .lst (.inl ha) (dws_of fun w hw => dw_pure (List.all_eq_true.mp hl w hw)), .lst (.inl hc) (dws_of fun w hw => dw_pure (List.all_eq_true.mp hm w hw)), shaped_list hn hl, shaped_list hn hm, q _ ?_⟩
  show PyData.eqvAll (l.map (toD n)) (m.map (toD n)) = true ↔ _
  exact eqvAll_iff fun a ha b hb => eqv_pure (List.all_eq_true.mp hl a ha) (List.all_eq_true.mp hm b hb)
theorem pure_int {n : Nat} {i : Int} : pureW n (.int i) = true := by cases n <;> rfl
theorem pure_ints {n : Nat} {l : List Int} : (l.map W.int).all (pureW n) = true := by
  rw [List.all_map, List.all_eq_true]
  intro i _
  exact pure_int
theorem map_int_inj : ∀ {l m : List Int}, l.map W.int = m.map W.int → l = m
  | [], [], _ => rfl
  | [], _ :: _, h => by cases h
  | _ :: _, [], h => by cases h
  | a :: l, b :: m, h => by
    rw [List.map_cons, List.map_cons] at h
    injection h with h1 h2
    injection h1 with h1
    rw [h1, map_int_inj h2]
end WL
set_option Elab.async false
set_option linter.all false
set_option maxRecDepth 100000
set_option maxHeartbeats 1000000
/-! ### an enumerate that a variable holds till a loop takes it -/
namespace L2
open PySem PySem.Spec PyProof.Rows
end L2
set_option Elab.async false
set_option linter.all false
set_option maxRecDepth 100000
set_option maxHeartbeats 1000000
namespace WL
open PySem PySem.Spec PyProof.Rows L2
/-! ### x = enumerate(e); return f([.. for .. in x if ..]) -/
theorem EnvOk.drop {K : PySem.W.Frag} {H : Hp} {ρ : WEnv} {σ : L2.St} (e : EnvOk K H ρ σ) (i : Nat) (x : Option V) : EnvOk K H (ρ.set i none) (σ.set i x) := by
  refine ⟨by rw [List.length_set, List.length_set]; exact e.1, fun j w h => ?_⟩
  by_cases hj : i = j
  · subst hj
    by_cases hl : i < ρ.length
    · rw [List.getElem?_set_self hl] at h; cases h
    · rw [List.getElem?_eq_none (by rw [List.length_set]; exact Nat.le_of_not_lt hl)] at h; cases h
  · rw [List.getElem?_set_ne hj] at h
    rw [List.getElem?_set_ne hj]
    exact e.2 j w h
end WL
set_option Elab.async false
set_option linter.all false
set_option maxRecDepth 100000
set_option maxHeartbeats 1000000
namespace WL
open PySem PySem.Spec PyProof.Rows L2
/-! ### x is True, x is not True: flags alone -/
end WL
set_option Elab.async false
set_option linter.all false
set_option maxRecDepth 100000
set_option maxHeartbeats 1000000
set_option pp.maxSteps 400
namespace WL
open PySem PySem.Spec PyProof.Rows L2
/-! ### comprehensions by the place of the item -/
theorem lc_ix {c : CTg} {tt : WTT} {te : WTE} {vs : List Nat} {ρ : WEnv} {G1 : WHp} {Q : WK} {items : List W} {stable : WHp → Prop} (g : Nat → Option W) (hlen : items.length < sizeLine) (hst : ∀ G, Ext G1 G → stable G)
    (turn : ∀ (i : Nat) (w : W), items[i]? = some w → ∀ G, Ext G1 G → ∀ R : Option W → WHp → Prop, (∀ G', Ext G G' → R (g i) G') → c.on w (wipeW ρ vs) fun ρ' => tt ρ' G fun b G2 => if b = true then te ρ' G2 fun y G3 => R (some y) G3 else R none G2)
    (fin : ∀ D G', Ext G1 G' → G' D = none → Q (.ref D) (updG G' D (.lst ((List.range items.length).filterMap g)))) :
    ∃ Iv : Nat → List W → WHp → Prop, Iv 0 [] G1 ∧ (∀ i acc G, i ≤ items.length → Iv i acc G → stable G ∧ acc.length < sizeLine) ∧
      (∀ i w acc G, items[i]? = some w → Iv i acc G → c.on w (wipeW ρ vs) fun ρ' => tt ρ' G fun b G2 => if b = true then te ρ' G2 fun y G3 => Iv (i + 1) (acc ++ [y]) G3 else Iv (i + 1) acc G2) ∧
      (∀ acc G, Iv items.length acc G → ∀ D, G D = none → Q (.ref D) (updG G D (.lst acc))) := by
  refine ⟨fun i acc G => acc = (List.range i).filterMap g ∧ Ext G1 G, ⟨by simp, .refl⟩, ?_, ?_, ?_⟩
  · rintro i acc G hi ⟨rfl, e⟩
    refine ⟨hst G e, Nat.lt_of_le_of_lt (Nat.le_trans (List.length_filterMap_le _ _) ?_) hlen⟩
    rw [List.length_range]; exact hi
  · rintro i w acc G hw ⟨rfl, e⟩
    have hk : (List.range (i + 1)).filterMap g = (List.range i).filterMap g ++ (g i).toList := by
      rw [List.range_succ, List.filterMap_append]
      cases h : g i <;> simp [h]
    have := turn i w hw G e (fun o G' => (List.range i).filterMap g ++ o.toList = (List.range (i + 1)).filterMap g ∧ Ext G1 G') fun G' e' => ⟨hk.symm, e.trans e'⟩
    have conv : (fun ρ' => tt ρ' G fun b G2 => if b = true then te ρ' G2 fun y G3 => ((List.range i).filterMap g ++ (some y).toList = (List.range (i + 1)).filterMap g ∧ Ext G1 G3) else ((List.range i).filterMap g ++ (none : Option W).toList = (List.range (i + 1)).filterMap g ∧ Ext G1 G2)) =
      (fun ρ' => tt ρ' G fun b G2 => if b = true then te ρ' G2 fun y G3 => ((List.range i).filterMap g ++ [y] = (List.range (i + 1)).filterMap g ∧ Ext G1 G3) else ((List.range i).filterMap g = (List.range (i + 1)).filterMap g ∧ Ext G1 G2)) := by
      simp
    rw [conv] at this
    exact this
  · rintro acc G ⟨rfl, e⟩ D hD
    exact fin D G e hD
theorem wLc_ix {ti : WTI} {c : CTg} {tt : WTT} {te : WTE} {vs : List Nat} {ρ : WEnv} {G G1 : WHp} {Q : WK} {items : List W} {stable : WHp → Prop} (hti : ∀ R, R items stable G1 → ti ρ G R) (g : Nat → Option W) (hlen : items.length < sizeLine) (hst : ∀ G, Ext G1 G → stable G)
    (turn : ∀ (i : Nat) (w : W), items[i]? = some w → ∀ G, Ext G1 G → ∀ R : Option W → WHp → Prop, (∀ G', Ext G G' → R (g i) G') → c.on w (wipeW ρ vs) fun ρ' => tt ρ' G fun b G2 => if b = true then te ρ' G2 fun y G3 => R (some y) G3 else R none G2)
    (fin : ∀ D G', Ext G1 G' → G' D = none → Q (.ref D) (updG G' D (.lst ((List.range items.length).filterMap g)))) : wLc ti c tt te vs ρ G Q := hti _ (lc_ix g hlen hst turn fin)
theorem sort_lst {G : WHp} {a : Addr} {ns : List Int} {Q : WK} (h : G a = some (.lst (ns.map .int))) (q : ∀ (ns' : List Int) (p : Addr), ns'.Perm ns → ns'.Pairwise (· ≤ ·) → G p = none → Q (.ref p) (updG G p (.lst (ns'.map .int)))) : sortW (.ref a) G Q := by
  show sortR a G Q
  unfold sortR
  rw [kd_lst h]
  exact lsAt_of h ⟨ns, rfl, q⟩
end WL
set_option Elab.async false
set_option linter.all false
set_option maxRecDepth 100000
set_option maxHeartbeats 1000000
namespace WL
open PySem PySem.Spec PyProof.Rows L2
/-! ### sorted: a tuple of ints, too -/
noncomputable def sortTW (x : W) (G : WHp) (Q : WK) : Prop := match x with
  | .tup ws => ∃ ns : List Int, ws = ns.map .int ∧ ∀ (ns' : List Int) (p : Addr), ns'.Perm ns → ns'.Pairwise (· ≤ ·) → G p = none → Q (.ref p) (updG G p (.lst (ns'.map .int)))
  | x => sortW x G Q
theorem sortTW_ref {a : Addr} {G : WHp} {Q : WK} : sortTW (.ref a) G Q = sortW (.ref a) G Q := rfl
theorem cw_sortedX {X : Cx} (hc : X.calm = true) : CallR X (.builtin "sorted") (liftA X.K (one sortTW)) := cr_one fun pins s σ H x v w G P Q I r rx rw sim h k => by
  cases rw with
  | @tup p vs ws hp rs =>
    obtain ⟨ns, rfl, h⟩ := h
    have := rs.ints
    subst this
    exact cr_sortedTI pins s σ H _ _ Q I r ⟨_, ns, rfl, hp, fun ns' p h1 h2 hp => aft_lst k sim (.of_ints ns') (fun p hp => h ns' p h1 h2 hp) p hp⟩
  | ref a => exact cw_sorted hc pins s σ H _ _ Q I r ⟨[.ref a], G, P, .cons (.ref a) .nil, sim, h, k⟩
  | _ => exact h.elim
/-! ### min of a list of tuples of ints -/
/-! ### zip of two tuples, of two lists -/
noncomputable def zipW (a b : List W) : List W := List.zipWith (fun x y => W.tup [x, y]) a b
noncomputable def wZip (ta : WTA) : WTI := fun ρ G R => ta ρ G fun ws G1 => match ws with
  | [.tup a, .tup b] => R (zipW a b) (fun _ => True) G1
  | [.ref p, .ref q] => mlAt G1 p fun a => mlAt G1 q fun b => R (zipW a b) (fun G => G p = some (.lst a) ∧ G q = some (.lst b)) G1
  | _ => False
section
variable {X : Cx} {p pos tpos : Pos} {elts : List Expr} {kk : Nat}
/-! ### range(i, j, -1) -/
noncomputable def dnW (lo : Int) (n : Nat) : List W := (List.range n).map fun (i : Nat) => W.int (lo - (i : Int))
noncomputable def wRng3 (ta : WTA) : WTI := fun ρ G R => ta ρ G fun ws G1 => match ws with
  | [.int i, .int j, .int c] => c = -1 ∧ (-(2 ^ 62) ≤ i ∧ i < 2 ^ 62 ∧ -(2 ^ 62) ≤ j ∧ j < 2 ^ 62) ∧ R (dnW i (i - j).toNat) (fun _ => True) G1
  | _ => False
end
end WL
set_option Elab.async false
set_option linter.all false
set_option maxRecDepth 100000
set_option maxHeartbeats 1000000
namespace L2
open PySem PySem.Spec PyProof.Rows
/-! ### len(set(xs)), ints, perhaps alike -/
end L2
namespace WL
open PySem PySem.Spec PyProof.Rows L2
/-! ### isinstance(x, C), C a class of the text -/
/-- instances of C are told, and things of the built-in kinds -/
structure IsK (K : PySem.W.Frag) (C : Addr) : Prop where
  ins : C8.InsC K C
  blt : ∀ t ∈ tyL, PySem.W.kitOne K (.type t) (.ref C) = some false
/-- instances of D are none of C -/
structure NoK (K : PySem.W.Frag) (D C : Addr) : Prop where
  ins : C8.InsC K D
  no : PySem.W.kitOne K (.ref D) (.ref C) = some false
/-- what is known of x being of C; ds: other classes -/
noncomputable def kdA (C : Addr) (ds : List Addr) (b : Bool) : Option WO → Prop
  | some (.ins D _) => (D = C ∧ b = true) ∨ (D ∈ ds ∧ b = false)
  | some (.lst _) => b = false
  | some (.rol _) => b = false
  | some (.dct _) => b = false
  | some (.rod _) => b = false
  | _ => False
noncomputable def kdC (C : Addr) (ds : List Addr) (G : WHp) (b : Bool) : W → Prop
  | .ref a => kdA C ds b (G a)
  | .non => b = false
  | .bl _ => b = false
  | .int _ => b = false
  | .str _ => b = false
  | .tup _ => b = false
  | _ => False
noncomputable def isCW (C : Addr) (ds : List Addr) (x c : W) (G : WHp) (Q : WK) : Prop := c = .ref C ∧ ∃ b, kdC C ds G b x ∧ Q (.bl b) G
theorem cw_isC {X : Cx} {C : Addr} {ds : List Addr} (T : IsK X.K C) (N : ∀ D ∈ ds, NoK X.K D C) : CallR X (.builtin "isinstance") (liftA X.K (two (isCW C ds))) := cr_two fun pins s σ H x x' v v' w w' G P Q I r rw rw' sim h k => by
  obtain ⟨rfl, b, hb, h⟩ := h
  cases rw'
  have bl : ∀ t, TyX X.K H x (.type t) → t ∈ tyL → b = false → ∃ t, TyX X.K H x t ∧ PySem.W.kitOne X.K t (.ref C) = some b := fun t h1 h2 e => ⟨_, h1, by rw [e]; exact T.blt t h2⟩
  have ty : ∃ t, TyX X.K H x t ∧ PySem.W.kitOne X.K t (.ref C) = some b := by
    cases rw with
    | non => exact bl _ (.base .non) (by decide) hb
    | bl b' => exact bl _ (.base (.bl b')) (by decide) hb
    | int i => exact bl _ (.base (.int i)) (by decide) hb
    | str z => exact bl _ (.base (.str z)) (by decide) hb
    | ty n => exact hb.elim
    | kl _ _ => exact hb.elim
    | tup hp rs =>
      refine bl "tuple" ?_ (by decide) hb
      rcases hp with (hp | ⟨o, hp⟩) | ⟨o, its, n, hk, hc, _⟩
      · exact .base (.tup hp)
      · exact .fTuple hp
      · exact .kTuple hk hc
    | ref a =>
      have hb' : kdA C ds b (G a) := hb
      cases e : G a with
      | none => rw [e] at hb'; exact hb'.elim
      | some o =>
        rw [e] at hb'
        cases o with
        | ins D fs =>
          obtain ⟨dx, vs, e1, _⟩ := sim _ _ e
          rcases hb' with ⟨rfl, rfl⟩ | ⟨hD, rfl⟩
          · exact ⟨_, .base (.ins e1 T.ins.cl T.ins.ha T.ins.hn T.ins.htk T.ins.hm), T.ins.me⟩
          · have N := N D hD
            exact ⟨_, .base (.ins e1 N.ins.cl N.ins.ha N.ins.hn N.ins.htk N.ins.hm), N.no⟩
        | lst _ =>
          obtain ⟨vs, e1, _⟩ := sim _ _ e
          exact bl "list" (.base (.lst e1)) (by decide) hb'
        | rol _ =>
          obtain ⟨vs, e1, _⟩ := sim _ _ e
          refine bl "list" ?_ (by decide) hb'
          rcases e1 with e1 | ⟨o, e1⟩
          · exact .base (.lst e1)
          · exact .base (.frz e1)
        | dct _ =>
          obtain ⟨vs, e1, _⟩ := sim _ _ e
          exact bl "dict" (.base (.dK e1)) (by decide) hb'
        | rod _ =>
          obtain ⟨o, vs, e1, _⟩ := sim _ _ e
          exact bl "dict" (.fDict e1) (by decide) hb'
        | dtt _ => exact hb'.elim
        | rdt _ => exact hb'.elim
        | nst _ => exact hb'.elim
        | tab _ => exact hb'.elim
        | tpd _ => exact hb'.elim
  obtain ⟨t, h1, h2⟩ := ty
  exact call_isi pins s σ H _ _ Q I r ⟨x, .ref C, t, .ref C, b, rfl, .own C, h1, h2, k _ _ _ _ h (.bl b) sim .refl⟩
theorem isC_of {C : Addr} {ds : List Addr} {x : W} {G : WHp} {Q : WK} {b : Bool} (h : kdC C ds G b x) (q : Q (.bl b) G) : isCW C ds x (.ref C) G Q := ⟨rfl, b, h, q⟩
theorem kdC_ins {C : Addr} {ds : List Addr} {G : WHp} {a : Addr} {fs : List (Str × W)} (h : G a = some (.ins C fs)) : kdC C ds G true (.ref a) := by
  show kdA C ds true (G a)
  rw [h]; exact .inl ⟨rfl, rfl⟩
/-- the name of a class, as a value -/
theorem we_cls {X : Cx} {x : Str} {C : Addr} {pos : Pos} (hm : X.mg x = some (.ref C)) (hg : Gl X x := by rfl) (hd : (x == ("__debug__" : Str)) = false := by decide) : WE X (.Name x pos) (wC (.ref C)) := we_glob hm (v := V.ref C) rfl (fun _ => .ref C) hg hd
/-! ### constants of the top: tuples of texts -/
theorem no0 {K : PySem.W.Frag} {C : Addr} : ∀ D ∈ ([] : List Addr), NoK K D C := fun D hD => by cases hD
theorem blt_of {K : PySem.W.Frag} {C : Addr} (h1 : PySem.W.kitOne K (.type "NoneType") (.ref C) = some false) (h2 : PySem.W.kitOne K (.type "bool") (.ref C) = some false) (h3 : PySem.W.kitOne K (.type "int") (.ref C) = some false) (h4 : PySem.W.kitOne K (.type "str") (.ref C) = some false)
    (h5 : PySem.W.kitOne K (.type "tuple") (.ref C) = some false) (h6 : PySem.W.kitOne K (.type "list") (.ref C) = some false) (h7 : PySem.W.kitOne K (.type "dict") (.ref C) = some false) : ∀ t ∈ tyL, PySem.W.kitOne K (.type t) (.ref C) = some false := fun t ht => by
  unfold tyL at ht
  simp only [List.mem_cons, List.not_mem_nil, or_false] at ht
  rcases ht with rfl | rfl | rfl | rfl | rfl | rfl | rfl <;> assumption
end WL
set_option Elab.async false
set_option linter.all false
set_option maxRecDepth 100000
set_option maxHeartbeats 1000000
namespace WL
open PySem PySem.Spec PyProof.Rows L2
/-! ### d.get(k), d.get(k, x) -/
/-! ### max of a tuple of ints -/
/-! ### max(xs, default=d): a tuple or list -/
end WL
set_option Elab.async false
set_option linter.all false
set_option maxRecDepth 100000
set_option maxHeartbeats 4000000
/-! sorted(set(list of ints)) -/
namespace L2
open PySem PySem.Spec PyProof.Rows
section
variable {P : Program} {w : World} {A : Around} {E : Value → Shared → Prop} {s : Shared}
/-- the new set -/
noncomputable abbrev newS (w : World) : Obj := { cls := .type "set", dict := none, data := .set #[] 0 (.fresh 0 0 (!w.params.followText "set-order")) }
set_option maxHeartbeats 6400000 in
theorem set_of_list {l : Addr} {items : Array Value} (ns : List Int) {Q : Value → Shared → Prop} (hh : A.handled = none) (hl : s.heap.IsList l items) (hit : IntsAre items.toList ns) (hb : ns.length + 1 < scanBound)
    (h : ∀ (h' : Heap) (tk c : Nat), SetR w h' s.heap.objs.size (fun j => decide (j ∈ ns)) c → c ≤ ns.length → (∀ b o, s.heap.get? b = some o → h'.get? b = some o) → Q (.ref s.heap.objs.size) { s with heap := h', toks := tk }) :
    wpAny (model P w) A (call (.type "set") [.ref l]) Q E s := by
  have hisz : items.size = ns.length := by
    have q := IntsAre.length hit
    rw [Array.length_toList] at q
    exact q
  obtain ⟨c, tl, hmro⟩ := F.called_set.mro
  have hmade := F.called_set.made
  have hsub := F.called_set.sub
  refine wpAny_call (codeAny_of_tree ?_)
  show wpAny _ _ (callAny (.type "set") _) _ _ _
  refine wpAny_pure ⟨Code.quiet_builtin _ (by decide +kernel), codeAny_builtin F.entry_type_call ?_⟩
  rw [Around.under_plain (weight_type_call_type "set" [.ref l] []) rfl]
  have h1 := F.called_set.notType
  have h2 := F.called_set.canCreate
  have hct := F.typeCall_set_1 (.ref l)
  repeat (any_goals (first | assumption | wp_step))
  refine codeAny_mono (code_set_led1 (.ref l) (E := E) (Q₁ := fun obj s₁ => obj = .ref s.heap.objs.size ∧ s₁ = { s with heap := s.heap.push (newS w) }) ⟨rfl, rfl⟩) fun r s₁ hr => ?_
  cases r with
  | error e => exact hr
  | ok fl =>
    cases fl with
    | ret obj =>
      obtain ⟨rfl, rfl⟩ := hr
      have hS : (s.heap.push (newS w)).get? s.heap.objs.size = some (newS w) := Heap.get?_push_size _ rfl
      have hT : Shared.TypeIs { s with heap := s.heap.push (newS w) } (.ref s.heap.objs.size) "set" := ⟨_, hS, rfl⟩
      have hli := F.called_set.init.lookup
      have hbi := F.called_set.init.bind (.ref s.heap.objs.size)
      repeat (any_goals (first | assumption | wp_step))
      refine codeAny_mono (codeAny_call_builtin (R := wants (fun r s₂ => r = .none ∧ ∃ h' tk c, s₂ = { s with heap := h', toks := tk } ∧ SetR w h' s.heap.objs.size (fun j => decide (j ∈ ns)) c ∧ c ≤ ns.length ∧
          (∀ b o, s.heap.get? b = some o → h'.get? b = some o)) E) F.called_set.init.plain F.entry_set_init (check_set_init_1 hT ?_)) fun r₂ s₂ hr₂ => ?_
      · obtain ⟨ol, hol, hcl, nl, hdl⟩ := hl
        obtain ⟨ocls, odict, odata, oslots⟩ := ol
        simp only at hcl hdl
        subst hcl; subst hdl
        have hol' : (s.heap.push (newS w)).get? l = some { cls := .type "list", dict := odict, data := .seq items nl, slots := oslots } := Heap.get?_push_of_some _ hol
        have hsls := F.sub_list_set
        have hslf := F.sub_list_frozenset
        have hne : (Value.type "list" == Value.type "dict") = false := by decide
        have hl1 : (s.heap.push (newS w)).IsList l items := ⟨_, hol', rfl, nl, rfl⟩
        unfold Builtin.«set.__init__» noKeywords Builtin.Frozenset.updateFrom
        generalize hPI : pyIter = PI
        wp_walk
        subst hPI
        refine wpAny_pyIter_list hl1 ?_
        refine wpAny_bind (wpAny_runValue ?_)
        have hlS : l < s.heap.objs.size := Heap.lt_size hol
        have hh3 : A.in1.in1.in1.handled = none := by simp [hh]
        have hneI : l ≠ (s.heap.push (newS w)).objs.size := by
          rw [Heap.size_push]; exact Nat.ne_of_lt (Nat.lt_succ_of_lt hlS)
        have hSf : s.heap.objs.size ∉ [(s.heap.push (newS w)).objs.size, l] := by
          rw [Heap.size_push]; simp only [List.mem_cons, List.mem_singleton, List.not_mem_nil, or_false, not_or]
          exact ⟨Nat.ne_of_lt (Nat.lt_succ_self _), Nat.ne_of_gt hlS⟩
        have hval : ∀ (i : Nat) (v : Value), items[i]? = some v → ∃ k t, ns[i]? = some k ∧ v = .int k t := fun i v hv => by
          have hi : i < ns.length := by rw [← hisz]; exact (Array.getElem?_eq_some_iff.mp hv).1
          obtain ⟨t, e⟩ := PyProof.Rows.IntsAre.int_at hit i v (by rw [Array.getElem?_toList]; exact hv)
          refine ⟨ns[i], t, List.getElem?_eq_getElem hi, ?_⟩
          rw [e, List.getD_eq_getElem?_getD, List.getElem?_eq_getElem hi] <;> rfl
        refine set_update_ints ((Walks.list hh3 _ l hneI items).toS) s.heap.objs.size
          hSf ns hisz hb hval (items.size - 0) 0 _ (by omega) (Nat.zero_le _)
          ⟨⟨_, Heap.get?_push_size _ rfl, rfl, rfl⟩, (hl1.push _)⟩ ?hS0 ?hR
        case hS0 =>
          have hget : ((s.heap.push (newS w)).push { cls := .type "list_iterator", data := .fields #[.ref l, .int 0 0] }).get? s.heap.objs.size = some (newS w) := Heap.get?_push_of_some _ hS
          exact ⟨0, Nat.le_refl 0, setR_new_at hget⟩
        case hR =>
          intro s' c' hm hc' hS'
          obtain ⟨h', g2, d', tk', os'⟩ := s'
          have eg : g2 = s.gens := hm.gens
          have ed : d' = s.drawn := hm.drawn
          have eo : os' = s.os := hm.os
          subst eg; subst ed; subst eo
          show wpAny _ _ _ _ _ _
          refine wpAny_pure ?_
          show wpAny _ _ (ret Value.none) _ _ _
          rw [hisz] at hc'
          refine wpAny_pure ⟨rfl, h', tk', c', rfl, hS', hc', fun b o e => ?_⟩
          have hb0 : b < s.heap.objs.size := Heap.lt_size e
          have hb1 : b ≠ s.heap.objs.size := Nat.ne_of_lt hb0
          have hb2 : b ≠ (s.heap.push (newS w)).objs.size := by
            rw [Heap.size_push]; exact Nat.ne_of_lt (Nat.lt_succ_of_lt hb0)
          exact hm.heap b o (by simp only [List.mem_cons, List.mem_singleton, List.not_mem_nil, or_false, not_or]; exact ⟨hb1, hb2⟩) (Heap.get?_push_of_some _ (Heap.get?_push_of_some _ e))
      · cases r₂ with
        | error e => exact hr₂
        | ok fl₂ =>
          cases fl₂ with
          | ret r =>
            obtain ⟨rfl, h', tk, c', rfl, hS', hc', hk'⟩ := hr₂
            repeat (any_goals (first | assumption | wp_step))
            exact h _ _ _ hS' hc' hk'
          | _ => exact hr₂.elim
    | _ => exact hr.elim
theorem nodup_sub : ∀ {B A : List Int}, A.Nodup → (∀ k ∈ A, k ∈ B) → A.length ≤ B.length
  | [], A, _, h => by
    cases A with
    | nil => exact Nat.le_refl _
    | cons a A => exact absurd (h a (List.mem_cons_self)) (by simp)
  | b :: B, A, hn, h => by
    have h1 : (A.erase b).length ≤ B.length := nodup_sub (hn.erase b) fun k hk => by
      have hk2 := (List.Nodup.mem_erase_iff hn).mp hk
      rcases List.mem_cons.mp (h k hk2.2) with e | e
      · exact absurd e hk2.1
      · exact e
    have h2 : A.length ≤ (A.erase b).length + 1 := by
      by_cases hb : b ∈ A
      · rw [List.length_erase_of_mem hb]; omega
      · rw [List.erase_of_not_mem hb]; omega
    rw [List.length_cons]; omega
theorem SetR.few {h : Heap} {a : Addr} {ns : List Int} {n : Nat} (R : SetR w h a (fun j => decide (j ∈ ns)) n) {B : List Int} (hB : ∀ k ∈ ns, k ∈ B) : n ≤ B.length := by
  obtain ⟨o, es, ep, t, _, _, _, _, nd, hm, _, _, hn, _⟩ := R
  have : (es.toList.map keyOf).length ≤ B.length := nodup_sub nd fun k hk => hB k (of_decide_eq_true ((hm k).mpr hk))
  rw [List.length_map, Array.length_toList] at this
  omega
end
noncomputable def tSortSetX (K : PySem.W.Frag) (ta : TE) : TE := fun σ H Q => ta σ H fun x H1 => ∃ (l : Addr) (ns B : List Int), x = .ref l ∧ (SqT K H1 l (ns.map V.int) ∨ SqL K H1 l (ns.map V.int)) ∧ ns.length ≤ 4000 ∧ (∀ k ∈ ns, k ∈ B) ∧ B.length < 64 ∧
  ∀ (ms : List Int) (p : Addr), ms.Pairwise (· < ·) → (∀ k, k ∈ ms ↔ k ∈ ns) → H1 p = none → Q (.ref p) (upd H1 p (.lst (ms.map V.int)))
theorem pe_sortSetX {X : Cx} {a : Expr} {ta : TE} {p p2 q pos : Pos} (hg : Gl X "sorted") (hm : X.mg "sorted" = none) (hg2 : Gl X "set") (hm2 : X.mg "set" = none) (ha : PE X a ta) (hc : X.calm = true := by rfl)
    (na : starEach [a] X.env = (false, eval a X.env) :: starEach [] X.env := by rfl) : PE X (.Call (.Name "sorted" p) [.Call (.Name "set" p2) [a] [] q] [] pos) (tSortSetX X.K ta) := by
  refine ⟨fun pins s σ H Q I h => ?_⟩
  refine Call_ (ld_blt I hg hm boot_sorted ?_)
  refine PyProof.Rows.callWith_builtin1 (PyProof.Rows.args_cons ?_ rfl) rfl rfl
  refine Call_ (ld_blt I hg2 hm2 boot_set ?_)
  refine PyProof.Rows.callWith_type1 (PyProof.Rows.args_cons (thn (ha.run pins s σ H _ I h) fun v s1 ⟨x, H1, I1, r1, q1⟩ => PyProof.Rows.args_nil ?_) na) na rfl
  obtain ⟨l, ns, B, rfl, hq, hl, hB, hB64, q1⟩ := q1
  cases r1
  have fin : ∀ (h' : Heap) (tk c : Nat), SetR X.w h' s1.heap.objs.size (fun j => decide (j ∈ ns)) c → (∀ b o, s1.heap.get? b = some o → h'.get? b = some o) →
      wpAny (model X.prog X.w) X.A (call (.builtin "sorted") [.ref s1.heap.objs.size]) (EP X pins σ Q) X.xe { s1 with heap := h', toks := tk } := fun h' tk c hR hk => by
    have hc64 : c < 64 := Nat.lt_of_le_of_lt (hR.few hB) hB64
    have I2 : Inv X pins σ H1 { s1 with heap := h', toks := tk } := I1.kept hk
    refine sorted_set (s := { s1 with heap := h', toks := tk }) hR (I1.ok.hd hc) hc64 fun s' p out c2 ms k g o hp hgt hi hs hm3 hl3 => ?_
    have hlen : (ms.map V.int).length ≤ sizeLine := by rw [List.length_map, hl3, sizeLine_eq]; omega
    have hn : H1 p = none := I2.hok.fresh hp
    have hnp : s1.heap.get? p = none := by
      cases e : s1.heap.get? p with
      | none => rfl
      | some u => exact absurd (Nat.lt_of_lt_of_le (Heap.lt_size (hk p u e)) hp) (Nat.lt_irrefl _)
    have k' : ∀ b o, s1.heap.get? b = some o → s'.heap.get? b = some o := fun b o e => k b o (hk b o e)
    have J : Inv X pins σ (upd H1 p (.lst (ms.map V.int))) { s1 with heap := s'.heap, gens := s'.gens, drawn := s'.drawn, toks := s'.toks } :=
      I1.call (ch := []) (Un.laidN k' hnp hn) (I1.hok.laidN k' hn ⟨hlen, out.toList, c2, vals_of_ints hi, hgt⟩) (by rw [g]; exact I1.bare) (fun _ z => nomatch z)
    have e : s' = { s1 with heap := s'.heap, gens := s'.gens, drawn := s'.drawn, toks := s'.toks } := by
      cases s'
      cases s1
      cases o
      rfl
    rw [e]
    exact ⟨.ref p, _, J, rfl, q1 ms p hs (fun k => (hm3 k).trans (by simp)) hn⟩
  rcases hq with hq | hq
  · obtain ⟨its, r, pl, hz⟩ := I1.tuple hq
    refine call_set_tupI ns (I1.ok.hd hc) pl (by simpa using intsAre_of r) (by unfold scanBound; omega) fun h' tk c hR hc' hk => ?_
    exact PyProof.Rows.args_nil (fin h' tk c hR hk)
  · obtain ⟨its, r, pl, hz⟩ := I1.list hq
    refine set_of_list ns (I1.ok.hd hc) pl.isList (by simpa using intsAre_of r) (by unfold scanBound; omega) fun h' tk c hR hc' hk => ?_
    exact PyProof.Rows.args_nil (fin h' tk c hR hk)
end L2
namespace WL
open PySem PySem.Spec PyProof.Rows L2
/-- sorted(set(xs)): a list or tuple of ints, all among fewer than 64 -/
noncomputable def sortSetK (G : WHp) (Q : WK) (ws : List W) : Prop := ∃ ns B : List Int, ws = ns.map .int ∧ ns.length ≤ 4000 ∧ (∀ k ∈ ns, k ∈ B) ∧ B.length < 64 ∧ ∀ (ms : List Int) (p : Addr), ms.Pairwise (· < ·) → (∀ k, k ∈ ms ↔ k ∈ ns) → G p = none → Q (.ref p) (updG G p (.lst (ms.map .int)))
noncomputable def wSortSetX (ta : WTE) : WTE := fun ρ G Q => ta ρ G fun x G1 => match x with
  | .tup ws => sortSetK G1 Q ws
  | .ref a => lsAt G1 a (sortSetK G1 Q)
  | _ => False
theorem we_sortSetX {X : Cx} {a : Expr} {ta : WTE} {p p2 q pos : Pos} (hm : X.mg "sorted" = none) (hm2 : X.mg "set" = none) (ha : WE X a ta) (hc : X.calm = true := by rfl) (hg : Gl X "sorted" := by rfl) (hg2 : Gl X "set" := by rfl)
    (na : starEach [a] X.env = (false, eval a X.env) :: starEach [] X.env := by rfl) : WE X (.Call (.Name "sorted" p) [.Call (.Name "set" p2) [a] [] q] [] pos) (wSortSetX ta) := (pe_sortSetX hg hm hg2 hm2 ha hc na).imp fun σ H Q ⟨ρ, G, P, env, sim, h, k⟩ =>
  ⟨ρ, G, _, env, sim, h, fun w G1 v H1 h1 r1 s1 st1 => by
    cases w <;> first | exact h1.elim | skip
    · cases r1
      rename_i ws p vs hp rs
      obtain ⟨ns, B, rfl, hl, hB, hB2, h2⟩ := h1
      have := rs.ints
      subst this
      exact ⟨p, ns, B, rfl, .inl hp, hl, hB, hB2, fun ms q h3 h4 hq => aft_lst (k.step st1) s1 (.of_ints ms) (fun q hq => h2 ms q h3 h4 hq) q hq⟩
    · obtain ⟨b, ws, vs, e1, e2, hq, rs, ns, B, e3, hl, hB, hB2, h2⟩ := isL_get (x := .ref _) s1 r1 h1
      cases e1
      subst e2 e3
      have := rs.ints
      subst this
      exact ⟨_, ns, B, rfl, .inr hq, hl, hB, hB2, fun ms q h3 h4 hq => aft_lst (k.step st1) s1 (.of_ints ms) (fun q hq => h2 ms q h3 h4 hq) q hq⟩⟩
theorem sortSet_lst {G : WHp} {a : Addr} {ns B : List Int} {Q : WK} (h : G a = some (.lst (ns.map .int))) (hl : ns.length ≤ 4000) (hB : ∀ k ∈ ns, k ∈ B) (hB2 : B.length < 64) (q : ∀ (ms : List Int) (p : Addr), ms.Pairwise (· < ·) → (∀ k, k ∈ ms ↔ k ∈ ns) → G p = none → Q (.ref p) (updG G p (.lst (ms.map .int)))) : lsAt G a (sortSetK G Q) := lsAt_of h ⟨ns, B, rfl, hl, hB, hB2, q⟩
end WL
set_option Elab.async false
set_option linter.all false
set_option maxRecDepth 100000
set_option maxHeartbeats 1000000
/-! # readings of what may raise: PX, what is wanted of an exception (its class, its fields), is fixed for a body -/
namespace WL
open PySem PySem.Spec PyProof.Rows L2
noncomputable abbrev WXK := Addr → Option (List (Str × W)) → WHp → Prop
noncomputable abbrev WXE := Addr → Option (List (Str × W)) → WEnv → WHp → Prop
/-- a wish about the two heaps that lasts -/
noncomputable abbrev Xi := Hp → WHp → Prop
noncomputable def XOk (K : PySem.W.Frag) (H : Hp) (G : WHp) : Option (List (Str × W)) → Option Addr → Prop
  | none, d => d = none
  | some fs, d => ∃ dd vs, d = some dd ∧ H dd = some (.xd vs) ∧ G dd = none ∧ RwK K H fs vs
structure MonoX (K : PySem.W.Frag) (Ξ : Xi) : Prop where
  go : ∀ H G H' G', Sim K H G → Ξ H G → Step H G H' G' → Ξ H' G'
theorem XOk.mono {K : PySem.W.Frag} {l : Option (List (Str × W))} {d : Option Addr} : MonoX K (fun H G => XOk K H G l d) := ⟨fun H G H' G' s x st => by
  cases l with
  | none => exact x
  | some fs =>
    obtain ⟨dd, vs, e1, e2, e3, r⟩ := x
    obtain ⟨h1, h2⟩ := st.fr dd _ e2 e3 (fun _ z => nomatch z)
    exact ⟨dd, vs, e1, h1, h2, r.mono (.of s st)⟩⟩
noncomputable def AftX (K : PySem.W.Frag) (H : Hp) (G : WHp) (P : WXK) (E : XK) : Prop := ∀ C l G' d H', P C l G' → XOk K H' G' l d → Sim K H' G' → Step H G H' G' → E (.ref C) d H'
noncomputable def AftXE (K : PySem.W.Frag) (PX : WXE) (V : WX) : Xi := fun H G => ∀ C l ρ G' d σ H', PX C l ρ G' → EnvOk K H' ρ σ → XOk K H' G' l d → Sim K H' G' → Step H G H' G' → V (.ref C) d σ H'
/-- an ambient wish, and what is wanted of exceptions -/
noncomputable def XiS (K : PySem.W.Frag) (Ξ₀ : Xi) (PX : WXE) (V : WX) : Xi := fun H G => Ξ₀ H G ∧ AftXE K PX V H G
theorem AftXE.mono {K : PySem.W.Frag} {PX : WXE} {V : WX} : MonoX K (AftXE K PX V) := ⟨fun H G H' G' s x st C l ρ G2 d σ H2 p e o s2 st2 => x C l ρ G2 d σ H2 p e o s2 (st.trans st2)⟩
theorem XiS.mono {K : PySem.W.Frag} {Ξ₀ : Xi} {PX : WXE} {V : WX} (m : MonoX K Ξ₀) : MonoX K (XiS K Ξ₀ PX V) := ⟨fun H G H' G' s x st => ⟨m.go _ _ _ _ s x.1 st, AftXE.mono.go _ _ _ _ s x.2 st⟩⟩
noncomputable def toTSX (K : PySem.W.Frag) (Ξ : Xi) (t : WTS) : TS := fun D σ H => ∃ ρ G P, EnvOk K H ρ σ ∧ Sim K H G ∧ Ξ H G ∧ t P ρ G ∧ AftD K H G P D
noncomputable abbrev WSsX (X : Cx) (Ξ : Xi) (sts : List Stmt) (t : WTS) : Prop := PSs X sts (toTSX X.K Ξ t)
/-! ### calls of what may raise -/
end WL
set_option Elab.async false
set_option linter.all false
set_option maxRecDepth 100000
set_option maxHeartbeats 1000000
/-! # try, isinstance of what is caught, list.count -/
namespace WL
open PySem PySem.Spec PyProof.Rows L2
/-- what is known of class D being below c -/
inductive MtOk (K : PySem.W.Frag) (c : Value) : List (Addr × Bool) → Prop
  | nil : MtOk K c []
  | cons {D : Addr} {b : Bool} {l : List (Addr × Bool)} (h : PySem.W.exmOne K (.ref D) c = some b) (r : MtOk K c l) : MtOk K c ((D, b) :: l)
theorem MtOk.get {K : PySem.W.Frag} {c : Value} {l : List (Addr × Bool)} (h : MtOk K c l) {D : Addr} {b : Bool} (m : (D, b) ∈ l) : PySem.W.exmOne K (.ref D) c = some b := by
  induction h with
  | nil => cases m
  | cons h r ih =>
    rcases List.mem_cons.mp m with e | m
    · cases e; exact h
    · exact ih m
inductive KiOk (K : PySem.W.Frag) : List (Addr × W × Bool) → Prop
  | nil : KiOk K []
  | cls {D C : Addr} {b : Bool} {l : List (Addr × W × Bool)} (e : ExcC K D) (h : PySem.W.kitOne K (.ref D) (.ref C) = some b) (r : KiOk K l) : KiOk K ((D, .ref C, b) :: l)
  | ty {D : Addr} {n : String} {b : Bool} {l : List (Addr × W × Bool)} (e : ExcC K D) (h : PySem.W.kitOne K (.ref D) (.type n) = some b) (r : KiOk K l) : KiOk K ((D, .ty n, b) :: l)
theorem KiOk.get {K : PySem.W.Frag} {l : List (Addr × W × Bool)} (h : KiOk K l) {D : Addr} {c : W} {b : Bool} (m : (D, c, b) ∈ l) : ExcC K D ∧ ∃ cv : Value, (∀ (H : Hp) v, Rw K H c v → ∀ u, RelV v u → u = cv) ∧ PySem.W.kitOne K (.ref D) cv = some b := by
  induction h with
  | nil => cases m
  | @cls D C b l e h r ih =>
    rcases List.mem_cons.mp m with q | m
    · cases q; exact ⟨e, .ref C, fun H v r u ru => by cases r; exact ru, h⟩
    · exact ih m
  | @ty D n b l e h r ih =>
    rcases List.mem_cons.mp m with q | m
    · cases q; exact ⟨e, .type n, fun H v r u ru => by cases r; exact ru, h⟩
    · exact ih m
/-! ### try: body, except x as n: suite -/
noncomputable abbrev WTh := Addr → Addr → Option (List (Str × W)) → WTS
/-- several clauses without names -/
noncomputable def wManyE (PX : WXE) (D : WEnds) : List (List (Addr × Bool) × WTh) → WXE
  | [] => PX
  | (mt, th) :: r => fun C l ρ G => ∃ b, (C, b) ∈ mt ∧ (b = true → ∀ a, G a = none → th a C l D ρ G) ∧ (b = false → wManyE PX D r C l ρ G)
noncomputable abbrev noPX : WXE := fun _ _ _ _ => False
section
variable {X : Cx} {x n : Str} {c : Value} {i : Nat} {body suite : List Stmt} {b₀ : Stmt} {np pos pos' : Pos} {tb : WXE → WTS} {th : WTh} {Vout : WX} {PX : WXE} {mt : List (Addr × Bool)} {Ξ₀ : Xi}
/-- the kit's reading of a suite -/
noncomputable def suiteT (K : PySem.W.Frag) (mt : List (Addr × Bool)) (th : WTh) (a : Addr) (cls : Value) (d : Option Addr) : TS := fun D σ H => ∃ C l, cls = .ref C ∧ (C, true) ∈ mt ∧ toTSX K (fun H G => XOk K H G l d) (th a C l) D σ H
theorem suite_run {a : Addr} {oe : Obj} {cls : Value} {d : Option Addr} {pn : List (Addr × Obj)}
    (hsu : ∀ (a : Addr) (oe : Obj) (C : Addr) (l : Option (List (Str × W))) (d : Option Addr) (pn : List (Addr × Obj)), (C, true) ∈ mt → (l = none → d = none) → Zc (.ref C) d oe → (∃ vs, oe.data = .fields vs) → WSsX (X.suite a ((a, oe) :: pn)) (fun H G => XOk X.K H G l d) (b₀ :: suite) (th a C l))
    (hz : Zc cls d oe) (hf : ∃ vs, oe.data = .fields vs) : PSs (X.suite a ((a, oe) :: pn)) (b₀ :: suite) (suiteT X.K mt th a cls d) :=
  ⟨fun pins s σ H D I ⟨C, l, e, m, h⟩ => by
    subst e
    have hl : l = none → d = none := fun e => by
      subst e
      obtain ⟨_, _, _, _, _, o, _⟩ := h
      exact o
    exact (hsu a oe C l d pn m hl hz hf).run pins s σ H D I h⟩
inductive ThOk (X : Cx) : List ExceptHandler → List (List (Addr × Bool) × WTh) → List (Value × (Addr → Value → Option Addr → TS)) → Prop
  | nil : ThOk X [] [] []
  | cons {x : Str} {c : Value} {mt : List (Addr × Bool)} {th : WTh} {b₀ : Stmt} {suite : List Stmt} {np pos' : Pos} {hds : List ExceptHandler} {l : List (List (Addr × Bool) × WTh)} {m : List (Value × (Addr → Value → Option Addr → TS))} (hc : Names X x c) (hm : MtOk X.K c mt)
      (hsu : ∀ (a : Addr) (oe : Obj) (C : Addr) (l : Option (List (Str × W))) (d : Option Addr) (pn : List (Addr × Obj)), (C, true) ∈ mt → (l = none → d = none) → Zc (.ref C) d oe → (∃ vs, oe.data = .fields vs) → WSsX (X.suite a ((a, oe) :: pn)) (fun H G => XOk X.K H G l d) (b₀ :: suite) (th a C l)) (r : ThOk X hds l m) :
      ThOk X (.ExceptHandler (some (.Name x np)) none (b₀ :: suite) pos' :: hds) ((mt, th) :: l) ((c, suiteT X.K mt th) :: m)
theorem ThOk.hds {hds : List ExceptHandler} {l : List (List (Addr × Bool) × WTh)} {m : List (Value × (Addr → Value → Option Addr → TS))} (h : ThOk X hds l m) : HdsOk X hds m := by
  induction h with
  | nil => exact .nil
  | cons hc hm hsu r ih => exact .cons hc (fun a oe cls d pn hz hf => suite_run hsu hz hf) ih
theorem ThOk.many {hds : List ExceptHandler} {l : List (List (Addr × Bool) × WTh)} {m : List (Value × (Addr → Value → Option Addr → TS))} (h : ThOk X hds l m) {P : WEnds} {D : Ends} {H : Hp} {G : WHp} (k : AftD X.K H G P D) (xi : AftXE X.K PX Vout H G) : AftXE X.K (wManyE PX P l) (wMany X.K Vout D m) H G := by
  induction h with
  | nil => exact xi
  | @cons x c mt th b₀ suite np pos' hds l m hc hm hsu r ih =>
    intro C f ρ' G' d σ' H' ⟨b, hmt, hy, hn⟩ env' o sim' st'
    refine ⟨b, hm.get hmt, fun hb a ha => ?_, fun hb => ih C f ρ' G' d σ' H' (hn hb) env' o sim' st'⟩
    subst hb
    exact ⟨C, f, rfl, hmt, _, G', _, env', sim', o, hy rfl a (sim'.fresh ha), k.step st'⟩
end
/-! ### isinstance of what is caught -/
/-! ### isinstance of instances of own classes, with built-in types -/
inductive KbOk (K : PySem.W.Frag) : List (Addr × String × Bool) → Prop
  | nil : KbOk K []
  | cons {C : Addr} {n : String} {b : Bool} {l : List (Addr × String × Bool)} (i : C8.InsC K C) (h : PySem.W.kitOne K (.ref C) (.type n) = some b) (r : KbOk K l) : KbOk K ((C, n, b) :: l)
theorem KbOk.get {K : PySem.W.Frag} {l : List (Addr × String × Bool)} (h : KbOk K l) {C : Addr} {n : String} {b : Bool} (m : (C, n, b) ∈ l) : C8.InsC K C ∧ PySem.W.kitOne K (.ref C) (.type n) = some b := by
  induction h with
  | nil => cases m
  | cons i h r ih =>
    rcases List.mem_cons.mp m with q | m
    · cases q; exact ⟨i, h⟩
    · exact ih m
/-! ### the bound of depth in a suite -/
/-! ### list.count -/
end WL
set_option Elab.async false
set_option linter.all false
set_option maxRecDepth 100000
set_option maxHeartbeats 1000000
/-! # a lambda without parameters handed to a def that calls it -/
namespace WL
open PySem PySem.Spec PyProof.Rows L2 LamX
noncomputable abbrev WAct := WXK → WHp → WK → Prop
noncomputable abbrev WSpL := WAct → WHp → WK → Prop
section
variable {K : PySem.W.Frag} {c' : Addr} {q : Str} {tl : XK → Hp → VK → Prop} {act : WAct}
/-- what the lambda does behind (H, G) -/
noncomputable def LamOk (K : PySem.W.Frag) (tl : XK → Hp → VK → Prop) (act : WAct) : Xi := fun H G => ∀ H' G' PX P E Q, Sim K H' G' → Step H G H' G' → act PX G' P → AftX K H' G' PX E → Aft K H' G' P Q → tl E H' Q
noncomputable def xiL (K : PySem.W.Frag) (c' : Addr) (q : Str) (tl : XK → Hp → VK → Prop) (act : WAct) : Xi := fun H G => H c' = some (CodeO c' q) ∧ LamOk K tl act H G
end
/-- the kit's word for the parameter's call, in a context Z -/
noncomputable def ActH (Z : Cx) (a : Str) (f c' : Addr) (q : Str) (tl : XK → Hp → VK → Prop) : Prop := ∀ (W : WX) (pn : List (Addr × Obj)) (xe : Value → Shared → Prop) (E : XK) (p1 p2 : Pos), Takes (Z.tr pn xe) W → (∀ cls d σ' H', E cls d H' → W cls d σ' H') →
  PE (Z.tr pn xe) (.Call (.Name a p1) [] [] p2) (fun σZ HZ Q => σZ[0]? = some (some (.ref f)) ∧ HZ c' = some (CodeO c' q) ∧ tl E HZ Q)
/-- a def with one parameter, which it calls: its promise as told of what the lambda does -/
structure CalL (P : Program) (w : World) (K : PySem.W.Frag) (mg : Str → Option Value) (base : Heap) (k : Nat) (x : Str) (sp : WSpL) : Prop where
  ex : ∃ (g : Addr) (a : Str) (pg : Arguments) (bg : List Stmt) (sg : Scope) (dV kV doc pm cdv ct oc : Value) (an od : Option Addr) (osl : Array (Option Value)) (Ng : List Str) (rd : WAct → Addr → WTS),
    mg x = some (.ref g) ∧ PySem.W.keepIn K (.ref g) = true ∧ K.lookup g = some ⟨oc, od, .func (PySem.W.fnOf x x pg bg sg dV kV doc pm an cdv ct), osl⟩ ∧ PySem.W.codeIn K cdv x = true ∧ L2.Binds K (PySem.W.fnOf x x pg bg sg dV kV doc pm an cdv ct) [a] [] ∧ FnScope Ng [a] sg ∧
    Ng[0]? = some a ∧ Vis sg a ∧ (a == ("__debug__" : Str)) = false ∧ (a == ("__classdict__" : Str)) = false ∧
    (∀ (A : Around) (outer : List Env) (s : Shared) (H : Hp) (q : Str) (f c' : Addr) (tl : XK → Hp → VK → Prop) (act : WAct), Room k (A.deeper (envOfC x sg s.heap.objs.size g cdv)) → ActH (cxOf C8.CX0 P w K mg base Ng x sg g cdv A outer s H C8.E0) a f c' q tl →
      WSsX (cxOf C8.CX0 P w K mg base Ng x sg g cdv A outer s H C8.E0).nox (XiS K (xiL K c' q tl act) noPX (fun _ _ _ _ => False)) bg (rd act f)) ∧
    ∀ act f G Q, sp act G Q → rd act f { nx := fun _ G' => Q .non G', rt := Q } (startW Ng [.ref f]) G
theorem CalL.mono {P : Program} {w : World} {K : PySem.W.Frag} {mg : Str → Option Value} {base : Heap} {j k : Nat} {x : Str} {sp : WSpL} (F : CalL P w K mg base j x sp) (h : j ≤ k) : CalL P w K mg base k x sp := by
  obtain ⟨g, a, pg, bg, sg, dV, kV, doc, pm, cdv, ct, oc, an, od, osl, Ng, rd, h1, h2, h3, h4, h5, h6, h7, h8, h9, h10, walk, h12⟩ := F.ex
  exact ⟨g, a, pg, bg, sg, dV, kV, doc, pm, cdv, ct, oc, an, od, osl, Ng, rd, h1, h2, h3, h4, h5, h6, h7, h8, h9, h10, fun A outer s H q f c' tl act hr AH => walk A outer s H q f c' tl act (hr.mono h) AH, h12⟩
/-! ### defs whose code object is known -/
/-! ### the law's promise, with tables -/
end WL
set_option Elab.async false
set_option linter.all false
set_option maxRecDepth 100000
set_option maxHeartbeats 1000000
/-! # == of instances by an own __eq__; a def that may raise, called where it raises nothing -/
namespace WL
open PySem PySem.Spec PyProof.Rows L2
end WL
set_option Elab.async false
set_option linter.all false
set_option maxRecDepth 100000
set_option maxHeartbeats 1000000
/-! # dicts whose keys are nested tuples: in, d[k], d[k] = v -/
namespace WL
open PySem PySem.Spec PyProof.Rows L2
mutual
theorem nkW_hash (w1 w2 : World) : ∀ {w : W} {k : NestedKey}, nkW w = some k → k.hash w1 = k.hash w2
  | .int i, k, e => by cases Option.some.inj (show some (NestedKey.num i) = some k from e); rfl
  | .non, k, e => by cases Option.some.inj (show some NestedKey.none = some k from e); rfl
  | .tup l, k, e => by
    have e : (nksW l).map NestedKey.tup = some k := by rw [nkW] at e; exact e
    obtain ⟨ks, h1, rfl⟩ := Option.map_eq_some_iff.mp e
    show reduceHash (Builtin.Tuple.tupleHashOf (NestedKey.hashes w1 ks)) = reduceHash (Builtin.Tuple.tupleHashOf (NestedKey.hashes w2 ks))
    rw [nksW_hash w1 w2 h1]
  | .bl b, k, e => by simp [nkW] at e
  | .str b, k, e => by simp [nkW] at e
  | .ref b, k, e => by simp [nkW] at e
  | .ty b, k, e => by simp [nkW] at e
  | .kl b, k, e => by simp [nkW] at e
theorem nksW_hash (w1 w2 : World) : ∀ {l : List W} {ks : List NestedKey}, nksW l = some ks → NestedKey.hashes w1 ks = NestedKey.hashes w2 ks
  | [], ks, e => by
    rw [nksW] at e
    cases e; rfl
  | w :: r, ks, e => by
    rw [nksW] at e
    obtain ⟨k, h1, e⟩ := Option.bind_eq_some_iff.mp e
    obtain ⟨rs, h2, rfl⟩ := Option.map_eq_some_iff.mp e
    show k.hash w1 :: NestedKey.hashes w1 rs = k.hash w2 :: NestedKey.hashes w2 rs
    rw [nkW_hash w1 w2 h1, nksW_hash w1 w2 h2]
end
theorem KeyAt.hash {K : PySem.W.Frag} {H : Hp} {k : NestedKey} {p : Addr} (h : KeyAt K H k p) (w1 w2 : World) : k.hash w1 = k.hash w2 := let ⟨_, e, _, _⟩ := h; nkW_hash w1 w2 e
section
variable {X : Cx} {pins : List (Addr × Obj)} {σ : L2.St} {H : Hp} {s : Shared}
mutual
theorem nis_of (I : Inv X pins σ H s) : ∀ {w : W} {v : V}, Rw X.K H w v → ∀ {u : Value} {k : NestedKey}, RelV v u → nkW w = some k → NestedIs s.heap k u
  | _, _, .int i, u, k, r, e => by
    cases Option.some.inj (show some (NestedKey.num i) = some k from e)
    obtain ⟨t, rfl⟩ := r
    exact .int i t
  | _, _, .non, u, k, r, e => by
    cases Option.some.inj (show some NestedKey.none = some k from e)
    cases r
    exact .none
  | _, _, .tup (ws := ws) h q, u, k, r, e => by
    have e : (nksW ws).map NestedKey.tup = some k := by rw [nkW] at e; exact e
    obtain ⟨ks, h1, rfl⟩ := Option.map_eq_some_iff.mp e
    cases r
    obtain ⟨its, rv, ⟨o, ho, hc, n, hd⟩, _⟩ := I.tuple h
    exact .tup ho hc hd (by simpa using nall_of I q rv h1)
  | _, _, .bl b, u, k, r, e => by simp [nkW] at e
  | _, _, .str b, u, k, r, e => by simp [nkW] at e
  | _, _, .ref b, u, k, r, e => by simp [nkW] at e
  | _, _, .ty b, u, k, r, e => by simp [nkW] at e
  | _, _, .kl h q, u, k, r, e => by simp [nkW] at e
theorem nall_of (I : Inv X pins σ H s) : ∀ {ws : List W} {vs : List V}, Rws X.K H ws vs → ∀ {us : List Value} {ks : List NestedKey}, Vals vs us → nksW ws = some ks → NestedAll s.heap ks us
  | _, _, .nil, us, ks, r, e => by
    rw [nksW] at e
    cases e
    cases r
    exact .nil
  | _, _, .cons h t, us, ks, r, e => by
    rw [nksW] at e
    obtain ⟨k, h1, e⟩ := Option.bind_eq_some_iff.mp e
    obtain ⟨rs, h2, rfl⟩ := Option.map_eq_some_iff.mp e
    cases r with
    | cons r1 r2 => exact .cons (nis_of I h r1 h1) (nall_of I t r2 h2)
end
theorem KeyAt.is (I : Inv X pins σ H s) {k : NestedKey} {p : Addr} (h : KeyAt X.K H k p) : (nestedKind X.prog X.w).is s.heap k p := let ⟨_, e, d, r⟩ := h; ⟨nis_of I r rfl e, d⟩
theorem NP.is (I : Inv X pins σ H s) : ∀ {l : List (NestedKey × W)} {xs : List (NestedKey × Addr × Value)}, NP X.K H l xs → ∀ x ∈ xs, (nestedKind X.prog X.w).is s.heap x.1 x.2.1
  | _, _, .nil => fun x hx => by cases hx
  | _, _, .cons hk _ _ t => fun x hx => by
    rcases List.mem_cons.mp hx with rfl | hx
    · exact hk.is I
    · exact NP.is I t x hx
end
theorem NP.length {K : PySem.W.Frag} {H : Hp} : ∀ {l : List (NestedKey × W)} {xs : List (NestedKey × Addr × Value)}, NP K H l xs → l.length = xs.length
  | _, _, .nil => rfl
  | _, _, .cons _ _ _ t => by rw [List.length_cons, List.length_cons, NP.length t]
noncomputable def valN (l : List (NestedKey × W)) (k : NestedKey) : Option W := (l.find? fun x => decide (x.1 = k)).map (·.2)
noncomputable def putN (l : List (NestedKey × W)) (k : NestedKey) (v : W) : List (NestedKey × W) := if (valN l k).isSome then l.map (fun x => if x.1 = k then (x.1, v) else x) else l ++ [(k, v)]
theorem NP.val {K : PySem.W.Frag} {H : Hp} {k : NestedKey} : ∀ {l : List (NestedKey × W)} {xs : List (NestedKey × Addr × Value)}, NP K H l xs → (valN l k = none ∧ atKey xs k = none) ∨ ∃ w v p u, valN l k = some w ∧ atKey xs k = some (p, u) ∧ Rw K H w v ∧ RelV v u
  | _, _, .nil => .inl ⟨rfl, rfl⟩
  | _, _, .cons (k := k') (w := w) (p := p) (v := v) (u := u) (l := l) (xs := xs) hk hw hv t => by
    unfold valN atKey
    rw [List.find?_cons, List.find?_cons]
    by_cases e : k' = k
    · rw [decide_eq_true e]
      exact .inr ⟨w, v, p, u, rfl, rfl, hw, hv⟩
    · rw [decide_eq_false e]
      exact NP.val t
theorem NP.map {K : PySem.W.Frag} {H : Hp} {k : NestedKey} {w : W} {v : V} {u : Value} (hw : Rw K H w v) (hv : RelV v u) : ∀ {l : List (NestedKey × W)} {xs : List (NestedKey × Addr × Value)}, NP K H l xs → NP K H (l.map fun x => if x.1 = k then (x.1, w) else x) (xs.map (putAt k u))
  | _, _, .nil => .nil
  | _, _, .cons (k := k') hk hw' hv' t => by
    rw [List.map_cons, List.map_cons]
    unfold putAt
    by_cases e : k' = k
    · rw [if_pos e, if_pos e]
      exact .cons hk hw hv (NP.map hw hv t)
    · rw [if_neg e, if_neg e]
      exact .cons hk hw' hv' (NP.map hw hv t)
theorem NP.snoc {K : PySem.W.Frag} {H : Hp} {k : NestedKey} {p : Addr} {w : W} {v : V} {u : Value} (hk : KeyAt K H k p) (hw : Rw K H w v) (hv : RelV v u) : ∀ {l : List (NestedKey × W)} {xs : List (NestedKey × Addr × Value)}, NP K H l xs → NP K H (l ++ [(k, w)]) (xs ++ [(k, p, u)])
  | _, _, .nil => .cons hk hw hv .nil
  | _, _, .cons a b c t => .cons a b c (NP.snoc hk hw hv t)
theorem NP.put {K : PySem.W.Frag} {H : Hp} {k : NestedKey} {p : Addr} {w : W} {v : V} {u : Value} (hk : KeyAt K H k p) (hw : Rw K H w v) (hv : RelV v u) {l : List (NestedKey × W)} {xs : List (NestedKey × Addr × Value)} (h : NP K H l xs) : NP K H (putN l k w) (storedH xs k p u) := by
  unfold putN storedH
  rcases h.val (k := k) with ⟨e1, e2⟩ | ⟨w', v', p', u', e1, e2, _⟩
  · rw [e1, e2]; exact h.snoc hk hw hv
  · rw [e1, e2]; exact h.map hw hv
theorem NP.hash {K : PySem.W.Frag} {H : Hp} (w1 w2 : World) : ∀ {l : List (NestedKey × W)} {xs : List (NestedKey × Addr × Value)}, NP K H l xs → (xs.map fun x => (⟨x.1.hash w1, .ref x.2.1, x.2.2⟩ : DictEntry)) = xs.map fun x => ⟨x.1.hash w2, .ref x.2.1, x.2.2⟩
  | _, _, .nil => rfl
  | _, _, .cons hk _ _ t => by rw [List.map_cons, List.map_cons, NP.hash w1 w2 t, hk.hash w1 w2]
theorem putN_len (l : List (NestedKey × W)) (k : NestedKey) (v : W) : (putN l k v).length ≤ l.length + 1 := by
  unfold putN
  split
  · rw [List.length_map]; omega
  · rw [List.length_append]; exact Nat.le_refl _
/-- a dict of nested keys, or an empty one -/
noncomputable def nsAt (G : WHp) (a : Addr) (k : List (NestedKey × W) → Prop) : Prop := match G a with
  | some (.nst l) => k l
  | some (.dct []) => k []
  | _ => False
theorem nsAt_of {G : WHp} {a : Addr} {l : List (NestedKey × W)} {k : List (NestedKey × W) → Prop} (h : G a = some (.nst l)) (q : k l) : nsAt G a k := by unfold nsAt; rw [h]; exact q
theorem nsAt_get {X : Cx} {pins : List (Addr × Obj)} {σ : L2.St} {H : Hp} {s : Shared} {G : WHp} {a : Addr} {k : List (NestedKey × W) → Prop} (I : Inv X pins σ H s) (sim : Sim X.K H G) (h : nsAt G a k) :
    ∃ (l : List (NestedKey × W)) (xs : List (NestedKey × Addr × Value)), k l ∧ s.heap.DictOfH (nestedKind X.prog X.w) a xs ∧ NP X.K H l xs ∧ l.length ≤ sizeLine ∧ (a == sysModules) = false ∧ Mut (H a) ∧ (∃ o, G a = some o) ∧ (∃ u, H a = some u ∧ (∀ ys, u ≠ .tup ys) ∧ (∀ ob ys, u ≠ .frz ob ys) ∧ ∀ c q, u ≠ LamX.CodeO c q) := by
  unfold nsAt at h
  split at h
  · rename_i l e
    obtain ⟨es, xs, e1, e2, e3, e4, e5, r⟩ := sim a _ e
    obtain ⟨⟨o, ep, h1, h2, h3⟩, _⟩ := I.hok a _ e1
    refine ⟨l, xs, h, ⟨o, es, ep, h1, h2, h3, e2 X.w, r.is I, e5⟩, r, e3, e4, by rw [e1]; exact True.intro, ⟨_, e⟩, _, e1, (fun _ z => nomatch z), (fun _ _ z => nomatch z), fun _ _ z => nst_code z⟩
  · rename_i e
    obtain ⟨vs, e1, r⟩ := sim a _ e
    cases r
    obtain ⟨z, hd, vs, rel, o, es, ep, h1, h2, h3, _, h4, _⟩ := I.hok a _ e1
    cases rel
    have h4 : es.toList = [] := by
      cases q4 : es.toList with
      | nil => rfl
      | cons a b => rw [q4] at h4; cases h4
    refine ⟨[], [], h, ⟨o, es, ep, h1, h2, h3, h4, fun x hx => (by cases hx), List.nodup_nil⟩, .nil, Nat.zero_le _, hd, by rw [e1]; exact True.intro, ⟨_, e⟩, _, e1, (fun _ z => nomatch z), (fun _ _ z => nomatch z), fun _ _ z => by unfold LamX.CodeO at z; cases z⟩
  · exact h.elim
/-- a tuple that is a key -/
noncomputable def isNK (x : W) (k : NestedKey → Prop) : Prop := ∃ ws key, x = .tup ws ∧ nkW (.tup ws) = some key ∧ key.depth ≤ 8 ∧ k key
noncomputable def inN (neg : Bool) (x y : W) (G : WHp) (Q : WK) : Prop := ∃ a, y = .ref a ∧ isNK x fun k => nsAt G a fun l => Q (.bl ((valN l k).isSome != neg)) G
noncomputable def ixN' (x y : W) (G : WHp) (Q : WK) : Prop := ∃ a, x = .ref a ∧ isNK y fun k => nsAt G a fun l => optW (valN l k) fun w => Q w G
section
variable {X : Cx}
theorem room_nk {A : Around} (hu : A.units + 65 < cLine) {P : Program} {w : World} : (nestedKind P w).room A.in1 := by
  show A.in1.units + 8 < cLine
  have : A.in1.units = A.units + 1 := rfl
  omega
theorem opw_notinN (hu : X.A.units + 65 < cLine) : OpR X (compareOp .NotIn) (lift2 X.K (inN true)) := by
  intro pins s σ H x y v u Q I rx ry ⟨a, b, G, P, ra, rb, sim, ⟨d, hb, ws, k, hx, hk, hd, h⟩, kk⟩
  subst hb hx
  cases rb
  cases ry
  cases ra with
  | @tup p vs _ hp rs =>
    cases rx
    obtain ⟨l, xs, q, hm, np, _, hs, _⟩ := nsAt_get I sim h
    show wpAny _ _ (do return Value.bool (!(← contains (.ref d) (.ref p)))) _ _ s
    refine wpAny_bind (wpAny_contains_heap (knd := nestedKind X.prog X.w) (k := k) (room_nk hu) (KeyAt.is I ⟨ws, hk, hd, .tup hp rs⟩) hs hm (wpAny_pure ?_))
    refine ⟨.bl (!(valN l k).isSome), H, I.tok _, ?_, ?_⟩
    · rcases np.val (k := k) with ⟨e1, e2⟩ | ⟨w', v', p', u', e1, e2, _⟩
      · rw [e1, e2]; rfl
      · rw [e1, e2]; rfl
    · rw [Bool.bne_true] at q
      exact kk _ _ _ _ q (.bl _) sim .refl
end
/-- d[k] = v -/
noncomputable def wPutN (o i v : W) (G : WHp) (Q : WHp → Prop) : Prop := ∃ a, o = .ref a ∧ isNK i fun k => nsAt G a fun l => l.length < sizeLine ∧ Q (updG G a (.nst (putN l k v)))
noncomputable def wgSubN (to ti : WTE) : WTG := fun v ρ G Q => to ρ G fun o G1 => ti ρ G1 fun i G2 => wPutN o i v G2 fun G3 => Q ρ G3
section
variable {X : Cx} {o i : Expr} {to ti : WTE} {pos : Pos}
/-- the rule at the objects -/
theorem set_nst (hu : X.A.units + 65 < cLine) : PSet X (fun o i v H Q => ∃ (a p : Addr) (k : NestedKey) (l : List (NestedKey × W)) (w : W) (G : WHp), o = .ref a ∧ i = .ref p ∧ Sim X.K H G ∧ KeyAt X.K H k p ∧ Rw X.K H w v ∧ nsAt G a (fun l' => l' = l) ∧ l.length < sizeLine ∧
    ∀ es xs, Sim X.K (upd H a (NstO a es)) (updG G a (.nst (putN l k w))) → Step H G (upd H a (NstO a es)) (updG G a (.nst (putN l k w))) → TupX X.K H (upd H a (NstO a es)) → xs = es → Q (upd H a (NstO a es))) := by
  intro pins s σ H o i v ov iv u Q I ro ri rv ⟨a, p, k, l, w, G, ho, hi, sim, hk, hw, hn, hl, q⟩
  subst ho hi
  cases ro
  cases ri
  obtain ⟨l', xs, rfl, hm, np, hz, hs, hmut, ⟨wo, hG⟩, uo, hH, n1, n2, n3⟩ := nsAt_get I sim hn
  refine wpAny_setItem_heap (knd := nestedKind X.prog X.w) (k := k) (hsz := by rw [← np.length]; exact hz) (room_nk hu) (hk.is I) hm fun h' hm' hsb => ?_
  obtain ⟨ob, es, ep, h1, h2, h3, h4, h5, h6⟩ := hm'
  have np' := np.put hk hw rv
  have tx : TupX X.K H (upd H a (NstO a es)) := .chg hH n1 (fun ob' ys => n2 ob' _) n3
  have new : ObjOk X.prog X.w (upd H a (NstO a es)) h' a (NstO a es) := ⟨⟨ob, ep, h1, h2, h3⟩, ⟨_, h1⟩, fun g1 g2 ⟨o1, ep1, q1, q2, q3⟩ k1 => ⟨o1, ep1, k1 _ q1, q2, q3⟩⟩
  have I' := d_write (t' := s.toks + (nestedKind X.prog X.w).draws k) I hmut hsb ⟨_, h1⟩ new
  refine ⟨_, I', q es es ?_ ?_ tx rfl⟩
  · refine sim.set hG tx ⟨es, storedH xs k p u, upd_same, fun w' => ?_, ?_, hs, h6, np'.mono tx⟩
    · rw [h4]
      exact np'.hash X.w w'
    · have := putN_len l' k w; omega
  · exact .set hG hH fun ob' _ z => n2 _ _ z
theorem wg_subN (hu : X.A.units + 65 < cLine) (ho : WE X o to) (hi : WE X i ti)
    (ha : ∀ v, assign (.Subscript o i pos) X.env v = (do
      let ov ← holding [v] (eval o X.env)
      let iv ← holding [v, ov] (eval i X.env)
      standAt pos
      holding [v, ov, iv] (setItem ov iv v)
      release [v, ov, iv] []) := by intro _; rfl) : WG X (.Subscript o i pos) (wgSubN to ti) := (pg_sub ho hi (set_nst hu) ha).imp fun v σ H Q ⟨w, ρ, G, P, rv, env, sim, h, k⟩ =>
  ⟨ρ, G, _, env, sim, h, fun wo G1 vo H1 h1 r1 s1 st1 => ⟨ρ, G1, _, env.mono (.of sim st1), s1, h1, fun wi G2 vi H2 h2 r2 s2 st2 => by
    have st := st1.trans st2
    have ro := r1.mono (.of s1 st2)
    have rv' := rv.mono (.of sim st)
    have env' := env.mono (.of sim st)
    obtain ⟨a, rfl, ws, key, rfl, hk, hd, h2⟩ := h2
    cases ro
    cases r2 with
    | @tup p vs _ hp rs =>
      have hn : ∃ l, nsAt G2 a (fun l' => l' = l) ∧ l.length < sizeLine ∧ P ρ (updG G2 a (.nst (putN l key w))) := by
        unfold nsAt at h2 ⊢
        split at h2
        · rename_i l e; exact ⟨l, rfl, h2⟩
        · rename_i e; exact ⟨[], rfl, h2⟩
        · exact h2.elim
      obtain ⟨l, hn, hl, q⟩ := hn
      exact ⟨a, p, key, l, w, G2, rfl, rfl, s2, ⟨ws, hk, hd, .tup hp rs⟩, rv', hn, hl, fun es xs s3 st3 tx _ => k _ _ _ _ q (env'.mono tx) s3 (st.trans st3)⟩⟩⟩
end
end WL
namespace WL
open PySem PySem.Spec PyProof.Rows L2
section
variable {X : Cx} {a b : Expr} {ta tb : WTE} {pos : Pos}
theorem ixw_n (hu : X.A.units + 65 < cLine) : IxR X (lift2 X.K ixN') := by
  intro value slice pins s σ H x y v u Q I rx ry ⟨wa, wb, G, P, ra, rb, sim, ⟨d, hb, ws, k, hx, hk, hd, h⟩, kk⟩ hsl
  subst hb hx
  cases ra
  cases rx
  cases rb with
  | @tup p vs _ hp rs =>
    cases ry
    obtain ⟨l, xs, q, hm, np, _, hs, _⟩ := nsAt_get I sim h
    obtain ⟨w, e, q⟩ := optW_get q
    rcases np.val (k := k) with ⟨e1, _⟩ | ⟨w', v', p', u', e1, e2, rw', rv'⟩
    · rw [e] at e1; cases e1
    · rw [e] at e1; cases e1
      exact tail_any hm.typeIs PySem.F.slot_dict_getitem.lookup (wpAny_getItem_heap (knd := nestedKind X.prog X.w) (k := k) (room_nk hu) (KeyAt.is I ⟨ws, hk, hd, .tup hp rs⟩) hm e2 ⟨v', H, I.tok _, rv', kk _ _ _ _ q rw' sim .refl⟩) hsl
theorem we_ixN (hu : X.A.units + 65 < cLine) (ha : WE X a ta) (hb : WE X b tb) (hs : PlainIx b := by exact fun _ _ => rfl) : WE X (.Subscript a b pos) (wOp ixN' ta tb) := (pe_ix (ixw_n hu) ha hb hs).imp fun _ _ _ h => toTE_op h
end
end WL
set_option Elab.async false
set_option linter.all false
set_option maxRecDepth 100000
set_option maxHeartbeats 1000000
/-! # list.extend by a tuple -/
namespace PySem
end PySem
namespace L2
open PySem PySem.Spec PyProof.Rows
end L2
namespace WL
open PySem PySem.Spec PyProof.Rows L2
end WL
/-! ### x.index(text), x a tuple of texts of the top -/
namespace WL
open PySem PySem.Spec PyProof.Rows L2
end WL
/-! ### a, b, c = x, y, z -/
namespace WL
open PySem PySem.Spec PyProof.Rows L2
end WL
set_option Elab.async false
set_option linter.all false
set_option maxRecDepth 100000
set_option maxHeartbeats 1000000
/-! # str(int), repr(int), int(text); tuples known to have no dict, and their index -/
namespace L2
open PySem PySem.Spec PyProof.Rows
end L2
namespace WL
open PySem PySem.Spec PyProof.Rows L2
/-! ### str(i), repr(i), int(text) -/
/-! ### tuples known to have no dict -/
end WL
/-! ### a, b = x, y -/
namespace WL
open PySem PySem.Spec PyProof.Rows L2
end WL
set_option Elab.async false
set_option linter.all false
set_option maxRecDepth 100000
set_option maxHeartbeats 1000000
/-! # a dict is in no list of texts -/
namespace L2
open PySem PySem.Spec PyProof.Rows PySem.SeqAt
end L2
namespace WL
open PySem PySem.Spec PyProof.Rows L2
end WL
set_option Elab.async false
set_option linter.all false
set_option maxRecDepth 100000
set_option maxHeartbeats 1000000
set_option pp.maxSteps 400
/-! # the __init__ of an own exception: super().__init__(y), then self.f = y -/
namespace WL
open PySem PySem.Spec PyProof.Rows L2
/-! ### in the suite: a field of the exception, isinstance of it -/
structure XfOk (K : PySem.W.Frag) (n : Str) (xs : List Addr) : Prop where
  go : ∀ C ∈ xs, XfC K C ∧ PySem.W.findIn K (.ref C) n = some none
end WL
set_option Elab.async false
set_option linter.all false
set_option maxRecDepth 100000
set_option maxHeartbeats 1000000
set_option pp.maxSteps 400
/-! # tests, methods, if-expressions under an ambient wish -/
namespace WL
open PySem PySem.Spec PyProof.Rows L2
end WL
namespace WL
open PySem PySem.Spec PyProof.Rows L2
theorem XfOk.nil {K : PySem.W.Frag} {n : Str} : XfOk K n [] := ⟨fun _ h => nomatch h⟩
theorem XfOk.cons {K : PySem.W.Frag} {n : Str} {C : Addr} {xs : List Addr} (h : XfC K C ∧ PySem.W.findIn K (.ref C) n = some none) (r : XfOk K n xs) : XfOk K n (C :: xs) := ⟨fun D m => by
  rcases List.mem_cons.mp m with rfl | m
  · exact h
  · exact r.go D m⟩
end WL
set_option Elab.async false
set_option linter.all false
set_option maxRecDepth 100000
set_option maxHeartbeats 1000000
set_option pp.maxSteps 400
/-! # sorted(list of plain data at any depth) -/
namespace L2
open PySem PySem.Spec PyProof.Rows PySem.W
end L2
namespace WL
open PySem PySem.Spec PyProof.Rows L2 PySem.W
end WL
set_option Elab.async false
set_option linter.all false
set_option maxRecDepth 100000
set_option maxHeartbeats 1000000
/-! # a tuple of targets of any kind: a[i], b[j] = .. -/
namespace WL
open PySem PySem.Spec PyProof.Rows L2
end WL
set_option Elab.async false
set_option linter.all false
set_option maxRecDepth 100000
set_option maxHeartbeats 1000000
/-! # dicts keyed by nested tuples: len, sorted, {k: v} -/
namespace WL
open PySem PySem.Spec PyProof.Rows L2 PySem.W
/-! ### keys as things, and as plain data -/
theorem NP.keys {K : PySem.W.Frag} {H : Hp} : ∀ {l : List (NestedKey × W)} {xs : List (NestedKey × Addr × Value)}, NP K H l xs → l.map (·.1) = xs.map (·.1)
  | _, _, .nil => rfl
  | _, _, .cons _ _ _ t => by rw [List.map_cons, List.map_cons, NP.keys t]
/-! ### len -/
/-! ### {k: v} -/
noncomputable def wDispN (tk tv : WTE) : WTE := fun ρ G Q => tk ρ G fun x G1 => tv ρ G1 fun y G2 => isNK x fun key => ∀ p, G2 p = none → Q (.ref p) (updG G2 p (.nst [(key, y)]))
theorem dct_empty {P : Program} {w : World} {H : Hp} {h : Heap} {a : Addr} (o : ObjOk P w H h a (.dK [])) : h.DictOfH (nestedKind P w) a [] ∧ (a == sysModules) = false := by
  obtain ⟨z, hd, vs, rel, o, es, ep, h1, h2, h3, _, h4, _⟩ := o
  cases rel
  have h4 : es.toList = [] := by
    cases q4 : es.toList with
    | nil => rfl
    | cons a b => rw [q4] at h4; cases h4
  exact ⟨⟨o, es, ep, h1, h2, h3, h4, fun x hx => (by cases hx), List.nodup_nil⟩, hd⟩
theorem we_dispN {X : Cx} {k v : Expr} {tk tv : WTE} {pos : Pos} (hu : X.A.units + 65 < cLine) (hk : WE X k tk) (hv : WE X v tv) : WE X (.Dict [some k] [v] pos) (wDispN tk tv) := by
  refine ⟨fun pins s σ H Q I ⟨ρ, G, P, env, sim, h, kk⟩ => ?_⟩
  have hn := I.hok.fresh (Nat.le_refl s.heap.objs.size)
  have I1 := I.laid (a := s.heap.objs.size) (o := .dK []) (h' := s.heap.push { cls := .type "dict", data := .dict #[] }) (t' := s.toks) (fun _ _ q => Heap.get?_push_of_some _ q) (Nat.le_refl _) (dk_empty s.heap I.big)
  have s1 : Sim X.K (upd H s.heap.objs.size (.dK [])) G := sim.hid hn
  have ps := (pps_cons (X := X) (pos := pos) hk hv pps_nil).run pins _ σ _ _ I1 (pairs_of (trs := [(tk, tv)]) (P := fun ps G2 => match ps with
    | [(x, y)] => isNK x fun key => ∀ p, G2 p = none → P (.ref p) (updG G2 p (.nst [(key, y)]))
    | _ => False) (env.mono (.new hn)) s1 h fun ws G1 vs H1 h1 r1 s2 st1 => (show (∃ ws G1, (match ws with
    | [(x, y)] => isNK x fun key => ∀ p, G1 p = none → P (.ref p) (updG G1 p (.nst [(key, y)]))
    | _ => False) ∧ RwP X.K H1 ws vs ∧ Sim X.K H1 G1 ∧ Step (upd H s.heap.objs.size (.dK [])) G H1 G1) from ⟨ws, G1, h1, r1, s2, st1⟩))
  rw [arm_eval_Dict, zip_pairTrees [some k] [v] X.env pos rfl rfl, dictDisplay_pairs (pairTrees [some k] [v] X.env pos) (by intro z; cases z) (show 1 < 17 by decide)]
  refine wpAny_bind (wpAny_standAt (wpAny_bind (wpAny_subDictH (knd := nestedKind X.prog X.w) (Q := fun d s' => wpAny (model X.prog X.w) X.A (pure (Value.ref d)) (EP X pins σ Q) X.xe s') (show X.A.units + 8 < cLine by omega) (show 1 ≤ 15 by decide) ?_)))
  refine thn ps fun us s2 ⟨vs, H1, I2, rel, ws, G1, hq, r1, s2', st1⟩ => ?_
  obtain ⟨e1, g1⟩ := st1.fr _ _ upd_same (sim.fresh hn) (fun _ z => nomatch z)
  obtain ⟨de, dlo⟩ := dct_empty (I2.hok _ _ e1)
  cases ws with
  | nil => exact hq.elim
  | cons xy rest =>
    cases rest with
    | cons _ _ => exact hq.elim
    | nil =>
      obtain ⟨x, y⟩ := xy
      obtain ⟨kws, key, rfl, hkey, hdep, q⟩ := hq
      cases r1 with
      | @cons _ _ v1 v2 _ _ rx ry rt =>
        cases rt
        cases rx with
        | @tup pk pvs _ hpk prs =>
          cases rel with
          | @cons _ u _ us' hrel trel =>
            cases trel
            obtain ⟨u1, u2⟩ := u
            obtain ⟨ru1, ru2⟩ := hrel
            have ru1 : u1 = Value.ref pk := ru1
            subst ru1
            have kat : KeyAt X.K H1 key pk := ⟨kws, hkey, hdep, .tup hpk prs⟩
            refine ⟨[(key, pk, u2)], ⟨rfl, rfl, kat.is I2, True.intro⟩, de, fun h' tk hm' hsb => wpAny_pure ?_⟩
            obtain ⟨ob, es, ep, h1, h2, h3, h4, h5, h6⟩ := hm'
            have np' : NP X.K H1 [(key, y)] [(key, pk, u2)] := .cons kat ry ru2 .nil
            have tx : TupX X.K H1 (upd H1 s.heap.objs.size (NstO s.heap.objs.size es)) := .chg e1 (fun _ z => nomatch z) (fun _ _ z => nomatch z)
            have new : ObjOk X.prog X.w (upd H1 s.heap.objs.size (NstO s.heap.objs.size es)) h' s.heap.objs.size (NstO s.heap.objs.size es) := ⟨⟨ob, ep, h1, h2, h3⟩, ⟨_, h1⟩, fun g1 g2 ⟨o1, ep1, q1, q2, q3⟩ k1 => ⟨o1, ep1, k1 _ q1, q2, q3⟩⟩
            have I' := d_write (t' := tk) I2 (by rw [e1]; exact True.intro) hsb ⟨_, h1⟩ new
            have st2 : Step H G (upd H1 s.heap.objs.size (NstO s.heap.objs.size es)) G1 := (Step.trans (.hid hn) st1).own hn e1 fun _ _ z => nomatch z
            have s3 : Sim X.K (upd H1 s.heap.objs.size (NstO s.heap.objs.size es)) G1 := s2'.own g1 tx
            refine ⟨.ref s.heap.objs.size, _, I', rfl, kk _ _ _ _ (q s.heap.objs.size g1) (.ref s.heap.objs.size) (s3.take ⟨es, [(key, pk, u2)], upd_same, fun w' => ?_, ?_, dlo, h6, np'.mono tx⟩) (st2.take hn)⟩
            · rw [h4]
              exact np'.hash X.w w'
            · show 1 ≤ sizeLine
              decide
end WL
set_option Elab.async false
set_option linter.all false
set_option maxRecDepth 100000
set_option maxHeartbeats 1000000
/-! # an item of a tuple that is known to have no dict -/
namespace WL
open PySem PySem.Spec PyProof.Rows L2
end WL
set_option Elab.async false
set_option linter.all false
set_option maxRecDepth 100000
set_option maxHeartbeats 1000000
/-! # one order for keys: sorted of the same keys is the same list -/
namespace WL
open PySem PySem.Spec PyProof.Rows L2 PySem.W
end WL
set_option Elab.async false
set_option linter.all false
set_option maxRecDepth 100000
set_option maxHeartbeats 1000000
/-! # if x[0] == "word": by what the name holds, small terms -/
namespace WL
open PySem PySem.Spec PyProof.Rows L2
/-! displays of parts that are known, by rule -/
inductive Args : WTA → List W → Prop
  | nil : Args wNil []
  | cons {t : WTE} {tr : WTA} {x : W} {xs : List W} (h : ∀ (ρ : WEnv) (G : WHp) (Q : WK), Q x G → t ρ G Q) (r : Args tr xs) : Args (wCons t tr) (x :: xs)
theorem Args.run {ta : WTA} {xs : List W} (h : Args ta xs) : ∀ {ρ : WEnv} {G : WHp} {Q : List W → WHp → Prop}, Q xs G → ta ρ G Q := by
  induction h with
  | nil => intro ρ G Q q; exact q
  | cons h r ih => intro ρ G Q q; exact h _ _ _ (ih q)
theorem Args.lst {ta : WTA} {xs : List W} (h : Args ta xs) {ρ : WEnv} {G : WHp} {Q : WK} (hl : xs.length ≤ sizeLine) (q : ∀ p, G p = none → Q (.ref p) (updG G p (.lst xs))) : wLst ta ρ G Q := h.run ⟨hl, q⟩
theorem Args.tup {ta : WTA} {xs : List W} (h : Args ta xs) (hl : xs.length ≤ 1000) : ∀ (ρ : WEnv) (G : WHp) (Q : WK), Q (.tup xs) G → wTup ta ρ G Q := fun _ _ _ q => h.run ⟨Nat.le_trans hl (by decide), q⟩
/-! steps by rule -/
theorem seq_set {i : Nat} {t : WTE} {u : WTS} {D : WEnds} {ρ : WEnv} {G : WHp} (h : t ρ G fun w G1 => u D (ρ.set i (some w)) G1) : wSeq (wSet i t) u D ρ G := h
theorem wop_of {f : W → W → WHp → WK → Prop} {ta tb : WTE} {ρ : WEnv} {G : WHp} {Q : WK} (h : ta ρ G fun x G1 => tb ρ G1 fun y G2 => f x y G2 Q) : wOp f ta tb ρ G Q := h
theorem wv_of {i : Nat} {w : W} {ρ : WEnv} {G : WHp} {Q : WK} (h : ρ[i]? = some (some w)) (q : Q w G) : wV i ρ G Q := lk_of h q
end WL
set_option Elab.async false
set_option linter.all false
set_option maxRecDepth 100000
set_option maxHeartbeats 1000000
/-! # "..".join(list or tuple of texts) -/
namespace WL
open PySem PySem.Spec PyProof.Rows L2
end WL
set_option Elab.async false
set_option linter.all false
set_option maxRecDepth 100000
set_option maxHeartbeats 1000000
/-! # dict(list of pairs), the keys nested tuples, all unlike -/
namespace WL
open PySem PySem.Spec PyProof.Rows L2 PySem.W
end WL
set_option Elab.async false
set_option linter.all false
set_option maxRecDepth 100000
set_option maxHeartbeats 1000000
/-! # isinstance of instances of own classes, with a tuple of built-in types -/
namespace WL
open PySem PySem.Spec PyProof.Rows L2 PySem.W
end WL
set_option Elab.async false
set_option linter.all false
set_option maxRecDepth 100000
set_option maxHeartbeats 1000000
/-! # zip of a tuple and a list -/
namespace WL
open PySem PySem.Spec PyProof.Rows L2 PySem.W
end WL
set_option Elab.async false
set_option linter.all false
set_option maxRecDepth 100000
set_option maxHeartbeats 1000000
/-! # i << j, i & j of naturals -/
namespace WL
open PySem PySem.Spec PyProof.Rows L2
noncomputable def shlW : W → W → WHp → WK → Prop
  | .int i, .int j => fun G Q => (0 ≤ j ∧ j ≤ 1000 ∧ i.natAbs < 1000) ∧ Q (.int (i * 2 ^ j.toNat)) G
  | _, _ => fun _ _ => False
noncomputable def bandW : W → W → WHp → WK → Prop
  | .int i, .int j => fun G Q => (0 ≤ i ∧ 0 ≤ j) ∧ Q (.int ((i.toNat &&& j.toNat : Nat) : Int)) G
  | _, _ => fun _ _ => False
section
variable {X : Cx}
theorem opw_shl : OpR X (binaryOp .LShift) (lift2 X.K shlW) := by
  intro pins s σ H x y v u Q I rx ry ⟨a, b, G, P, ra, rb, sim, h, k⟩
  cases a <;> cases b <;> first | exact False.elim h | skip
  cases ra; cases rb
  have c := h.1
  exact op_shl pins s σ H _ _ v u Q I rx ry ⟨_, _, rfl, rfl, ⟨c.1, by omega, Nat.lt_trans c.2.2 (by decide)⟩, k _ _ _ _ h.2 (.int _) sim .refl⟩
theorem opw_band : OpR X (binaryOp .BitAnd) (lift2 X.K bandW) := by
  intro pins s σ H x y v u Q I rx ry ⟨a, b, G, P, ra, rb, sim, h, k⟩
  cases a <;> cases b <;> first | exact False.elim h | skip
  rename_i i j
  cases ra; cases rb
  have e : Builtin.bitAnd i j = ((i.toNat &&& j.toNat : Nat) : Int) := by
    have h1 : ((i.toNat : Nat) : Int) = i := Int.toNat_of_nonneg h.1.1
    have h2 : ((j.toNat : Nat) : Int) = j := Int.toNat_of_nonneg h.1.2
    have := PySem.W.os_band i.toNat j.toNat
    rw [h1, h2] at this
    exact this
  refine op_and pins s σ H _ _ v u Q I rx ry ⟨_, _, rfl, rfl, ?_⟩
  show Q (.int (Builtin.bitAnd i j)) H
  rw [e]
  exact k _ _ _ _ h.2 (.int _) sim .refl
end
end WL
set_option Elab.async false
set_option linter.all false
set_option maxRecDepth 100000
set_option maxHeartbeats 1000000
/-! # repr of tuples and lists: it wants to know that no repr is under way; so defs that call it promise only where none is -/
namespace L2
open PySem PySem.Spec PyProof.Rows
/-- a def that keeps its promise where no repr is under way -/
structure FnOkG (P : Program) (w : World) (K : PySem.W.Frag) (mg : Str → Option Value) (base : Heap) (k : Nat) (f : Addr) (fd : FuncData) (ps : List Str) (sp : Sp) : Prop where
  len : ∀ vs H Q E, sp vs H Q E → vs.length = ps.length
  run : ∀ (A : Around) (outer : List Env) (s : Shared) (H : Hp) (args : Args) (us : List Value) (vs : List V) (Q : VK) (E : XK), A.guards = some [] → Room k A → Env0 P w K mg base A outer s H → BindsTo s fd args (ps.zip us) → Vals vs us → sp vs H Q E →
    codeAny (model P w) A (.call (.ref f) args) (CR CX0 outer P w H s Q E) s
section
variable {P : Program} {w : World} {K : PySem.W.Frag} {mg : Str → Option Value} {base : Heap}
theorem FnOkG.mono {j k : Nat} {f : Addr} {fd : FuncData} {ps : List Str} {sp : Sp} (F : FnOkG P w K mg base j f fd ps sp) (h : j ≤ k) : FnOkG P w K mg base k f fd ps sp :=
  ⟨F.len, fun A outer s H args us vs Q E hg hr => F.run A outer s H args us vs Q E hg (hr.mono h)⟩
/-- the rule for such a def -/
theorem Fun.okG {x qual : Str} {st : Stmt} {f : Addr} {fd : FuncData} {N ps : List Str} {k : Nat} {sp : Sp} (F : Fun K x qual st f fd) (S : FnScope N ps (defScope st)) (len : ∀ vs H Q E, sp vs H Q E → vs.length = ps.length)
    (hbody : ∀ (cdv : Value) (A : Around) (outer : List Env) (s : Shared) (H : Hp) (vs : List V) (Q : VK) (E : XK), A.guards = some [] → Room k (A.deeper (envOfC qual (defScope st) s.heap.objs.size f cdv)) → sp vs H Q E →
      ∃ t, PSs (cxOf CX0 P w K mg base N qual (defScope st) f cdv A outer s H E).nox (defBody st) t ∧ t { nx := fun _ H' => Q .non H', rt := Q } (start N vs) H) : FnOkG P w K mg base (k + 1) f fd ps sp := by
  obtain ⟨oc, od, kV, doc, pm, an, cdv, ct, osl, rfl, lk, hcd⟩ := F.ex
  refine ⟨len, fun A outer s H args us vs Q E hg hr e0 hb r hsp => ?_⟩
  have KX : K.In s.heap := e0.mod.kin.keeps fun b o e => (e0.bs b o e).1
  have lim : s.heap.NoLimit := e0.mod.nolimit.keeps fun b o e => (e0.bs b o e).1
  refine codeAny_call_function hr.depth (KX _ _ lk) rfl S.co S.gen rfl (PySem.W.codeRec_of KX hcd) (hb _ _ _ _ (wpAny_newFunctionEnv_cells S.kind (fun ⟨n, v⟩ hy => ?_) fun env he s1 x => ?_))
  · exact (S.par n (List.of_mem_zip hy).1).imp id fun q => ⟨q, PySem.W.cellsFrom_some _ _ _ (.inl q)⟩
  subst he
  obtain ⟨t, ht, hq⟩ := hbody cdv A outer s H vs Q E hg (hr.deeper _) hsp
  have J0 : Inv (cxOf CX0 P w K mg base N qual (defScope st) f cdv A outer s H E) [] (start N vs) H s1 := inv_start S hr.hd e0 (len _ _ _ _ hsp) r x
  refine ⟨lim.keeps x.toInCall.keep, codeAny_func (wpAny_mono (ht.nox.run [] s1 (start N vs) H _ J0 hq) (fun fl s' hs => ?_) fun e s' hs => hs)⟩
  cases fl with
  | ret u => obtain ⟨v, σ', H', J, rv, q⟩ := hs; exact ⟨v, H', J.os, J.bare, J.base, J.hok, rv, q⟩
  | next => obtain ⟨σ', H', J, q⟩ := hs; exact ⟨.non, H', J.os, J.bare, J.base, J.hok, rfl, q⟩
  | brk => obtain ⟨_, _, _, q⟩ := hs; exact q.elim
  | cont => obtain ⟨_, _, _, q⟩ := hs; exact q.elim
end
section
variable {X : Cx} {k : Nat} {f : Addr} {fd : FuncData} {ps : List Str} {sp : Sp} {x : Str} {e : Expr} {es : List Expr} {t : TA} {p pos : Pos}
theorem run_fnG {pins : List (Addr × Obj)} {σ : St} {H : Hp} {s : Shared} {Q : VK} {us : List Value} {vs : List V} (F : FnOkG X.prog X.w X.K X.mg X.base k f fd ps sp) (hg : X.A.guards = some []) (hr : Room k X.A) (hb : Binds X.K fd ps [])
    (I : Inv X pins σ H s) (r : Vals vs us) (h : sp vs H Q E0) : wpAny (model X.prog X.w) X.A (call (.ref f) us) (EP X pins σ Q) X.xe s := by
  have hl : (us ++ []).length = ps.length := by rw [List.append_nil, ← r.length]; exact F.len _ _ _ _ h
  have hbb := hb s us I.kIn hl
  rw [List.append_nil] at hbb
  refine wpAny_call (codeAny_mono (F.run X.A X.stack s H ⟨us, []⟩ us vs Q E0 hg hr I.env0 hbb r h) fun r s' hq => ?_)
  cases r with
  | error e => exact False.elim hq
  | ok fl =>
    cases fl with
    | ret u => exact I.after hq
    | next => exact False.elim hq
    | brk => exact False.elim hq
    | cont => exact False.elim hq
theorem pe_callG (F : FnOkG X.prog X.w X.K X.mg X.base k f fd ps sp) (hgd : X.A.guards = some []) (hr : Room k X.A) (hg : Gl X x) (hm : X.mg x = some (.ref f)) (hk : PySem.W.keepIn X.K (.ref f) = true) (hb : Binds X.K fd ps [])
    (ha : PA X (e :: es) t) (hdb : (x == ("__debug__" : Str)) = false := by decide) (he : starEach (e :: es) X.env = (false, eval e X.env) :: starEach es X.env := by rfl) (hpl : (backTo pos (starEach es X.env)).any (·.1) = false := by rfl) :
    PE X (.Call (.Name x p) (e :: es) [] pos) (fun σ H Q => t σ H fun vs H1 => sp vs H1 Q E0) := by
  refine ⟨fun pins s σ H Q I h => wpAny_Call_Name_kw (ld_glob I hg hm ?_ hdb)⟩
  exact PySem.W.callWith_K (h₀ := X.base) I.ok.mod.kin hk (thn (ha.run pos pins s σ H _ I h) fun us s1 ⟨vs, H1, I1, r, q⟩ => ⟨I1.kIn, run_fnG F hgd hr hb I1 r q⟩) he hpl
end
theorem callR_repr {X : Cx} (hg : X.A.guards = some []) (hu : X.A.units + 64 < cLine) : CallR X (.builtin "repr") (fun xs H Q => ∃ v d, xs = [v] ∧ Dp X.K H v d ∧ d.depth ≤ 40 ∧ d.showable = true ∧ d.hasDict = false ∧ d.shown.length ≤ sizeLine ∧ Q (.str d.shown) H) := by
  intro pins s σ H xs us Q I r h
  obtain ⟨v, d, rfl, hd, h1, h2, h3, h4, q⟩ := h
  obtain ⟨u, rfl, ru⟩ := vals1 r
  cases hd with
  | non =>
    cases ru
    exact PySem.P.repr_of_none ⟨.str _, H, I.tok _, ⟨_, rfl⟩, q⟩
  | bl b =>
    cases ru
    exact PySem.P.repr_of_bool ⟨.str _, H, I.tok _, ⟨_, rfl⟩, q⟩
  | int i =>
    obtain ⟨t, rfl⟩ := ru
    exact PySem.P.repr_of_int (by simpa [PyData.showable] using h2) ⟨.str _, H, I.tok _, ⟨_, rfl⟩, q⟩
  | str x =>
    obtain ⟨t, rfl⟩ := ru
    exact PySem.P.repr_of_str ⟨.str _, H, I.tok _, ⟨_, rfl⟩, q⟩ h4
  | lst hs ha =>
    cases ru
    obtain ⟨as, hr⟩ := Dp.reads I _ _ _ (.lst hs ha) rfl
    exact repr_of_reads' hr h2 (PyData.noDict_hsm h3) hg (by omega) (fun b o e => e) (fun h' u tk hk => ⟨.str _, H, I.kept hk, ⟨_, rfl⟩, q⟩) h4
  | tup hs ha =>
    cases ru
    obtain ⟨as, hr⟩ := Dp.reads I _ _ _ (.tup hs ha) rfl
    exact repr_of_reads' hr h2 (PyData.noDict_hsm h3) hg (by omega) (fun b o e => e) (fun h' u tk hk => ⟨.str _, H, I.kept hk, ⟨_, rfl⟩, q⟩) h4
end L2
namespace WL
open PySem PySem.Spec PyProof.Rows L2
/-- data that repr shows -/
structure ShOk (d : PyData) : Prop where
  deep : d.depth ≤ 40
  sh : d.showable = true
  nd : d.hasDict = false
  len : d.shown.length ≤ sizeLine
noncomputable def reprGW (x : W) (G : WHp) (Q : WK) : Prop := ∃ d, Dw G x d ∧ ShOk d ∧ Q (.str d.shown) G
section
variable {X : Cx} {k : Nat} {x : Str} {sp : WSp} {e : Expr} {es : List Expr} {t : WTA} {p pos : Pos}
theorem cw_reprG (hg : X.A.guards = some []) (hu : X.A.units + 64 < cLine) : CallR X (.builtin "repr") (liftA X.K (one reprGW)) := cr_one fun pins s σ H x v w G P Q I r rx rw sim h k => by
  obtain ⟨d, hd, hs, q⟩ := h
  exact callR_repr hg hu pins s σ H _ _ Q I r ⟨_, d, rfl, hd.dp sim rw, hs.deep, hs.sh, hs.nd, hs.len, k _ _ _ _ q (.str _) sim .refl⟩
/-- a def of the text that keeps its promise where no repr is under way -/
structure CalG (P : Program) (w : World) (K : PySem.W.Frag) (mg : Str → Option Value) (base : Heap) (k : Nat) (x : Str) (sp : WSp) : Prop where
  ex : ∃ f fd ps, mg x = some (.ref f) ∧ PySem.W.keepIn K (.ref f) = true ∧ Binds K fd ps [] ∧ FnOkG P w K mg base k f fd ps (toSp K sp)
theorem we_callG (F : CalG X.prog X.w X.K X.mg X.base k x sp) (hgd : X.A.guards = some []) (hr : Room k X.A) (ha : WA X (e :: es) t) (hg : Gl X x := by rfl) (hdb : (x == ("__debug__" : Str)) = false := by decide) (he : starEach (e :: es) X.env = (false, eval e X.env) :: starEach es X.env := by rfl)
    (hpl : (backTo pos (starEach es X.env)).any (·.1) = false := by rfl) : WE X (.Call (.Name x p) (e :: es) [] pos) (wCall sp t) := by
  obtain ⟨f, fd, ps, hm, hk, hb, F⟩ := F.ex
  exact (pe_callG F hgd hr hg hm hk hb ha hdb he hpl).imp fun σ H Q ⟨ρ, G, P, env, sim, h, k⟩ => ⟨ρ, G, _, env, sim, h, fun ws G1 vs H1 h1 r1 s1 st1 => ⟨ws, G1, P, r1, s1, h1, k.step st1⟩⟩
end
theorem fun_okG {P : Program} {w : World} {K : PySem.W.Frag} {mg : Str → Option Value} {base : Heap} {x qual : Str} {st : Stmt} {f : Addr} {fd : FuncData} {N ps : List Str} {k : Nat} {sp : WSp} {t : WTS} (F : Fun K x qual st f fd) (S : FnScope N ps (defScope st))
    (hlen : ∀ ws G Q, sp ws G Q → ws.length = ps.length)
    (hwalk : ∀ (cdv : Value) (A : Around) (outer : List Env) (s : Shared) (H : Hp) (E : XK), A.guards = some [] → Room k (A.deeper (envOfC qual (defScope st) s.heap.objs.size f cdv)) → WSs (cxOf CX0 P w K mg base N qual (defScope st) f cdv A outer s H E).nox (defBody st) t)
    (hpure : ∀ ws G Q, sp ws G Q → t { nx := fun _ G' => Q .non G', rt := Q } (startW N ws) G) : FnOkG P w K mg base (k + 1) f fd ps (toSp K sp) := by
  refine F.okG S (fun vs H Q E ⟨ws, G, P, r, sim, h, k⟩ => by rw [← r.length]; exact hlen _ _ _ h) (fun cdv A outer s H vs Q E hg hr ⟨ws, G, P, r, sim, h, k⟩ => ?_)
  refine ⟨_, hwalk cdv A outer s H E hg hr, startW N ws, G, _, .start r, sim, hpure ws G P h, ?_⟩
  exact ⟨fun ρ G' σ H' h' env' sim' st' => k _ _ _ _ h' .non sim' st', k, fun _ _ _ _ h => h.elim, fun _ _ _ _ h => h.elim⟩
end WL
namespace L2
open PySem PySem.Spec PyProof.Rows
/-- the top's call of the law's def, from a promise that holds where no repr is under way: once an abstract heap is chosen -/
theorem law_atG {P : Program} {w : World} {K : PySem.W.Frag} {mg mb : Str → Option Value} {k : Nat} {fa a : Addr} {fd : FuncData} {x : Str} {sp : Sp} {s₁ : Shared} {H : Hp} {xs : List V}
    (KX : K.In s₁.heap) (hns : s₁.heap.Ns mainGlobals mg) (hb : s₁.heap.Ns builtinsNs mb) (hbb : ∀ x : Str, x ≠ "__name__" → mb x = bootBuiltins x) (hlim : s₁.heap.NoLimit) (hg : s₁.gens = #[])
    (hr : Room k callerA) (F : ∀ base : Heap, K.In base → base.Ns mainGlobals mg → FnOkG P w K mg base k fa fd [x] sp) (hbind : ∀ (s : Shared) (u : Value), BindsTo s fd ⟨[u], []⟩ [(x, u)])
    (hok : HOk P w H s₁.heap) (hH : ∀ b, H b = none ∨ (b = a ∧ K.lookup a = none ∧ ∃ ob, H a = some (.frz ob (.lst xs)) ∧ ∃ ys, ob.data = .seq ys)) (hsp : sp [.ref a] H (fun v _ => v = .bl true) fun _ _ _ => False) :
    codeAny (model P w) callerA (.call (.ref fa) ⟨[.ref a], []⟩) (fun r s' => r = .ok (.ret (.bool true)) ∧ OldK s₁.heap s'.heap ∧ s'.os = s₁.os ∧ AllBare s'.gens) s₁ := by
  have dicts : ∀ {b : Addr} {o : Obj} {es : Array DictEntry} {ep : Nat}, s₁.heap.get? b = some o → o.data = .dict es ep → H b = none := fun {b o es ep} e d => (hH b).elim id fun ⟨eb, _, ob, h1, ys, h2⟩ => by
    subst eb
    have h3 := (hok b _ h1).1
    rw [e] at h3
    cases h3
    rw [h2] at d
    cases d
  have ns : ∀ {b : Addr} {m : Str → Option Value}, s₁.heap.Ns b m → (hidT s₁.heap H).Ns b m := fun {b m} ⟨o, es, ep, e, d, q⟩ => ⟨o, es, ep, hidT_get e (dicts e d), d, q⟩
  have kb : K.In (hidT s₁.heap H) := fun b o e => hidT_get (KX b o e) ((hH b).elim id fun ⟨eb, z, _⟩ => by subst eb; rw [z] at e; cases e)
  have md : Mod K mg (hidT s₁.heap H) := ⟨kb, ns hns, ⟨mb, ns hb, hbb⟩, hlim.elim fun mc hc => ⟨mc, ns hc.1, hc.2⟩⟩
  have e0 : Env0 P w K mg (hidT s₁.heap H) callerA [] s₁ H := ⟨rfl, md, fun b o e => of_hidT e, Nat.le_of_eq (hidT_size _ _), trivial, fun b q => absurd (show b ∈ ([] : List Addr) from q) (by simp), hok, .of_eq hg⟩
  refine codeAny_mono ((F _ kb (ns hns)).run callerA [] s₁ H ⟨[.ref a], []⟩ [.ref a] [.ref a] _ _ rfl hr e0 (hbind s₁ (.ref a)) (.cons rfl .nil) hsp) fun r s' h => ?_
  cases r with
  | error e => exact False.elim h
  | ok fl =>
    cases fl with
    | next => exact False.elim h
    | brk => exact False.elim h
    | cont => exact False.elim h
    | ret u =>
      obtain ⟨v, H', os, bare, un, hok', rv, q⟩ := h
      cases (show v = .bl true from q)
      cases (show u = Value.bool true from rv)
      refine ⟨rfl, .of_keep fun b o e => (hH b).elim (fun z => un.keep b o e z (fun q => absurd (show b ∈ ([] : List Addr) from q) (by simp)) (by simp)) fun ⟨eb, _, ob, h1, _⟩ => ?_, os, bare⟩
      subst eb
      have h3 := (hok b _ h1).1
      rw [e] at h3
      cases h3
      exact (hok' b _ (un.frzs b _ _ h1)).1
end L2
namespace WL
open PySem PySem.Spec PyProof.Rows L2
theorem walk_ofG {l : PySem.W.OpenLaw} {k : Nat} {q : Program} {loose : List Str} {XP : (Str → Option Value) → Heap → Prop} {YP : World → Heap → Prop} {d : DefRec} {K : Params → PySem.W.Frag} {x : Str} (hn : l.most = some 63) (hdf : d.params.defaults = []) (hr : Room k callerA)
    (hY : ∀ (w : World) (h : Heap), YP w h → (K w.params).In h)
    (F : ∀ (w : World) (mg : Str → Option Value) (fa : Addr) (h : Heap), (K w.params).In h → h.Ns mainGlobals mg → mg d.name = some (.ref fa) →
      ∃ fd : FuncData, (∀ (s : Shared) (u : Value), BindsTo s fd ⟨[u], []⟩ [(x, u)]) ∧ ∀ base : Heap, (K w.params).In base → base.Ns mainGlobals mg → FnOkG l.prog w (K w.params) mg base k fa fd [x] (toSp (K w.params) spL)) :
    PySem.W.WalkO q loose XP YP l.row.toRowW d [] (fun f vs => PySem.call f vs) := by
  refine Att.attach_call hn hdf fun w s₀ s₁ mg mb fa o pm cd doc a vs ns G Y ho hd hcd hmg hobj hints hlen hg => ?_
  have KX := hY w _ Y
  obtain ⟨fd, hb, hF⟩ := F w mg fa _ KX G.T.g hmg
  have rv := vals_ints hints
  have hz : (ns.map V.int).length ≤ sizeLine := by rw [List.length_map]; exact Nat.le_trans hlen (by decide)
  cases hk : (K w.params).lookup a with
  | some o' =>
    have e := KX a o' hk
    rw [hobj] at e
    cases e
    exact law_atG (a := a) (xs := []) (H := fun _ => none) KX G.T.g G.T.b G.T.builtins G.T.nolimit hg hr hF hb (fun b u z => nomatch z) (fun b => .inl rfl) (spL_of hlen (fun b => .inl rfl) (.inr ⟨_, vs.toArray, _, hk, rfl, rfl, rfl, by rw [List.size_toArray, hints.length]; exact Nat.le_trans hlen (by decide), by simpa using rv⟩))
  | none =>
    have same : ∀ b, (if b = a then some (HO.frz { cls := .type "list", data := .seq vs.toArray } (.lst (ns.map V.int))) else none) = none ∨ b = a := fun b => if h : b = a then .inr h else .inl (if_neg h)
    refine law_atG (a := a) (xs := ns.map V.int) (H := fun b => if b = a then some (.frz { cls := .type "list", data := .seq vs.toArray } (.lst (ns.map V.int))) else none) KX G.T.g G.T.b G.T.builtins G.T.nolimit hg hr hF hb (fun b u z => ?_) (fun b => ?_) (spL_of hlen (fun b => ?_) (.inl (.inr ⟨_, if_pos rfl⟩)))
    · rcases same b with h | h
      · cases h.symm.trans z
      · subst h
        cases (if_pos rfl).symm.trans z
        exact ⟨hobj, hz, vs, _, rv, hobj⟩
    · exact (same b).imp id fun h => ⟨h, hk, _, if_pos rfl, _, rfl⟩
    · rcases same b with h | h
      · exact .inl h
      · exact .inr ⟨_, _, if_pos h⟩
end WL
set_option Elab.async false
set_option linter.all false
set_option maxRecDepth 100000
set_option maxHeartbeats 1000000
/-! # == and != by an own __eq__ (the class has no __ne__ of its own), beside those of plain data -/
namespace L2
open PySem PySem.Spec PyProof.Rows PySem.W
/-- what a class must have so that != goes by its __eq__ -/
structure NeOk (K : PySem.W.Frag) (C : Addr) : Prop where
  ne : PySem.W.findIn K (.ref C) "__ne__" = some (some (.builtin "object.__ne__"))
  ob : PySem.W.subIn K (.ref C) (.type "object") = some true
section
variable {prog : Program} {w : World} {A : Around} {E : Value → Shared → Prop} {s : Shared} {K : PySem.W.Frag} {x C f : Addr} {ox : Obj} {od : Option Obj} {y : Value}
theorem ifBound_KB {M : Model} {name : Str} {id : String} {args : List Value} {Q : Option Value → Shared → Prop} (X : K.In s.heap) (I : PySem.W.InstAt s.heap x ox C od) (hs : PySem.W.findIn K (.ref C) name = some (some (.builtin id)))
    (hb : bindSpecial (.builtin id) (.ref x) = pure (.builtin id, [.ref x]))
    (h : wpAny M A (call (.builtin id) (.ref x :: args)) (fun v => Q (some v)) E s) : wpAny M A (callSpecialIfBound? (.ref x) name args) Q E s := by
  simp only [callSpecialIfBound?, bindSpecialIfBound?]
  refine wpAny_holding (wpAny_bind (wpAny_bind (wpAny_bind (I.type.here ((looks_findIn X hs).here ?_)))))
  refine wpAny_bind (wpAny_askSetting (wpAny_ite ?_))
  have fin : wpAny M A (call (.builtin id) ([.ref x] ++ args) >>= fun v => pure (some v)) Q E s := wpAny_bind (wpAny_mono h (fun v s' h' => wpAny_pure h') fun _ _ h' => h')
  simp only [hb]
  split
  · exact wpAny_bind (wpAny_pure (wpAny_pure fin))
  · exact wpAny_tryCatch (wpAny_bind (wpAny_pure (wpAny_pure fin)))
theorem check_ne {M : Model} {Q : Unit → Shared → Prop} (X : K.In s.heap) (I : PySem.W.InstAt s.heap x ox C od) (N : NeOk K C) (h : Q () s) : wpAny M A (checkBuiltinCall "object.__ne__" ⟨[.ref x, y], []⟩) Q E s := by
  simp only [checkBuiltinCall, F.cmpKind_ne, F.cmpSplit_ne]
  refine wpAny_bind ?_
  · unfold isInstance
    refine wpAny_bind (I.type.here ((looks_subIn X N.ob).here ?_))
    simp only [Bool.not_true, Bool.false_eq_true, if_false]
    repeat (first | with_reducible refine wpAny_pure ?_ | with_reducible refine wpAny_bind ?_ | wp_step)
    exact h
/-- x != y by the own __eq__ -/
theorem ne_K {h₀ : Heap} {L : Addr} {m : Str → Option Value} {tb : Value} {Q : Value → Shared → Prop} (hu : A.units + 1 < cLine) (F : Fr h₀ L s.heap m) (X₀ : K.In h₀) (I : PySem.W.InstAt s.heap x ox C od) (hb : Looks (model prog w) s.heap (typeOf y) tb) (hn : PySem.W.notFirst K C tb = true)
    (N : NeOk K C) (hs : PySem.W.findIn K (.ref C) "__eq__" = some (some (.ref f))) (hf : PySem.W.isFn K (.ref f) = true)
    (h : wpAny (model prog w) A.in1 (call (.ref f) [.ref x, y]) (fun v s' => ∃ b, v = .bool b ∧ Q (.bool (!b)) s') E s) : wpAny (model prog w) A (richCompare .NotEq (.ref x) y) Q E s := by
  have X := X₀.keeps F.keep
  have one : wpAny (model prog w) A (tryCompare (.ref x) "__ne__" y) (fun r s' => ∃ b, r = some (.bool b) ∧ Q (.bool b) s') E s := by
    unfold tryCompare
    refine wpAny_bind (ifBound_KB X I N.ne (PySem.F.cmp_object.ne.bind _) (wpAny_call (codeAny_call_builtin PySem.F.cmp_object.ne.plain PySem.F.cmpEntry_ne (check_ne X I N ?_))))
    have hu' : A.in1.units < cLine := hu
    show wpAny _ A.in1 (Builtin.«object.__ne__» ⟨[.ref x, y], []⟩) _ _ _
    unfold Builtin.«object.__ne__»
    repeat (first
      | with_reducible refine wpAny_cRoomFor hu' ?_
      | (refine wpAny_bind (m := callSpecialIfBound? (.ref x) (Str.ofString "__eq__") [y])
          (ifBound_K X I hs hf (wpAny_mono h (fun r s' hr => by
            obtain ⟨b, rfl, hq⟩ := hr
            repeat (first | exact wpAny_pure ⟨_, rfl, hq⟩ | exact ⟨_, rfl, hq⟩ | exact wpAny_truthy_bool hq | (refine wpAny_bind (m := truthy (.bool _)) (wpAny_truthy_bool ?_)) | wp_step)) fun _ _ e => e)))
      | wp_step)
  unfold richCompare
  simp only [oneThing_ref]
  refine wpAny_holding (wpAny_bind (wpAny_cRoomFor (Nat.lt_of_succ_lt hu) ?_))
  refine wpAny_bind (I.type.here (wpAny_bind (hb.here ?_)))
  have two : wpAny (model prog w) A (tryCompare (.ref x) "__ne__" y) (fun r s' => ∃ v, r = some v ∧ Q v s') E s := wpAny_mono one (fun r s' ⟨b, e, q⟩ => ⟨_, e, q⟩) fun _ _ e => e
  split
  · rename_i q
    have e : PySem.W.subIn K tb (.ref C) = some false := by
      rcases Bool.or_eq_true_iff.mp hn with e | e
      · rw [beq_iff_eq.mp e] at q; simp at q
      · exact beq_iff_eq.mp e
    refine wpAny_bind ((looks_subIn X e).here ?_)
    simp only [Bool.false_eq_true, if_false]
    refine wpAny_bind (wpAny_mono two (fun r s' z => ?_) fun _ _ e => e)
    obtain ⟨v, rfl, hq⟩ := z
    exact wpAny_pure hq
  · refine wpAny_bind (wpAny_pure ?_)
    simp only [Bool.false_eq_true, if_false]
    refine wpAny_bind (wpAny_mono two (fun r s' z => ?_) fun _ _ e => e)
    obtain ⟨v, rfl, hq⟩ := z
    exact wpAny_pure hq
end
end L2
namespace WL
open PySem PySem.Spec PyProof.Rows L2
noncomputable def own2 (C : Addr) (sp : WSp) (no : Bool) (x y : W) (G : WHp) (Q : WK) (other : Prop) : Prop := match x with
  | .ref p => match G p with
    | some (.ins D fs) => D = C ∧ ((∃ q gs, y = .ref q ∧ G q = some (.ins C gs)) ∨ ∃ ws, y = .tup ws) ∧ sp [x, y] G fun v G' => ∃ b, v = .bl b ∧ Q (.bl (b != no)) G'
    | _ => other
  | _ => other
noncomputable def eqMx (C : Addr) (sp : WSp) : W → W → WHp → WK → Prop := fun x y G Q => own2 C sp false x y G Q (eqW x y G Q)
noncomputable def neMx (C : Addr) (sp : WSp) : W → W → WHp → WK → Prop := fun x y G Q => own2 C sp true x y G Q (neW x y G Q)
theorem own2_get {C : Addr} {sp : WSp} {no : Bool} {x y : W} {G : WHp} {Q : WK} {o : Prop} (h : own2 C sp no x y G Q o) :
    o ∨ ∃ p fs, x = .ref p ∧ G p = some (.ins C fs) ∧ ((∃ q gs, y = .ref q ∧ G q = some (.ins C gs)) ∨ ∃ ws, y = .tup ws) ∧ sp [x, y] G fun v G' => ∃ b, v = .bl b ∧ Q (.bl (b != no)) G' := by
  unfold own2 at h
  split at h
  · rename_i p
    split at h
    · rename_i D fs e
      obtain ⟨rfl, h⟩ := h
      exact .inr ⟨p, fs, rfl, e, h⟩
    · exact .inl h
  · exact .inl h
theorem own2_of {C : Addr} {sp : WSp} {no : Bool} {p : Addr} {fs : List (Str × W)} {y : W} {G : WHp} {Q : WK} {o : Prop} (e : G p = some (.ins C fs)) (h : ((∃ q gs, y = .ref q ∧ G q = some (.ins C gs)) ∨ ∃ ws, y = .tup ws)) (hs : sp [.ref p, y] G fun v G' => ∃ b, v = .bl b ∧ Q (.bl (b != no)) G') : own2 C sp no (.ref p) y G Q o := by
  unfold own2
  show (match G p with
    | some (.ins D fs) => D = C ∧ ((∃ q gs, y = .ref q ∧ G q = some (.ins C gs)) ∨ ∃ ws, y = .tup ws) ∧ sp [.ref p, y] G fun v G' => ∃ b, v = .bl b ∧ Q (.bl (b != no)) G'
    | _ => o)
  rw [e]
  exact ⟨rfl, h, hs⟩
section
variable {X : Cx} {C : Addr} {k : Nat} {sp : WSp}
theorem not_first_tup {K : PySem.W.Frag} {C : Addr} : PySem.W.notFirst K C (.type "tuple") = true := by
  have e : PySem.W.subIn K (.type "tuple") (.ref C) = some false := by
    show (fastBuiltinMro "tuple").map (·.contains (Value.ref C)) = some false
    rw [show fastBuiltinMro "tuple" = some [.type "tuple", .type "object"] from by kernel_rfl]
    rfl
  unfold PySem.W.notFirst
  rw [e]
  simp
theorem other_looks {M : Model} {pins : List (Addr × Obj)} {σ : L2.St} {s : Shared} {H : Hp} {G : WHp} {y : W} {v : V} {u : Value} (I : Inv X pins σ H s) (sim : Sim X.K H G) (ry : Rw X.K H y v) (rv : RelV v u)
    (h : (∃ q gs, y = .ref q ∧ G q = some (.ins C gs)) ∨ ∃ ws, y = .tup ws) : ∃ tb, PySem.W.Looks M s.heap (typeOf u) tb ∧ PySem.W.notFirst X.K C tb = true := by
  rcases h with ⟨q, gs, rfl, eg⟩ | ⟨ws, rfl⟩
  · cases ry
    cases rv
    obtain ⟨dy, us, ev, rs⟩ := sim _ _ eg
    obtain ⟨mB, J, _⟩ := ins_get I.hok ev
    obtain ⟨od, J, _⟩ := J.look
    exact ⟨_, J.type, by simp [PySem.W.notFirst]⟩
  · cases ry with
    | @tup p vs _ hp rs =>
      cases rv
      obtain ⟨its, r, ⟨o, h1, h2, _⟩, _⟩ := I.tuple hp
      exact ⟨_, h2 ▸ (PySem.W.Looks.ld h1).andThen .now, not_first_tup⟩
theorem op_mx (F : Met X.prog X.w X.K X.mg X.base k C "__eq__" sp) (hr : Room k X.A) (hu : X.A.units + 64 < cLine) : OpR X (compareOp .Eq) (lift2 X.K (eqMx C sp)) := by
  intro pins s σ H x y v u Q I rx ry h
  obtain ⟨wx, wy, G, P, rwx, rwy, sim, h, k⟩ := h
  rcases own2_get h with h | ⟨p, fs, rfl, eg, ho, h⟩
  · exact opw_eq hu pins s σ H x y v u Q I rx ry ⟨wx, wy, G, P, rwx, rwy, sim, h, k⟩
  obtain ⟨tb, hb, hn⟩ := other_looks (M := model X.prog X.w) (C := C) I sim rwy ry ho
  have rwx' := rwx
  cases rwx
  obtain ⟨dx, vs, ev, rs⟩ := sim _ _ eg
  have rx' := rx
  cases rx
  obtain ⟨f, fd, ps, hc, hM, hb', F⟩ := F.ex
  obtain ⟨mA, J, _⟩ := ins_get I.hok ev
  obtain ⟨od, J, _⟩ := J.look
  obtain ⟨m, hF⟩ := I.fr
  refine PySem.W.cmp_K (op := .Eq) (tb := tb) hr.units0 hF I.ok.mod.kin J hb hn hM.at_ hM.fn ?_
  refine wpAny_mono (run_fn (vs := [.ref p, y]) (Q := fun v H' => ∃ b, v = .bl b ∧ Q v H') F hr hb' .nil pass0 I (.cons rx' (.cons ry .nil)) ⟨[.ref p, wy], G, _, .cons rwx' (.cons rwy .nil), sim, h, fun w G' v H' hw r s' st => ?_⟩) (fun r s' hq => ?_) fun _ _ e => e
  · obtain ⟨b, rfl, hq⟩ := hw
    cases r
    rw [Bool.bne_false] at hq
    exact ⟨b, rfl, k _ _ _ _ hq (.bl b) s' st⟩
  · obtain ⟨z, H', I', rz, b, rfl, q⟩ := hq
    cases rz
    exact ⟨.bl b, H', I', rfl, q⟩
theorem op_nemx (F : Met X.prog X.w X.K X.mg X.base k C "__eq__" sp) (N : NeOk X.K C) (hr : Room (k + 1) X.A) (hu : X.A.units + 64 < cLine) : OpR X (compareOp .NotEq) (lift2 X.K (neMx C sp)) := by
  intro pins s σ H x y v u Q I rx ry h
  obtain ⟨wx, wy, G, P, rwx, rwy, sim, h, k⟩ := h
  rcases own2_get h with h | ⟨p, fs, rfl, eg, ho, h⟩
  · exact opw_ne hu pins s σ H x y v u Q I rx ry ⟨wx, wy, G, P, rwx, rwy, sim, h, k⟩
  obtain ⟨tb, hb, hn⟩ := other_looks (M := model X.prog X.w) (C := C) I sim rwy ry ho
  have rwx' := rwx
  cases rwx
  obtain ⟨dx, vs, ev, rs⟩ := sim _ _ eg
  have rx' := rx
  cases rx
  obtain ⟨f, fd, ps, hc, hM, hb', F⟩ := F.ex
  obtain ⟨mA, J, _⟩ := ins_get I.hok ev
  obtain ⟨od, J, _⟩ := J.look
  obtain ⟨m, hF⟩ := I.fr
  refine ne_K (tb := tb) (Nat.lt_of_le_of_lt (Nat.add_le_add_left (by decide : 1 ≤ 64) _) hu) hF I.ok.mod.kin J hb hn N hM.at_ hM.fn ?_
  have hsp : toSp X.K sp [.ref p, y] H (fun v H' => ∃ b, v = .bl b ∧ Q (.bl (!b)) H') E0 := ⟨[.ref p, wy], G, _, .cons rwx' (.cons rwy .nil), sim, h, fun w G' v H' hw r s' st => by
    obtain ⟨b, rfl, hq⟩ := hw
    cases r
    rw [Bool.bne_true] at hq
    exact ⟨b, rfl, k _ _ _ _ hq (.bl _) s' st⟩⟩
  have hl := F.len _ _ _ _ hsp
  have r2 : Vals [V.ref p, y] [Value.ref p, u] := .cons rx' (.cons ry .nil)
  refine wpAny_call (codeAny_mono (F.run X.A.in1 X.stack s H ⟨[.ref p, u], []⟩ [.ref p, u] [.ref p, y] _ E0 hr.in1 I.env0.in1 (by
    have := hb' s [.ref p, u] I.kIn (by simpa using hl)
    simpa using this) r2 hsp) fun r s' hq => ?_)
  cases r with
  | error e => exact False.elim hq
  | ok fl =>
    cases fl with
    | ret w =>
      obtain ⟨z, H', I', rz, b, rfl, q⟩ := I.after hq
      cases rz
      exact ⟨b, rfl, .bl _, H', I', rfl, q⟩
    | next => exact False.elim hq
    | brk => exact False.elim hq
    | cont => exact False.elim hq
end
end WL
set_option Elab.async false
set_option linter.all false
set_option maxRecDepth 100000
set_option maxHeartbeats 1000000
/-! # data that repr shows, built up -/
namespace WL
open PySem PySem.Spec PyProof.Rows L2
/-- data at most so deep and heavy, of short leaves, with no dict -/
structure ShB (dep w : Nat) (d : PyData) : Prop where
  deep : d.depth ≤ dep
  sh : d.showable = true
  nd : d.hasDict = false
  sl : d.leavesShort 13 = true
  wt : d.weight ≤ w
theorem ShB.ok {dep w : Nat} {d : PyData} (h : ShB dep w d) (h1 : dep ≤ 40) (h2 : w ≤ 2 ^ 20) : ShOk d :=
  ⟨Nat.le_trans h.deep h1, h.sh, h.nd, PyData.shown_fits (B := 13) (by decide) (by decide) h.sl (Nat.le_trans h.wt h2)⟩
theorem ShB.non : ShB 0 0 .none := ⟨Nat.le_refl _, by simp [PyData.showable], by simp [PyData.hasDict], by simp [PyData.leavesShort], by simp [PyData.weight]⟩
theorem ShB.bl {b : Bool} : ShB 0 0 (.bool b) := ⟨Nat.le_refl _, by simp [PyData.showable], by simp [PyData.hasDict], by simp [PyData.leavesShort], by simp [PyData.weight]⟩
theorem ShB.int {i : Int} (h : i.natAbs < 10 ^ 12) : ShB 0 64 (.int i) := by
  have hl : i.natAbs.log2 < 64 := by
    by_cases h0 : i.natAbs = 0
    · rw [h0]; decide
    · exact (Nat.log2_lt h0).mpr (Nat.lt_trans h (by decide))
  refine ⟨Nat.le_refl _, ?_, by simp [PyData.hasDict], ?_, ?_⟩
  · simp only [PyData.showable]; exact decide_eq_true (by omega)
  · simp only [PyData.leavesShort]; exact decide_eq_true (PyData.shown_int_le h)
  · simp only [PyData.weight]
    split <;> omega
theorem ShB.nat {n : Nat} (h : n < 10 ^ 12) : ShB 0 64 (.int (n : Int)) := .int (by rw [Int.natAbs_natCast]; exact h)
theorem ShB.str {x : Str} (h : x.cps.toList.all (fun c => decide (c < 16 ^ 8)) = true) : ShB 0 x.cps.size (.str x) :=
  ⟨Nat.le_refl _, by simp [PyData.showable], by simp [PyData.hasDict], by simp only [PyData.leavesShort]; exact h, by simp [PyData.weight]⟩
theorem ShB.all {dep w : Nat} : ∀ {ds : List PyData}, (∀ d ∈ ds, ShB dep w d) → PyData.depthAll ds ≤ dep ∧ PyData.showableAll ds = true ∧ PyData.hasDictAll ds = false ∧ PyData.leavesShortAll 13 ds = true ∧ PyData.weightAll ds ≤ ds.length * (w + 1)
  | [], _ => ⟨by simp [PyData.depthAll], by simp [PyData.showableAll], by simp [PyData.hasDictAll], by simp [PyData.leavesShortAll], by simp [PyData.weightAll]⟩
  | d :: ds, h => by
    obtain ⟨a1, a2, a3, a4, a5⟩ := ShB.all (ds := ds) fun x hx => h x (by simp [hx])
    have b := h d (by simp)
    refine ⟨?_, ?_, ?_, ?_, ?_⟩
    · simp only [PyData.depthAll]; exact Nat.max_le.mpr ⟨b.deep, a1⟩
    · simp only [PyData.showableAll]; rw [b.sh, a2]; rfl
    · simp only [PyData.hasDictAll]; rw [b.nd, a3]; rfl
    · simp only [PyData.leavesShortAll]; rw [b.sl, a4]; rfl
    · simp only [PyData.weightAll, List.length_cons]
      have := b.wt
      rw [Nat.succ_mul]
      omega
theorem ShB.tup {dep w : Nat} {ds : List PyData} (h : ∀ d ∈ ds, ShB dep w d) : ShB (dep + 1) (ds.length * (w + 1)) (.tuple ds) := by
  obtain ⟨a1, a2, a3, a4, a5⟩ := ShB.all h
  exact ⟨by simp only [PyData.depth]; omega, by simp only [PyData.showable]; exact a2, by simp only [PyData.hasDict]; exact a3, by simp only [PyData.leavesShort]; exact a4, by simp only [PyData.weight]; exact a5⟩
theorem ShB.lst {dep w : Nat} {ds : List PyData} (h : ∀ d ∈ ds, ShB dep w d) : ShB (dep + 1) (ds.length * (w + 1)) (.list ds) := by
  obtain ⟨a1, a2, a3, a4, a5⟩ := ShB.all h
  exact ⟨by simp only [PyData.depth]; omega, by simp only [PyData.showable]; exact a2, by simp only [PyData.hasDict]; exact a3, by simp only [PyData.leavesShort]; exact a4, by simp only [PyData.weight]; exact a5⟩
theorem ShB.mono {dep dep' w w' : Nat} {d : PyData} (h : ShB dep w d) (h1 : dep ≤ dep') (h2 : w ≤ w') : ShB dep' w' d := ⟨Nat.le_trans h.deep h1, h.sh, h.nd, h.sl, Nat.le_trans h.wt h2⟩
/-- lists of numbers -/
theorem ShB.nats {l : List Nat} (h : ∀ n ∈ l, n < 10 ^ 12) : ShB 1 (l.length * 65) (.tuple (l.map fun (n : Nat) => .int (n : Int))) := by
  have := ShB.tup (dep := 0) (w := 64) (ds := l.map fun (n : Nat) => PyData.int (n : Int)) fun d hd => by
    obtain ⟨n, hn, rfl⟩ := List.mem_map.mp hd
    exact .nat (h n hn)
  rw [List.length_map] at this
  exact this
/-- what a tuple of tuples is as data -/
theorem dws_map {α : Type} {G : WHp} {f : α → W} {g : α → PyData} : ∀ {l : List α}, (∀ x ∈ l, Dw G (f x) (g x)) → Dws G (l.map f) (l.map g)
  | [], _ => .nil
  | x :: l, h => .cons (h x (by simp)) (dws_map fun y hy => h y (by simp [hy]))
/-- repr(a) == repr(b) -/
theorem is_repr {a b : W} {da db : PyData} {G : WHp} {Q : WK} (ha : Dw G a da) (hb : Dw G b db) (sa : ShOk da) (sb : ShOk db) (q : Q (.bl (decide (da.shown = db.shown))) G) :
    reprGW a G (fun x G1 => reprGW b G1 fun y G2 => eqW x y G2 Q) := ⟨da, ha, sa, db, hb, sb, q⟩
end WL
set_option Elab.async false
set_option linter.all false
set_option maxRecDepth 100000
set_option maxHeartbeats 1000000
namespace K54
open PySem PySem.Spec PyProof.Rows L2 WL
open PySem PySem.Spec PyProof.Rows L2 WL
noncomputable def top (i : Nat) : Stmt := PySem.Challenge.pw_oneroommore_k54_whole_least_rooms_of_web.main.body.getD i (.Pass ⟨0, 0, 0, 0⟩)
/-- what the walks ask of the top -/
structure Tx (K : PySem.W.Frag) (mg : Str → Option Value) (C_Web : Addr) : Prop where
  it : True := trivial
  n_abs : mg "abs" = none
  n_all : mg "all" = none
  n_bool : mg "bool" = none
  n_enumerate : mg "enumerate" = none
  n_int : mg "int" = none
  n_isinstance : mg "isinstance" = none
  n_len : mg "len" = none
  n_list : mg "list" = none
  n_range : mg "range" = none
  n_repr : mg "repr" = none
  n_set : mg "set" = none
  n_sorted : mg "sorted" = none
  n_sum : mg "sum" = none
  n_tuple : mg "tuple" = none
  c_MOST_THINGS : ∃ t, mg "MOST_THINGS" = some (.int 10 t)
  k_Web : Cls K C_Web
  a_Web_reads : NoAttr K C_Web "reads"
  ne_Web : NeOk K C_Web
  i_Web : IsK K C_Web
  m_Web : mg "Web" = some (.ref C_Web)
section
variable {P : Program} {w : World} {K : PySem.W.Frag} {mg : Str → Option Value} {base : Heap} {k : Nat} {C_Web : Addr}
/-! ### is_integer: slots 0 thing -/
noncomputable abbrev st_is_integer : Stmt := top 4
theorem sc_is_integer : FnScope ["thing"] ["thing"] (defScope st_is_integer) := ⟨rfl, rfl, rfl, by decide +kernel, rfl, by decide +kernel, by decide +kernel⟩
noncomputable def rd_is_integer : WTS :=
 (wRet (wAnd (wApp (two isiW) (wCons (wV 0) (wCons (wC (.ty "int")) wNil))) (wNot (wApp (two isiW) (wCons (wV 0) (wCons (wC (.ty "bool")) wNil))))))
theorem wk_is_integer (T : Tx K mg C_Web) (f : Addr) (cdv : Value) (A : Around) (outer : List Env) (s : Shared) (H : Hp) (E : XK) (hr : Room (k + 1) (A.deeper (envOfC "is_integer" (defScope st_is_integer) s.heap.objs.size f cdv))) :
    WSs (cxOf CX0 P w K mg base ["thing"] "is_integer" (defScope st_is_integer) f cdv A outer s H E).nox (defBody st_is_integer) (rd_is_integer) :=
 (wss_one (ws_ret (we_and (we_callB cw_isi T.n_isinstance boot_isinstance (wa_cons (we_v 0) (wa_cons (we_ty T.n_int boot_int) wa_nil))) (we_one (we_not (we_callB cw_isi T.n_isinstance boot_isinstance (wa_cons (we_v 0) (wa_cons (we_ty T.n_bool boot_bool) wa_nil))))))))
/-! ### is_within: slots 0 thing, 1 least, 2 most -/
noncomputable abbrev st_is_within : Stmt := top 5
theorem sc_is_within : FnScope ["thing", "least", "most"] ["thing", "least", "most"] (defScope st_is_within) := ⟨rfl, rfl, rfl, by decide +kernel, rfl, by decide +kernel, by decide +kernel⟩
noncomputable def rd_is_within (sp_is_integer : WSp) : WTS :=
 (wRet (wAnd (wCall sp_is_integer (wCons (wV 0) wNil)) (wChain leW leW (wV 1) (wV 0) (wV 2))))
theorem wk_is_within (T : Tx K mg C_Web) {sp_is_integer : WSp} (F_is_integer : Cal P w K mg base (k + 1) "is_integer" sp_is_integer) (f : Addr) (cdv : Value) (A : Around) (outer : List Env) (s : Shared) (H : Hp) (E : XK) (hr : Room (k + 1) (A.deeper (envOfC "is_within" (defScope st_is_within) s.heap.objs.size f cdv))) :
    WSs (cxOf CX0 P w K mg base ["thing", "least", "most"] "is_within" (defScope st_is_within) f cdv A outer s H E).nox (defBody st_is_within) (rd_is_within sp_is_integer) :=
 (wss_one (ws_ret (we_and (we_call F_is_integer hr (wa_cons (we_v 0) wa_nil)) (we_one (we_chain opw_le opw_le (we_v 1) (we_v 0) (we_v 2))))))
/-! ### are_within: slots 0 thing, 1 least, 2 most, 3 item -/
noncomputable abbrev st_are_within : Stmt := top 6
theorem sc_are_within : FnScope ["thing", "least", "most", "item"] ["thing", "least", "most"] (defScope st_are_within) := ⟨rfl, rfl, rfl, by decide +kernel, rfl, by decide +kernel, by decide +kernel⟩
theorem nd_are_within : (["thing", "least", "most", "item"] : List Str).Nodup := by decide +kernel
noncomputable def rd_are_within (sp_is_within : WSp) : WTS :=
 (wRet (wAnd (wApp (two isiW) (wCons (wV 0) (wCons (wC (.ty "tuple")) wNil))) (wApp (one allW) (wCons (wLc (wSeqI (wV 0)) (.one 3) wYes (wCall sp_is_within (wCons (wV 3) (wCons (wV 1) (wCons (wV 2) wNil)))) [3]) wNil))))
theorem wk_are_within (T : Tx K mg C_Web) {sp_is_within : WSp} (F_is_within : Cal P w K mg base (k + 1) "is_within" sp_is_within) (f : Addr) (cdv : Value) (A : Around) (outer : List Env) (s : Shared) (H : Hp) (E : XK) (hr : Room (k + 1) (A.deeper (envOfC "are_within" (defScope st_are_within) s.heap.objs.size f cdv))) :
    WSs (cxOf CX0 P w K mg base ["thing", "least", "most", "item"] "are_within" (defScope st_are_within) f cdv A outer s H E).nox (defBody st_are_within) (rd_are_within sp_is_within) :=
 (wss_one (ws_ret (we_and (we_callB cw_isi T.n_isinstance boot_isinstance (wa_cons (we_v 0) (wa_cons (we_ty T.n_tuple boot_tuple) wa_nil))) (we_one (we_callB (cw_all rfl) T.n_all boot_all (wa_cons (we_lc (own := [("item", 3)]) (c := (.one 3)) rfl nd_are_within (wi_seq (we_v 0)) (blk_of (by kernel_rfl)) (by decide) (fun _ _ _ _ _ => pg_name nd_are_within (i := 3) rfl (by first | exact Or.inl rfl | exact Or.inr rfl)) (fun _ _ _ _ _ => wts_nil) (fun _ _ _ _ _ => (we_call F_is_within hr (wa_cons (we_v 3) (wa_cons (we_v 1) (wa_cons (we_v 2) wa_nil)))))) wa_nil))))))
/-! ### is_lot: slots 0 thing, 1 below -/
noncomputable abbrev st_is_lot : Stmt := top 7
theorem sc_is_lot : FnScope ["thing", "below"] ["thing", "below"] (defScope st_is_lot) := ⟨rfl, rfl, rfl, by decide +kernel, rfl, by decide +kernel, by decide +kernel⟩
noncomputable def rd_is_lot (sp_are_within : WSp) : WTS :=
 (wRet (wAnd (wCall sp_are_within (wCons (wV 0) (wCons (wC (.int 0)) (wCons (wOp subW (wV 1) (wC (.int 1))) wNil)))) (wOp eqW (wApp (one listW) (wCons (wV 0) wNil)) (wSortSet (wV 0)))))
theorem wk_is_lot (T : Tx K mg C_Web) {sp_are_within : WSp} (F_are_within : Cal P w K mg base (k + 1) "are_within" sp_are_within) (f : Addr) (cdv : Value) (A : Around) (outer : List Env) (s : Shared) (H : Hp) (E : XK) (hr : Room (k + 1) (A.deeper (envOfC "is_lot" (defScope st_is_lot) s.heap.objs.size f cdv))) :
    WSs (cxOf CX0 P w K mg base ["thing", "below"] "is_lot" (defScope st_is_lot) f cdv A outer s H E).nox (defBody st_is_lot) (rd_is_lot sp_are_within) :=
 (wss_one (ws_ret (we_and (we_call F_are_within hr (wa_cons (we_v 0) (wa_cons we_int (wa_cons (we_bin opw_sub (we_v 1) we_int) wa_nil)))) (we_one (we_cmp (opw_eq hr.units) (we_callTy (cw_list rfl) T.n_list boot_list (wa_cons (we_v 0) wa_nil)) (we_sortSet T.n_sorted T.n_set (we_v 0)))))))
/-! ### is_sized: slots 0 thing, 1 least, 2 most -/
noncomputable abbrev st_is_sized : Stmt := top 8
theorem sc_is_sized : FnScope ["thing", "least", "most"] ["thing", "least", "most"] (defScope st_is_sized) := ⟨rfl, rfl, rfl, by decide +kernel, rfl, by decide +kernel, by decide +kernel⟩
noncomputable def rd_is_sized : WTS :=
 (wRet (wAnd (wApp (two isiW) (wCons (wV 0) (wCons (wC (.ty "tuple")) wNil))) (wChain leW leW (wV 1) (wApp (one lenW) (wCons (wV 0) wNil)) (wV 2))))
theorem wk_is_sized (T : Tx K mg C_Web) (f : Addr) (cdv : Value) (A : Around) (outer : List Env) (s : Shared) (H : Hp) (E : XK) (hr : Room (k + 1) (A.deeper (envOfC "is_sized" (defScope st_is_sized) s.heap.objs.size f cdv))) :
    WSs (cxOf CX0 P w K mg base ["thing", "least", "most"] "is_sized" (defScope st_is_sized) f cdv A outer s H E).nox (defBody st_is_sized) (rd_is_sized) :=
 (wss_one (ws_ret (we_and (we_callB cw_isi T.n_isinstance boot_isinstance (wa_cons (we_v 0) (wa_cons (we_ty T.n_tuple boot_tuple) wa_nil))) (we_one (we_chain opw_le opw_le (we_v 1) (we_callB cw_len T.n_len boot_len (wa_cons (we_v 0) wa_nil)) (we_v 2))))))
/-! ### may_be_made: slots 0 web, 1 here, 2 thing, 3 other -/
noncomputable abbrev st_may_be_made : Stmt := top 12
theorem sc_may_be_made : FnScope ["web", "here", "thing", "other"] ["web", "here", "thing"] (defScope st_may_be_made) := ⟨rfl, rfl, rfl, by decide +kernel, rfl, by decide +kernel, by decide +kernel⟩
theorem nd_may_be_made : (["web", "here", "thing", "other"] : List Str).Nodup := by decide +kernel
noncomputable def rd_may_be_made (C_Web : Addr) : WTS :=
 (wRet (wAnd (wOp (inW true) (wV 2) (wV 1)) (wApp (one allW) (wCons (wLc (wSeqI (wOp ixW (wFld C_Web (wV 0) "reads") (wV 2))) (.one 3) wYes (wOp (inW false) (wV 3) (wV 1)) [3]) wNil))))
theorem wk_may_be_made (T : Tx K mg C_Web) (f : Addr) (cdv : Value) (A : Around) (outer : List Env) (s : Shared) (H : Hp) (E : XK) (hr : Room (k + 1) (A.deeper (envOfC "may_be_made" (defScope st_may_be_made) s.heap.objs.size f cdv))) :
    WSs (cxOf CX0 P w K mg base ["web", "here", "thing", "other"] "may_be_made" (defScope st_may_be_made) f cdv A outer s H E).nox (defBody st_may_be_made) (rd_may_be_made C_Web) :=
 (wss_one (ws_ret (we_and (we_cmp (opw_notin (hu65 hr)) (we_v 2) (we_v 1)) (we_one (we_callB (cw_all rfl) T.n_all boot_all (wa_cons (we_lc (own := [("other", 3)]) (c := (.one 3)) rfl nd_may_be_made (wi_seq (we_ix (hu_of hr) (we_fld T.k_Web T.a_Web_reads (we_v 0)) (we_v 2))) (blk_of (by kernel_rfl)) (by decide) (fun _ _ _ _ _ => pg_name nd_may_be_made (i := 3) rfl (by first | exact Or.inl rfl | exact Or.inr rfl)) (fun _ _ _ _ _ => wts_nil) (fun _ _ _ _ _ => (we_cmp (opw_in (hu65 hr)) (we_v 3) (we_v 1)))) wa_nil))))))
/-! ### behind_move: slots 0 web, 1 here, 2 move, 3 thing, 4 other -/
noncomputable abbrev st_behind_move : Stmt := top 13
theorem sc_behind_move : FnScope ["web", "here", "move", "thing", "other"] ["web", "here", "move"] (defScope st_behind_move) := ⟨rfl, rfl, rfl, by decide +kernel, rfl, by decide +kernel, by decide +kernel⟩
theorem nd_behind_move : (["web", "here", "move", "thing", "other"] : List Str).Nodup := by decide +kernel
noncomputable def rd_behind_move (C_Web : Addr) (sp_may_be_made : WSp) : WTS :=
 (wSeq (wSet 3 (wOp ixW (wV 2) (wC (.int 1))))
 (wSeq (wIfS (wTest (wOp eqW (wOp ixW (wV 2) (wC (.int 0))) (wC (.str "clear"))))
 (wRet (wIf (wTest (wOp (inW false) (wV 3) (wV 1))) (wApp (one tupW) (wCons (wLc (wSeqI (wV 1)) (.one 4) (wTest (wOp neW (wV 4) (wV 3))) (wV 4) [4]) wNil)) (wC .non)))
 wNext)
 (wSeq (wIfS (wNotT (wTest (wCall sp_may_be_made (wCons (wV 0) (wCons (wV 1) (wCons (wV 3) wNil))))))
 (wRet (wC .non))
 wNext)
 (wSeq (wIfS (wTest (wOp eqW (wOp ixW (wV 2) (wC (.int 0))) (wC (.str "fill"))))
 (wRet (wApp (one tupW) (wCons (wApp (one sortTW) (wCons (wOp addW (wV 1) (wTup (wCons (wV 3) wNil))) wNil)) wNil)))
 wNext)
 (wSeq (wIfS (wTest (wOp (inW true) (wOp ixW (wV 2) (wC (.int 2))) (wOp ixW (wFld C_Web (wV 0) "reads") (wV 3))))
 (wRet (wC .non))
 wNext)
 (wRet (wApp (one tupW) (wCons (wApp (one sortTW) (wCons (wOp addW (wLc (wSeqI (wV 1)) (.one 4) (wTest (wOp neW (wV 4) (wOp ixW (wV 2) (wC (.int 2))))) (wV 4) [4]) (wLst (wCons (wV 3) wNil))) wNil)) wNil))))))))
theorem wk_behind_move (T : Tx K mg C_Web) {sp_may_be_made : WSp} (F_may_be_made : Cal P w K mg base (k + 1) "may_be_made" sp_may_be_made) (f : Addr) (cdv : Value) (A : Around) (outer : List Env) (s : Shared) (H : Hp) (E : XK) (hr : Room (k + 1) (A.deeper (envOfC "behind_move" (defScope st_behind_move) s.heap.objs.size f cdv))) :
    WSs (cxOf CX0 P w K mg base ["web", "here", "move", "thing", "other"] "behind_move" (defScope st_behind_move) f cdv A outer s H E).nox (defBody st_behind_move) (rd_behind_move C_Web sp_may_be_made) :=
 (wss_cons (ws_set nd_behind_move (i := 3) rfl (by first | exact Or.inl rfl | exact Or.inr rfl) (we_ix (hu_of hr) (we_v 2) we_int))
 (wss_cons (ws_if (wt_cmp (opw_eq hr.units) (we_ix (hu_of hr) (we_v 2) we_int) we_str)
 (wss_one (ws_ret (we_if (wt_cmp (opw_in (hu65 hr)) (we_v 3) (we_v 1)) (we_callTy cw_tuple T.n_tuple boot_tuple (wa_cons (we_lc (own := [("other", 4)]) (c := (.one 4)) rfl nd_behind_move (wi_seq (we_v 1)) (blk_of (by kernel_rfl)) (by decide) (fun _ _ _ _ _ => pg_name nd_behind_move (i := 4) rfl (by first | exact Or.inl rfl | exact Or.inr rfl)) (fun _ _ _ _ _ => wts_one (wt_cmp (opw_ne hr.units) (we_v 4) (we_v 3))) (fun _ _ _ _ _ => (we_v 4))) wa_nil)) we_non)))
 wss_nil)
 (wss_cons (ws_if (wt_not (wt_val (we_call F_may_be_made hr (wa_cons (we_v 0) (wa_cons (we_v 1) (wa_cons (we_v 3) wa_nil))))))
 (wss_one (ws_ret we_non))
 wss_nil)
 (wss_cons (ws_if (wt_cmp (opw_eq hr.units) (we_ix (hu_of hr) (we_v 2) we_int) we_str)
 (wss_one (ws_ret (we_callTy cw_tuple T.n_tuple boot_tuple (wa_cons (we_callB (cw_sortedX rfl) T.n_sorted boot_sorted (wa_cons (we_bin opw_add (we_v 1) (we_tup (wa_cons (we_v 3) wa_nil))) wa_nil)) wa_nil))))
 wss_nil)
 (wss_cons (ws_if (wt_cmp (opw_notin (hu65 hr)) (we_ix (hu_of hr) (we_v 2) we_int) (we_ix (hu_of hr) (we_fld T.k_Web T.a_Web_reads (we_v 0)) (we_v 3)))
 (wss_one (ws_ret we_non))
 wss_nil)
 (wss_one (ws_ret (we_callTy cw_tuple T.n_tuple boot_tuple (wa_cons (we_callB (cw_sortedX rfl) T.n_sorted boot_sorted (wa_cons (we_bin opw_add (we_lc (own := [("other", 4)]) (c := (.one 4)) rfl nd_behind_move (wi_seq (we_v 1)) (blk_of (by kernel_rfl)) (by decide) (fun _ _ _ _ _ => pg_name nd_behind_move (i := 4) rfl (by first | exact Or.inl rfl | exact Or.inr rfl)) (fun _ _ _ _ _ => wts_one (wt_cmp (opw_ne hr.units) (we_v 4) (we_ix (hu_of hr) (we_v 2) we_int))) (fun _ _ _ _ _ => (we_v 4))) (we_lst (wa_cons (we_v 3) wa_nil))) wa_nil)) wa_nil)))))))))
/-! ### moves_from: slots 0 web, 1 here, 2 rooms, 3 apart, 4 found, 5 thing, 6 other -/
noncomputable abbrev st_moves_from : Stmt := top 14
theorem sc_moves_from : FnScope ["web", "here", "rooms", "apart", "found", "thing", "other"] ["web", "here", "rooms", "apart"] (defScope st_moves_from) := ⟨rfl, rfl, rfl, by decide +kernel, rfl, by decide +kernel, by decide +kernel⟩
theorem nd_moves_from : (["web", "here", "rooms", "apart", "found", "thing", "other"] : List Str).Nodup := by decide +kernel
noncomputable def rd_moves_from (C_Web : Addr) (sp_may_be_made : WSp) : WTS :=
 (wSeq (wSet 4 (wLc (wSeqI (wV 1)) (.one 5) wYes (wTup (wCons (wC (.str "clear")) (wCons (wV 5) wNil))) [5]))
 (wSeq (wFor (wRng1 (wCons (wApp (one lenW) (wCons (wFld C_Web (wV 0) "reads") wNil)) wNil)) (wName 5)
 (wIfS (wTest (wCall sp_may_be_made (wCons (wV 0) (wCons (wV 1) (wCons (wV 5) wNil)))))
 (wSeq (wIfS (wTest (wOp ltW (wApp (one lenW) (wCons (wV 1) wNil)) (wV 2)))
 (wDrop (MdW appendW isLs (wV 4) (wCons (wTup (wCons (wC (.str "fill")) (wCons (wV 5) wNil))) wNil)))
 wNext)
 (wIfS (wNotT (wTest (wV 3)))
 (wDrop (MdW extendW isLs (wV 4) (wCons (wLc (wSeqI (wOp ixW (wFld C_Web (wV 0) "reads") (wV 5))) (.one 6) wYes (wTup (wCons (wC (.str "slide")) (wCons (wV 5) (wCons (wV 6) wNil)))) [6]) wNil)))
 wNext))
 wNext))
 (wRet (wV 4))))
theorem wk_moves_from (T : Tx K mg C_Web) {sp_may_be_made : WSp} (F_may_be_made : Cal P w K mg base (k + 1) "may_be_made" sp_may_be_made) (f : Addr) (cdv : Value) (A : Around) (outer : List Env) (s : Shared) (H : Hp) (E : XK) (hr : Room (k + 1) (A.deeper (envOfC "moves_from" (defScope st_moves_from) s.heap.objs.size f cdv))) :
    WSs (cxOf CX0 P w K mg base ["web", "here", "rooms", "apart", "found", "thing", "other"] "moves_from" (defScope st_moves_from) f cdv A outer s H E).nox (defBody st_moves_from) (rd_moves_from C_Web sp_may_be_made) :=
 (wss_cons (ws_setLc (own := [("thing", 5)]) (c := (.one 5)) rfl nd_moves_from (i := 4) rfl (by kernel_rfl) (by first | exact sw_true rfl rfl rfl rfl | exact sw_trueD rfl rfl rfl rfl) (wi_seq (we_v 1)) (blk_of (by kernel_rfl)) (by decide) (fun _ _ _ _ _ => pg_name nd_moves_from (i := 5) rfl (by first | exact Or.inl rfl | exact Or.inr rfl)) (fun _ _ _ _ _ => wts_nil) (fun _ _ _ _ _ => (we_tup (wa_cons we_str (wa_cons (we_v 5) wa_nil)))))
 (wss_cons (ws_for PassesOwn.never rfl (wi_rng1 T.n_range (wa_cons (we_callB cw_len T.n_len boot_len (wa_cons (we_fld T.k_Web T.a_Web_reads (we_v 0)) wa_nil)) wa_nil)) (wg_name nd_moves_from (i := 5) rfl (by first | exact Or.inl rfl | exact Or.inr rfl))
 (wss_one (ws_if (wt_val (we_call F_may_be_made hr (wa_cons (we_v 0) (wa_cons (we_v 1) (wa_cons (we_v 5) wa_nil)))))
 (wss_cons (ws_if (wt_cmp opw_lt (we_callB cw_len T.n_len boot_len (wa_cons (we_v 1) wa_nil)) (we_v 2))
 (wss_one (ws_expr (we_bm PySem.F.plainAttrs_list PySem.F.slot_list_append PySem.F.type_list_append ty_list mw_append (we_v 4) (wa_cons (we_tup (wa_cons we_str (wa_cons (we_v 5) wa_nil))) wa_nil))))
 wss_nil)
 (wss_one (ws_if (wt_not (wt_val (we_v 3)))
 (wss_one (ws_expr (we_bm PySem.F.plainAttrs_list PySem.F.slot_list_extend PySem.F.type_list_extend ty_list mw_extend (we_v 4) (wa_cons (we_lc (own := [("other", 6)]) (c := (.one 6)) rfl nd_moves_from (wi_seq (we_ix (hu_of hr) (we_fld T.k_Web T.a_Web_reads (we_v 0)) (we_v 5))) (blk_of (by kernel_rfl)) (by decide) (fun _ _ _ _ _ => pg_name nd_moves_from (i := 6) rfl (by first | exact Or.inl rfl | exact Or.inr rfl)) (fun _ _ _ _ _ => wts_nil) (fun _ _ _ _ _ => (we_tup (wa_cons we_str (wa_cons (we_v 5) (wa_cons (we_v 6) wa_nil)))))) wa_nil))))
 wss_nil)))
 wss_nil)))
 (wss_one (ws_ret (we_v 4)))))
/-! ### shortest_making: slots 0 web, 1 rooms, 2 apart, 3 goal, 4 ways, 5 waiting, 6 at, 7 here, 8 move, 9 there -/
noncomputable abbrev st_shortest_making : Stmt := top 15
theorem sc_shortest_making : FnScope ["web", "rooms", "apart", "goal", "ways", "waiting", "at", "here", "move", "there"] ["web", "rooms", "apart"] (defScope st_shortest_making) := ⟨rfl, rfl, rfl, by decide +kernel, rfl, by decide +kernel, by decide +kernel⟩
theorem nd_shortest_making : (["web", "rooms", "apart", "goal", "ways", "waiting", "at", "here", "move", "there"] : List Str).Nodup := by decide +kernel
noncomputable def rd_shortest_making (C_Web : Addr) (sp_moves_to : WSp) (sp_moves_from : WSp) (sp_behind_move : WSp) : WTS :=
 (wSeq (wSet 3 (wOp subW (wApp (one lenW) (wCons (wFld C_Web (wV 0) "reads") wNil)) (wC (.int 1))))
 (wSeq (wSet 4 (wDispN (wTup wNil) (wC .non)))
 (wSeq (wSet 5 (wLst (wCons (wTup wNil) wNil)))
 (wSeq (wSet 6 (wC (.int 0)))
 (wSeq (wWhile (wTest (wOp ltW (wV 6) (wApp (one lenW) (wCons (wV 5) wNil))))
 (wSeq (wSet 7 (wOp ixW (wV 5) (wV 6)))
 (wSeq (wAug 6 (wC (.int 1)) (fun a b => a + b))
 (wSeq (wIfS (wTest (wOp (inW false) (wV 3) (wV 7)))
 (wRet (wCall sp_moves_to (wCons (wV 4) (wCons (wV 7) wNil))))
 wNext)
 (wFor (wSeqI (wCall sp_moves_from (wCons (wV 0) (wCons (wV 7) (wCons (wV 1) (wCons (wV 2) wNil)))))) (wName 8)
 (wSeq (wSet 9 (wCall sp_behind_move (wCons (wV 0) (wCons (wV 7) (wCons (wV 8) wNil)))))
 (wIfS (wTest (wOp (inN true) (wV 9) (wV 4)))
 (wSeq (wAsg (wTup (wCons (wV 7) (wCons (wV 8) wNil))) (wgSubN (wV 4) (wV 9)))
 (wDrop (MdW appendW isLs (wV 5) (wCons (wV 9) wNil))))
 wNext)))))))
 (wRet (wC .non)))))))
theorem wk_shortest_making (T : Tx K mg C_Web) {sp_moves_to : WSp} {sp_moves_from : WSp} {sp_behind_move : WSp} (F_moves_to : Cal P w K mg base (k + 1) "moves_to" sp_moves_to) (F_moves_from : Cal P w K mg base (k + 1) "moves_from" sp_moves_from) (F_behind_move : Cal P w K mg base (k + 1) "behind_move" sp_behind_move) (f : Addr) (cdv : Value) (A : Around) (outer : List Env) (s : Shared) (H : Hp) (E : XK) (hr : Room (k + 1) (A.deeper (envOfC "shortest_making" (defScope st_shortest_making) s.heap.objs.size f cdv))) :
    WSs (cxOf CX0 P w K mg base ["web", "rooms", "apart", "goal", "ways", "waiting", "at", "here", "move", "there"] "shortest_making" (defScope st_shortest_making) f cdv A outer s H E).nox (defBody st_shortest_making) (rd_shortest_making C_Web sp_moves_to sp_moves_from sp_behind_move) :=
 (wss_cons (ws_set nd_shortest_making (i := 3) rfl (by first | exact Or.inl rfl | exact Or.inr rfl) (we_bin opw_sub (we_callB cw_len T.n_len boot_len (wa_cons (we_fld T.k_Web T.a_Web_reads (we_v 0)) wa_nil)) we_int))
 (wss_cons (ws_set nd_shortest_making (i := 4) rfl (by first | exact Or.inl rfl | exact Or.inr rfl) (we_dispN (hu65 hr) (we_tup wa_nil) we_non))
 (wss_cons (ws_set nd_shortest_making (i := 5) rfl (by first | exact Or.inl rfl | exact Or.inr rfl) (we_lst (wa_cons (we_tup wa_nil) wa_nil)))
 (wss_cons (ws_set nd_shortest_making (i := 6) rfl (by first | exact Or.inl rfl | exact Or.inr rfl) we_int)
 (wss_cons (ws_while PassesOwn.never (wt_cmp opw_lt (we_v 6) (we_callB cw_len T.n_len boot_len (wa_cons (we_v 5) wa_nil)))
 (wss_cons (ws_set nd_shortest_making (i := 7) rfl (by first | exact Or.inl rfl | exact Or.inr rfl) (we_ix (hu_of hr) (we_v 5) (we_v 6)))
 (wss_cons (ws_aug nd_shortest_making (i := 6) rfl (by first | exact Or.inl rfl | exact Or.inr rfl) we_int ip_add)
 (wss_cons (ws_if (wt_cmp (opw_in (hu65 hr)) (we_v 3) (we_v 7))
 (wss_one (ws_ret (we_call F_moves_to hr (wa_cons (we_v 4) (wa_cons (we_v 7) wa_nil)))))
 wss_nil)
 (wss_one (ws_for PassesOwn.never rfl (wi_seq (we_call F_moves_from hr (wa_cons (we_v 0) (wa_cons (we_v 7) (wa_cons (we_v 1) (wa_cons (we_v 2) wa_nil)))))) (wg_name nd_shortest_making (i := 8) rfl (by first | exact Or.inl rfl | exact Or.inr rfl))
 (wss_cons (ws_set nd_shortest_making (i := 9) rfl (by first | exact Or.inl rfl | exact Or.inr rfl) (we_call F_behind_move hr (wa_cons (we_v 0) (wa_cons (we_v 7) (wa_cons (we_v 8) wa_nil)))))
 (wss_one (ws_if (wt_cmp (opw_notinN (hu65 hr)) (we_v 9) (we_v 4))
 (wss_cons (ws_asg (we_tup (wa_cons (we_v 7) (wa_cons (we_v 8) wa_nil))) (wg_subN (hu65 hr) (we_v 4) (we_v 9)))
 (wss_one (ws_expr (we_bm PySem.F.plainAttrs_list PySem.F.slot_list_append PySem.F.type_list_append ty_list mw_append (we_v 5) (wa_cons (we_v 9) wa_nil)))))
 wss_nil)))))))))
 (wss_one (ws_ret we_non)))))))
/-! ### moves_to: slots 0 ways, 1 here, 2 found, 3 move -/
noncomputable abbrev st_moves_to : Stmt := top 16
theorem sc_moves_to : FnScope ["ways", "here", "found", "move"] ["ways", "here"] (defScope st_moves_to) := ⟨rfl, rfl, rfl, by decide +kernel, rfl, by decide +kernel, by decide +kernel⟩
theorem nd_moves_to : (["ways", "here", "found", "move"] : List Str).Nodup := by decide +kernel
noncomputable def rd_moves_to : WTS :=
 (wSeq (wSet 2 (wLst wNil))
 (wSeq (wWhile (wTest (wOp notNW (wOp ixN' (wV 0) (wV 1)) (wC .non)))
 (wSeq (wAsg (wOp ixN' (wV 0) (wV 1)) (wNames [1, 3]))
 (wDrop (MdW appendW isLs (wV 2) (wCons (wV 3) wNil)))))
 (wRet (wApp (one tupW) (wCons (wRev (wV 2)) wNil)))))
theorem wk_moves_to (T : Tx K mg C_Web) (f : Addr) (cdv : Value) (A : Around) (outer : List Env) (s : Shared) (H : Hp) (E : XK) (hr : Room (k + 1) (A.deeper (envOfC "moves_to" (defScope st_moves_to) s.heap.objs.size f cdv))) :
    WSs (cxOf CX0 P w K mg base ["ways", "here", "found", "move"] "moves_to" (defScope st_moves_to) f cdv A outer s H E).nox (defBody st_moves_to) (rd_moves_to) :=
 (wss_cons (ws_set nd_moves_to (i := 2) rfl (by first | exact Or.inl rfl | exact Or.inr rfl) (we_lst wa_nil))
 (wss_cons (ws_while PassesOwn.never (wt_cmp opw_isnot (we_ixN (hu65 hr) (we_v 0) (we_v 1)) we_non)
 (wss_cons (ws_asg (we_ixN (hu65 hr) (we_v 0) (we_v 1)) (wg_names (is := [1, 3]) rfl (pgs_cons (pg_name nd_moves_to (i := 1) rfl (by first | exact Or.inl rfl | exact Or.inr rfl)) (pgs_cons (pg_name nd_moves_to (i := 3) rfl (by first | exact Or.inl rfl | exact Or.inr rfl)) pgs_nil)) rfl))
 (wss_one (ws_expr (we_bm PySem.F.plainAttrs_list PySem.F.slot_list_append PySem.F.type_list_append ty_list mw_append (we_v 2) (wa_cons (we_v 3) wa_nil))))))
 (wss_one (ws_ret (we_callTy cw_tuple T.n_tuple boot_tuple (wa_cons (we_rev (we_v 2)) wa_nil))))))
/-! ### least_rooms: slots 0 web, 1 apart, 2 rooms -/
noncomputable abbrev st_least_rooms : Stmt := top 17
theorem sc_least_rooms : FnScope ["web", "apart", "rooms"] ["web", "apart"] (defScope st_least_rooms) := ⟨rfl, rfl, rfl, by decide +kernel, rfl, by decide +kernel, by decide +kernel⟩
theorem nd_least_rooms : (["web", "apart", "rooms"] : List Str).Nodup := by decide +kernel
noncomputable def rd_least_rooms (sp_shortest_making : WSp) : WTS :=
 (wSeq (wSet 2 (wC (.int 1)))
 (wSeq (wWhile (wTest (wOp isNW (wCall sp_shortest_making (wCons (wV 0) (wCons (wV 2) (wCons (wV 1) wNil)))) (wC .non)))
 (wAug 2 (wC (.int 1)) (fun a b => a + b)))
 (wRet (wV 2))))
theorem wk_least_rooms (T : Tx K mg C_Web) {sp_shortest_making : WSp} (F_shortest_making : Cal P w K mg base (k + 1) "shortest_making" sp_shortest_making) (f : Addr) (cdv : Value) (A : Around) (outer : List Env) (s : Shared) (H : Hp) (E : XK) (hr : Room (k + 1) (A.deeper (envOfC "least_rooms" (defScope st_least_rooms) s.heap.objs.size f cdv))) :
    WSs (cxOf CX0 P w K mg base ["web", "apart", "rooms"] "least_rooms" (defScope st_least_rooms) f cdv A outer s H E).nox (defBody st_least_rooms) (rd_least_rooms sp_shortest_making) :=
 (wss_cons (ws_set nd_least_rooms (i := 2) rfl (by first | exact Or.inl rfl | exact Or.inr rfl) we_int)
 (wss_cons (ws_while PassesOwn.never (wt_cmp opw_is (we_call F_shortest_making hr (wa_cons (we_v 0) (wa_cons (we_v 2) (wa_cons (we_v 1) wa_nil)))) we_non)
 (wss_one (ws_aug nd_least_rooms (i := 2) rfl (by first | exact Or.inl rfl | exact Or.inr rfl) we_int ip_add)))
 (wss_one (ws_ret (we_v 2)))))
/-! ### least_any: slots 0 web -/
noncomputable abbrev st_least_any : Stmt := top 18
theorem sc_least_any : FnScope ["web"] ["web"] (defScope st_least_any) := ⟨rfl, rfl, rfl, by decide +kernel, rfl, by decide +kernel, by decide +kernel⟩
noncomputable def rd_least_any (sp_least_rooms : WSp) : WTS :=
 (wRet (wCall sp_least_rooms (wCons (wV 0) (wCons (wC (.bl false)) wNil))))
theorem wk_least_any (T : Tx K mg C_Web) {sp_least_rooms : WSp} (F_least_rooms : Cal P w K mg base (k + 1) "least_rooms" sp_least_rooms) (f : Addr) (cdv : Value) (A : Around) (outer : List Env) (s : Shared) (H : Hp) (E : XK) (hr : Room (k + 1) (A.deeper (envOfC "least_any" (defScope st_least_any) s.heap.objs.size f cdv))) :
    WSs (cxOf CX0 P w K mg base ["web"] "least_any" (defScope st_least_any) f cdv A outer s H E).nox (defBody st_least_any) (rd_least_any sp_least_rooms) :=
 (wss_one (ws_ret (we_call F_least_rooms hr (wa_cons (we_v 0) (wa_cons we_bl wa_nil)))))
/-! ### _law_pool: slots 0 _law_script, 1 _law_great, 2 _law_small, 3 _law_cell -/
noncomputable abbrev st_law_pool : Stmt := top 20
theorem sc_law_pool : FnScope ["_law_script", "_law_great", "_law_small", "_law_cell"] ["_law_script"] (defScope st_law_pool) := ⟨rfl, rfl, rfl, by decide +kernel, rfl, by decide +kernel, by decide +kernel⟩
theorem nd_law_pool : (["_law_script", "_law_great", "_law_small", "_law_cell"] : List Str).Nodup := by decide +kernel
noncomputable def rd_law_pool : WTS :=
 (wSeq (wSet 1 (wLc (wSeqI (wSl (wV 0) wNoPart (wPart (wC (.int 63))))) (.one 3) (wTest (wOp geW (wApp (one absW) (wCons (wV 3) wNil)) (wOp powW (wC (.int 10)) (wC (.int 18))))) (wApp (one absW) (wCons (wV 3) wNil)) [3]))
 (wSeq (wSet 2 (wLc (wSeqI (wSl (wV 0) wNoPart (wPart (wC (.int 63))))) (.one 3) (wTest (wOp ltW (wApp (one absW) (wCons (wV 3) wNil)) (wOp powW (wC (.int 10)) (wC (.int 18))))) (wOp modW (wApp (one intW) (wCons (wV 3) wNil)) (wC (.int 1000003))) [3]))
 (wRet (wLst (wCons (wV 1) (wCons (wV 2) (wCons (wC (.int 0)) (wCons (wC (.int 0)) wNil))))))))
theorem wk_law_pool (T : Tx K mg C_Web) (f : Addr) (cdv : Value) (A : Around) (outer : List Env) (s : Shared) (H : Hp) (E : XK) (hr : Room (k + 1) (A.deeper (envOfC "_law_pool" (defScope st_law_pool) s.heap.objs.size f cdv))) :
    WSs (cxOf CX0 P w K mg base ["_law_script", "_law_great", "_law_small", "_law_cell"] "_law_pool" (defScope st_law_pool) f cdv A outer s H E).nox (defBody st_law_pool) (rd_law_pool) :=
 (wss_cons (ws_setLc (own := [("_law_cell", 3)]) (c := (.one 3)) rfl nd_law_pool (i := 1) rfl (by kernel_rfl) (by first | exact sw_true rfl rfl rfl rfl | exact sw_trueD rfl rfl rfl rfl) (wi_seq (we_slice (we_v 0) wo_none (wo_some we_int))) (blk_of (by kernel_rfl)) (by decide) (fun _ _ _ _ _ => pg_name nd_law_pool (i := 3) rfl (by first | exact Or.inl rfl | exact Or.inr rfl)) (fun _ _ _ _ _ => wts_one (wt_cmp opw_ge (we_callB cw_abs T.n_abs boot_abs (wa_cons (we_v 3) wa_nil)) (we_bin opw_pow we_int we_int))) (fun _ _ _ _ _ => (we_callB cw_abs T.n_abs boot_abs (wa_cons (we_v 3) wa_nil))))
 (wss_cons (ws_setLc (own := [("_law_cell", 3)]) (c := (.one 3)) rfl nd_law_pool (i := 2) rfl (by kernel_rfl) (by first | exact sw_true rfl rfl rfl rfl | exact sw_trueD rfl rfl rfl rfl) (wi_seq (we_slice (we_v 0) wo_none (wo_some we_int))) (blk_of (by kernel_rfl)) (by decide) (fun _ _ _ _ _ => pg_name nd_law_pool (i := 3) rfl (by first | exact Or.inl rfl | exact Or.inr rfl)) (fun _ _ _ _ _ => wts_one (wt_cmp opw_lt (we_callB cw_abs T.n_abs boot_abs (wa_cons (we_v 3) wa_nil)) (we_bin opw_pow we_int we_int))) (fun _ _ _ _ _ => (we_bin opw_mod (we_callTy cw_int T.n_int boot_int (wa_cons (we_v 3) wa_nil)) we_int)))
 (wss_one (ws_ret (we_lst (wa_cons (we_v 1) (wa_cons (we_v 2) (wa_cons we_int (wa_cons we_int wa_nil)))))))))
/-! ### _law_draw: slots 0 _law_pool_here, 1 _law_many, 2 _law_digit, 3 _law_cell, 4 _law_number -/
noncomputable abbrev st_law_draw : Stmt := top 21
theorem sc_law_draw : FnScope ["_law_pool_here", "_law_many", "_law_digit", "_law_cell", "_law_number"] ["_law_pool_here", "_law_many"] (defScope st_law_draw) := ⟨rfl, rfl, rfl, by decide +kernel, rfl, by decide +kernel, by decide +kernel⟩
theorem nd_law_draw : (["_law_pool_here", "_law_many", "_law_digit", "_law_cell", "_law_number"] : List Str).Nodup := by decide +kernel
noncomputable def rd_law_draw : WTS :=
 (wSeq (wIfS (wAndT (wTest (wOp leW (wOp ixW (wV 0) (wC (.int 2))) (wC (.int 1)))) (wTest (wOp gtW (wApp (one lenW) (wCons (wOp ixW (wV 0) (wC (.int 0))) wNil)) (wC (.int 0)))))
 (wSeq (wAsg (wOp ixW (wOp ixW (wV 0) (wC (.int 0))) (wC (.int 0))) (wgSub (wV 0) (wC (.int 2))))
 (wAsg (wSl (wOp ixW (wV 0) (wC (.int 0))) (wPart (wC (.int 1))) wNoPart) (wgSub (wV 0) (wC (.int 0)))))
 wNext)
 (wSeq (wIfS (wTest (wOp gtW (wOp ixW (wV 0) (wC (.int 2))) (wC (.int 1))))
 (wSeq (wSet 2 (wOp modW (wApp (one intW) (wCons (wOp ixW (wV 0) (wC (.int 2))) wNil)) (wV 1)))
 (wSeq (wAsg (wOp fdivW (wOp ixW (wV 0) (wC (.int 2))) (wV 1)) (wgSub (wV 0) (wC (.int 2))))
 (wRet (wV 2))))
 wNext)
 (wSeq (wAsg (wOp addW (wOp ixW (wV 0) (wC (.int 3))) (wC (.int 1))) (wgSub (wV 0) (wC (.int 3))))
 (wSeq (wSet 3 (wC (.int 0)))
 (wSeq (wIfS (wTest (wOp gtW (wApp (one lenW) (wCons (wOp ixW (wV 0) (wC (.int 1))) wNil)) (wC (.int 0))))
 (wSet 3 (wOp ixW (wOp ixW (wV 0) (wC (.int 1))) (wOp modW (wApp (one intW) (wCons (wOp ixW (wV 0) (wC (.int 3))) wNil)) (wApp (one lenW) (wCons (wOp ixW (wV 0) (wC (.int 1))) wNil)))))
 wNext)
 (wSeq (wSet 4 (wOp modW (wApp (one intW) (wCons (wOp mulW (wOp addW (wOp addW (wV 3) (wOp mulW (wC (.int 7919)) (wOp ixW (wV 0) (wC (.int 3))))) (wC (.int 1))) (wC (.int 48271))) wNil)) (wC (.int 2147483647))))
 (wSeq (wSet 4 (wOp modW (wApp (one intW) (wCons (wOp mulW (wV 4) (wOp addW (wOp fdivW (wV 4) (wC (.int 1009))) (wC (.int 69621)))) wNil)) (wC (.int 2147483647))))
 (wSeq (wSet 4 (wOp modW (wApp (one intW) (wCons (wOp mulW (wV 4) (wOp addW (wOp fdivW (wV 4) (wC (.int 2003))) (wC (.int 40692)))) wNil)) (wC (.int 2147483399))))
 (wRet (wOp modW (wApp (one intW) (wCons (wOp fdivW (wV 4) (wC (.int 16))) wNil)) (wV 1)))))))))))
theorem wk_law_draw (T : Tx K mg C_Web) (f : Addr) (cdv : Value) (A : Around) (outer : List Env) (s : Shared) (H : Hp) (E : XK) (hr : Room (k + 1) (A.deeper (envOfC "_law_draw" (defScope st_law_draw) s.heap.objs.size f cdv))) :
    WSs (cxOf CX0 P w K mg base ["_law_pool_here", "_law_many", "_law_digit", "_law_cell", "_law_number"] "_law_draw" (defScope st_law_draw) f cdv A outer s H E).nox (defBody st_law_draw) (rd_law_draw) :=
 (wss_cons (ws_if (wt_bool (ww_and (wt_cmp opw_le (we_ix (hu_of hr) (we_v 0) we_int) we_int) (ww_and1 (wt_cmp opw_gt (we_callB cw_len T.n_len boot_len (wa_cons (we_ix (hu_of hr) (we_v 0) we_int) wa_nil)) we_int))))
 (wss_cons (ws_asg (we_ix (hu_of hr) (we_ix (hu_of hr) (we_v 0) we_int) we_int) (wg_sub (hu_of hr) (we_v 0) we_int))
 (wss_one (ws_asg (we_slice (we_ix (hu_of hr) (we_v 0) we_int) (wo_some we_int) wo_none) (wg_sub (hu_of hr) (we_v 0) we_int))))
 wss_nil)
 (wss_cons (ws_if (wt_cmp opw_gt (we_ix (hu_of hr) (we_v 0) we_int) we_int)
 (wss_cons (ws_set nd_law_draw (i := 2) rfl (by first | exact Or.inl rfl | exact Or.inr rfl) (we_bin opw_mod (we_callTy cw_int T.n_int boot_int (wa_cons (we_ix (hu_of hr) (we_v 0) we_int) wa_nil)) (we_v 1)))
 (wss_cons (ws_asg (we_bin opw_fdiv (we_ix (hu_of hr) (we_v 0) we_int) (we_v 1)) (wg_sub (hu_of hr) (we_v 0) we_int))
 (wss_one (ws_ret (we_v 2)))))
 wss_nil)
 (wss_cons (ws_asg (we_bin opw_add (we_ix (hu_of hr) (we_v 0) we_int) we_int) (wg_sub (hu_of hr) (we_v 0) we_int))
 (wss_cons (ws_set nd_law_draw (i := 3) rfl (by first | exact Or.inl rfl | exact Or.inr rfl) we_int)
 (wss_cons (ws_if (wt_cmp opw_gt (we_callB cw_len T.n_len boot_len (wa_cons (we_ix (hu_of hr) (we_v 0) we_int) wa_nil)) we_int)
 (wss_one (ws_set nd_law_draw (i := 3) rfl (by first | exact Or.inl rfl | exact Or.inr rfl) (we_ix (hu_of hr) (we_ix (hu_of hr) (we_v 0) we_int) (we_bin opw_mod (we_callTy cw_int T.n_int boot_int (wa_cons (we_ix (hu_of hr) (we_v 0) we_int) wa_nil)) (we_callB cw_len T.n_len boot_len (wa_cons (we_ix (hu_of hr) (we_v 0) we_int) wa_nil))))))
 wss_nil)
 (wss_cons (ws_set nd_law_draw (i := 4) rfl (by first | exact Or.inl rfl | exact Or.inr rfl) (we_bin opw_mod (we_callTy cw_int T.n_int boot_int (wa_cons (we_bin opw_mul (we_bin opw_add (we_bin opw_add (we_v 3) (we_bin opw_mul we_int (we_ix (hu_of hr) (we_v 0) we_int))) we_int) we_int) wa_nil)) we_int))
 (wss_cons (ws_set nd_law_draw (i := 4) rfl (by first | exact Or.inl rfl | exact Or.inr rfl) (we_bin opw_mod (we_callTy cw_int T.n_int boot_int (wa_cons (we_bin opw_mul (we_v 4) (we_bin opw_add (we_bin opw_fdiv (we_v 4) we_int) we_int)) wa_nil)) we_int))
 (wss_cons (ws_set nd_law_draw (i := 4) rfl (by first | exact Or.inl rfl | exact Or.inr rfl) (we_bin opw_mod (we_callTy cw_int T.n_int boot_int (wa_cons (we_bin opw_mul (we_v 4) (we_bin opw_add (we_bin opw_fdiv (we_v 4) we_int) we_int)) wa_nil)) we_int))
 (wss_one (ws_ret (we_bin opw_mod (we_callTy cw_int T.n_int boot_int (wa_cons (we_bin opw_fdiv (we_v 4) we_int) wa_nil)) (we_v 1))))))))))))
/-! ### _law_is: slots 0 _law_told, 1 _law_due -/
noncomputable abbrev st_law_is : Stmt := top 22
theorem sc_law_is : FnScope ["_law_told", "_law_due"] ["_law_told", "_law_due"] (defScope st_law_is) := ⟨rfl, rfl, rfl, by decide +kernel, rfl, by decide +kernel, by decide +kernel⟩
noncomputable def rd_law_is : WTS :=
 (wRet (wOp eqW (wApp (one reprGW) (wCons (wV 0) wNil)) (wApp (one reprGW) (wCons (wV 1) wNil))))
theorem wk_law_is (T : Tx K mg C_Web) (f : Addr) (cdv : Value) (A : Around) (outer : List Env) (s : Shared) (H : Hp) (E : XK) (hgd : A.guards = some []) (hr : Room (k + 1) (A.deeper (envOfC "_law_is" (defScope st_law_is) s.heap.objs.size f cdv))) :
    WSs (cxOf CX0 P w K mg base ["_law_told", "_law_due"] "_law_is" (defScope st_law_is) f cdv A outer s H E).nox (defBody st_law_is) (rd_law_is) :=
 (wss_one (ws_ret (we_cmp (opw_eq hr.units) (we_callB (cw_reprG hgd hr.units) T.n_repr boot_repr (wa_cons (we_v 0) wa_nil)) (we_callB (cw_reprG hgd hr.units) T.n_repr boot_repr (wa_cons (we_v 1) wa_nil)))))
/-! ### _law_web_reads: slots 0 _law_pool_here, 1 _law_most, 2 _law_many, 3 _law_kind, 4 _law_found, 5 _law_thing, 6 _law_lot, 7 _law_other -/
noncomputable abbrev st_law_web_reads : Stmt := top 23
theorem sc_law_web_reads : FnScope ["_law_pool_here", "_law_most", "_law_many", "_law_kind", "_law_found", "_law_thing", "_law_lot", "_law_other"] ["_law_pool_here", "_law_most"] (defScope st_law_web_reads) := ⟨rfl, rfl, rfl, by decide +kernel, rfl, by decide +kernel, by decide +kernel⟩
theorem nd_law_web_reads : (["_law_pool_here", "_law_most", "_law_many", "_law_kind", "_law_found", "_law_thing", "_law_lot", "_law_other"] : List Str).Nodup := by decide +kernel
noncomputable def rd_law_web_reads (sp_law_draw : WSp) : WTS :=
 (wSeq (wSet 2 (wOp addW (wC (.int 1)) (wCall sp_law_draw (wCons (wV 0) (wCons (wV 1) wNil)))))
 (wSeq (wSet 3 (wCall sp_law_draw (wCons (wV 0) (wCons (wC (.int 4)) wNil))))
 (wSeq (wSet 4 (wLst wNil))
 (wSeq (wFor (wRng1 (wCons (wV 2) wNil)) (wName 5)
 (wSeq (wSet 6 (wLc (wRng1 (wCons (wV 5) wNil)) (.one 7) (wTest (wOp eqW (wCall sp_law_draw (wCons (wV 0) (wCons (wC (.int 3)) wNil))) (wC (.int 0)))) (wV 7) [7]))
 (wSeq (wIfS (wAndT (wTest (wOp eqW (wV 3) (wC (.int 1)))) (wTest (wOp gtW (wV 5) (wC (.int 0)))))
 (wSet 6 (wSortSetX (wLst (wCons (wOp subW (wV 5) (wC (.int 1))) (wCons (wCall sp_law_draw (wCons (wV 0) (wCons (wV 5) wNil))) wNil)))))
 wNext)
 (wSeq (wIfS (wAndT (wTest (wOp eqW (wV 3) (wC (.int 2)))) (wTest (wOp gtW (wV 5) (wC (.int 1)))))
 (wSet 6 (wLst (wCons (wOp subW (wV 5) (wC (.int 2))) (wCons (wOp subW (wV 5) (wC (.int 1))) wNil))))
 wNext)
 (wDrop (MdW appendW isLs (wV 4) (wCons (wApp (one tupW) (wCons (wV 6) wNil)) wNil)))))))
 (wRet (wApp (one tupW) (wCons (wV 4) wNil)))))))
theorem wk_law_web_reads (T : Tx K mg C_Web) {sp_law_draw : WSp} (F_law_draw : Cal P w K mg base (k + 1) "_law_draw" sp_law_draw) (f : Addr) (cdv : Value) (A : Around) (outer : List Env) (s : Shared) (H : Hp) (E : XK) (hr : Room (k + 1) (A.deeper (envOfC "_law_web_reads" (defScope st_law_web_reads) s.heap.objs.size f cdv))) :
    WSs (cxOf CX0 P w K mg base ["_law_pool_here", "_law_most", "_law_many", "_law_kind", "_law_found", "_law_thing", "_law_lot", "_law_other"] "_law_web_reads" (defScope st_law_web_reads) f cdv A outer s H E).nox (defBody st_law_web_reads) (rd_law_web_reads sp_law_draw) :=
 (wss_cons (ws_set nd_law_web_reads (i := 2) rfl (by first | exact Or.inl rfl | exact Or.inr rfl) (we_bin opw_add we_int (we_call F_law_draw hr (wa_cons (we_v 0) (wa_cons (we_v 1) wa_nil)))))
 (wss_cons (ws_set nd_law_web_reads (i := 3) rfl (by first | exact Or.inl rfl | exact Or.inr rfl) (we_call F_law_draw hr (wa_cons (we_v 0) (wa_cons we_int wa_nil))))
 (wss_cons (ws_set nd_law_web_reads (i := 4) rfl (by first | exact Or.inl rfl | exact Or.inr rfl) (we_lst wa_nil))
 (wss_cons (ws_for PassesOwn.never rfl (wi_rng1 T.n_range (wa_cons (we_v 2) wa_nil)) (wg_name nd_law_web_reads (i := 5) rfl (by first | exact Or.inl rfl | exact Or.inr rfl))
 (wss_cons (ws_setLc (own := [("_law_other", 7)]) (c := (.one 7)) rfl nd_law_web_reads (i := 6) rfl (by kernel_rfl) (by first | exact sw_true rfl rfl rfl rfl | exact sw_trueD rfl rfl rfl rfl) (wi_rng1 T.n_range (wa_cons (we_v 5) wa_nil)) (blk_of (by kernel_rfl)) (by decide) (fun _ _ _ _ _ => pg_name nd_law_web_reads (i := 7) rfl (by first | exact Or.inl rfl | exact Or.inr rfl)) (fun _ _ _ _ _ => wts_one (wt_cmp (opw_eq hr.units) (we_call F_law_draw hr (wa_cons (we_v 0) (wa_cons we_int wa_nil))) we_int)) (fun _ _ _ _ _ => (we_v 7)))
 (wss_cons (ws_if (wt_bool (ww_and (wt_cmp (opw_eq hr.units) (we_v 3) we_int) (ww_and1 (wt_cmp opw_gt (we_v 5) we_int))))
 (wss_one (ws_set nd_law_web_reads (i := 6) rfl (by first | exact Or.inl rfl | exact Or.inr rfl) (we_sortSetX T.n_sorted T.n_set (we_lst (wa_cons (we_bin opw_sub (we_v 5) we_int) (wa_cons (we_call F_law_draw hr (wa_cons (we_v 0) (wa_cons (we_v 5) wa_nil))) wa_nil))))))
 wss_nil)
 (wss_cons (ws_if (wt_bool (ww_and (wt_cmp (opw_eq hr.units) (we_v 3) we_int) (ww_and1 (wt_cmp opw_gt (we_v 5) we_int))))
 (wss_one (ws_set nd_law_web_reads (i := 6) rfl (by first | exact Or.inl rfl | exact Or.inr rfl) (we_lst (wa_cons (we_bin opw_sub (we_v 5) we_int) (wa_cons (we_bin opw_sub (we_v 5) we_int) wa_nil)))))
 wss_nil)
 (wss_one (ws_expr (we_bm PySem.F.plainAttrs_list PySem.F.slot_list_append PySem.F.type_list_append ty_list mw_append (we_v 4) (wa_cons (we_callTy cw_tuple T.n_tuple boot_tuple (wa_cons (we_v 6) wa_nil)) wa_nil))))))))
 (wss_one (ws_ret (we_callTy cw_tuple T.n_tuple boot_tuple (wa_cons (we_v 4) wa_nil))))))))
/-! ### _law_counts: slots 0 _law_many, 1 _law_found, 2 _law_turn, 3 _law_count -/
noncomputable abbrev st_law_counts : Stmt := top 24
theorem sc_law_counts : FnScope ["_law_many", "_law_found", "_law_turn", "_law_count"] ["_law_many"] (defScope st_law_counts) := ⟨rfl, rfl, rfl, by decide +kernel, rfl, by decide +kernel, by decide +kernel⟩
theorem nd_law_counts : (["_law_many", "_law_found", "_law_turn", "_law_count"] : List Str).Nodup := by decide +kernel
noncomputable def rd_law_counts : WTS :=
 (wSeq (wSet 1 (wLst (wCons (wC (.int 0)) wNil)))
 (wSeq (wFor (wRng1 (wCons (wV 0) wNil)) (wName 2)
 (wSet 1 (wOp addW (wV 1) (wLc (wSeqI (wV 1)) (.one 3) wYes (wOp addW (wV 3) (wC (.int 1))) [3]))))
 (wRet (wV 1))))
theorem wk_law_counts (T : Tx K mg C_Web) (f : Addr) (cdv : Value) (A : Around) (outer : List Env) (s : Shared) (H : Hp) (E : XK) (hr : Room (k + 1) (A.deeper (envOfC "_law_counts" (defScope st_law_counts) s.heap.objs.size f cdv))) :
    WSs (cxOf CX0 P w K mg base ["_law_many", "_law_found", "_law_turn", "_law_count"] "_law_counts" (defScope st_law_counts) f cdv A outer s H E).nox (defBody st_law_counts) (rd_law_counts) :=
 (wss_cons (ws_set nd_law_counts (i := 1) rfl (by first | exact Or.inl rfl | exact Or.inr rfl) (we_lst (wa_cons we_int wa_nil)))
 (wss_cons (ws_for PassesOwn.never rfl (wi_rng1 T.n_range (wa_cons (we_v 0) wa_nil)) (wg_name nd_law_counts (i := 2) rfl (by first | exact Or.inl rfl | exact Or.inr rfl))
 (wss_one (ws_set nd_law_counts (i := 1) rfl (by first | exact Or.inl rfl | exact Or.inr rfl) (we_bin opw_add (we_v 1) (we_lc (own := [("_law_count", 3)]) (c := (.one 3)) rfl nd_law_counts (wi_seq (we_v 1)) (blk_of (by kernel_rfl)) (by decide) (fun _ _ _ _ _ => pg_name nd_law_counts (i := 3) rfl (by first | exact Or.inl rfl | exact Or.inr rfl)) (fun _ _ _ _ _ => wts_nil) (fun _ _ _ _ _ => (we_bin opw_add (we_v 3) we_int)))))))
 (wss_one (ws_ret (we_v 1)))))
/-! ### _law_masks_of: slots 0 _law_reads, 1 _law_lot, 2 _law_other -/
noncomputable abbrev st_law_masks_of : Stmt := top 25
theorem sc_law_masks_of : FnScope ["_law_reads", "_law_lot", "_law_other"] ["_law_reads"] (defScope st_law_masks_of) := ⟨rfl, rfl, rfl, by decide +kernel, rfl, by decide +kernel, by decide +kernel⟩
theorem nd_law_masks_of : (["_law_reads", "_law_lot", "_law_other"] : List Str).Nodup := by decide +kernel
noncomputable def rd_law_masks_of : WTS :=
 (wRet (wLc (wSeqI (wV 0)) (.one 1) wYes (wApp (one sumW) (wCons (wLc (wSeqI (wV 1)) (.one 2) wYes (wOp shlW (wC (.int 1)) (wV 2)) [2]) wNil)) [1]))
theorem wk_law_masks_of (T : Tx K mg C_Web) (f : Addr) (cdv : Value) (A : Around) (outer : List Env) (s : Shared) (H : Hp) (E : XK) (hr : Room (k + 1) (A.deeper (envOfC "_law_masks_of" (defScope st_law_masks_of) s.heap.objs.size f cdv))) :
    WSs (cxOf CX0 P w K mg base ["_law_reads", "_law_lot", "_law_other"] "_law_masks_of" (defScope st_law_masks_of) f cdv A outer s H E).nox (defBody st_law_masks_of) (rd_law_masks_of) :=
 (wss_one (ws_ret (we_lc (own := [("_law_lot", 1)]) (c := (.one 1)) rfl nd_law_masks_of (wi_seq (we_v 0)) (blk_of (by kernel_rfl)) (by decide) (fun _ _ _ _ _ => pg_name nd_law_masks_of (i := 1) rfl (by first | exact Or.inl rfl | exact Or.inr rfl)) (fun _ _ _ _ _ => wts_nil) (fun _ _ _ _ _ => (we_callB (cw_sum rfl) T.n_sum boot_sum (wa_cons (we_lc (own := [("_law_other", 2)]) (c := (.one 2)) rfl nd_law_masks_of (wi_seq (we_v 1)) (blk_of (by kernel_rfl)) (by decide) (fun _ _ _ _ _ => pg_name nd_law_masks_of (i := 2) rfl (by first | exact Or.inl rfl | exact Or.inr rfl)) (fun _ _ _ _ _ => wts_nil) (fun _ _ _ _ _ => (we_bin opw_shl we_int (we_v 2)))) wa_nil))))))
/-! ### _law_moves_from: slots 0 _law_reads, 1 _law_masks, 2 _law_held, 3 _law_apart, 4 _law_found, 5 _law_thing, 6 _law_bit, 7 _law_other -/
noncomputable abbrev st_law_moves_from : Stmt := top 26
theorem sc_law_moves_from : FnScope ["_law_reads", "_law_masks", "_law_held", "_law_apart", "_law_found", "_law_thing", "_law_bit", "_law_other"] ["_law_reads", "_law_masks", "_law_held", "_law_apart"] (defScope st_law_moves_from) := ⟨rfl, rfl, rfl, by decide +kernel, rfl, by decide +kernel, by decide +kernel⟩
theorem nd_law_moves_from : (["_law_reads", "_law_masks", "_law_held", "_law_apart", "_law_found", "_law_thing", "_law_bit", "_law_other"] : List Str).Nodup := by decide +kernel
noncomputable def rd_law_moves_from : WTS :=
 (wSeq (wSet 4 (wLst wNil))
 (wSeq (wFor (wRng1 (wCons (wApp (one lenW) (wCons (wV 0) wNil)) wNil)) (wName 5)
 (wSeq (wSet 6 (wOp shlW (wC (.int 1)) (wV 5)))
 (wIfS (wTest (wOp neW (wOp bandW (wV 2) (wV 6)) (wC (.int 0))))
 (wDrop (MdW appendW isLs (wV 4) (wCons (wTup (wCons (wTup (wCons (wC (.str "clear")) (wCons (wV 5) wNil))) (wCons (wOp subW (wV 2) (wV 6)) wNil))) wNil)))
 (wIfS (wTest (wOp eqW (wOp bandW (wV 2) (wOp ixW (wV 1) (wV 5))) (wOp ixW (wV 1) (wV 5))))
 (wSeq (wDrop (MdW appendW isLs (wV 4) (wCons (wTup (wCons (wTup (wCons (wC (.str "fill")) (wCons (wV 5) wNil))) (wCons (wOp addW (wV 2) (wV 6)) wNil))) wNil)))
 (wIfS (wNotT (wTest (wV 3)))
 (wDrop (MdW extendW isLs (wV 4) (wCons (wLc (wSeqI (wOp ixW (wV 0) (wV 5))) (.one 7) wYes (wTup (wCons (wTup (wCons (wC (.str "slide")) (wCons (wV 5) (wCons (wV 7) wNil)))) (wCons (wOp subW (wOp addW (wV 2) (wV 6)) (wOp shlW (wC (.int 1)) (wV 7))) wNil))) [7]) wNil)))
 wNext))
 wNext))))
 (wRet (wV 4))))
theorem wk_law_moves_from (T : Tx K mg C_Web) (f : Addr) (cdv : Value) (A : Around) (outer : List Env) (s : Shared) (H : Hp) (E : XK) (hr : Room (k + 1) (A.deeper (envOfC "_law_moves_from" (defScope st_law_moves_from) s.heap.objs.size f cdv))) :
    WSs (cxOf CX0 P w K mg base ["_law_reads", "_law_masks", "_law_held", "_law_apart", "_law_found", "_law_thing", "_law_bit", "_law_other"] "_law_moves_from" (defScope st_law_moves_from) f cdv A outer s H E).nox (defBody st_law_moves_from) (rd_law_moves_from) :=
 (wss_cons (ws_set nd_law_moves_from (i := 4) rfl (by first | exact Or.inl rfl | exact Or.inr rfl) (we_lst wa_nil))
 (wss_cons (ws_for PassesOwn.never rfl (wi_rng1 T.n_range (wa_cons (we_callB cw_len T.n_len boot_len (wa_cons (we_v 0) wa_nil)) wa_nil)) (wg_name nd_law_moves_from (i := 5) rfl (by first | exact Or.inl rfl | exact Or.inr rfl))
 (wss_cons (ws_set nd_law_moves_from (i := 6) rfl (by first | exact Or.inl rfl | exact Or.inr rfl) (we_bin opw_shl we_int (we_v 5)))
 (wss_one (ws_if (wt_cmp (opw_ne hr.units) (we_bin opw_band (we_v 2) (we_v 6)) we_int)
 (wss_one (ws_expr (we_bm PySem.F.plainAttrs_list PySem.F.slot_list_append PySem.F.type_list_append ty_list mw_append (we_v 4) (wa_cons (we_tup (wa_cons (we_tup (wa_cons we_str (wa_cons (we_v 5) wa_nil))) (wa_cons (we_bin opw_sub (we_v 2) (we_v 6)) wa_nil))) wa_nil))))
 (wss_one (ws_if (wt_cmp (opw_eq hr.units) (we_bin opw_band (we_v 2) (we_ix (hu_of hr) (we_v 1) (we_v 5))) (we_ix (hu_of hr) (we_v 1) (we_v 5)))
 (wss_cons (ws_expr (we_bm PySem.F.plainAttrs_list PySem.F.slot_list_append PySem.F.type_list_append ty_list mw_append (we_v 4) (wa_cons (we_tup (wa_cons (we_tup (wa_cons we_str (wa_cons (we_v 5) wa_nil))) (wa_cons (we_bin opw_add (we_v 2) (we_v 6)) wa_nil))) wa_nil)))
 (wss_one (ws_if (wt_not (wt_val (we_v 3)))
 (wss_one (ws_expr (we_bm PySem.F.plainAttrs_list PySem.F.slot_list_extend PySem.F.type_list_extend ty_list mw_extend (we_v 4) (wa_cons (we_lc (own := [("_law_other", 7)]) (c := (.one 7)) rfl nd_law_moves_from (wi_seq (we_ix (hu_of hr) (we_v 0) (we_v 5))) (blk_of (by kernel_rfl)) (by decide) (fun _ _ _ _ _ => pg_name nd_law_moves_from (i := 7) rfl (by first | exact Or.inl rfl | exact Or.inr rfl)) (fun _ _ _ _ _ => wts_nil) (fun _ _ _ _ _ => (we_tup (wa_cons (we_tup (wa_cons we_str (wa_cons (we_v 5) (wa_cons (we_v 7) wa_nil)))) (wa_cons (we_bin opw_sub (we_bin opw_add (we_v 2) (we_v 6)) (we_bin opw_shl we_int (we_v 7))) wa_nil))))) wa_nil))))
 wss_nil)))
 wss_nil))))))
 (wss_one (ws_ret (we_v 4)))))
/-! ### _law_fewest: slots 0 _law_reads, 1 _law_rooms, 2 _law_apart, 3 _law_begun, 4 _law_masks, 5 _law_counts_here, 6 _law_goal, 7 _law_known, 8 _law_layer, 9 _law_held, 10 _law_later, 11 _law_move, 12 _law_behind -/
noncomputable abbrev st_law_fewest : Stmt := top 27
theorem sc_law_fewest : FnScope ["_law_reads", "_law_rooms", "_law_apart", "_law_begun", "_law_masks", "_law_counts_here", "_law_goal", "_law_known", "_law_layer", "_law_held", "_law_later", "_law_move", "_law_behind"] ["_law_reads", "_law_rooms", "_law_apart", "_law_begun"] (defScope st_law_fewest) := ⟨rfl, rfl, rfl, by decide +kernel, rfl, by decide +kernel, by decide +kernel⟩
theorem nd_law_fewest : (["_law_reads", "_law_rooms", "_law_apart", "_law_begun", "_law_masks", "_law_counts_here", "_law_goal", "_law_known", "_law_layer", "_law_held", "_law_later", "_law_move", "_law_behind"] : List Str).Nodup := by decide +kernel
noncomputable def rd_law_fewest (sp_law_masks_of : WSp) (sp_law_counts : WSp) (sp_law_moves_from : WSp) : WTS :=
 (wSeq (wSet 4 (wCall sp_law_masks_of (wCons (wV 0) wNil)))
 (wSeq (wSet 5 (wCall sp_law_counts (wCons (wApp (one lenW) (wCons (wV 0) wNil)) wNil)))
 (wSeq (wSet 6 (wOp shlW (wC (.int 1)) (wOp subW (wApp (one lenW) (wCons (wV 0) wNil)) (wC (.int 1)))))
 (wSeq (wSet 7 (wDisp [((wV 3), (wTup wNil))]))
 (wSeq (wSet 8 (wLst (wCons (wV 3) wNil)))
 (wSeq (wWhile (wTest (wOp gtW (wApp (one lenW) (wCons (wV 8) wNil)) (wC (.int 0))))
 (wSeq (wFor (wSeqI (wV 8)) (wName 9)
 (wIfS (wTest (wOp neW (wOp bandW (wV 9) (wV 6)) (wC (.int 0))))
 (wRet (wOp ixW (wV 7) (wV 9)))
 wNext))
 (wSeq (wSet 10 (wLst wNil))
 (wSeq (wFor (wSeqI (wV 8)) (wName 9)
 (wFor (wSeqI (wCall sp_law_moves_from (wCons (wV 0) (wCons (wV 4) (wCons (wV 9) (wCons (wV 2) wNil)))))) (wNames [11, 12])
 (wIfS (wAndT (wTest (wOp (inW true) (wV 12) (wV 7))) (wTest (wOp leW (wOp ixW (wV 5) (wV 12)) (wV 1))))
 (wSeq (wAsg (wOp addW (wOp ixW (wV 7) (wV 9)) (wTup (wCons (wV 11) wNil))) (wgSub (wV 7) (wV 12)))
 (wDrop (MdW appendW isLs (wV 10) (wCons (wV 12) wNil))))
 wNext)))
 (wSet 8 (wV 10))))))
 (wRet (wC .non))))))))
theorem wk_law_fewest (T : Tx K mg C_Web) {sp_law_masks_of : WSp} {sp_law_counts : WSp} {sp_law_moves_from : WSp} (F_law_masks_of : Cal P w K mg base (k + 1) "_law_masks_of" sp_law_masks_of) (F_law_counts : Cal P w K mg base (k + 1) "_law_counts" sp_law_counts) (F_law_moves_from : Cal P w K mg base (k + 1) "_law_moves_from" sp_law_moves_from) (f : Addr) (cdv : Value) (A : Around) (outer : List Env) (s : Shared) (H : Hp) (E : XK) (hr : Room (k + 1) (A.deeper (envOfC "_law_fewest" (defScope st_law_fewest) s.heap.objs.size f cdv))) :
    WSs (cxOf CX0 P w K mg base ["_law_reads", "_law_rooms", "_law_apart", "_law_begun", "_law_masks", "_law_counts_here", "_law_goal", "_law_known", "_law_layer", "_law_held", "_law_later", "_law_move", "_law_behind"] "_law_fewest" (defScope st_law_fewest) f cdv A outer s H E).nox (defBody st_law_fewest) (rd_law_fewest sp_law_masks_of sp_law_counts sp_law_moves_from) :=
 (wss_cons (ws_set nd_law_fewest (i := 4) rfl (by first | exact Or.inl rfl | exact Or.inr rfl) (we_call F_law_masks_of hr (wa_cons (we_v 0) wa_nil)))
 (wss_cons (ws_set nd_law_fewest (i := 5) rfl (by first | exact Or.inl rfl | exact Or.inr rfl) (we_call F_law_counts hr (wa_cons (we_callB cw_len T.n_len boot_len (wa_cons (we_v 0) wa_nil)) wa_nil)))
 (wss_cons (ws_set nd_law_fewest (i := 6) rfl (by first | exact Or.inl rfl | exact Or.inr rfl) (we_bin opw_shl we_int (we_bin opw_sub (we_callB cw_len T.n_len boot_len (wa_cons (we_v 0) wa_nil)) we_int)))
 (wss_cons (ws_set nd_law_fewest (i := 7) rfl (by first | exact Or.inl rfl | exact Or.inr rfl) (we_disp (wps_cons (we_v 3) (we_tup wa_nil) wps_nil)))
 (wss_cons (ws_set nd_law_fewest (i := 8) rfl (by first | exact Or.inl rfl | exact Or.inr rfl) (we_lst (wa_cons (we_v 3) wa_nil)))
 (wss_cons (ws_while PassesOwn.never (wt_cmp opw_gt (we_callB cw_len T.n_len boot_len (wa_cons (we_v 8) wa_nil)) we_int)
 (wss_cons (ws_for PassesOwn.never rfl (wi_seq (we_v 8)) (wg_name nd_law_fewest (i := 9) rfl (by first | exact Or.inl rfl | exact Or.inr rfl))
 (wss_one (ws_if (wt_cmp (opw_ne hr.units) (we_bin opw_band (we_v 9) (we_v 6)) we_int)
 (wss_one (ws_ret (we_ix (hu_of hr) (we_v 7) (we_v 9))))
 wss_nil)))
 (wss_cons (ws_set nd_law_fewest (i := 10) rfl (by first | exact Or.inl rfl | exact Or.inr rfl) (we_lst wa_nil))
 (wss_cons (ws_for PassesOwn.never rfl (wi_seq (we_v 8)) (wg_name nd_law_fewest (i := 9) rfl (by first | exact Or.inl rfl | exact Or.inr rfl))
 (wss_one (ws_for PassesOwn.never rfl (wi_seq (we_call F_law_moves_from hr (wa_cons (we_v 0) (wa_cons (we_v 4) (wa_cons (we_v 9) (wa_cons (we_v 2) wa_nil)))))) (wg_names (is := [11, 12]) rfl (pgs_cons (pg_name nd_law_fewest (i := 11) rfl (by first | exact Or.inl rfl | exact Or.inr rfl)) (pgs_cons (pg_name nd_law_fewest (i := 12) rfl (by first | exact Or.inl rfl | exact Or.inr rfl)) pgs_nil)) rfl)
 (wss_one (ws_if (wt_bool (ww_and (wt_cmp (opw_notin (hu65 hr)) (we_v 12) (we_v 7)) (ww_and1 (wt_cmp opw_le (we_ix (hu_of hr) (we_v 5) (we_v 12)) (we_v 1)))))
 (wss_cons (ws_asg (we_bin opw_add (we_ix (hu_of hr) (we_v 7) (we_v 9)) (we_tup (wa_cons (we_v 11) wa_nil))) (wg_sub (hu_of hr) (we_v 7) (we_v 12)))
 (wss_one (ws_expr (we_bm PySem.F.plainAttrs_list PySem.F.slot_list_append PySem.F.type_list_append ty_list mw_append (we_v 10) (wa_cons (we_v 12) wa_nil)))))
 wss_nil)))))
 (wss_one (ws_set nd_law_fewest (i := 8) rfl (by first | exact Or.inl rfl | exact Or.inr rfl) (we_v 10)))))))
 (wss_one (ws_ret we_non))))))))
/-! ### _law_least: slots 0 _law_reads, 1 _law_apart, 2 _law_rooms -/
noncomputable abbrev st_law_least : Stmt := top 28
theorem sc_law_least : FnScope ["_law_reads", "_law_apart", "_law_rooms"] ["_law_reads", "_law_apart"] (defScope st_law_least) := ⟨rfl, rfl, rfl, by decide +kernel, rfl, by decide +kernel, by decide +kernel⟩
theorem nd_law_least : (["_law_reads", "_law_apart", "_law_rooms"] : List Str).Nodup := by decide +kernel
noncomputable def rd_law_least (sp_law_fewest : WSp) : WTS :=
 (wSeq (wFor (wRng2 (wCons (wC (.int 1)) (wCons (wOp addW (wApp (one lenW) (wCons (wV 0) wNil)) (wC (.int 1))) wNil))) (wName 2)
 (wIfS (wTest (wOp notNW (wCall sp_law_fewest (wCons (wV 0) (wCons (wV 2) (wCons (wV 1) (wCons (wC (.int 0)) wNil))))) (wC .non)))
 (wRet (wV 2))
 wNext))
 (wRet (wC .non)))
theorem wk_law_least (T : Tx K mg C_Web) {sp_law_fewest : WSp} (F_law_fewest : Cal P w K mg base (k + 1) "_law_fewest" sp_law_fewest) (f : Addr) (cdv : Value) (A : Around) (outer : List Env) (s : Shared) (H : Hp) (E : XK) (hr : Room (k + 1) (A.deeper (envOfC "_law_least" (defScope st_law_least) s.heap.objs.size f cdv))) :
    WSs (cxOf CX0 P w K mg base ["_law_reads", "_law_apart", "_law_rooms"] "_law_least" (defScope st_law_least) f cdv A outer s H E).nox (defBody st_law_least) (rd_law_least sp_law_fewest) :=
 (wss_cons (ws_for PassesOwn.never rfl (wi_rng2 T.n_range (wa_cons we_int (wa_cons (we_bin opw_add (we_callB cw_len T.n_len boot_len (wa_cons (we_v 0) wa_nil)) we_int) wa_nil))) (wg_name nd_law_least (i := 2) rfl (by first | exact Or.inl rfl | exact Or.inr rfl))
 (wss_one (ws_if (wt_cmp opw_isnot (we_call F_law_fewest hr (wa_cons (we_v 0) (wa_cons (we_v 2) (wa_cons (we_v 1) (wa_cons we_int wa_nil))))) we_non)
 (wss_one (ws_ret (we_v 2)))
 wss_nil)))
 (wss_one (ws_ret we_non)))
/-! ### law: slots 0 _law_script, 1 _law_pool_here, 2 _law_turn, 3 _law_reads, 4 _law_web, 5 _law_due, 6 _law_other -/
noncomputable abbrev st_law : Stmt := top 29
theorem sc_law : FnScope ["_law_script", "_law_pool_here", "_law_turn", "_law_reads", "_law_web", "_law_due", "_law_other"] ["_law_script"] (defScope st_law) := ⟨rfl, rfl, rfl, by decide +kernel, rfl, by decide +kernel, by decide +kernel⟩
theorem nd_law : (["_law_script", "_law_pool_here", "_law_turn", "_law_reads", "_law_web", "_law_due", "_law_other"] : List Str).Nodup := by decide +kernel
noncomputable def rd_law (C_Web : Addr) (sp_law_pool : WSp) (sp_law_web_reads : WSp) (sp_law_draw : WSp) (sp_law_least : WSp) (sp_law_is : WSp) (sp_least_any : WSp) (spi_Web : WSp) (sm_Web_eq : WSp) : WTS :=
 (wSeq (wSet 1 (wCall sp_law_pool (wCons (wV 0) wNil)))
 (wSeq (wFor (wRng1 (wCons (wC (.int 3)) wNil)) (wName 2)
 (wSeq (wSet 3 (wCall sp_law_web_reads (wCons (wV 1) (wCons (wIf (wTest (wOp (eqMx C_Web sm_Web_eq) (wCall sp_law_draw (wCons (wV 1) (wCons (wC (.int 40)) wNil))) (wC (.int 0)))) (wC (.int 10)) (wC (.int 7))) wNil))))
 (wSeq (wSet 4 (wMake C_Web spi_Web (wCons (wV 3) wNil)))
 (wSeq (wSet 5 (wCall sp_law_least (wCons (wV 3) (wCons (wC (.bl false)) wNil))))
 (wSeq (wIfS (wOrT (wNotT (wTest (wCall sp_law_is (wCons (wCall sp_least_any (wCons (wV 4) wNil)) (wCons (wV 5) wNil))))) (wOrT (wTest (wOp (neMx C_Web sm_Web_eq) (wCall sp_least_any (wCons (wV 4) wNil)) (wV 5))) (wNotT (wTest (wCall sp_law_is (wCons (wFld C_Web (wV 4) "reads") (wCons (wV 3) wNil)))))))
 (wRet (wC (.bl false)))
 wNext)
 (wSeq (wSet 6 (wCall sp_law_web_reads (wCons (wV 1) (wCons (wC (.int 4)) wNil))))
 (wIfS (wOrT (wTest (wOp (neMx C_Web sm_Web_eq) (wOp (eqMx C_Web sm_Web_eq) (wMake C_Web spi_Web (wCons (wV 6) wNil)) (wV 4)) (wOp (eqMx C_Web sm_Web_eq) (wV 6) (wV 3)))) (wOrT (wTest (wOp (neMx C_Web sm_Web_eq) (wMake C_Web spi_Web (wCons (wV 3) wNil)) (wV 4))) (wTest (wOp (eqMx C_Web sm_Web_eq) (wV 4) (wV 3)))))
 (wRet (wC (.bl false)))
 wNext)))))))
 (wRet (wC (.bl true)))))
theorem wk_law (T : Tx K mg C_Web) {sp_law_pool : WSp} {sp_law_web_reads : WSp} {sp_law_draw : WSp} {sp_law_least : WSp} {sp_law_is : WSp} {sp_least_any : WSp} (F_law_pool : Cal P w K mg base (k + 1) "_law_pool" sp_law_pool) (F_law_web_reads : Cal P w K mg base (k + 1) "_law_web_reads" sp_law_web_reads) (F_law_draw : Cal P w K mg base (k + 1) "_law_draw" sp_law_draw) (F_law_least : Cal P w K mg base (k + 1) "_law_least" sp_law_least) (F_law_is : CalG P w K mg base (k + 1) "_law_is" sp_law_is) (F_least_any : Cal P w K mg base (k + 1) "least_any" sp_least_any) {spi_Web : WSp} (M_Web : Mak P w K mg base k "Web" C_Web spi_Web) {sm_Web_eq : WSp} (N_Web_eq : Met P w K mg base k C_Web "__eq__" sm_Web_eq) (f : Addr) (cdv : Value) (A : Around) (outer : List Env) (s : Shared) (H : Hp) (E : XK) (hgd : A.guards = some []) (hr : Room (k + 1) (A.deeper (envOfC "law" (defScope st_law) s.heap.objs.size f cdv))) :
    WSs (cxOf CX0 P w K mg base ["_law_script", "_law_pool_here", "_law_turn", "_law_reads", "_law_web", "_law_due", "_law_other"] "law" (defScope st_law) f cdv A outer s H E).nox (defBody st_law) (rd_law C_Web sp_law_pool sp_law_web_reads sp_law_draw sp_law_least sp_law_is sp_least_any spi_Web sm_Web_eq) :=
 (wss_cons (ws_set nd_law (i := 1) rfl (by first | exact Or.inl rfl | exact Or.inr rfl) (we_call F_law_pool hr (wa_cons (we_v 0) wa_nil)))
 (wss_cons (ws_for PassesOwn.never rfl (wi_rng1 T.n_range (wa_cons we_int wa_nil)) (wg_name nd_law (i := 2) rfl (by first | exact Or.inl rfl | exact Or.inr rfl))
 (wss_cons (ws_set nd_law (i := 3) rfl (by first | exact Or.inl rfl | exact Or.inr rfl) (we_call F_law_web_reads hr (wa_cons (we_v 1) (wa_cons (we_if (wt_cmp (op_mx N_Web_eq (hr.mono (Nat.le_succ _)) hr.units) (we_call F_law_draw hr (wa_cons (we_v 1) (wa_cons we_int wa_nil))) we_int) we_int we_int) wa_nil))))
 (wss_cons (ws_set nd_law (i := 4) rfl (by first | exact Or.inl rfl | exact Or.inr rfl) (we_make M_Web hr (wa_cons (we_v 3) wa_nil)))
 (wss_cons (ws_set nd_law (i := 5) rfl (by first | exact Or.inl rfl | exact Or.inr rfl) (we_call F_law_least hr (wa_cons (we_v 3) (wa_cons we_bl wa_nil))))
 (wss_cons (ws_if (wt_bool (ww_or (wt_not (wt_val (we_callG F_law_is hgd hr (wa_cons (we_call F_least_any hr (wa_cons (we_v 4) wa_nil)) (wa_cons (we_v 5) wa_nil))))) (ww_or (wt_cmp (op_nemx N_Web_eq T.ne_Web hr hr.units) (we_call F_least_any hr (wa_cons (we_v 4) wa_nil)) (we_v 5)) (ww_or1 (wt_not (wt_val (we_callG F_law_is hgd hr (wa_cons (we_fld T.k_Web T.a_Web_reads (we_v 4)) (wa_cons (we_v 3) wa_nil)))))))))
 (wss_one (ws_ret we_bl))
 wss_nil)
 (wss_cons (ws_set nd_law (i := 6) rfl (by first | exact Or.inl rfl | exact Or.inr rfl) (we_call F_law_web_reads hr (wa_cons (we_v 1) (wa_cons we_int wa_nil))))
 (wss_one (ws_if (wt_bool (ww_or (wt_cmp (op_nemx N_Web_eq T.ne_Web hr hr.units) (we_cmp (op_mx N_Web_eq (hr.mono (Nat.le_succ _)) hr.units) (we_make M_Web hr (wa_cons (we_v 6) wa_nil)) (we_v 4)) (we_cmp (op_mx N_Web_eq (hr.mono (Nat.le_succ _)) hr.units) (we_v 6) (we_v 3))) (ww_or (wt_cmp (op_nemx N_Web_eq T.ne_Web hr hr.units) (we_make M_Web hr (wa_cons (we_v 3) wa_nil)) (we_v 4)) (ww_or1 (wt_cmp (op_mx N_Web_eq (hr.mono (Nat.le_succ _)) hr.units) (we_v 4) (we_v 3))))))
 (wss_one (ws_ret we_bl))
 wss_nil))))))))
 (wss_one (ws_ret we_bl))))
/-! ### Web.__init__: slots 0 self, 1 reads, 2 number, 3 lot -/
noncomputable abbrev st_Web_init : Stmt := inClass (top 11) 0
theorem sc_Web_init : FnScope ["self", "reads", "number", "lot"] ["self", "reads"] (defScope st_Web_init) := ⟨rfl, rfl, rfl, by decide +kernel, rfl, by decide +kernel, by decide +kernel⟩
theorem nd_Web_init : (["self", "reads", "number", "lot"] : List Str).Nodup := by decide +kernel
noncomputable def rd_Web_init (C_Web : Addr) (sp_is_sized : WSp) (sp_is_lot : WSp) : WTS :=
 (wSeq (wIfS (wNotT (wTest (wCall sp_is_sized (wCons (wV 1) (wCons (wC (.int 1)) (wCons (wC (.int 10)) wNil))))))
 wNever
 wNext)
 (wSeq (wFor (wEnum (wCons (wV 1) wNil)) (wNames [2, 3])
 (wIfS (wNotT (wTest (wCall sp_is_lot (wCons (wV 3) (wCons (wV 2) wNil)))))
 wNever
 wNext))
 (wPutF C_Web (wV 0) (wV 1) "reads")))
theorem wk_Web_init (T : Tx K mg C_Web) {sp_is_sized : WSp} {sp_is_lot : WSp} (F_is_sized : Cal P w K mg base (k + 1) "is_sized" sp_is_sized) (F_is_lot : Cal P w K mg base (k + 1) "is_lot" sp_is_lot) (f : Addr) (cdv : Value) (A : Around) (outer : List Env) (s : Shared) (H : Hp) (E : XK) (hr : Room (k + 1) (A.deeper (envOfC "Web.__init__" (defScope st_Web_init) s.heap.objs.size f cdv))) :
    WSs (cxOf CX0 P w K mg base ["self", "reads", "number", "lot"] "Web.__init__" (defScope st_Web_init) f cdv A outer s H E).nox (defBody st_Web_init) (rd_Web_init C_Web sp_is_sized sp_is_lot) :=
 (wss_cons (ws_if (wt_not (wt_val (we_call F_is_sized hr (wa_cons (we_v 1) (wa_cons we_int (wa_cons (we_globI T.c_MOST_THINGS) wa_nil))))))
 (wss_one ws_never)
 wss_nil)
 (wss_cons (ws_for PassesOwn.never rfl (wi_enum T.n_enumerate (wa_cons (we_v 1) wa_nil)) (wg_names (is := [2, 3]) rfl (pgs_cons (pg_name nd_Web_init (i := 2) rfl (by first | exact Or.inl rfl | exact Or.inr rfl)) (pgs_cons (pg_name nd_Web_init (i := 3) rfl (by first | exact Or.inl rfl | exact Or.inr rfl)) pgs_nil)) rfl)
 (wss_one (ws_if (wt_not (wt_val (we_call F_is_lot hr (wa_cons (we_v 3) (wa_cons (we_v 2) wa_nil)))))
 (wss_one ws_never)
 wss_nil)))
 (wss_one (ws_fld T.k_Web T.a_Web_reads (we_v 0) (we_v 1)))))
/-! ### Web.__eq__: slots 0 self, 1 other -/
noncomputable abbrev st_Web_eq : Stmt := inClass (top 11) 1
theorem sc_Web_eq : FnScope ["self", "other"] ["self", "other"] (defScope st_Web_eq) := ⟨rfl, rfl, rfl, by decide +kernel, rfl, by decide +kernel, by decide +kernel⟩
noncomputable def rd_Web_eq (C_Web : Addr) : WTS :=
 (wRet (wAnd (wApp (two (isCW C_Web [])) (wCons (wV 1) (wCons (wC (.ref C_Web)) wNil))) (wOp eqW (wFld C_Web (wV 0) "reads") (wFld C_Web (wV 1) "reads"))))
theorem wk_Web_eq (T : Tx K mg C_Web) (f : Addr) (cdv : Value) (A : Around) (outer : List Env) (s : Shared) (H : Hp) (E : XK) (hr : Room (k + 1) (A.deeper (envOfC "Web.__eq__" (defScope st_Web_eq) s.heap.objs.size f cdv))) :
    WSs (cxOf CX0 P w K mg base ["self", "other"] "Web.__eq__" (defScope st_Web_eq) f cdv A outer s H E).nox (defBody st_Web_eq) (rd_Web_eq C_Web) :=
 (wss_one (ws_ret (we_and (we_callB (cw_isC T.i_Web (no0)) T.n_isinstance boot_isinstance (wa_cons (we_v 1) (wa_cons (we_cls T.m_Web) wa_nil))) (we_one (we_cmp (opw_eq hr.units) (we_fld T.k_Web T.a_Web_reads (we_v 0)) (we_fld T.k_Web T.a_Web_reads (we_v 1)))))))
end
end K54
set_option Elab.async false
set_option linter.all false
set_option maxRecDepth 100000
set_option maxHeartbeats 1000000
set_option pp.maxSteps 400
namespace K54
open PySem PySem.Spec PyProof.Rows L2 WL
/-! ### looks at things -/
noncomputable def S_is_integer : WSp := fun ws G Q => ∃ x, ws = [x] ∧ Tyd G x ∧ Q (.bl (intB x)) G
theorem v_is_integer : ∀ ws G Q, S_is_integer ws G Q → rd_is_integer { nx := fun _ G' => Q .non G', rt := Q } (startW ["thing"] ws) G := by
  rintro ws G Q ⟨x, rfl, h, q⟩
  show rd_is_integer _ [some x] G
  unfold rd_is_integer
  simp only [WL.wSeq, WL.wSet, WL.wAsg, WL.wDrop, WL.wRet, WL.wRetN, WL.wIfS, WL.wBreak, WL.wCont, WL.wNext, WL.wV, WL.wC, WL.wOp, WL.wUn, WL.wNil, WL.wCons, WL.wApp, WL.wTest, WL.wChain, WL.wAndT, WL.wOrT, WL.wNotT, WL.wAnd, WL.wOr, WL.wNot, WL.wIf, WL.wTup, WL.wLst, WL.wCall, WL.wMake, WL.wFld, WL.wPutF, WL.wSl, WL.wPart, WL.wNoPart, WL.wRev, WL.wName, WL.wNames, WL.wSeqI, WL.wZip, WL.wRng3, WL.wRng1, WL.wRng2, WL.wEnum, WL.wLstRg, WL.wTupRg, WL.wR1, WL.wR2, WL.wCallD, WL.MdW, WL.wgSub, WL.one, WL.two, WL.lk, WL.isB_bl, WL.isI_int, WL.cmpI, WL.isNW, WL.notNW, WL.nonW, WL.wYes, WL.wLockE, WL.wLock, WL.wDNew, WL.wSortSet, WL.wNever, WL.addW_int, WL.addW_tup, WL.addW_str, WL.subW_int, WL.mulW_int, WL.modW_int, WL.fdivW_int, WL.powW_int, WL.negW_int, WL.intW_int, WL.intW_bl, WL.absW, WL.CTg.on, WL.wipeW, WL.setsW, WL.optW_some, WL.wDisp, WL.wPairs, WL.eqW_str, WL.neW_str, WL.eqW_int, WL.neW_int, WL.eqW_bl, WL.neW_bl, WL.ixW_tupE, WL.slW_tupE, WL.sortTW_ref, WL.lenW_tupE, WL.tupW_tupE, WL.listW_tupE, WL.atI_0, WL.atI_1, WL.atI_2, WL.atI_3, WL.atI_4, WL.seqOn_tup, WL.enumOn_tup, List.set, if_true, if_false, Bool.false_eq_true, if_pos, List.length_nil, List.length_cons, Bool.not_true, Bool.not_false]
  refine isi_b h.int ?_
  simp only [WL.wSeq, WL.wSet, WL.wAsg, WL.wDrop, WL.wRet, WL.wRetN, WL.wIfS, WL.wBreak, WL.wCont, WL.wNext, WL.wV, WL.wC, WL.wOp, WL.wUn, WL.wNil, WL.wCons, WL.wApp, WL.wTest, WL.wChain, WL.wAndT, WL.wOrT, WL.wNotT, WL.wAnd, WL.wOr, WL.wNot, WL.wIf, WL.wTup, WL.wLst, WL.wCall, WL.wMake, WL.wFld, WL.wPutF, WL.wSl, WL.wPart, WL.wNoPart, WL.wRev, WL.wName, WL.wNames, WL.wSeqI, WL.wZip, WL.wRng3, WL.wRng1, WL.wRng2, WL.wEnum, WL.wLstRg, WL.wTupRg, WL.wR1, WL.wR2, WL.wCallD, WL.MdW, WL.wgSub, WL.one, WL.two, WL.lk, WL.isB_bl, WL.isI_int, WL.cmpI, WL.isNW, WL.notNW, WL.nonW, WL.wYes, WL.wLockE, WL.wLock, WL.wDNew, WL.wSortSet, WL.wNever, WL.addW_int, WL.addW_tup, WL.addW_str, WL.subW_int, WL.mulW_int, WL.modW_int, WL.fdivW_int, WL.powW_int, WL.negW_int, WL.intW_int, WL.intW_bl, WL.absW, WL.CTg.on, WL.wipeW, WL.setsW, WL.optW_some, WL.wDisp, WL.wPairs, WL.eqW_str, WL.neW_str, WL.eqW_int, WL.neW_int, WL.eqW_bl, WL.neW_bl, WL.ixW_tupE, WL.slW_tupE, WL.sortTW_ref, WL.lenW_tupE, WL.tupW_tupE, WL.listW_tupE, WL.atI_0, WL.atI_1, WL.atI_2, WL.atI_3, WL.atI_4, WL.seqOn_tup, WL.enumOn_tup, List.set, if_true, if_false, Bool.false_eq_true, if_pos, List.length_nil, List.length_cons, Bool.not_true, Bool.not_false]
  cases e : (intB x || boolB x) with
  | true =>
    simp only [WL.wSeq, WL.wSet, WL.wAsg, WL.wDrop, WL.wRet, WL.wRetN, WL.wIfS, WL.wBreak, WL.wCont, WL.wNext, WL.wV, WL.wC, WL.wOp, WL.wUn, WL.wNil, WL.wCons, WL.wApp, WL.wTest, WL.wChain, WL.wAndT, WL.wOrT, WL.wNotT, WL.wAnd, WL.wOr, WL.wNot, WL.wIf, WL.wTup, WL.wLst, WL.wCall, WL.wMake, WL.wFld, WL.wPutF, WL.wSl, WL.wPart, WL.wNoPart, WL.wRev, WL.wName, WL.wNames, WL.wSeqI, WL.wZip, WL.wRng3, WL.wRng1, WL.wRng2, WL.wEnum, WL.wLstRg, WL.wTupRg, WL.wR1, WL.wR2, WL.wCallD, WL.MdW, WL.wgSub, WL.one, WL.two, WL.lk, WL.isB_bl, WL.isI_int, WL.cmpI, WL.isNW, WL.notNW, WL.nonW, WL.wYes, WL.wLockE, WL.wLock, WL.wDNew, WL.wSortSet, WL.wNever, WL.addW_int, WL.addW_tup, WL.addW_str, WL.subW_int, WL.mulW_int, WL.modW_int, WL.fdivW_int, WL.powW_int, WL.negW_int, WL.intW_int, WL.intW_bl, WL.absW, WL.CTg.on, WL.wipeW, WL.setsW, WL.optW_some, WL.wDisp, WL.wPairs, WL.eqW_str, WL.neW_str, WL.eqW_int, WL.neW_int, WL.eqW_bl, WL.neW_bl, WL.ixW_tupE, WL.slW_tupE, WL.sortTW_ref, WL.lenW_tupE, WL.tupW_tupE, WL.listW_tupE, WL.atI_0, WL.atI_1, WL.atI_2, WL.atI_3, WL.atI_4, WL.seqOn_tup, WL.enumOn_tup, List.set, if_true, if_false, Bool.false_eq_true, if_pos, List.length_nil, List.length_cons, Bool.not_true, Bool.not_false]
    refine isi_b h.bool ?_
    simp only [WL.wSeq, WL.wSet, WL.wAsg, WL.wDrop, WL.wRet, WL.wRetN, WL.wIfS, WL.wBreak, WL.wCont, WL.wNext, WL.wV, WL.wC, WL.wOp, WL.wUn, WL.wNil, WL.wCons, WL.wApp, WL.wTest, WL.wChain, WL.wAndT, WL.wOrT, WL.wNotT, WL.wAnd, WL.wOr, WL.wNot, WL.wIf, WL.wTup, WL.wLst, WL.wCall, WL.wMake, WL.wFld, WL.wPutF, WL.wSl, WL.wPart, WL.wNoPart, WL.wRev, WL.wName, WL.wNames, WL.wSeqI, WL.wZip, WL.wRng3, WL.wRng1, WL.wRng2, WL.wEnum, WL.wLstRg, WL.wTupRg, WL.wR1, WL.wR2, WL.wCallD, WL.MdW, WL.wgSub, WL.one, WL.two, WL.lk, WL.isB_bl, WL.isI_int, WL.cmpI, WL.isNW, WL.notNW, WL.nonW, WL.wYes, WL.wLockE, WL.wLock, WL.wDNew, WL.wSortSet, WL.wNever, WL.addW_int, WL.addW_tup, WL.addW_str, WL.subW_int, WL.mulW_int, WL.modW_int, WL.fdivW_int, WL.powW_int, WL.negW_int, WL.intW_int, WL.intW_bl, WL.absW, WL.CTg.on, WL.wipeW, WL.setsW, WL.optW_some, WL.wDisp, WL.wPairs, WL.eqW_str, WL.neW_str, WL.eqW_int, WL.neW_int, WL.eqW_bl, WL.neW_bl, WL.ixW_tupE, WL.slW_tupE, WL.sortTW_ref, WL.lenW_tupE, WL.tupW_tupE, WL.listW_tupE, WL.atI_0, WL.atI_1, WL.atI_2, WL.atI_3, WL.atI_4, WL.seqOn_tup, WL.enumOn_tup, List.set, if_true, if_false, Bool.false_eq_true, if_pos, List.length_nil, List.length_cons, Bool.not_true, Bool.not_false]
    have : (!boolB x) = intB x := by cases x <;> first | rfl | (exact absurd e Bool.false_ne_true)
    rw [this]; exact q
  | false =>
    simp only [WL.wSeq, WL.wSet, WL.wAsg, WL.wDrop, WL.wRet, WL.wRetN, WL.wIfS, WL.wBreak, WL.wCont, WL.wNext, WL.wV, WL.wC, WL.wOp, WL.wUn, WL.wNil, WL.wCons, WL.wApp, WL.wTest, WL.wChain, WL.wAndT, WL.wOrT, WL.wNotT, WL.wAnd, WL.wOr, WL.wNot, WL.wIf, WL.wTup, WL.wLst, WL.wCall, WL.wMake, WL.wFld, WL.wPutF, WL.wSl, WL.wPart, WL.wNoPart, WL.wRev, WL.wName, WL.wNames, WL.wSeqI, WL.wZip, WL.wRng3, WL.wRng1, WL.wRng2, WL.wEnum, WL.wLstRg, WL.wTupRg, WL.wR1, WL.wR2, WL.wCallD, WL.MdW, WL.wgSub, WL.one, WL.two, WL.lk, WL.isB_bl, WL.isI_int, WL.cmpI, WL.isNW, WL.notNW, WL.nonW, WL.wYes, WL.wLockE, WL.wLock, WL.wDNew, WL.wSortSet, WL.wNever, WL.addW_int, WL.addW_tup, WL.addW_str, WL.subW_int, WL.mulW_int, WL.modW_int, WL.fdivW_int, WL.powW_int, WL.negW_int, WL.intW_int, WL.intW_bl, WL.absW, WL.CTg.on, WL.wipeW, WL.setsW, WL.optW_some, WL.wDisp, WL.wPairs, WL.eqW_str, WL.neW_str, WL.eqW_int, WL.neW_int, WL.eqW_bl, WL.neW_bl, WL.ixW_tupE, WL.slW_tupE, WL.sortTW_ref, WL.lenW_tupE, WL.tupW_tupE, WL.listW_tupE, WL.atI_0, WL.atI_1, WL.atI_2, WL.atI_3, WL.atI_4, WL.seqOn_tup, WL.enumOn_tup, List.set, if_true, if_false, Bool.false_eq_true, if_pos, List.length_nil, List.length_cons, Bool.not_true, Bool.not_false]
    have : intB x = false := by cases x <;> first | rfl | (exact absurd e.symm Bool.false_ne_true)
    rw [this] at q; exact q
noncomputable def inB (lo hi : Int) : W → Bool
  | .int i => decide (lo ≤ i) && decide (i ≤ hi)
  | _ => false
noncomputable def S_is_within : WSp := fun ws G Q => ∃ x lo hi, ws = [x, .int lo, .int hi] ∧ Tyd G x ∧ Q (.bl (inB lo hi x)) G
theorem v_is_within : ∀ ws G Q, S_is_within ws G Q → rd_is_within S_is_integer { nx := fun _ G' => Q .non G', rt := Q } (startW ["thing", "least", "most"] ws) G := by
  rintro ws G Q ⟨x, lo, hi, rfl, h, q⟩
  show rd_is_within _ _ [some x, some (.int lo), some (.int hi)] G
  unfold rd_is_within
  simp only [WL.wSeq, WL.wSet, WL.wAsg, WL.wDrop, WL.wRet, WL.wRetN, WL.wIfS, WL.wBreak, WL.wCont, WL.wNext, WL.wV, WL.wC, WL.wOp, WL.wUn, WL.wNil, WL.wCons, WL.wApp, WL.wTest, WL.wChain, WL.wAndT, WL.wOrT, WL.wNotT, WL.wAnd, WL.wOr, WL.wNot, WL.wIf, WL.wTup, WL.wLst, WL.wCall, WL.wMake, WL.wFld, WL.wPutF, WL.wSl, WL.wPart, WL.wNoPart, WL.wRev, WL.wName, WL.wNames, WL.wSeqI, WL.wZip, WL.wRng3, WL.wRng1, WL.wRng2, WL.wEnum, WL.wLstRg, WL.wTupRg, WL.wR1, WL.wR2, WL.wCallD, WL.MdW, WL.wgSub, WL.one, WL.two, WL.lk, WL.isB_bl, WL.isI_int, WL.cmpI, WL.isNW, WL.notNW, WL.nonW, WL.wYes, WL.wLockE, WL.wLock, WL.wDNew, WL.wSortSet, WL.wNever, WL.addW_int, WL.addW_tup, WL.addW_str, WL.subW_int, WL.mulW_int, WL.modW_int, WL.fdivW_int, WL.powW_int, WL.negW_int, WL.intW_int, WL.intW_bl, WL.absW, WL.CTg.on, WL.wipeW, WL.setsW, WL.optW_some, WL.wDisp, WL.wPairs, WL.eqW_str, WL.neW_str, WL.eqW_int, WL.neW_int, WL.eqW_bl, WL.neW_bl, WL.ixW_tupE, WL.slW_tupE, WL.sortTW_ref, WL.lenW_tupE, WL.tupW_tupE, WL.listW_tupE, WL.atI_0, WL.atI_1, WL.atI_2, WL.atI_3, WL.atI_4, WL.seqOn_tup, WL.enumOn_tup, List.set, if_true, if_false, Bool.false_eq_true, if_pos, List.length_nil, List.length_cons, Bool.not_true, Bool.not_false]
  refine ⟨x, rfl, h, ?_⟩
  simp only [WL.wSeq, WL.wSet, WL.wAsg, WL.wDrop, WL.wRet, WL.wRetN, WL.wIfS, WL.wBreak, WL.wCont, WL.wNext, WL.wV, WL.wC, WL.wOp, WL.wUn, WL.wNil, WL.wCons, WL.wApp, WL.wTest, WL.wChain, WL.wAndT, WL.wOrT, WL.wNotT, WL.wAnd, WL.wOr, WL.wNot, WL.wIf, WL.wTup, WL.wLst, WL.wCall, WL.wMake, WL.wFld, WL.wPutF, WL.wSl, WL.wPart, WL.wNoPart, WL.wRev, WL.wName, WL.wNames, WL.wSeqI, WL.wZip, WL.wRng3, WL.wRng1, WL.wRng2, WL.wEnum, WL.wLstRg, WL.wTupRg, WL.wR1, WL.wR2, WL.wCallD, WL.MdW, WL.wgSub, WL.one, WL.two, WL.lk, WL.isB_bl, WL.isI_int, WL.cmpI, WL.isNW, WL.notNW, WL.nonW, WL.wYes, WL.wLockE, WL.wLock, WL.wDNew, WL.wSortSet, WL.wNever, WL.addW_int, WL.addW_tup, WL.addW_str, WL.subW_int, WL.mulW_int, WL.modW_int, WL.fdivW_int, WL.powW_int, WL.negW_int, WL.intW_int, WL.intW_bl, WL.absW, WL.CTg.on, WL.wipeW, WL.setsW, WL.optW_some, WL.wDisp, WL.wPairs, WL.eqW_str, WL.neW_str, WL.eqW_int, WL.neW_int, WL.eqW_bl, WL.neW_bl, WL.ixW_tupE, WL.slW_tupE, WL.sortTW_ref, WL.lenW_tupE, WL.tupW_tupE, WL.listW_tupE, WL.atI_0, WL.atI_1, WL.atI_2, WL.atI_3, WL.atI_4, WL.seqOn_tup, WL.enumOn_tup, List.set, if_true, if_false, Bool.false_eq_true, if_pos, List.length_nil, List.length_cons, Bool.not_true, Bool.not_false]
  cases x <;> first | (simp only [intB, Bool.false_eq_true, if_false]; exact q) | skip
  rename_i i
  simp only [intB, if_true]
  simp only [WL.wSeq, WL.wSet, WL.wAsg, WL.wDrop, WL.wRet, WL.wRetN, WL.wIfS, WL.wBreak, WL.wCont, WL.wNext, WL.wV, WL.wC, WL.wOp, WL.wUn, WL.wNil, WL.wCons, WL.wApp, WL.wTest, WL.wChain, WL.wAndT, WL.wOrT, WL.wNotT, WL.wAnd, WL.wOr, WL.wNot, WL.wIf, WL.wTup, WL.wLst, WL.wCall, WL.wMake, WL.wFld, WL.wPutF, WL.wSl, WL.wPart, WL.wNoPart, WL.wRev, WL.wName, WL.wNames, WL.wSeqI, WL.wZip, WL.wRng3, WL.wRng1, WL.wRng2, WL.wEnum, WL.wLstRg, WL.wTupRg, WL.wR1, WL.wR2, WL.wCallD, WL.MdW, WL.wgSub, WL.one, WL.two, WL.lk, WL.isB_bl, WL.isI_int, WL.cmpI, WL.isNW, WL.notNW, WL.nonW, WL.wYes, WL.wLockE, WL.wLock, WL.wDNew, WL.wSortSet, WL.wNever, WL.addW_int, WL.addW_tup, WL.addW_str, WL.subW_int, WL.mulW_int, WL.modW_int, WL.fdivW_int, WL.powW_int, WL.negW_int, WL.intW_int, WL.intW_bl, WL.absW, WL.CTg.on, WL.wipeW, WL.setsW, WL.optW_some, WL.wDisp, WL.wPairs, WL.eqW_str, WL.neW_str, WL.eqW_int, WL.neW_int, WL.eqW_bl, WL.neW_bl, WL.ixW_tupE, WL.slW_tupE, WL.sortTW_ref, WL.lenW_tupE, WL.tupW_tupE, WL.listW_tupE, WL.atI_0, WL.atI_1, WL.atI_2, WL.atI_3, WL.atI_4, WL.seqOn_tup, WL.enumOn_tup, List.set, if_true, if_false, Bool.false_eq_true, if_pos, List.length_nil, List.length_cons, Bool.not_true, Bool.not_false]
  have q : Q (.bl (decide (lo ≤ i) && decide (i ≤ hi))) G := q
  by_cases h1 : lo ≤ i
  · rw [if_pos (by simpa using h1)]
    rw [decide_eq_true h1, Bool.true_and] at q
    exact q
  · rw [if_neg (by simpa using h1)]
    rw [decide_eq_false h1, Bool.false_and] at q
    exact q
noncomputable def insB (lo hi : Int) : W → Bool
  | .tup ws => ws.all (inB lo hi)
  | _ => false
/-- a thing, its items too, if it is a tuple -/
noncomputable def Tyd2 (G : WHp) (x : W) : Prop := Tyd G x ∧ (∀ ws, x = .tup ws → ws.length < sizeLine ∧ ∀ w ∈ ws, Tyd G w)
noncomputable def S_are_within : WSp := fun ws G Q => ∃ x lo hi, ws = [x, .int lo, .int hi] ∧ Tyd2 G x ∧ ∀ G', Ext G G' → Q (.bl (insB lo hi x)) G'
theorem v_are_within : ∀ ws G Q, S_are_within ws G Q → rd_are_within S_is_within { nx := fun _ G' => Q .non G', rt := Q } (startW ["thing", "least", "most", "item"] ws) G := by
  rintro ws G Q ⟨x, lo, hi, rfl, ⟨h, h2⟩, q⟩
  show rd_are_within _ _ [some x, some (.int lo), some (.int hi), none] G
  unfold rd_are_within
  simp only [WL.wSeq, WL.wSet, WL.wAsg, WL.wDrop, WL.wRet, WL.wRetN, WL.wIfS, WL.wBreak, WL.wCont, WL.wNext, WL.wV, WL.wC, WL.wOp, WL.wUn, WL.wNil, WL.wCons, WL.wApp, WL.wTest, WL.wChain, WL.wAndT, WL.wOrT, WL.wNotT, WL.wAnd, WL.wOr, WL.wNot, WL.wIf, WL.wTup, WL.wLst, WL.wCall, WL.wMake, WL.wFld, WL.wPutF, WL.wSl, WL.wPart, WL.wNoPart, WL.wRev, WL.wName, WL.wNames, WL.wSeqI, WL.wZip, WL.wRng3, WL.wRng1, WL.wRng2, WL.wEnum, WL.wLstRg, WL.wTupRg, WL.wR1, WL.wR2, WL.wCallD, WL.MdW, WL.wgSub, WL.one, WL.two, WL.lk, WL.isB_bl, WL.isI_int, WL.cmpI, WL.isNW, WL.notNW, WL.nonW, WL.wYes, WL.wLockE, WL.wLock, WL.wDNew, WL.wSortSet, WL.wNever, WL.addW_int, WL.addW_tup, WL.addW_str, WL.subW_int, WL.mulW_int, WL.modW_int, WL.fdivW_int, WL.powW_int, WL.negW_int, WL.intW_int, WL.intW_bl, WL.absW, WL.CTg.on, WL.wipeW, WL.setsW, WL.optW_some, WL.wDisp, WL.wPairs, WL.eqW_str, WL.neW_str, WL.eqW_int, WL.neW_int, WL.eqW_bl, WL.neW_bl, WL.ixW_tupE, WL.slW_tupE, WL.sortTW_ref, WL.lenW_tupE, WL.tupW_tupE, WL.listW_tupE, WL.atI_0, WL.atI_1, WL.atI_2, WL.atI_3, WL.atI_4, WL.seqOn_tup, WL.enumOn_tup, List.set, if_true, if_false, Bool.false_eq_true, if_pos, List.length_nil, List.length_cons, Bool.not_true, Bool.not_false]
  refine isi_b h.tuple ?_
  simp only [WL.wSeq, WL.wSet, WL.wAsg, WL.wDrop, WL.wRet, WL.wRetN, WL.wIfS, WL.wBreak, WL.wCont, WL.wNext, WL.wV, WL.wC, WL.wOp, WL.wUn, WL.wNil, WL.wCons, WL.wApp, WL.wTest, WL.wChain, WL.wAndT, WL.wOrT, WL.wNotT, WL.wAnd, WL.wOr, WL.wNot, WL.wIf, WL.wTup, WL.wLst, WL.wCall, WL.wMake, WL.wFld, WL.wPutF, WL.wSl, WL.wPart, WL.wNoPart, WL.wRev, WL.wName, WL.wNames, WL.wSeqI, WL.wZip, WL.wRng3, WL.wRng1, WL.wRng2, WL.wEnum, WL.wLstRg, WL.wTupRg, WL.wR1, WL.wR2, WL.wCallD, WL.MdW, WL.wgSub, WL.one, WL.two, WL.lk, WL.isB_bl, WL.isI_int, WL.cmpI, WL.isNW, WL.notNW, WL.nonW, WL.wYes, WL.wLockE, WL.wLock, WL.wDNew, WL.wSortSet, WL.wNever, WL.addW_int, WL.addW_tup, WL.addW_str, WL.subW_int, WL.mulW_int, WL.modW_int, WL.fdivW_int, WL.powW_int, WL.negW_int, WL.intW_int, WL.intW_bl, WL.absW, WL.CTg.on, WL.wipeW, WL.setsW, WL.optW_some, WL.wDisp, WL.wPairs, WL.eqW_str, WL.neW_str, WL.eqW_int, WL.neW_int, WL.eqW_bl, WL.neW_bl, WL.ixW_tupE, WL.slW_tupE, WL.sortTW_ref, WL.lenW_tupE, WL.tupW_tupE, WL.listW_tupE, WL.atI_0, WL.atI_1, WL.atI_2, WL.atI_3, WL.atI_4, WL.seqOn_tup, WL.enumOn_tup, List.set, if_true, if_false, Bool.false_eq_true, if_pos, List.length_nil, List.length_cons, Bool.not_true, Bool.not_false]
  cases x <;> first | (simp only [tupB, Bool.false_eq_true, if_false]; exact q G .refl) | skip
  rename_i ws
  obtain ⟨h3, h4⟩ := h2 ws rfl
  simp only [tupB, if_true]
  refine wLc_fm (G1 := G) (items := ws) (stable := fun _ => True) (fun R r => r) (fun w => some (.bl (inB lo hi w))) h3 (fun _ _ => trivial) (fun i w hw G1 e1 R r => ?_) (fun D G1 e1 hD => ?_)
  · simp only [WL.wSeq, WL.wSet, WL.wAsg, WL.wDrop, WL.wRet, WL.wRetN, WL.wIfS, WL.wBreak, WL.wCont, WL.wNext, WL.wV, WL.wC, WL.wOp, WL.wUn, WL.wNil, WL.wCons, WL.wApp, WL.wTest, WL.wChain, WL.wAndT, WL.wOrT, WL.wNotT, WL.wAnd, WL.wOr, WL.wNot, WL.wIf, WL.wTup, WL.wLst, WL.wCall, WL.wMake, WL.wFld, WL.wPutF, WL.wSl, WL.wPart, WL.wNoPart, WL.wRev, WL.wName, WL.wNames, WL.wSeqI, WL.wZip, WL.wRng3, WL.wRng1, WL.wRng2, WL.wEnum, WL.wLstRg, WL.wTupRg, WL.wR1, WL.wR2, WL.wCallD, WL.MdW, WL.wgSub, WL.one, WL.two, WL.lk, WL.isB_bl, WL.isI_int, WL.cmpI, WL.isNW, WL.notNW, WL.nonW, WL.wYes, WL.wLockE, WL.wLock, WL.wDNew, WL.wSortSet, WL.wNever, WL.addW_int, WL.addW_tup, WL.addW_str, WL.subW_int, WL.mulW_int, WL.modW_int, WL.fdivW_int, WL.powW_int, WL.negW_int, WL.intW_int, WL.intW_bl, WL.absW, WL.CTg.on, WL.wipeW, WL.setsW, WL.optW_some, WL.wDisp, WL.wPairs, WL.eqW_str, WL.neW_str, WL.eqW_int, WL.neW_int, WL.eqW_bl, WL.neW_bl, WL.ixW_tupE, WL.slW_tupE, WL.sortTW_ref, WL.lenW_tupE, WL.tupW_tupE, WL.listW_tupE, WL.atI_0, WL.atI_1, WL.atI_2, WL.atI_3, WL.atI_4, WL.seqOn_tup, WL.enumOn_tup, List.set, if_true, if_false, Bool.false_eq_true, if_pos, List.length_nil, List.length_cons, Bool.not_true, Bool.not_false]
    exact ⟨w, lo, hi, rfl, (h4 w (List.mem_of_getElem? hw)).ext e1, r G1 .refl⟩
  · refine allW_of (bs := ws.map (inB lo hi)) (by rw [updG_same, List.filterMap_eq_map']; simp) ?_
    have := q _ (e1.trans (.new (o := .lst (List.filterMap (fun w => some (W.bl (inB lo hi w))) ws)) hD))
    unfold insB at this
    rw [show (ws.map (inB lo hi)).all id = ws.all (inB lo hi) by simp]
    exact this
end K54
set_option Elab.async false
set_option linter.all false
set_option maxRecDepth 100000
set_option maxHeartbeats 1000000
set_option pp.maxSteps 400
/-! programs as data, in plain Lean -/
namespace PR
open PySem PySem.Spec PyProof.Rows L2 WL
noncomputable def nI (n : Nat) : W := .int (n : Int)
inductive Line where
  | fin | mk (n : Nat) (rs : List Nat) (g : Nat) | sh (n g : Nat) | ask (n a b : Nat)
  deriving DecidableEq
noncomputable def Line.w : Line → W
  | .fin => .tup [.str "end"]
  | .mk n rs g => .tup [.str "make", nI n, .tup (rs.map nI), nI g]
  | .sh n g => .tup [.str "show", nI n, nI g]
  | .ask n a b => .tup [.str "ask", nI n, nI a, nI b]
noncomputable def Line.goals : Line → List Nat
  | .fin => []
  | .mk _ _ g => [g]
  | .sh _ g => [g]
  | .ask _ a b => [a, b]
noncomputable def Line.reads : Line → List Nat
  | .fin => []
  | .mk _ rs _ => rs
  | .sh n _ => [n]
  | .ask n _ _ => [n]
noncomputable def Line.made : Line → Option Nat
  | .mk n _ _ => some n
  | _ => none
noncomputable def Line.isMake : Line → Bool
  | .mk _ _ _ => true
  | _ => false
/-- well-formed at a place -/
noncomputable def Line.Ok (names many at_ : Nat) : Line → Prop
  | .fin => True
  | .mk n rs g => n < names ∧ rs.length ≤ 3 ∧ (∀ r ∈ rs, r < names) ∧ g < many ∧ g ≠ at_
  | .sh n g => n < names ∧ g < many ∧ g ≠ at_
  | .ask n a b => n < names ∧ a < many ∧ a ≠ at_ ∧ b < many ∧ b ≠ at_ ∧ a ≠ b
/-! ### dicts as lots of numbers -/
noncomputable def kS (S : List Nat) : List (Key × W) := S.map fun (i : Nat) => ((Sum.inl (i : Int) : Key), W.bl true)
theorem nodup_lt {S : List Nat} {m : Nat} (h : S.Nodup) (hm : ∀ i ∈ S, i < m) : S.length ≤ m := by
  have := List.Nodup.length_le_of_subset h (l₂ := List.range m) fun i hi => List.mem_range.mpr (hm i hi)
  simpa using this
/-! ### lists of dicts -/
inductive DAll (G : WHp) : List Addr → List (List Nat) → Prop
  | nil : DAll G [] []
  | cons {a : Addr} {S : List Nat} {as : List Addr} {Ss : List (List Nat)} (h : G a = some (.dct (kS S))) (t : DAll G as Ss) : DAll G (a :: as) (S :: Ss)
section
variable {G G' : WHp}
theorem DAll.length : ∀ {as : List Addr} {Ss : List (List Nat)}, DAll G as Ss → as.length = Ss.length
  | _, _, .nil => rfl
  | _, _, .cons _ t => by rw [List.length_cons, List.length_cons, DAll.length t]
theorem DAll.get : ∀ {as : List Addr} {Ss : List (List Nat)} {i : Nat} {S : List Nat}, DAll G as Ss → Ss[i]? = some S → ∃ a, as[i]? = some a ∧ G a = some (.dct (kS S))
  | _, _, _, _, .nil, e => by simp at e
  | _, _, 0, _, .cons h _, e => by simp at e; subst e; exact ⟨_, rfl, h⟩
  | _, _, i + 1, S, .cons _ t, e => by
    obtain ⟨a, e1, e2⟩ := DAll.get (i := i) (S := S) t (by simpa using e)
    exact ⟨a, by simpa using e1, e2⟩
theorem DAll.mono : ∀ {as : List Addr} {Ss : List (List Nat)}, DAll G as Ss → (∀ a ∈ as, ∀ S, G a = some (.dct (kS S)) → G' a = some (.dct (kS S))) → DAll G' as Ss
  | _, _, .nil, _ => .nil
  | _, _, .cons h t, k => .cons (k _ (by simp) _ h) (DAll.mono t fun a ha => k a (by simp [ha]))
theorem DAll.set {a : Addr} {S : List Nat} (h : G a = some (.dct (kS S))) : ∀ {as : List Addr} {Ss : List (List Nat)} (i : Nat), DAll G as Ss → DAll G (as.set i a) (Ss.set i S)
  | _, _, _, .nil => .nil
  | _, _, 0, .cons _ t => .cons h t
  | _, _, i + 1, .cons q t => .cons q (DAll.set h i t)
theorem DAll.rep {a : Addr} {S : List Nat} (h : G a = some (.dct (kS S))) : ∀ n : Nat, DAll G (List.replicate n a) (List.replicate n S)
  | 0 => .nil
  | n + 1 => .cons h (DAll.rep h n)
theorem DAll.dct : ∀ {as : List Addr} {Ss : List (List Nat)}, DAll G as Ss → ∀ a ∈ as, ∃ S, G a = some (.dct (kS S))
  | _, _, .nil, _, h => by cases h
  | _, _, .cons h t, a, ha => by
    rcases List.mem_cons.mp ha with rfl | ha
    · exact ⟨_, h⟩
    · exact DAll.dct t a ha
theorem DAll.snoc {a : Addr} {S : List Nat} (h : G a = some (.dct (kS S))) : ∀ {as : List Addr} {Ss : List (List Nat)}, DAll G as Ss → DAll G (as ++ [a]) (Ss ++ [S])
  | _, _, .nil => .cons h .nil
  | _, _, .cons q t => .cons q (DAll.snoc h t)
end
/-! ### programs -/
structure Valid (names : Nat) (starts : List Nat) (R : List Line) : Prop where
  n1 : 1 ≤ names
  n2 : names ≤ 10
  st : starts.Pairwise (· < ·)
  stn : ∀ s ∈ starts, s < names
  m1 : 1 ≤ R.length
  m2 : R.length ≤ 24
  ok : ∀ (i : Nat) (r : Line), R[i]? = some r → r.Ok names R.length i
  met : ∀ S : Nat → Prop, S 0 → (∀ (i : Nat) (r : Line) (g : Nat), R[i]? = some r → S i → g ∈ r.goals → S g) → ∀ i, i < R.length → S i
  rank : ∃ h : Nat → Nat, ∀ (i : Nat) (r : Line), R[i]? = some r → h i < R.length ∧ (r = .fin ∨ ∃ g ∈ r.goals, h g < h i)
  fam : ∃ F : Nat → Nat → Prop, (∀ x, F 0 x → x ∈ starts) ∧ (∀ i x, F i x → x < names) ∧ (∀ (i : Nat) (r : Line) (g x : Nat), R[i]? = some r → g ∈ r.goals → F g x → F i x ∨ r.made = some x) ∧ ∀ (i : Nat) (r : Line) (x : Nat), R[i]? = some r → x ∈ r.reads → F i x
theorem Line.goals_lt {r : Line} {names many at_ : Nat} (h : r.Ok names many at_) : ∀ g ∈ r.goals, g < many := by
  intro g hg
  cases r with
  | fin => cases hg
  | mk n rs a => rw [List.mem_singleton.mp hg]; exact h.2.2.2.1
  | sh n a => rw [List.mem_singleton.mp hg]; exact h.2.1
  | ask n a b =>
    have : g = a ∨ g = b := by simpa [Line.goals] using hg
    rcases this with rfl | rfl
    · exact h.2.1
    · exact h.2.2.2.1
/-- all goals are rows -/
noncomputable def GoalsIn (R : List Line) : Prop := ∀ (i : Nat) (r : Line) (g : Nat), R[i]? = some r → g ∈ r.goals → g < R.length
theorem Valid.goals {names : Nat} {starts : List Nat} {R : List Line} (v : Valid names starts R) : GoalsIn R := fun i r g h hg => Line.goals_lt (v.ok i r h) g hg
/-! ### what is wanted -/
inductive Want (R : List Line) : Nat → Nat → Prop
  | pass {i : Nat} {r : Line} {g x : Nat} (hr : R[i]? = some r) (hg : g ∈ r.goals) (h : Want R g x) (hm : r.made ≠ some x) : Want R i x
  | look {i : Nat} {r : Line} {x : Nat} (hr : R[i]? = some r) (hx : x ∈ r.reads) (hk : r.isMake = false) : Want R i x
  | make {i n : Nat} {rs : List Nat} {g x : Nat} (hr : R[i]? = some (.mk n rs g)) (hx : x ∈ rs) (h : Want R g n) : Want R i x
/-- one round of it -/
noncomputable def InF (Ss : List (List Nat)) (r : Line) (x : Nat) : Prop :=
  ((∃ g ∈ r.goals, ∃ S, Ss[g]? = some S ∧ x ∈ S) ∧ r.made ≠ some x) ∨ (x ∈ r.reads ∧ ∀ n, r.made = some n → ∃ g ∈ r.goals, ∃ S, Ss[g]? = some S ∧ n ∈ S)
theorem Want.sub {R : List Line} {Ss : List (List Nat)} (hl : Ss.length = R.length) (hG : GoalsIn R) (cl : ∀ (i : Nat) (r : Line) (S : List Nat), R[i]? = some r → Ss[i]? = some S → ∀ x, InF Ss r x → x ∈ S) : ∀ {i x : Nat}, Want R i x → ∀ S, Ss[i]? = some S → x ∈ S := by
  intro i x h
  have at_ : ∀ g, g < R.length → ∃ S, Ss[g]? = some S := fun g hg => ⟨Ss[g]'(by omega), by simp [hl, hg]⟩
  induction h with
  | pass hr hg h hm ih =>
    intro S hS
    obtain ⟨T, hT⟩ := at_ _ (hG _ _ _ hr hg)
    exact cl _ _ S hr hS _ (.inl ⟨⟨_, hg, T, hT, ih T hT⟩, hm⟩)
  | @look i r x hr hx hk =>
    intro S hS
    refine cl _ _ S hr hS _ (.inr ⟨hx, fun n hn => ?_⟩)
    cases r <;> simp [Line.made] at hn
    cases hk
  | @make i n rs g x hr hx h ih =>
    intro S hS
    refine cl _ _ S hr hS _ (.inr ⟨hx, fun m hm => ?_⟩)
    cases hm
    obtain ⟨T, hT⟩ := at_ g (hG _ _ g hr (by simp [Line.goals]))
    exact ⟨g, by simp [Line.goals], T, hT, ih T hT⟩
theorem Want.lt {R : List Line} {names : Nat} (ok : ∀ (i : Nat) (r : Line), R[i]? = some r → ∀ x ∈ r.reads, x < names) : ∀ {i x : Nat}, Want R i x → x < names := by
  intro i x h
  induction h with
  | pass _ _ _ _ ih => exact ih
  | look hr hx _ => exact ok _ _ hr _ hx
  | make hr hx _ _ => exact ok _ _ hr _ hx
theorem InF.mono {Ss Ts : List (List Nat)} {r : Line} {x : Nat} (h : InF Ss r x) (m : ∀ (i : Nat) (S : List Nat), Ss[i]? = some S → ∃ T, Ts[i]? = some T ∧ ∀ x ∈ S, x ∈ T) : InF Ts r x := by
  rcases h with ⟨⟨g, hg, S, hS, hx⟩, hm⟩ | ⟨hx, hn⟩
  · obtain ⟨T, hT, hs⟩ := m g S hS
    exact .inl ⟨⟨g, hg, T, hT, hs x hx⟩, hm⟩
  · refine .inr ⟨hx, fun n e => ?_⟩
    obtain ⟨g, hg, S, hS, hnS⟩ := hn n e
    obtain ⟨T, hT, hs⟩ := m g S hS
    exact ⟨g, hg, T, hT, hs n hnS⟩
end PR
set_option Elab.async false
set_option linter.all false
set_option maxRecDepth 100000
set_option maxHeartbeats 1000000
set_option pp.maxSteps 400
/-! webs: what is held as a number of ones, moves, what can be reached; one room more where nothing slides -/
namespace PR
theorem tb_add : ∀ {t m : Nat} (j : Nat), m.testBit t = false → (m + 2 ^ t).testBit j = (decide (j = t) || m.testBit j)
  | 0, m, j, h => by
    rw [Nat.testBit_zero] at h
    have h : m % 2 = 0 := by have := of_decide_eq_false h; omega
    cases j with
    | zero => rw [Nat.testBit_zero]; simp; omega
    | succ j =>
      rw [Nat.testBit_succ, Nat.testBit_succ, show (m + 2 ^ 0) / 2 = m / 2 by rw [Nat.pow_zero]; omega]
      simp
  | t + 1, m, j, h => by
    rw [Nat.testBit_succ] at h
    cases j with
    | zero =>
      rw [Nat.testBit_zero, Nat.testBit_zero, Nat.pow_succ, show (m + 2 ^ t * 2) % 2 = m % 2 by omega]
      simp
    | succ j =>
      rw [Nat.testBit_succ, Nat.testBit_succ, Nat.pow_succ, show (m + 2 ^ t * 2) / 2 = m / 2 + 2 ^ t by omega, tb_add j h]
      simp
theorem tb_sub : ∀ {t m : Nat} (j : Nat), m.testBit t = true → (m - 2 ^ t).testBit j = (!decide (j = t) && m.testBit j)
  | 0, m, j, h => by
    rw [Nat.testBit_zero] at h
    have h : m % 2 = 1 := of_decide_eq_true h
    cases j with
    | zero => rw [Nat.testBit_zero]; simp; omega
    | succ j =>
      rw [Nat.testBit_succ, Nat.testBit_succ, show (m - 2 ^ 0) / 2 = m / 2 by rw [Nat.pow_zero]; omega]
      simp
  | t + 1, m, j, h => by
    rw [Nat.testBit_succ] at h
    have hge := Nat.ge_two_pow_of_testBit h
    cases j with
    | zero =>
      rw [Nat.testBit_zero, Nat.testBit_zero, Nat.pow_succ, show (m - 2 ^ t * 2) % 2 = m % 2 by omega]
      simp
    | succ j =>
      rw [Nat.testBit_succ, Nat.testBit_succ, Nat.pow_succ, show (m - 2 ^ t * 2) / 2 = m / 2 - 2 ^ t by omega, tb_sub j h]
      simp
/-- the things held, ascending -/
noncomputable def ones (n m : Nat) : List Nat := (List.range n).filter fun j => m.testBit j
theorem mem_ones {n m j : Nat} : j ∈ ones n m ↔ j < n ∧ m.testBit j = true := by
  unfold ones
  rw [List.mem_filter, List.mem_range]
theorem ones_lt (n m : Nat) : (ones n m).Pairwise (· < ·) := (List.pairwise_lt_range).filter _
theorem ones_nd (n m : Nat) : (ones n m).Nodup := (ones_lt n m).imp fun h => Nat.ne_of_lt h
theorem ones_len {n m : Nat} : (ones n m).length ≤ n := by
  have := List.length_filter_le (fun j => m.testBit j) (List.range n)
  rw [List.length_range] at this
  exact this
/-- ascending lists with the same things are one -/
theorem asc_ext {a b : List Nat} (ha : a.Pairwise (· < ·)) (hb : b.Pairwise (· < ·)) (h : ∀ j, j ∈ a ↔ j ∈ b) : a = b := by
  have hp : a.Perm b := (List.perm_ext_iff_of_nodup (ha.imp fun h => Nat.ne_of_lt h) (hb.imp fun h => Nat.ne_of_lt h)).mpr h
  exact hp.eq_of_pairwise (fun x y _ _ h1 h2 => absurd h1 (Nat.lt_asymm h2)) ha hb
theorem ones_perm {n m : Nat} {l : List Nat} (nd : l.Nodup) (h : ∀ j, j ∈ l ↔ j < n ∧ m.testBit j = true) : l.Perm (ones n m) :=
  (List.perm_ext_iff_of_nodup nd (ones_nd n m)).mpr fun j => by rw [h, mem_ones]
theorem ones_inj {n m k : Nat} (hm : m < 2 ^ n) (hk : k < 2 ^ n) (h : ones n m = ones n k) : m = k := by
  refine Nat.eq_of_testBit_eq fun j => ?_
  by_cases hj : j < n
  · have := (mem_ones (n := n) (m := m) (j := j))
    rw [h, mem_ones] at this
    simp only [hj, true_and] at this
    rw [Bool.eq_iff_iff]; exact this.symm
  · rw [Nat.testBit_lt_two_pow (Nat.lt_of_lt_of_le hm (Nat.pow_le_pow_right (by decide) (by omega))), Nat.testBit_lt_two_pow (Nat.lt_of_lt_of_le hk (Nat.pow_le_pow_right (by decide) (by omega)))]
theorem lt_of_bits {n m : Nat} (h : ∀ j, m.testBit j = true → j < n) : m < 2 ^ n := by
  refine Nat.lt_pow_two_of_testBit m fun j hj => ?_
  cases e : m.testBit j with
  | false => rfl
  | true => have := h j e; omega
theorem bit_lt {n m j : Nat} (hm : m < 2 ^ n) (h : m.testBit j = true) : j < n := by
  by_cases hj : j < n
  · exact hj
  · rw [Nat.testBit_lt_two_pow (Nat.lt_of_lt_of_le hm (Nat.pow_le_pow_right (by decide) (by omega)))] at h; cases h
theorem ones_add {n m t : Nat} (ht : t < n) (h : m.testBit t = false) : (t :: ones n m).Perm (ones n (m + 2 ^ t)) :=
  ones_perm (List.nodup_cons.mpr ⟨fun hm => (by rw [(mem_ones.mp hm).2] at h; cases h), ones_nd n m⟩) fun j => by
    rw [tb_add j h, List.mem_cons, mem_ones]
    constructor
    · rintro (rfl | ⟨h1, h2⟩)
      · exact ⟨ht, by simp⟩
      · exact ⟨h1, by simp [h2]⟩
    · rintro ⟨h1, h2⟩
      rw [Bool.or_eq_true, decide_eq_true_iff] at h2
      exact h2.imp id fun h => ⟨h1, h⟩
theorem ones_sub {n m t : Nat} (h : m.testBit t = true) : (ones n m).filter (fun j => !decide (j = t)) = ones n (m - 2 ^ t) :=
  asc_ext ((ones_lt n m).filter _) (ones_lt _ _) fun j => by
    rw [List.mem_filter, mem_ones, mem_ones, tb_sub j h, Bool.and_eq_true]
    exact ⟨fun ⟨⟨a, b⟩, c⟩ => ⟨a, c, b⟩, fun ⟨a, c, b⟩ => ⟨⟨a, b⟩, c⟩⟩
noncomputable def popc (n m : Nat) : Nat := (ones n m).length
theorem popc_add {n m t : Nat} (ht : t < n) (h : m.testBit t = false) : popc n (m + 2 ^ t) = popc n m + 1 := by
  have := (ones_add ht h).length_eq
  rw [List.length_cons] at this
  exact this.symm
theorem add_sub {m t : Nat} (h : m.testBit t = true) : (m - 2 ^ t) + 2 ^ t = m := Nat.sub_add_cancel (Nat.ge_two_pow_of_testBit h)
theorem popc_sub {n m t : Nat} (ht : t < n) (h : m.testBit t = true) : popc n (m - 2 ^ t) + 1 = popc n m := by
  have h0 : (m - 2 ^ t).testBit t = false := by rw [tb_sub t h]; simp
  rw [← popc_add ht h0, add_sub h]
theorem popc_zero (n : Nat) : popc n 0 = 0 := by
  unfold popc ones
  simp
/-! ### what can follow, what can be reached -/
/-- what each thing reads -/
structure ReadsOk (rs : List (List Nat)) : Prop where
  lt : ∀ (t : Nat) (l : List Nat), rs[t]? = some l → ∀ o ∈ l, o < t
  asc : ∀ l ∈ rs, List.Pairwise (fun a b : Nat => a < b) l
  pos : 1 ≤ rs.length
  ten : rs.length ≤ 10
noncomputable def rdOf (rs : List (List Nat)) (t : Nat) : List Nat := rs.getD t []
noncomputable def mayB (rs : List (List Nat)) (m t : Nat) : Bool := !m.testBit t && (rdOf rs t).all fun o => m.testBit o
/-- one step without a bound -/
inductive Nx (rs : List (List Nat)) (apart : Bool) (m : Nat) : Nat → Prop
  | clear (t : Nat) (ht : t < rs.length) (h : m.testBit t = true) : Nx rs apart m (m - 2 ^ t)
  | fill (t : Nat) (ht : t < rs.length) (h : mayB rs m t = true) : Nx rs apart m (m + 2 ^ t)
  | slide (t o : Nat) (ht : t < rs.length) (h : mayB rs m t = true) (ho : o ∈ rdOf rs t) (ha : apart = false) : Nx rs apart m (m + 2 ^ t - 2 ^ o)
inductive Reach (rs : List (List Nat)) (rooms : Nat) (apart : Bool) : Nat → Prop
  | zero : Reach rs rooms apart 0
  | step {m k : Nat} (h : Reach rs rooms apart m) (s : Nx rs apart m k) (hr : popc rs.length k ≤ rooms) : Reach rs rooms apart k
noncomputable def goalB (rs : List (List Nat)) (m : Nat) : Bool := m.testBit (rs.length - 1)
noncomputable def Win (rs : List (List Nat)) (rooms : Nat) (apart : Bool) : Prop := ∃ m, Reach rs rooms apart m ∧ goalB rs m = true
theorem may_iff {rs : List (List Nat)} {m t : Nat} : mayB rs m t = true ↔ m.testBit t = false ∧ ∀ o ∈ rdOf rs t, m.testBit o = true := by
  unfold mayB
  rw [Bool.and_eq_true, List.all_eq_true, Bool.not_eq_true']
theorem rd_lt {rs : List (List Nat)} (ok : ReadsOk rs) {t o : Nat} (h : o ∈ rdOf rs t) : o < t := by
  unfold rdOf at h
  rw [List.getD_eq_getElem?_getD] at h
  cases e : rs[t]? with
  | none => rw [e] at h; cases h
  | some l => rw [e] at h; exact ok.lt t l e o h
section
variable {rs : List (List Nat)} {rooms : Nat} {apart : Bool}
theorem Nx.lt (ok : ReadsOk rs) {m k : Nat} (hm : m < 2 ^ rs.length) (h : Nx rs apart m k) : k < 2 ^ rs.length := by
  have hadd : ∀ {t}, t < rs.length → mayB rs m t = true → ∀ j, (m + 2 ^ t).testBit j = true → j < rs.length := fun {t} ht h j hj => by
    rw [tb_add j (may_iff.mp h).1, Bool.or_eq_true, decide_eq_true_iff] at hj
    exact hj.elim (fun e => e ▸ ht) (bit_lt hm)
  cases h with
  | clear t ht h => exact Nat.lt_of_le_of_lt (Nat.sub_le _ _) hm
  | fill t ht h => exact lt_of_bits (hadd ht h)
  | slide t o ht h ho ha => exact Nat.lt_of_le_of_lt (Nat.sub_le _ _) (lt_of_bits (hadd ht h))
theorem Reach.lt (ok : ReadsOk rs) {m : Nat} (h : Reach rs rooms apart m) : m < 2 ^ rs.length := by
  induction h with
  | zero => exact Nat.two_pow_pos _
  | step h s hr ih => exact s.lt ok ih
theorem Reach.le {m : Nat} (h : Reach rs rooms apart m) : popc rs.length m ≤ rooms := by
  cases h with
  | zero => rw [popc_zero]; omega
  | step h s hr => exact hr
theorem Reach.mono {r2 : Nat} (hle : rooms ≤ r2) {m : Nat} (h : Reach rs rooms apart m) : Reach rs r2 apart m := by
  induction h with
  | zero => exact .zero
  | step h s hr ih => exact .step ih s (by omega)
theorem Win.mono {r2 : Nat} (hle : rooms ≤ r2) (h : Win rs rooms apart) : Win rs r2 apart := by
  obtain ⟨m, h1, h2⟩ := h
  exact ⟨m, h1.mono hle, h2⟩
/-- with as many rooms as things each thing is made in turn -/
theorem reach_low (ok : ReadsOk rs) : ∀ k, k ≤ rs.length → Reach rs rs.length apart (2 ^ k - 1)
  | 0, _ => .zero
  | k + 1, hk => by
    have ih := reach_low ok k (by omega)
    have b : ∀ j, (2 ^ k - 1).testBit j = decide (j < k) := fun j => Nat.testBit_two_pow_sub_one ..
    have hm : mayB rs (2 ^ k - 1) k = true := may_iff.mpr ⟨by rw [b]; simp, fun o ho => by rw [b]; simpa using rd_lt ok ho⟩
    have e : 2 ^ (k + 1) - 1 = 2 ^ k - 1 + 2 ^ k := by have := Nat.two_pow_pos k; rw [Nat.pow_succ]; omega
    rw [e]
    exact .step ih (.fill k (by omega) hm) ones_len
theorem win_all (ok : ReadsOk rs) : Win rs rs.length apart := ⟨_, reach_low ok rs.length (Nat.le_refl _), by
  unfold goalB
  rw [Nat.testBit_two_pow_sub_one]
  have := ok.pos
  simp; omega⟩
/-! ### one room more -/
/-- the least number of rooms -/
noncomputable def Least (rs : List (List Nat)) (apart : Bool) (r : Nat) : Prop := 1 ≤ r ∧ Win rs r apart ∧ ∀ k, 1 ≤ k → k < r → ¬ Win rs k apart
theorem Least.uniq {a b : Nat} (ha : Least rs apart a) (hb : Least rs apart b) : a = b := by
  rcases Nat.lt_trichotomy a b with h | h | h
  · exact absurd ha.2.1 (hb.2.2 a ha.1 h)
  · exact h
  · exact absurd hb.2.1 (ha.2.2 b hb.1 h)
end
end PR
set_option Elab.async false
set_option linter.all false
set_option maxRecDepth 100000
set_option maxHeartbeats 1000000
set_option pp.maxSteps 400
namespace K54
open PySem PySem.Spec PyProof.Rows L2 WL PR
noncomputable def sizB (lo hi : Int) : W → Bool
  | .tup ws => decide (lo ≤ ws.length) && decide ((ws.length : Int) ≤ hi)
  | _ => false
noncomputable def S_is_sized : WSp := fun ws G Q => ∃ x lo hi, ws = [x, .int lo, .int hi] ∧ Tyd G x ∧ Q (.bl (sizB lo hi x)) G
theorem v_is_sized : ∀ ws G Q, S_is_sized ws G Q → rd_is_sized { nx := fun _ G' => Q .non G', rt := Q } (startW ["thing", "least", "most"] ws) G := by
  rintro ws G Q ⟨x, lo, hi, rfl, h, q⟩
  show rd_is_sized _ [some x, some (.int lo), some (.int hi)] G
  unfold rd_is_sized
  simp only [WL.wSeq, WL.wSet, WL.wAsg, WL.wDrop, WL.wRet, WL.wRetN, WL.wIfS, WL.wBreak, WL.wCont, WL.wNext, WL.wV, WL.wC, WL.wOp, WL.wUn, WL.wNil, WL.wCons, WL.wApp, WL.wTest, WL.wChain, WL.wAndT, WL.wOrT, WL.wNotT, WL.wAnd, WL.wOr, WL.wNot, WL.wIf, WL.wTup, WL.wLst, WL.wCall, WL.wMake, WL.wFld, WL.wPutF, WL.wSl, WL.wPart, WL.wNoPart, WL.wRev, WL.wName, WL.wNames, WL.wSeqI, WL.wZip, WL.wRng3, WL.wRng1, WL.wRng2, WL.wEnum, WL.wLstRg, WL.wTupRg, WL.wR1, WL.wR2, WL.wCallD, WL.MdW, WL.wgSub, WL.one, WL.two, WL.lk, WL.isB_bl, WL.isI_int, WL.cmpI, WL.isNW, WL.notNW, WL.nonW, WL.wYes, WL.wLockE, WL.wLock, WL.wDNew, WL.wSortSet, WL.wNever, WL.addW_int, WL.addW_tup, WL.addW_str, WL.subW_int, WL.mulW_int, WL.modW_int, WL.fdivW_int, WL.powW_int, WL.negW_int, WL.intW_int, WL.intW_bl, WL.absW, WL.CTg.on, WL.wipeW, WL.setsW, WL.optW_some, WL.wDisp, WL.wPairs, WL.eqW_str, WL.neW_str, WL.eqW_int, WL.neW_int, WL.eqW_bl, WL.neW_bl, WL.ixW_tupE, WL.slW_tupE, WL.sortTW_ref, WL.lenW_tupE, WL.tupW_tupE, WL.listW_tupE, WL.atI_0, WL.atI_1, WL.atI_2, WL.atI_3, WL.atI_4, WL.seqOn_tup, WL.enumOn_tup, List.set, if_true, if_false, Bool.false_eq_true, if_pos, List.length_nil, List.length_cons, Bool.not_true, Bool.not_false]
  refine isi_b h.tuple ?_
  simp only [WL.wSeq, WL.wSet, WL.wAsg, WL.wDrop, WL.wRet, WL.wRetN, WL.wIfS, WL.wBreak, WL.wCont, WL.wNext, WL.wV, WL.wC, WL.wOp, WL.wUn, WL.wNil, WL.wCons, WL.wApp, WL.wTest, WL.wChain, WL.wAndT, WL.wOrT, WL.wNotT, WL.wAnd, WL.wOr, WL.wNot, WL.wIf, WL.wTup, WL.wLst, WL.wCall, WL.wMake, WL.wFld, WL.wPutF, WL.wSl, WL.wPart, WL.wNoPart, WL.wRev, WL.wName, WL.wNames, WL.wSeqI, WL.wZip, WL.wRng3, WL.wRng1, WL.wRng2, WL.wEnum, WL.wLstRg, WL.wTupRg, WL.wR1, WL.wR2, WL.wCallD, WL.MdW, WL.wgSub, WL.one, WL.two, WL.lk, WL.isB_bl, WL.isI_int, WL.cmpI, WL.isNW, WL.notNW, WL.nonW, WL.wYes, WL.wLockE, WL.wLock, WL.wDNew, WL.wSortSet, WL.wNever, WL.addW_int, WL.addW_tup, WL.addW_str, WL.subW_int, WL.mulW_int, WL.modW_int, WL.fdivW_int, WL.powW_int, WL.negW_int, WL.intW_int, WL.intW_bl, WL.absW, WL.CTg.on, WL.wipeW, WL.setsW, WL.optW_some, WL.wDisp, WL.wPairs, WL.eqW_str, WL.neW_str, WL.eqW_int, WL.neW_int, WL.eqW_bl, WL.neW_bl, WL.ixW_tupE, WL.slW_tupE, WL.sortTW_ref, WL.lenW_tupE, WL.tupW_tupE, WL.listW_tupE, WL.atI_0, WL.atI_1, WL.atI_2, WL.atI_3, WL.atI_4, WL.seqOn_tup, WL.enumOn_tup, List.set, if_true, if_false, Bool.false_eq_true, if_pos, List.length_nil, List.length_cons, Bool.not_true, Bool.not_false]
  cases x <;> first | (simp only [tupB, Bool.false_eq_true, if_false]; exact q) | skip
  rename_i l
  simp only [tupB, if_true]
  simp only [WL.wSeq, WL.wSet, WL.wAsg, WL.wDrop, WL.wRet, WL.wRetN, WL.wIfS, WL.wBreak, WL.wCont, WL.wNext, WL.wV, WL.wC, WL.wOp, WL.wUn, WL.wNil, WL.wCons, WL.wApp, WL.wTest, WL.wChain, WL.wAndT, WL.wOrT, WL.wNotT, WL.wAnd, WL.wOr, WL.wNot, WL.wIf, WL.wTup, WL.wLst, WL.wCall, WL.wMake, WL.wFld, WL.wPutF, WL.wSl, WL.wPart, WL.wNoPart, WL.wRev, WL.wName, WL.wNames, WL.wSeqI, WL.wZip, WL.wRng3, WL.wRng1, WL.wRng2, WL.wEnum, WL.wLstRg, WL.wTupRg, WL.wR1, WL.wR2, WL.wCallD, WL.MdW, WL.wgSub, WL.one, WL.two, WL.lk, WL.isB_bl, WL.isI_int, WL.cmpI, WL.isNW, WL.notNW, WL.nonW, WL.wYes, WL.wLockE, WL.wLock, WL.wDNew, WL.wSortSet, WL.wNever, WL.addW_int, WL.addW_tup, WL.addW_str, WL.subW_int, WL.mulW_int, WL.modW_int, WL.fdivW_int, WL.powW_int, WL.negW_int, WL.intW_int, WL.intW_bl, WL.absW, WL.CTg.on, WL.wipeW, WL.setsW, WL.optW_some, WL.wDisp, WL.wPairs, WL.eqW_str, WL.neW_str, WL.eqW_int, WL.neW_int, WL.eqW_bl, WL.neW_bl, WL.ixW_tupE, WL.slW_tupE, WL.sortTW_ref, WL.lenW_tupE, WL.tupW_tupE, WL.listW_tupE, WL.atI_0, WL.atI_1, WL.atI_2, WL.atI_3, WL.atI_4, WL.seqOn_tup, WL.enumOn_tup, List.set, if_true, if_false, Bool.false_eq_true, if_pos, List.length_nil, List.length_cons, Bool.not_true, Bool.not_false]
  have q : Q (.bl (decide (lo ≤ l.length) && decide ((l.length : Int) ≤ hi))) G := q
  by_cases h1 : lo ≤ l.length
  · rw [if_pos (by simpa using h1)]
    rw [decide_eq_true h1, Bool.true_and] at q
    exact q
  · rw [if_neg (by simpa using h1)]
    rw [decide_eq_false h1, Bool.false_and] at q
    exact q
theorem asc_ext : ∀ {l m : List Int}, l.Pairwise (· < ·) → m.Pairwise (· < ·) → (∀ x, x ∈ l ↔ x ∈ m) → l = m
  | [], [], _, _, _ => rfl
  | [], b :: m, _, _, h => by have := (h b).mpr (by simp); cases this
  | a :: l, [], _, _, h => by have := (h a).mp (by simp); cases this
  | a :: l, b :: m, p, q, h => by
    obtain ⟨p1, p2⟩ := List.pairwise_cons.mp p
    obtain ⟨q1, q2⟩ := List.pairwise_cons.mp q
    have hab : a = b := by
      rcases List.mem_cons.mp ((h a).mp (by simp)) with e | e
      · exact e
      · rcases List.mem_cons.mp ((h b).mpr (by simp)) with e' | e'
        · exact e'.symm
        · have := q1 a e; have := p1 b e'; omega
    subst hab
    congr 1
    refine asc_ext p2 q2 fun x => ?_
    constructor
    · intro hx
      rcases List.mem_cons.mp ((h x).mp (by simp [hx])) with e | e
      · have := p1 x hx; omega
      · exact e
    · intro hx
      rcases List.mem_cons.mp ((h x).mpr (by simp [hx])) with e | e
      · have := q1 x hx; omega
      · exact e
theorem insB_ints {lo hi : Int} {ws : List W} (h : insB lo hi (.tup ws) = true) : ∃ ns : List Int, ws = ns.map .int ∧ ∀ n ∈ ns, lo ≤ n ∧ n ≤ hi := by
  have h : ws.all (inB lo hi) = true := h
  induction ws with
  | nil => exact ⟨[], rfl, by simp⟩
  | cons w ws ih =>
    rw [List.all_cons, Bool.and_eq_true] at h
    obtain ⟨ns, rfl, hn⟩ := ih h.2 h.2
    cases w with
    | int i =>
      have h1 : (decide (lo ≤ i) && decide (i ≤ hi)) = true := h.1
      simp only [Bool.and_eq_true, decide_eq_true_eq] at h1
      refine ⟨i :: ns, rfl, fun n hx => ?_⟩
      rcases List.mem_cons.mp hx with rfl | hx
      · exact h1
      · exact hn n hx
    | _ => exact absurd h.1 Bool.false_ne_true
/-- a lot: ascending numbers below -/
noncomputable def IsLot (below : Int) (x : W) : Prop := ∃ ns : List Int, x = .tup (ns.map .int) ∧ ns.Pairwise (· < ·) ∧ ∀ n ∈ ns, 0 ≤ n ∧ n ≤ below - 1
noncomputable def S_is_lot : WSp := fun ws G Q => ∃ x below, ws = [x, .int below] ∧ Tyd2 G x ∧ (∀ l, x = .tup l → l.length < 64) ∧ ∀ b G', (b = true ↔ IsLot below x) → Ext G G' → Q (.bl b) G'
theorem v_is_lot : ∀ ws G Q, S_is_lot ws G Q → rd_is_lot S_are_within { nx := fun _ G' => Q .non G', rt := Q } (startW ["thing", "below"] ws) G := by
  rintro ws G Q ⟨x, below, rfl, h, h64, q⟩
  show rd_is_lot _ _ [some x, some (.int below)] G
  unfold rd_is_lot
  simp only [WL.wSeq, WL.wSet, WL.wAsg, WL.wDrop, WL.wRet, WL.wRetN, WL.wIfS, WL.wBreak, WL.wCont, WL.wNext, WL.wV, WL.wC, WL.wOp, WL.wUn, WL.wNil, WL.wCons, WL.wApp, WL.wTest, WL.wChain, WL.wAndT, WL.wOrT, WL.wNotT, WL.wAnd, WL.wOr, WL.wNot, WL.wIf, WL.wTup, WL.wLst, WL.wCall, WL.wMake, WL.wFld, WL.wPutF, WL.wSl, WL.wPart, WL.wNoPart, WL.wRev, WL.wName, WL.wNames, WL.wSeqI, WL.wZip, WL.wRng3, WL.wRng1, WL.wRng2, WL.wEnum, WL.wLstRg, WL.wTupRg, WL.wR1, WL.wR2, WL.wCallD, WL.MdW, WL.wgSub, WL.one, WL.two, WL.lk, WL.isB_bl, WL.isI_int, WL.cmpI, WL.isNW, WL.notNW, WL.nonW, WL.wYes, WL.wLockE, WL.wLock, WL.wDNew, WL.wSortSet, WL.wNever, WL.addW_int, WL.addW_tup, WL.addW_str, WL.subW_int, WL.mulW_int, WL.modW_int, WL.fdivW_int, WL.powW_int, WL.negW_int, WL.intW_int, WL.intW_bl, WL.absW, WL.CTg.on, WL.wipeW, WL.setsW, WL.optW_some, WL.wDisp, WL.wPairs, WL.eqW_str, WL.neW_str, WL.eqW_int, WL.neW_int, WL.eqW_bl, WL.neW_bl, WL.ixW_tupE, WL.slW_tupE, WL.sortTW_ref, WL.lenW_tupE, WL.tupW_tupE, WL.listW_tupE, WL.atI_0, WL.atI_1, WL.atI_2, WL.atI_3, WL.atI_4, WL.seqOn_tup, WL.enumOn_tup, List.set, if_true, if_false, Bool.false_eq_true, if_pos, List.length_nil, List.length_cons, Bool.not_true, Bool.not_false]
  refine ⟨x, 0, below - 1, rfl, h, fun G1 e1 => ?_⟩
  simp only [WL.wSeq, WL.wSet, WL.wAsg, WL.wDrop, WL.wRet, WL.wRetN, WL.wIfS, WL.wBreak, WL.wCont, WL.wNext, WL.wV, WL.wC, WL.wOp, WL.wUn, WL.wNil, WL.wCons, WL.wApp, WL.wTest, WL.wChain, WL.wAndT, WL.wOrT, WL.wNotT, WL.wAnd, WL.wOr, WL.wNot, WL.wIf, WL.wTup, WL.wLst, WL.wCall, WL.wMake, WL.wFld, WL.wPutF, WL.wSl, WL.wPart, WL.wNoPart, WL.wRev, WL.wName, WL.wNames, WL.wSeqI, WL.wZip, WL.wRng3, WL.wRng1, WL.wRng2, WL.wEnum, WL.wLstRg, WL.wTupRg, WL.wR1, WL.wR2, WL.wCallD, WL.MdW, WL.wgSub, WL.one, WL.two, WL.lk, WL.isB_bl, WL.isI_int, WL.cmpI, WL.isNW, WL.notNW, WL.nonW, WL.wYes, WL.wLockE, WL.wLock, WL.wDNew, WL.wSortSet, WL.wNever, WL.addW_int, WL.addW_tup, WL.addW_str, WL.subW_int, WL.mulW_int, WL.modW_int, WL.fdivW_int, WL.powW_int, WL.negW_int, WL.intW_int, WL.intW_bl, WL.absW, WL.CTg.on, WL.wipeW, WL.setsW, WL.optW_some, WL.wDisp, WL.wPairs, WL.eqW_str, WL.neW_str, WL.eqW_int, WL.neW_int, WL.eqW_bl, WL.neW_bl, WL.ixW_tupE, WL.slW_tupE, WL.sortTW_ref, WL.lenW_tupE, WL.tupW_tupE, WL.listW_tupE, WL.atI_0, WL.atI_1, WL.atI_2, WL.atI_3, WL.atI_4, WL.seqOn_tup, WL.enumOn_tup, List.set, if_true, if_false, Bool.false_eq_true, if_pos, List.length_nil, List.length_cons, Bool.not_true, Bool.not_false]
  cases hb : insB 0 (below - 1) x with
  | false =>
    rw [if_neg Bool.false_ne_true]
    refine q false G1 ⟨fun z => (nomatch z), ?_⟩ e1
    rintro ⟨ns, rfl, _, hn⟩
    exfalso
    have : insB 0 (below - 1) (.tup (ns.map .int)) = true := by
      show (ns.map W.int).all (inB 0 (below - 1)) = true
      rw [List.all_map, List.all_eq_true]
      intro n hx
      have := hn n hx
      show (decide (0 ≤ n) && decide (n ≤ below - 1)) = true
      simp [this.1, this.2]
    rw [this] at hb; cases hb
  | true =>
    rw [if_pos rfl]
    cases x <;> first | exact absurd hb Bool.false_ne_true | skip
    rename_i l
    obtain ⟨ns, rfl, hn⟩ := insB_ints hb
    have hl : ns.length < 64 := by simpa using h64 _ rfl
    simp only [WL.wSeq, WL.wSet, WL.wAsg, WL.wDrop, WL.wRet, WL.wRetN, WL.wIfS, WL.wBreak, WL.wCont, WL.wNext, WL.wV, WL.wC, WL.wOp, WL.wUn, WL.wNil, WL.wCons, WL.wApp, WL.wTest, WL.wChain, WL.wAndT, WL.wOrT, WL.wNotT, WL.wAnd, WL.wOr, WL.wNot, WL.wIf, WL.wTup, WL.wLst, WL.wCall, WL.wMake, WL.wFld, WL.wPutF, WL.wSl, WL.wPart, WL.wNoPart, WL.wRev, WL.wName, WL.wNames, WL.wSeqI, WL.wZip, WL.wRng3, WL.wRng1, WL.wRng2, WL.wEnum, WL.wLstRg, WL.wTupRg, WL.wR1, WL.wR2, WL.wCallD, WL.MdW, WL.wgSub, WL.one, WL.two, WL.lk, WL.isB_bl, WL.isI_int, WL.cmpI, WL.isNW, WL.notNW, WL.nonW, WL.wYes, WL.wLockE, WL.wLock, WL.wDNew, WL.wSortSet, WL.wNever, WL.addW_int, WL.addW_tup, WL.addW_str, WL.subW_int, WL.mulW_int, WL.modW_int, WL.fdivW_int, WL.powW_int, WL.negW_int, WL.intW_int, WL.intW_bl, WL.absW, WL.CTg.on, WL.wipeW, WL.setsW, WL.optW_some, WL.wDisp, WL.wPairs, WL.eqW_str, WL.neW_str, WL.eqW_int, WL.neW_int, WL.eqW_bl, WL.neW_bl, WL.ixW_tupE, WL.slW_tupE, WL.sortTW_ref, WL.lenW_tupE, WL.tupW_tupE, WL.listW_tupE, WL.atI_0, WL.atI_1, WL.atI_2, WL.atI_3, WL.atI_4, WL.seqOn_tup, WL.enumOn_tup, List.set, if_true, if_false, Bool.false_eq_true, if_pos, List.length_nil, List.length_cons, Bool.not_true, Bool.not_false]
    intro p hp
    refine ⟨ns, rfl, hl, fun ms r hms hmem hr => ?_⟩
    have hpr : p ≠ r := by rintro rfl; rw [updG_same] at hr; cases hr
    refine eqW_lists (n := 0) (by decide) (l := ns.map .int) (m := ms.map .int) (by rw [updG_ne hpr, updG_same]) updG_same pure_ints pure_ints fun b hb2 => ?_
    refine q b _ ?_ (e1.trans ((Ext.new hp).trans (.new hr)))
    rw [hb2]
    constructor
    · intro e
      have e := map_int_inj e
      subst e
      exact ⟨ns, rfl, hms, hn⟩
    · rintro ⟨ns', e, hs, _⟩
      have e := map_int_inj (W.tup.inj e)
      subst e
      exact congrArg (List.map W.int) (asc_ext hs hms fun k => (hmem k).symm)
end K54
set_option Elab.async false
set_option linter.all false
set_option maxRecDepth 100000
set_option maxHeartbeats 1000000
set_option pp.maxSteps 400
namespace K54
open PySem PySem.Spec PyProof.Rows L2 WL PR
/-! ### drawing -/
noncomputable def intsW (l : List Int) : List W := l.map .int
/-- the pool: great ones, small ones, what is left of a great one, how many were drawn -/
structure PoolS (p a b : Addr) (gs sm : List Int) (c d : Int) (G : WHp) : Prop where
  at_ : G p = some (.lst [.ref a, .ref b, .int c, .int d])
  ga : G a = some (.lst (intsW gs))
  gb : G b = some (.lst (intsW sm))
  ap : a ≠ p
  bp : b ≠ p
  g0 : ∀ x ∈ gs, (2 : Int) ≤ x
  s0 : ∀ x ∈ sm, (0 : Int) ≤ x ∧ x < 1000003
  c0 : 0 ≤ c
  d0 : 0 ≤ d
  gl : gs.length ≤ 63
  sl : sm.length ≤ 63
/-- the pool, none of its lists among ns -/
noncomputable def PoolAt (ns : List Addr) (G : WHp) (p : Addr) : Prop := (∃ a b gs sm c d, PoolS p a b gs sm c d G ∧ a ∉ ns ∧ b ∉ ns) ∧ ∀ r ∈ ns, ∃ u, G r = some u
theorem PoolAt.ext {ns : List Addr} {G G' : WHp} {p : Addr} (h : PoolAt ns G p) (e : Ext G G') : PoolAt ns G' p := by
  obtain ⟨⟨a, b, gs, sm, c, d, h, na, nb⟩, hn⟩ := h
  exact ⟨⟨a, b, gs, sm, c, d, ⟨e _ _ h.at_, e _ _ h.ga, e _ _ h.gb, h.ap, h.bp, h.g0, h.s0, h.c0, h.d0, h.gl, h.sl⟩, na, nb⟩, fun r hr => (hn r hr).imp fun u hu => e _ _ hu⟩
theorem PoolAt.np {ns : List Addr} {G : WHp} {p r : Addr} (h : PoolAt ns G p) (hr : G r = none) : r ≠ p := fun e => by
  obtain ⟨⟨a, b, gs, sm, c, d, h, _⟩, _⟩ := h
  rw [e, h.at_] at hr; cases hr
/-- a new list is none of the pool's -/
theorem PoolAt.add {ns : List Addr} {G : WHp} {p r : Addr} {o : WO} (h : PoolAt ns G p) (hr : G r = none) : PoolAt (r :: ns) (updG G r o) p := by
  have h' := h.ext (.new hr (o := o))
  obtain ⟨⟨a, b, gs, sm, c, d, s, na, nb⟩, hn⟩ := h
  have e : Ext G (updG G r o) := .new hr
  refine ⟨⟨a, b, gs, sm, c, d, ⟨e _ _ s.at_, e _ _ s.ga, e _ _ s.gb, s.ap, s.bp, s.g0, s.s0, s.c0, s.d0, s.gl, s.sl⟩, fun hm => ?_, fun hm => ?_⟩, fun x hx => ?_⟩
  · rcases List.mem_cons.mp hm with rfl | hm
    · rw [s.ga] at hr; cases hr
    · exact na hm
  · rcases List.mem_cons.mp hm with rfl | hm
    · rw [s.gb] at hr; cases hr
    · exact nb hm
  · rcases List.mem_cons.mp hx with rfl | hx
    · exact ⟨_, updG_same⟩
    · exact h'.2 x hx
theorem PoolAt.upd {ns : List Addr} {G : WHp} {p r : Addr} {o : WO} (h : PoolAt ns G p) (hr : r ∈ ns) (np : r ≠ p) : PoolAt ns (updG G r o) p := by
  obtain ⟨⟨a, b, gs, sm, c, d, s, na, nb⟩, hn⟩ := h
  have e : ∀ {x : Addr} {u : WO}, x ≠ r → G x = some u → updG G r o x = some u := fun hx hu => by rw [updG_ne hx]; exact hu
  refine ⟨⟨a, b, gs, sm, c, d, ⟨e (Ne.symm np) s.at_, e (fun h => na (h ▸ hr)) s.ga, e (fun h => nb (h ▸ hr)) s.gb, s.ap, s.bp, s.g0, s.s0, s.c0, s.d0, s.gl, s.sl⟩, na, nb⟩, fun x hx => ?_⟩
  by_cases hxr : x = r
  · exact ⟨_, by rw [hxr]; exact updG_same⟩
  · exact (hn x hx).imp fun u hu => e hxr hu
theorem PoolAt.drop {ns : List Addr} {G : WHp} {p r : Addr} (h : PoolAt (r :: ns) G p) : PoolAt ns G p := by
  obtain ⟨⟨a, b, gs, sm, c, d, s, na, nb⟩, hn⟩ := h
  exact ⟨⟨a, b, gs, sm, c, d, s, fun hm => na (List.mem_cons_of_mem _ hm), fun hm => nb (List.mem_cons_of_mem _ hm)⟩, fun x hx => hn x (List.mem_cons_of_mem _ hx)⟩
noncomputable def S_law_pool : WSp := fun ws G Q => ∃ w ns, ws = [w] ∧ scrAt G w ns ∧ ns.length ≤ 63 ∧ ∀ p G', Ext G G' → G p = none → PoolAt [] G' p → Q (.ref p) G'
noncomputable def S_law_draw : WSp := fun ws G Q => ∃ (ns : List Addr) (p : Addr) (k : Nat), ws = [.ref p, nI k] ∧ 0 < k ∧ k < 1000000 ∧ PoolAt ns G p ∧ ∀ (d : Nat) G', d < k → ExtB p G G' → PoolAt ns G' p → Q (nI d) G'
theorem nat_of {d : Int} {k : Nat} (h0 : 0 ≤ d) (h : d < k) : ∃ n : Nat, d = n ∧ n < k := ⟨d.toNat, by omega, by omega⟩
noncomputable def tl_dr3 : WTS := (wSeq (wSet 4 (wOp modW (wApp (one intW) (wCons (wOp mulW (wOp addW (wOp addW (wV 3) (wOp mulW (wC (.int 7919)) (wOp ixW (wV 0) (wC (.int 3))))) (wC (.int 1))) (wC (.int 48271))) wNil)) (wC (.int 2147483647))))
 (wSeq (wSet 4 (wOp modW (wApp (one intW) (wCons (wOp mulW (wV 4) (wOp addW (wOp fdivW (wV 4) (wC (.int 1009))) (wC (.int 69621)))) wNil)) (wC (.int 2147483647))))
 (wSeq (wSet 4 (wOp modW (wApp (one intW) (wCons (wOp mulW (wV 4) (wOp addW (wOp fdivW (wV 4) (wC (.int 2003))) (wC (.int 40692)))) wNil)) (wC (.int 2147483399))))
 (wRet (wOp modW (wApp (one intW) (wCons (wOp fdivW (wV 4) (wC (.int 16))) wNil)) (wV 1))))))
noncomputable def tl_dr2 (T : WTS) : WTS := (wSeq (wAsg (wOp addW (wOp ixW (wV 0) (wC (.int 3))) (wC (.int 1))) (wgSub (wV 0) (wC (.int 3))))
 (wSeq (wSet 3 (wC (.int 0)))
 (wSeq (wIfS (wTest (wOp gtW (wApp (one lenW) (wCons (wOp ixW (wV 0) (wC (.int 1))) wNil)) (wC (.int 0))))
 (wSet 3 (wOp ixW (wOp ixW (wV 0) (wC (.int 1))) (wOp modW (wApp (one intW) (wCons (wOp ixW (wV 0) (wC (.int 3))) wNil)) (wApp (one lenW) (wCons (wOp ixW (wV 0) (wC (.int 1))) wNil)))))
 wNext) T)))
noncomputable def tl_dr1 (T : WTS) : WTS := (wSeq (wIfS (wTest (wOp gtW (wOp ixW (wV 0) (wC (.int 2))) (wC (.int 1))))
 (wSeq (wSet 2 (wOp modW (wApp (one intW) (wCons (wOp ixW (wV 0) (wC (.int 2))) wNil)) (wV 1)))
 (wSeq (wAsg (wOp fdivW (wOp ixW (wV 0) (wC (.int 2))) (wV 1)) (wgSub (wV 0) (wC (.int 2))))
 (wRet (wV 2))))
 wNext) T)
noncomputable def tl_dr0 (T : WTS) : WTS := (wSeq (wIfS (wAndT (wTest (wOp leW (wOp ixW (wV 0) (wC (.int 2))) (wC (.int 1)))) (wTest (wOp gtW (wApp (one lenW) (wCons (wOp ixW (wV 0) (wC (.int 0))) wNil)) (wC (.int 0)))))
 (wSeq (wAsg (wOp ixW (wOp ixW (wV 0) (wC (.int 0))) (wC (.int 0))) (wgSub (wV 0) (wC (.int 2))))
 (wAsg (wSl (wOp ixW (wV 0) (wC (.int 0))) (wPart (wC (.int 1))) wNoPart) (wgSub (wV 0) (wC (.int 0)))))
 wNext) T)
section
variable {p a b : Addr} {gs sm : List Int} {c d : Int} {G : WHp} {E : WEnds} {T : WTS} {k : Nat} {w2 w3 w4 : Option W}
theorem dr_out {Q : WK} (hk : 0 < k) (x : Int) {G' : WHp} (q : ∀ d : Nat, d < k → Q (nI d) G') : Q (.int (x % (k : Int))) G' := by
  obtain ⟨n, hn, hlt⟩ := nat_of (Int.emod_nonneg x (by omega : (k : Int) ≠ 0)) (Int.emod_lt_of_pos x (by omega : (0 : Int) < k))
  rw [hn]
  exact q n hlt
theorem dr3 {x : Int} (hk0 : 0 < k) (hk : k < 1000000) (h : PoolS p a b gs sm c d G) (q : ∀ d : Nat, d < k → E.rt (nI d) G) : tl_dr3 E [some (.ref p), some (nI k), w2, some (.int x), w4] G := by
  unfold tl_dr3 nI
  simp only [WL.wSeq, WL.wSet, WL.wAsg, WL.wDrop, WL.wRet, WL.wRetN, WL.wIfS, WL.wBreak, WL.wCont, WL.wNext, WL.wV, WL.wC, WL.wOp, WL.wUn, WL.wNil, WL.wCons, WL.wApp, WL.wTest, WL.wChain, WL.wAndT, WL.wOrT, WL.wNotT, WL.wAnd, WL.wOr, WL.wNot, WL.wIf, WL.wTup, WL.wLst, WL.wCall, WL.wMake, WL.wFld, WL.wPutF, WL.wSl, WL.wPart, WL.wNoPart, WL.wRev, WL.wName, WL.wNames, WL.wSeqI, WL.wZip, WL.wRng3, WL.wRng1, WL.wRng2, WL.wEnum, WL.wLstRg, WL.wTupRg, WL.wR1, WL.wR2, WL.wCallD, WL.MdW, WL.wgSub, WL.one, WL.two, WL.lk, WL.isB_bl, WL.isI_int, WL.cmpI, WL.isNW, WL.notNW, WL.nonW, WL.wYes, WL.wLockE, WL.wLock, WL.wDNew, WL.wSortSet, WL.wNever, WL.addW_int, WL.addW_tup, WL.addW_str, WL.subW_int, WL.mulW_int, WL.modW_int, WL.fdivW_int, WL.powW_int, WL.negW_int, WL.intW_int, WL.intW_bl, WL.absW, WL.CTg.on, WL.wipeW, WL.setsW, WL.optW_some, WL.wDisp, WL.wPairs, WL.eqW_str, WL.neW_str, WL.eqW_int, WL.neW_int, WL.eqW_bl, WL.neW_bl, WL.ixW_tupE, WL.slW_tupE, WL.sortTW_ref, WL.lenW_tupE, WL.tupW_tupE, WL.listW_tupE, WL.atI_0, WL.atI_1, WL.atI_2, WL.atI_3, WL.atI_4, WL.seqOn_tup, WL.enumOn_tup, List.set, if_true, if_false, Bool.false_eq_true, if_pos, List.length_nil, List.length_cons, Bool.not_true, Bool.not_false]
  refine ixW_lst (i := 3) h.at_ rfl ?_
  simp only [WL.wSeq, WL.wSet, WL.wAsg, WL.wDrop, WL.wRet, WL.wRetN, WL.wIfS, WL.wBreak, WL.wCont, WL.wNext, WL.wV, WL.wC, WL.wOp, WL.wUn, WL.wNil, WL.wCons, WL.wApp, WL.wTest, WL.wChain, WL.wAndT, WL.wOrT, WL.wNotT, WL.wAnd, WL.wOr, WL.wNot, WL.wIf, WL.wTup, WL.wLst, WL.wCall, WL.wMake, WL.wFld, WL.wPutF, WL.wSl, WL.wPart, WL.wNoPart, WL.wRev, WL.wName, WL.wNames, WL.wSeqI, WL.wZip, WL.wRng3, WL.wRng1, WL.wRng2, WL.wEnum, WL.wLstRg, WL.wTupRg, WL.wR1, WL.wR2, WL.wCallD, WL.MdW, WL.wgSub, WL.one, WL.two, WL.lk, WL.isB_bl, WL.isI_int, WL.cmpI, WL.isNW, WL.notNW, WL.nonW, WL.wYes, WL.wLockE, WL.wLock, WL.wDNew, WL.wSortSet, WL.wNever, WL.addW_int, WL.addW_tup, WL.addW_str, WL.subW_int, WL.mulW_int, WL.modW_int, WL.fdivW_int, WL.powW_int, WL.negW_int, WL.intW_int, WL.intW_bl, WL.absW, WL.CTg.on, WL.wipeW, WL.setsW, WL.optW_some, WL.wDisp, WL.wPairs, WL.eqW_str, WL.neW_str, WL.eqW_int, WL.neW_int, WL.eqW_bl, WL.neW_bl, WL.ixW_tupE, WL.slW_tupE, WL.sortTW_ref, WL.lenW_tupE, WL.tupW_tupE, WL.listW_tupE, WL.atI_0, WL.atI_1, WL.atI_2, WL.atI_3, WL.atI_4, WL.seqOn_tup, WL.enumOn_tup, List.set, if_true, if_false, Bool.false_eq_true, if_pos, List.length_nil, List.length_cons, Bool.not_true, Bool.not_false]
  refine ⟨.inl ⟨by decide, by decide⟩, .inr ⟨by decide, by decide⟩, by decide, ?_⟩
  generalize hm1 : (x + 7919 * d + 1) * 48271 % 2147483647 = m1
  have b1 : 0 ≤ m1 ∧ m1 < 2147483647 := by rw [← hm1]; exact ⟨Int.emod_nonneg _ (by decide), Int.emod_lt_of_pos _ (by decide)⟩
  refine ⟨by decide, by decide, .inl ⟨by omega, by omega⟩, by decide, ?_⟩
  generalize hm2 : m1 * (m1 / 1009 + 69621) % 2147483647 = m2
  have b2 : 0 ≤ m2 ∧ m2 < 2147483647 := by rw [← hm2]; exact ⟨Int.emod_nonneg _ (by decide), Int.emod_lt_of_pos _ (by decide)⟩
  refine ⟨by decide, by decide, .inl ⟨by omega, by omega⟩, by decide, ?_⟩
  refine ⟨by decide, by decide, by omega, ?_⟩
  exact dr_out hk0 _ q
theorem dr2 (h : PoolS p a b gs sm c d G) (q : ∀ x G', ExtB p G G' → PoolS p a b gs sm c (d + 1) G' → T E [some (.ref p), some (nI k), w2, some (.int x), w4] G') : tl_dr2 T E [some (.ref p), some (nI k), w2, w3, w4] G := by
  unfold tl_dr2 nI
  unfold nI at q
  simp only [WL.wSeq, WL.wSet, WL.wAsg, WL.wDrop, WL.wRet, WL.wRetN, WL.wIfS, WL.wBreak, WL.wCont, WL.wNext, WL.wV, WL.wC, WL.wOp, WL.wUn, WL.wNil, WL.wCons, WL.wApp, WL.wTest, WL.wChain, WL.wAndT, WL.wOrT, WL.wNotT, WL.wAnd, WL.wOr, WL.wNot, WL.wIf, WL.wTup, WL.wLst, WL.wCall, WL.wMake, WL.wFld, WL.wPutF, WL.wSl, WL.wPart, WL.wNoPart, WL.wRev, WL.wName, WL.wNames, WL.wSeqI, WL.wZip, WL.wRng3, WL.wRng1, WL.wRng2, WL.wEnum, WL.wLstRg, WL.wTupRg, WL.wR1, WL.wR2, WL.wCallD, WL.MdW, WL.wgSub, WL.one, WL.two, WL.lk, WL.isB_bl, WL.isI_int, WL.cmpI, WL.isNW, WL.notNW, WL.nonW, WL.wYes, WL.wLockE, WL.wLock, WL.wDNew, WL.wSortSet, WL.wNever, WL.addW_int, WL.addW_tup, WL.addW_str, WL.subW_int, WL.mulW_int, WL.modW_int, WL.fdivW_int, WL.powW_int, WL.negW_int, WL.intW_int, WL.intW_bl, WL.absW, WL.CTg.on, WL.wipeW, WL.setsW, WL.optW_some, WL.wDisp, WL.wPairs, WL.eqW_str, WL.neW_str, WL.eqW_int, WL.neW_int, WL.eqW_bl, WL.neW_bl, WL.ixW_tupE, WL.slW_tupE, WL.sortTW_ref, WL.lenW_tupE, WL.tupW_tupE, WL.listW_tupE, WL.atI_0, WL.atI_1, WL.atI_2, WL.atI_3, WL.atI_4, WL.seqOn_tup, WL.enumOn_tup, List.set, if_true, if_false, Bool.false_eq_true, if_pos, List.length_nil, List.length_cons, Bool.not_true, Bool.not_false]
  refine ixW_lst (i := 3) h.at_ rfl ?_
  simp only [WL.wSeq, WL.wSet, WL.wAsg, WL.wDrop, WL.wRet, WL.wRetN, WL.wIfS, WL.wBreak, WL.wCont, WL.wNext, WL.wV, WL.wC, WL.wOp, WL.wUn, WL.wNil, WL.wCons, WL.wApp, WL.wTest, WL.wChain, WL.wAndT, WL.wOrT, WL.wNotT, WL.wAnd, WL.wOr, WL.wNot, WL.wIf, WL.wTup, WL.wLst, WL.wCall, WL.wMake, WL.wFld, WL.wPutF, WL.wSl, WL.wPart, WL.wNoPart, WL.wRev, WL.wName, WL.wNames, WL.wSeqI, WL.wZip, WL.wRng3, WL.wRng1, WL.wRng2, WL.wEnum, WL.wLstRg, WL.wTupRg, WL.wR1, WL.wR2, WL.wCallD, WL.MdW, WL.wgSub, WL.one, WL.two, WL.lk, WL.isB_bl, WL.isI_int, WL.cmpI, WL.isNW, WL.notNW, WL.nonW, WL.wYes, WL.wLockE, WL.wLock, WL.wDNew, WL.wSortSet, WL.wNever, WL.addW_int, WL.addW_tup, WL.addW_str, WL.subW_int, WL.mulW_int, WL.modW_int, WL.fdivW_int, WL.powW_int, WL.negW_int, WL.intW_int, WL.intW_bl, WL.absW, WL.CTg.on, WL.wipeW, WL.setsW, WL.optW_some, WL.wDisp, WL.wPairs, WL.eqW_str, WL.neW_str, WL.eqW_int, WL.neW_int, WL.eqW_bl, WL.neW_bl, WL.ixW_tupE, WL.slW_tupE, WL.sortTW_ref, WL.lenW_tupE, WL.tupW_tupE, WL.listW_tupE, WL.atI_0, WL.atI_1, WL.atI_2, WL.atI_3, WL.atI_4, WL.seqOn_tup, WL.enumOn_tup, List.set, if_true, if_false, Bool.false_eq_true, if_pos, List.length_nil, List.length_cons, Bool.not_true, Bool.not_false]
  refine put_lst (i := 3) h.at_ (by simp) ?_
  have h1 : PoolS p a b gs sm c (d + 1) (updG G p (.lst ([W.ref a, .ref b, .int c, .int d].set 3 (.int (d + 1))))) :=
    ⟨updG_same, by rw [updG_ne h.ap]; exact h.ga, by rw [updG_ne h.bp]; exact h.gb, h.ap, h.bp, h.g0, h.s0, h.c0, by have := h.d0; omega, h.gl, h.sl⟩
  refine ixW_lst (i := 1) h1.at_ rfl (len_lst h1.gb ?_)
  simp only [WL.wSeq, WL.wSet, WL.wAsg, WL.wDrop, WL.wRet, WL.wRetN, WL.wIfS, WL.wBreak, WL.wCont, WL.wNext, WL.wV, WL.wC, WL.wOp, WL.wUn, WL.wNil, WL.wCons, WL.wApp, WL.wTest, WL.wChain, WL.wAndT, WL.wOrT, WL.wNotT, WL.wAnd, WL.wOr, WL.wNot, WL.wIf, WL.wTup, WL.wLst, WL.wCall, WL.wMake, WL.wFld, WL.wPutF, WL.wSl, WL.wPart, WL.wNoPart, WL.wRev, WL.wName, WL.wNames, WL.wSeqI, WL.wZip, WL.wRng3, WL.wRng1, WL.wRng2, WL.wEnum, WL.wLstRg, WL.wTupRg, WL.wR1, WL.wR2, WL.wCallD, WL.MdW, WL.wgSub, WL.one, WL.two, WL.lk, WL.isB_bl, WL.isI_int, WL.cmpI, WL.isNW, WL.notNW, WL.nonW, WL.wYes, WL.wLockE, WL.wLock, WL.wDNew, WL.wSortSet, WL.wNever, WL.addW_int, WL.addW_tup, WL.addW_str, WL.subW_int, WL.mulW_int, WL.modW_int, WL.fdivW_int, WL.powW_int, WL.negW_int, WL.intW_int, WL.intW_bl, WL.absW, WL.CTg.on, WL.wipeW, WL.setsW, WL.optW_some, WL.wDisp, WL.wPairs, WL.eqW_str, WL.neW_str, WL.eqW_int, WL.neW_int, WL.eqW_bl, WL.neW_bl, WL.ixW_tupE, WL.slW_tupE, WL.sortTW_ref, WL.lenW_tupE, WL.tupW_tupE, WL.listW_tupE, WL.atI_0, WL.atI_1, WL.atI_2, WL.atI_3, WL.atI_4, WL.seqOn_tup, WL.enumOn_tup, List.set, if_true, if_false, Bool.false_eq_true, if_pos, List.length_nil, List.length_cons, Bool.not_true, Bool.not_false]
  by_cases hl : sm.length = 0
  · rw [decide_eq_false (show ¬ (((intsW sm).length : Nat) : Int) > 0 by unfold intsW; rw [List.length_map]; omega)]
    simp only [WL.wSeq, WL.wSet, WL.wAsg, WL.wDrop, WL.wRet, WL.wRetN, WL.wIfS, WL.wBreak, WL.wCont, WL.wNext, WL.wV, WL.wC, WL.wOp, WL.wUn, WL.wNil, WL.wCons, WL.wApp, WL.wTest, WL.wChain, WL.wAndT, WL.wOrT, WL.wNotT, WL.wAnd, WL.wOr, WL.wNot, WL.wIf, WL.wTup, WL.wLst, WL.wCall, WL.wMake, WL.wFld, WL.wPutF, WL.wSl, WL.wPart, WL.wNoPart, WL.wRev, WL.wName, WL.wNames, WL.wSeqI, WL.wZip, WL.wRng3, WL.wRng1, WL.wRng2, WL.wEnum, WL.wLstRg, WL.wTupRg, WL.wR1, WL.wR2, WL.wCallD, WL.MdW, WL.wgSub, WL.one, WL.two, WL.lk, WL.isB_bl, WL.isI_int, WL.cmpI, WL.isNW, WL.notNW, WL.nonW, WL.wYes, WL.wLockE, WL.wLock, WL.wDNew, WL.wSortSet, WL.wNever, WL.addW_int, WL.addW_tup, WL.addW_str, WL.subW_int, WL.mulW_int, WL.modW_int, WL.fdivW_int, WL.powW_int, WL.negW_int, WL.intW_int, WL.intW_bl, WL.absW, WL.CTg.on, WL.wipeW, WL.setsW, WL.optW_some, WL.wDisp, WL.wPairs, WL.eqW_str, WL.neW_str, WL.eqW_int, WL.neW_int, WL.eqW_bl, WL.neW_bl, WL.ixW_tupE, WL.slW_tupE, WL.sortTW_ref, WL.lenW_tupE, WL.tupW_tupE, WL.listW_tupE, WL.atI_0, WL.atI_1, WL.atI_2, WL.atI_3, WL.atI_4, WL.seqOn_tup, WL.enumOn_tup, List.set, if_true, if_false, Bool.false_eq_true, if_pos, List.length_nil, List.length_cons, Bool.not_true, Bool.not_false]
    exact q 0 _ ExtB.set h1
  · rw [decide_eq_true (show (((intsW sm).length : Nat) : Int) > 0 by unfold intsW; rw [List.length_map]; omega)]
    simp only [WL.wSeq, WL.wSet, WL.wAsg, WL.wDrop, WL.wRet, WL.wRetN, WL.wIfS, WL.wBreak, WL.wCont, WL.wNext, WL.wV, WL.wC, WL.wOp, WL.wUn, WL.wNil, WL.wCons, WL.wApp, WL.wTest, WL.wChain, WL.wAndT, WL.wOrT, WL.wNotT, WL.wAnd, WL.wOr, WL.wNot, WL.wIf, WL.wTup, WL.wLst, WL.wCall, WL.wMake, WL.wFld, WL.wPutF, WL.wSl, WL.wPart, WL.wNoPart, WL.wRev, WL.wName, WL.wNames, WL.wSeqI, WL.wZip, WL.wRng3, WL.wRng1, WL.wRng2, WL.wEnum, WL.wLstRg, WL.wTupRg, WL.wR1, WL.wR2, WL.wCallD, WL.MdW, WL.wgSub, WL.one, WL.two, WL.lk, WL.isB_bl, WL.isI_int, WL.cmpI, WL.isNW, WL.notNW, WL.nonW, WL.wYes, WL.wLockE, WL.wLock, WL.wDNew, WL.wSortSet, WL.wNever, WL.addW_int, WL.addW_tup, WL.addW_str, WL.subW_int, WL.mulW_int, WL.modW_int, WL.fdivW_int, WL.powW_int, WL.negW_int, WL.intW_int, WL.intW_bl, WL.absW, WL.CTg.on, WL.wipeW, WL.setsW, WL.optW_some, WL.wDisp, WL.wPairs, WL.eqW_str, WL.neW_str, WL.eqW_int, WL.neW_int, WL.eqW_bl, WL.neW_bl, WL.ixW_tupE, WL.slW_tupE, WL.sortTW_ref, WL.lenW_tupE, WL.tupW_tupE, WL.listW_tupE, WL.atI_0, WL.atI_1, WL.atI_2, WL.atI_3, WL.atI_4, WL.seqOn_tup, WL.enumOn_tup, List.set, if_true, if_false, Bool.false_eq_true, if_pos, List.length_nil, List.length_cons, Bool.not_true, Bool.not_false]
    refine ixW_lst (i := 1) h1.at_ rfl (ixW_lst (i := 3) h1.at_ rfl ?_)
    simp only [WL.wSeq, WL.wSet, WL.wAsg, WL.wDrop, WL.wRet, WL.wRetN, WL.wIfS, WL.wBreak, WL.wCont, WL.wNext, WL.wV, WL.wC, WL.wOp, WL.wUn, WL.wNil, WL.wCons, WL.wApp, WL.wTest, WL.wChain, WL.wAndT, WL.wOrT, WL.wNotT, WL.wAnd, WL.wOr, WL.wNot, WL.wIf, WL.wTup, WL.wLst, WL.wCall, WL.wMake, WL.wFld, WL.wPutF, WL.wSl, WL.wPart, WL.wNoPart, WL.wRev, WL.wName, WL.wNames, WL.wSeqI, WL.wZip, WL.wRng3, WL.wRng1, WL.wRng2, WL.wEnum, WL.wLstRg, WL.wTupRg, WL.wR1, WL.wR2, WL.wCallD, WL.MdW, WL.wgSub, WL.one, WL.two, WL.lk, WL.isB_bl, WL.isI_int, WL.cmpI, WL.isNW, WL.notNW, WL.nonW, WL.wYes, WL.wLockE, WL.wLock, WL.wDNew, WL.wSortSet, WL.wNever, WL.addW_int, WL.addW_tup, WL.addW_str, WL.subW_int, WL.mulW_int, WL.modW_int, WL.fdivW_int, WL.powW_int, WL.negW_int, WL.intW_int, WL.intW_bl, WL.absW, WL.CTg.on, WL.wipeW, WL.setsW, WL.optW_some, WL.wDisp, WL.wPairs, WL.eqW_str, WL.neW_str, WL.eqW_int, WL.neW_int, WL.eqW_bl, WL.neW_bl, WL.ixW_tupE, WL.slW_tupE, WL.sortTW_ref, WL.lenW_tupE, WL.tupW_tupE, WL.listW_tupE, WL.atI_0, WL.atI_1, WL.atI_2, WL.atI_3, WL.atI_4, WL.seqOn_tup, WL.enumOn_tup, List.set, if_true, if_false, Bool.false_eq_true, if_pos, List.length_nil, List.length_cons, Bool.not_true, Bool.not_false]
    refine ixW_lst (i := 1) h1.at_ rfl (len_lst h1.gb ?_)
    simp only [WL.wSeq, WL.wSet, WL.wAsg, WL.wDrop, WL.wRet, WL.wRetN, WL.wIfS, WL.wBreak, WL.wCont, WL.wNext, WL.wV, WL.wC, WL.wOp, WL.wUn, WL.wNil, WL.wCons, WL.wApp, WL.wTest, WL.wChain, WL.wAndT, WL.wOrT, WL.wNotT, WL.wAnd, WL.wOr, WL.wNot, WL.wIf, WL.wTup, WL.wLst, WL.wCall, WL.wMake, WL.wFld, WL.wPutF, WL.wSl, WL.wPart, WL.wNoPart, WL.wRev, WL.wName, WL.wNames, WL.wSeqI, WL.wZip, WL.wRng3, WL.wRng1, WL.wRng2, WL.wEnum, WL.wLstRg, WL.wTupRg, WL.wR1, WL.wR2, WL.wCallD, WL.MdW, WL.wgSub, WL.one, WL.two, WL.lk, WL.isB_bl, WL.isI_int, WL.cmpI, WL.isNW, WL.notNW, WL.nonW, WL.wYes, WL.wLockE, WL.wLock, WL.wDNew, WL.wSortSet, WL.wNever, WL.addW_int, WL.addW_tup, WL.addW_str, WL.subW_int, WL.mulW_int, WL.modW_int, WL.fdivW_int, WL.powW_int, WL.negW_int, WL.intW_int, WL.intW_bl, WL.absW, WL.CTg.on, WL.wipeW, WL.setsW, WL.optW_some, WL.wDisp, WL.wPairs, WL.eqW_str, WL.neW_str, WL.eqW_int, WL.neW_int, WL.eqW_bl, WL.neW_bl, WL.ixW_tupE, WL.slW_tupE, WL.sortTW_ref, WL.lenW_tupE, WL.tupW_tupE, WL.listW_tupE, WL.atI_0, WL.atI_1, WL.atI_2, WL.atI_3, WL.atI_4, WL.seqOn_tup, WL.enumOn_tup, List.set, if_true, if_false, Bool.false_eq_true, if_pos, List.length_nil, List.length_cons, Bool.not_true, Bool.not_false]
    have hlen : (intsW sm).length = sm.length := by unfold intsW; rw [List.length_map]
    refine ⟨by rw [hlen]; omega, ?_⟩
    rw [hlen]
    obtain ⟨n, hn, hlt⟩ := nat_of (Int.emod_nonneg (d + 1) (by omega : (sm.length : Int) ≠ 0)) (Int.emod_lt_of_pos (d + 1) (by omega : (0 : Int) < sm.length))
    rw [hn]
    refine ixW_lst (i := n) h1.gb (w := .int sm[n]) (by unfold intsW; rw [List.getElem?_map, List.getElem?_eq_getElem hlt]; rfl) ?_
    exact q _ _ ExtB.set h1
theorem dr1 (hk0 : 0 < k) (hk : k < 1000000) (h : PoolS p a b gs sm c d G) (q : ∀ (d' : Nat) c G', d' < k → ExtB p G G' → PoolS p a b gs sm c d G' → E.rt (nI d') G')
    (t : T E [some (.ref p), some (nI k), w2, w3, w4] G) : tl_dr1 T E [some (.ref p), some (nI k), w2, w3, w4] G := by
  unfold tl_dr1
  unfold nI at t ⊢
  simp only [WL.wSeq, WL.wSet, WL.wAsg, WL.wDrop, WL.wRet, WL.wRetN, WL.wIfS, WL.wBreak, WL.wCont, WL.wNext, WL.wV, WL.wC, WL.wOp, WL.wUn, WL.wNil, WL.wCons, WL.wApp, WL.wTest, WL.wChain, WL.wAndT, WL.wOrT, WL.wNotT, WL.wAnd, WL.wOr, WL.wNot, WL.wIf, WL.wTup, WL.wLst, WL.wCall, WL.wMake, WL.wFld, WL.wPutF, WL.wSl, WL.wPart, WL.wNoPart, WL.wRev, WL.wName, WL.wNames, WL.wSeqI, WL.wZip, WL.wRng3, WL.wRng1, WL.wRng2, WL.wEnum, WL.wLstRg, WL.wTupRg, WL.wR1, WL.wR2, WL.wCallD, WL.MdW, WL.wgSub, WL.one, WL.two, WL.lk, WL.isB_bl, WL.isI_int, WL.cmpI, WL.isNW, WL.notNW, WL.nonW, WL.wYes, WL.wLockE, WL.wLock, WL.wDNew, WL.wSortSet, WL.wNever, WL.addW_int, WL.addW_tup, WL.addW_str, WL.subW_int, WL.mulW_int, WL.modW_int, WL.fdivW_int, WL.powW_int, WL.negW_int, WL.intW_int, WL.intW_bl, WL.absW, WL.CTg.on, WL.wipeW, WL.setsW, WL.optW_some, WL.wDisp, WL.wPairs, WL.eqW_str, WL.neW_str, WL.eqW_int, WL.neW_int, WL.eqW_bl, WL.neW_bl, WL.ixW_tupE, WL.slW_tupE, WL.sortTW_ref, WL.lenW_tupE, WL.tupW_tupE, WL.listW_tupE, WL.atI_0, WL.atI_1, WL.atI_2, WL.atI_3, WL.atI_4, WL.seqOn_tup, WL.enumOn_tup, List.set, if_true, if_false, Bool.false_eq_true, if_pos, List.length_nil, List.length_cons, Bool.not_true, Bool.not_false]
  refine ixW_lst (i := 2) h.at_ rfl ?_
  simp only [WL.wSeq, WL.wSet, WL.wAsg, WL.wDrop, WL.wRet, WL.wRetN, WL.wIfS, WL.wBreak, WL.wCont, WL.wNext, WL.wV, WL.wC, WL.wOp, WL.wUn, WL.wNil, WL.wCons, WL.wApp, WL.wTest, WL.wChain, WL.wAndT, WL.wOrT, WL.wNotT, WL.wAnd, WL.wOr, WL.wNot, WL.wIf, WL.wTup, WL.wLst, WL.wCall, WL.wMake, WL.wFld, WL.wPutF, WL.wSl, WL.wPart, WL.wNoPart, WL.wRev, WL.wName, WL.wNames, WL.wSeqI, WL.wZip, WL.wRng3, WL.wRng1, WL.wRng2, WL.wEnum, WL.wLstRg, WL.wTupRg, WL.wR1, WL.wR2, WL.wCallD, WL.MdW, WL.wgSub, WL.one, WL.two, WL.lk, WL.isB_bl, WL.isI_int, WL.cmpI, WL.isNW, WL.notNW, WL.nonW, WL.wYes, WL.wLockE, WL.wLock, WL.wDNew, WL.wSortSet, WL.wNever, WL.addW_int, WL.addW_tup, WL.addW_str, WL.subW_int, WL.mulW_int, WL.modW_int, WL.fdivW_int, WL.powW_int, WL.negW_int, WL.intW_int, WL.intW_bl, WL.absW, WL.CTg.on, WL.wipeW, WL.setsW, WL.optW_some, WL.wDisp, WL.wPairs, WL.eqW_str, WL.neW_str, WL.eqW_int, WL.neW_int, WL.eqW_bl, WL.neW_bl, WL.ixW_tupE, WL.slW_tupE, WL.sortTW_ref, WL.lenW_tupE, WL.tupW_tupE, WL.listW_tupE, WL.atI_0, WL.atI_1, WL.atI_2, WL.atI_3, WL.atI_4, WL.seqOn_tup, WL.enumOn_tup, List.set, if_true, if_false, Bool.false_eq_true, if_pos, List.length_nil, List.length_cons, Bool.not_true, Bool.not_false]
  by_cases hc : (1 : Int) < c
  · rw [decide_eq_true (show c > 1 from hc)]
    simp only [WL.wSeq, WL.wSet, WL.wAsg, WL.wDrop, WL.wRet, WL.wRetN, WL.wIfS, WL.wBreak, WL.wCont, WL.wNext, WL.wV, WL.wC, WL.wOp, WL.wUn, WL.wNil, WL.wCons, WL.wApp, WL.wTest, WL.wChain, WL.wAndT, WL.wOrT, WL.wNotT, WL.wAnd, WL.wOr, WL.wNot, WL.wIf, WL.wTup, WL.wLst, WL.wCall, WL.wMake, WL.wFld, WL.wPutF, WL.wSl, WL.wPart, WL.wNoPart, WL.wRev, WL.wName, WL.wNames, WL.wSeqI, WL.wZip, WL.wRng3, WL.wRng1, WL.wRng2, WL.wEnum, WL.wLstRg, WL.wTupRg, WL.wR1, WL.wR2, WL.wCallD, WL.MdW, WL.wgSub, WL.one, WL.two, WL.lk, WL.isB_bl, WL.isI_int, WL.cmpI, WL.isNW, WL.notNW, WL.nonW, WL.wYes, WL.wLockE, WL.wLock, WL.wDNew, WL.wSortSet, WL.wNever, WL.addW_int, WL.addW_tup, WL.addW_str, WL.subW_int, WL.mulW_int, WL.modW_int, WL.fdivW_int, WL.powW_int, WL.negW_int, WL.intW_int, WL.intW_bl, WL.absW, WL.CTg.on, WL.wipeW, WL.setsW, WL.optW_some, WL.wDisp, WL.wPairs, WL.eqW_str, WL.neW_str, WL.eqW_int, WL.neW_int, WL.eqW_bl, WL.neW_bl, WL.ixW_tupE, WL.slW_tupE, WL.sortTW_ref, WL.lenW_tupE, WL.tupW_tupE, WL.listW_tupE, WL.atI_0, WL.atI_1, WL.atI_2, WL.atI_3, WL.atI_4, WL.seqOn_tup, WL.enumOn_tup, List.set, if_true, if_false, Bool.false_eq_true, if_pos, List.length_nil, List.length_cons, Bool.not_true, Bool.not_false]
    refine ixW_lst (i := 2) h.at_ rfl ?_
    simp only [WL.wSeq, WL.wSet, WL.wAsg, WL.wDrop, WL.wRet, WL.wRetN, WL.wIfS, WL.wBreak, WL.wCont, WL.wNext, WL.wV, WL.wC, WL.wOp, WL.wUn, WL.wNil, WL.wCons, WL.wApp, WL.wTest, WL.wChain, WL.wAndT, WL.wOrT, WL.wNotT, WL.wAnd, WL.wOr, WL.wNot, WL.wIf, WL.wTup, WL.wLst, WL.wCall, WL.wMake, WL.wFld, WL.wPutF, WL.wSl, WL.wPart, WL.wNoPart, WL.wRev, WL.wName, WL.wNames, WL.wSeqI, WL.wZip, WL.wRng3, WL.wRng1, WL.wRng2, WL.wEnum, WL.wLstRg, WL.wTupRg, WL.wR1, WL.wR2, WL.wCallD, WL.MdW, WL.wgSub, WL.one, WL.two, WL.lk, WL.isB_bl, WL.isI_int, WL.cmpI, WL.isNW, WL.notNW, WL.nonW, WL.wYes, WL.wLockE, WL.wLock, WL.wDNew, WL.wSortSet, WL.wNever, WL.addW_int, WL.addW_tup, WL.addW_str, WL.subW_int, WL.mulW_int, WL.modW_int, WL.fdivW_int, WL.powW_int, WL.negW_int, WL.intW_int, WL.intW_bl, WL.absW, WL.CTg.on, WL.wipeW, WL.setsW, WL.optW_some, WL.wDisp, WL.wPairs, WL.eqW_str, WL.neW_str, WL.eqW_int, WL.neW_int, WL.eqW_bl, WL.neW_bl, WL.ixW_tupE, WL.slW_tupE, WL.sortTW_ref, WL.lenW_tupE, WL.tupW_tupE, WL.listW_tupE, WL.atI_0, WL.atI_1, WL.atI_2, WL.atI_3, WL.atI_4, WL.seqOn_tup, WL.enumOn_tup, List.set, if_true, if_false, Bool.false_eq_true, if_pos, List.length_nil, List.length_cons, Bool.not_true, Bool.not_false]
    refine ⟨by omega, ixW_lst (i := 2) h.at_ rfl ?_⟩
    simp only [WL.wSeq, WL.wSet, WL.wAsg, WL.wDrop, WL.wRet, WL.wRetN, WL.wIfS, WL.wBreak, WL.wCont, WL.wNext, WL.wV, WL.wC, WL.wOp, WL.wUn, WL.wNil, WL.wCons, WL.wApp, WL.wTest, WL.wChain, WL.wAndT, WL.wOrT, WL.wNotT, WL.wAnd, WL.wOr, WL.wNot, WL.wIf, WL.wTup, WL.wLst, WL.wCall, WL.wMake, WL.wFld, WL.wPutF, WL.wSl, WL.wPart, WL.wNoPart, WL.wRev, WL.wName, WL.wNames, WL.wSeqI, WL.wZip, WL.wRng3, WL.wRng1, WL.wRng2, WL.wEnum, WL.wLstRg, WL.wTupRg, WL.wR1, WL.wR2, WL.wCallD, WL.MdW, WL.wgSub, WL.one, WL.two, WL.lk, WL.isB_bl, WL.isI_int, WL.cmpI, WL.isNW, WL.notNW, WL.nonW, WL.wYes, WL.wLockE, WL.wLock, WL.wDNew, WL.wSortSet, WL.wNever, WL.addW_int, WL.addW_tup, WL.addW_str, WL.subW_int, WL.mulW_int, WL.modW_int, WL.fdivW_int, WL.powW_int, WL.negW_int, WL.intW_int, WL.intW_bl, WL.absW, WL.CTg.on, WL.wipeW, WL.setsW, WL.optW_some, WL.wDisp, WL.wPairs, WL.eqW_str, WL.neW_str, WL.eqW_int, WL.neW_int, WL.eqW_bl, WL.neW_bl, WL.ixW_tupE, WL.slW_tupE, WL.sortTW_ref, WL.lenW_tupE, WL.tupW_tupE, WL.listW_tupE, WL.atI_0, WL.atI_1, WL.atI_2, WL.atI_3, WL.atI_4, WL.seqOn_tup, WL.enumOn_tup, List.set, if_true, if_false, Bool.false_eq_true, if_pos, List.length_nil, List.length_cons, Bool.not_true, Bool.not_false]
    refine ⟨by omega, by omega, put_lst (i := 2) h.at_ (by simp) ?_⟩
    refine dr_out (Q := E.rt) hk0 c fun d' hd => q d' _ _ hd ExtB.set ⟨updG_same, by rw [updG_ne h.ap]; exact h.ga, by rw [updG_ne h.bp]; exact h.gb, h.ap, h.bp, h.g0, h.s0, Int.ediv_nonneg h.c0 (by omega), h.d0, h.gl, h.sl⟩
  · rw [decide_eq_false (show ¬ c > 1 from hc)]
    simp only [WL.wSeq, WL.wSet, WL.wAsg, WL.wDrop, WL.wRet, WL.wRetN, WL.wIfS, WL.wBreak, WL.wCont, WL.wNext, WL.wV, WL.wC, WL.wOp, WL.wUn, WL.wNil, WL.wCons, WL.wApp, WL.wTest, WL.wChain, WL.wAndT, WL.wOrT, WL.wNotT, WL.wAnd, WL.wOr, WL.wNot, WL.wIf, WL.wTup, WL.wLst, WL.wCall, WL.wMake, WL.wFld, WL.wPutF, WL.wSl, WL.wPart, WL.wNoPart, WL.wRev, WL.wName, WL.wNames, WL.wSeqI, WL.wZip, WL.wRng3, WL.wRng1, WL.wRng2, WL.wEnum, WL.wLstRg, WL.wTupRg, WL.wR1, WL.wR2, WL.wCallD, WL.MdW, WL.wgSub, WL.one, WL.two, WL.lk, WL.isB_bl, WL.isI_int, WL.cmpI, WL.isNW, WL.notNW, WL.nonW, WL.wYes, WL.wLockE, WL.wLock, WL.wDNew, WL.wSortSet, WL.wNever, WL.addW_int, WL.addW_tup, WL.addW_str, WL.subW_int, WL.mulW_int, WL.modW_int, WL.fdivW_int, WL.powW_int, WL.negW_int, WL.intW_int, WL.intW_bl, WL.absW, WL.CTg.on, WL.wipeW, WL.setsW, WL.optW_some, WL.wDisp, WL.wPairs, WL.eqW_str, WL.neW_str, WL.eqW_int, WL.neW_int, WL.eqW_bl, WL.neW_bl, WL.ixW_tupE, WL.slW_tupE, WL.sortTW_ref, WL.lenW_tupE, WL.tupW_tupE, WL.listW_tupE, WL.atI_0, WL.atI_1, WL.atI_2, WL.atI_3, WL.atI_4, WL.seqOn_tup, WL.enumOn_tup, List.set, if_true, if_false, Bool.false_eq_true, if_pos, List.length_nil, List.length_cons, Bool.not_true, Bool.not_false]
    exact t
theorem dr0 (h : PoolS p a b gs sm c d G) (q : ∀ a' gs c G', (a' = a ∨ G a' = none) → ExtB p G G' → PoolS p a' b gs sm c d G' → T E [some (.ref p), some (nI k), w2, w3, w4] G') : tl_dr0 T E [some (.ref p), some (nI k), w2, w3, w4] G := by
  unfold tl_dr0
  unfold nI at q ⊢
  simp only [WL.wSeq, WL.wSet, WL.wAsg, WL.wDrop, WL.wRet, WL.wRetN, WL.wIfS, WL.wBreak, WL.wCont, WL.wNext, WL.wV, WL.wC, WL.wOp, WL.wUn, WL.wNil, WL.wCons, WL.wApp, WL.wTest, WL.wChain, WL.wAndT, WL.wOrT, WL.wNotT, WL.wAnd, WL.wOr, WL.wNot, WL.wIf, WL.wTup, WL.wLst, WL.wCall, WL.wMake, WL.wFld, WL.wPutF, WL.wSl, WL.wPart, WL.wNoPart, WL.wRev, WL.wName, WL.wNames, WL.wSeqI, WL.wZip, WL.wRng3, WL.wRng1, WL.wRng2, WL.wEnum, WL.wLstRg, WL.wTupRg, WL.wR1, WL.wR2, WL.wCallD, WL.MdW, WL.wgSub, WL.one, WL.two, WL.lk, WL.isB_bl, WL.isI_int, WL.cmpI, WL.isNW, WL.notNW, WL.nonW, WL.wYes, WL.wLockE, WL.wLock, WL.wDNew, WL.wSortSet, WL.wNever, WL.addW_int, WL.addW_tup, WL.addW_str, WL.subW_int, WL.mulW_int, WL.modW_int, WL.fdivW_int, WL.powW_int, WL.negW_int, WL.intW_int, WL.intW_bl, WL.absW, WL.CTg.on, WL.wipeW, WL.setsW, WL.optW_some, WL.wDisp, WL.wPairs, WL.eqW_str, WL.neW_str, WL.eqW_int, WL.neW_int, WL.eqW_bl, WL.neW_bl, WL.ixW_tupE, WL.slW_tupE, WL.sortTW_ref, WL.lenW_tupE, WL.tupW_tupE, WL.listW_tupE, WL.atI_0, WL.atI_1, WL.atI_2, WL.atI_3, WL.atI_4, WL.seqOn_tup, WL.enumOn_tup, List.set, if_true, if_false, Bool.false_eq_true, if_pos, List.length_nil, List.length_cons, Bool.not_true, Bool.not_false]
  refine ixW_lst (i := 2) h.at_ rfl ?_
  simp only [WL.wSeq, WL.wSet, WL.wAsg, WL.wDrop, WL.wRet, WL.wRetN, WL.wIfS, WL.wBreak, WL.wCont, WL.wNext, WL.wV, WL.wC, WL.wOp, WL.wUn, WL.wNil, WL.wCons, WL.wApp, WL.wTest, WL.wChain, WL.wAndT, WL.wOrT, WL.wNotT, WL.wAnd, WL.wOr, WL.wNot, WL.wIf, WL.wTup, WL.wLst, WL.wCall, WL.wMake, WL.wFld, WL.wPutF, WL.wSl, WL.wPart, WL.wNoPart, WL.wRev, WL.wName, WL.wNames, WL.wSeqI, WL.wZip, WL.wRng3, WL.wRng1, WL.wRng2, WL.wEnum, WL.wLstRg, WL.wTupRg, WL.wR1, WL.wR2, WL.wCallD, WL.MdW, WL.wgSub, WL.one, WL.two, WL.lk, WL.isB_bl, WL.isI_int, WL.cmpI, WL.isNW, WL.notNW, WL.nonW, WL.wYes, WL.wLockE, WL.wLock, WL.wDNew, WL.wSortSet, WL.wNever, WL.addW_int, WL.addW_tup, WL.addW_str, WL.subW_int, WL.mulW_int, WL.modW_int, WL.fdivW_int, WL.powW_int, WL.negW_int, WL.intW_int, WL.intW_bl, WL.absW, WL.CTg.on, WL.wipeW, WL.setsW, WL.optW_some, WL.wDisp, WL.wPairs, WL.eqW_str, WL.neW_str, WL.eqW_int, WL.neW_int, WL.eqW_bl, WL.neW_bl, WL.ixW_tupE, WL.slW_tupE, WL.sortTW_ref, WL.lenW_tupE, WL.tupW_tupE, WL.listW_tupE, WL.atI_0, WL.atI_1, WL.atI_2, WL.atI_3, WL.atI_4, WL.seqOn_tup, WL.enumOn_tup, List.set, if_true, if_false, Bool.false_eq_true, if_pos, List.length_nil, List.length_cons, Bool.not_true, Bool.not_false]
  by_cases hc : c ≤ 1
  · rw [decide_eq_true hc]
    simp only [WL.wSeq, WL.wSet, WL.wAsg, WL.wDrop, WL.wRet, WL.wRetN, WL.wIfS, WL.wBreak, WL.wCont, WL.wNext, WL.wV, WL.wC, WL.wOp, WL.wUn, WL.wNil, WL.wCons, WL.wApp, WL.wTest, WL.wChain, WL.wAndT, WL.wOrT, WL.wNotT, WL.wAnd, WL.wOr, WL.wNot, WL.wIf, WL.wTup, WL.wLst, WL.wCall, WL.wMake, WL.wFld, WL.wPutF, WL.wSl, WL.wPart, WL.wNoPart, WL.wRev, WL.wName, WL.wNames, WL.wSeqI, WL.wZip, WL.wRng3, WL.wRng1, WL.wRng2, WL.wEnum, WL.wLstRg, WL.wTupRg, WL.wR1, WL.wR2, WL.wCallD, WL.MdW, WL.wgSub, WL.one, WL.two, WL.lk, WL.isB_bl, WL.isI_int, WL.cmpI, WL.isNW, WL.notNW, WL.nonW, WL.wYes, WL.wLockE, WL.wLock, WL.wDNew, WL.wSortSet, WL.wNever, WL.addW_int, WL.addW_tup, WL.addW_str, WL.subW_int, WL.mulW_int, WL.modW_int, WL.fdivW_int, WL.powW_int, WL.negW_int, WL.intW_int, WL.intW_bl, WL.absW, WL.CTg.on, WL.wipeW, WL.setsW, WL.optW_some, WL.wDisp, WL.wPairs, WL.eqW_str, WL.neW_str, WL.eqW_int, WL.neW_int, WL.eqW_bl, WL.neW_bl, WL.ixW_tupE, WL.slW_tupE, WL.sortTW_ref, WL.lenW_tupE, WL.tupW_tupE, WL.listW_tupE, WL.atI_0, WL.atI_1, WL.atI_2, WL.atI_3, WL.atI_4, WL.seqOn_tup, WL.enumOn_tup, List.set, if_true, if_false, Bool.false_eq_true, if_pos, List.length_nil, List.length_cons, Bool.not_true, Bool.not_false]
    refine ixW_lst (i := 0) h.at_ rfl (len_lst h.ga ?_)
    simp only [WL.wSeq, WL.wSet, WL.wAsg, WL.wDrop, WL.wRet, WL.wRetN, WL.wIfS, WL.wBreak, WL.wCont, WL.wNext, WL.wV, WL.wC, WL.wOp, WL.wUn, WL.wNil, WL.wCons, WL.wApp, WL.wTest, WL.wChain, WL.wAndT, WL.wOrT, WL.wNotT, WL.wAnd, WL.wOr, WL.wNot, WL.wIf, WL.wTup, WL.wLst, WL.wCall, WL.wMake, WL.wFld, WL.wPutF, WL.wSl, WL.wPart, WL.wNoPart, WL.wRev, WL.wName, WL.wNames, WL.wSeqI, WL.wZip, WL.wRng3, WL.wRng1, WL.wRng2, WL.wEnum, WL.wLstRg, WL.wTupRg, WL.wR1, WL.wR2, WL.wCallD, WL.MdW, WL.wgSub, WL.one, WL.two, WL.lk, WL.isB_bl, WL.isI_int, WL.cmpI, WL.isNW, WL.notNW, WL.nonW, WL.wYes, WL.wLockE, WL.wLock, WL.wDNew, WL.wSortSet, WL.wNever, WL.addW_int, WL.addW_tup, WL.addW_str, WL.subW_int, WL.mulW_int, WL.modW_int, WL.fdivW_int, WL.powW_int, WL.negW_int, WL.intW_int, WL.intW_bl, WL.absW, WL.CTg.on, WL.wipeW, WL.setsW, WL.optW_some, WL.wDisp, WL.wPairs, WL.eqW_str, WL.neW_str, WL.eqW_int, WL.neW_int, WL.eqW_bl, WL.neW_bl, WL.ixW_tupE, WL.slW_tupE, WL.sortTW_ref, WL.lenW_tupE, WL.tupW_tupE, WL.listW_tupE, WL.atI_0, WL.atI_1, WL.atI_2, WL.atI_3, WL.atI_4, WL.seqOn_tup, WL.enumOn_tup, List.set, if_true, if_false, Bool.false_eq_true, if_pos, List.length_nil, List.length_cons, Bool.not_true, Bool.not_false]
    have hlen : (intsW gs).length = gs.length := by unfold intsW; rw [List.length_map]
    rw [hlen]
    cases gs with
    | nil =>
      simp only [WL.wSeq, WL.wSet, WL.wAsg, WL.wDrop, WL.wRet, WL.wRetN, WL.wIfS, WL.wBreak, WL.wCont, WL.wNext, WL.wV, WL.wC, WL.wOp, WL.wUn, WL.wNil, WL.wCons, WL.wApp, WL.wTest, WL.wChain, WL.wAndT, WL.wOrT, WL.wNotT, WL.wAnd, WL.wOr, WL.wNot, WL.wIf, WL.wTup, WL.wLst, WL.wCall, WL.wMake, WL.wFld, WL.wPutF, WL.wSl, WL.wPart, WL.wNoPart, WL.wRev, WL.wName, WL.wNames, WL.wSeqI, WL.wZip, WL.wRng3, WL.wRng1, WL.wRng2, WL.wEnum, WL.wLstRg, WL.wTupRg, WL.wR1, WL.wR2, WL.wCallD, WL.MdW, WL.wgSub, WL.one, WL.two, WL.lk, WL.isB_bl, WL.isI_int, WL.cmpI, WL.isNW, WL.notNW, WL.nonW, WL.wYes, WL.wLockE, WL.wLock, WL.wDNew, WL.wSortSet, WL.wNever, WL.addW_int, WL.addW_tup, WL.addW_str, WL.subW_int, WL.mulW_int, WL.modW_int, WL.fdivW_int, WL.powW_int, WL.negW_int, WL.intW_int, WL.intW_bl, WL.absW, WL.CTg.on, WL.wipeW, WL.setsW, WL.optW_some, WL.wDisp, WL.wPairs, WL.eqW_str, WL.neW_str, WL.eqW_int, WL.neW_int, WL.eqW_bl, WL.neW_bl, WL.ixW_tupE, WL.slW_tupE, WL.sortTW_ref, WL.lenW_tupE, WL.tupW_tupE, WL.listW_tupE, WL.atI_0, WL.atI_1, WL.atI_2, WL.atI_3, WL.atI_4, WL.seqOn_tup, WL.enumOn_tup, List.set, if_true, if_false, Bool.false_eq_true, if_pos, List.length_nil, List.length_cons, Bool.not_true, Bool.not_false]
      exact q a [] c G (.inl rfl) .refl h
    | cons g gs =>
      rw [decide_eq_true (show (((g :: gs).length : Nat) : Int) > 0 by rw [List.length_cons]; omega)]
      simp only [WL.wSeq, WL.wSet, WL.wAsg, WL.wDrop, WL.wRet, WL.wRetN, WL.wIfS, WL.wBreak, WL.wCont, WL.wNext, WL.wV, WL.wC, WL.wOp, WL.wUn, WL.wNil, WL.wCons, WL.wApp, WL.wTest, WL.wChain, WL.wAndT, WL.wOrT, WL.wNotT, WL.wAnd, WL.wOr, WL.wNot, WL.wIf, WL.wTup, WL.wLst, WL.wCall, WL.wMake, WL.wFld, WL.wPutF, WL.wSl, WL.wPart, WL.wNoPart, WL.wRev, WL.wName, WL.wNames, WL.wSeqI, WL.wZip, WL.wRng3, WL.wRng1, WL.wRng2, WL.wEnum, WL.wLstRg, WL.wTupRg, WL.wR1, WL.wR2, WL.wCallD, WL.MdW, WL.wgSub, WL.one, WL.two, WL.lk, WL.isB_bl, WL.isI_int, WL.cmpI, WL.isNW, WL.notNW, WL.nonW, WL.wYes, WL.wLockE, WL.wLock, WL.wDNew, WL.wSortSet, WL.wNever, WL.addW_int, WL.addW_tup, WL.addW_str, WL.subW_int, WL.mulW_int, WL.modW_int, WL.fdivW_int, WL.powW_int, WL.negW_int, WL.intW_int, WL.intW_bl, WL.absW, WL.CTg.on, WL.wipeW, WL.setsW, WL.optW_some, WL.wDisp, WL.wPairs, WL.eqW_str, WL.neW_str, WL.eqW_int, WL.neW_int, WL.eqW_bl, WL.neW_bl, WL.ixW_tupE, WL.slW_tupE, WL.sortTW_ref, WL.lenW_tupE, WL.tupW_tupE, WL.listW_tupE, WL.atI_0, WL.atI_1, WL.atI_2, WL.atI_3, WL.atI_4, WL.seqOn_tup, WL.enumOn_tup, List.set, if_true, if_false, Bool.false_eq_true, if_pos, List.length_nil, List.length_cons, Bool.not_true, Bool.not_false]
      refine ixW_lst (i := 0) h.at_ rfl (ixW_lst (i := 0) h.ga rfl ?_)
      refine put_lst (i := 2) h.at_ (by simp) ?_
      have ha1 : updG G p (.lst ([W.ref a, .ref b, .int c, .int d].set 2 (.int g))) a = some (.lst (intsW (g :: gs))) := by rw [updG_ne h.ap]; exact h.ga
      refine ixW_lst (i := 0) updG_same rfl (sl_lst ha1 fun r hr => ?_)
      have npr : p ≠ r := fun e => by rw [← e, updG_same] at hr; cases hr
      refine put_lst (i := 0) (by rw [updG_ne npr, updG_same]) (by simp) ?_
      rw [show cutW (intsW (g :: gs)) (some (1 : Int)) none = intsW gs from cut_drop (n := 1)]
      have nrb : b ≠ r := fun e => by rw [← e, updG_ne h.bp, h.gb] at hr; cases hr
      have hg := h.g0 g (by simp)
      have hrG : G r = none := by rw [updG_ne (Ne.symm npr)] at hr; exact hr
      refine q r gs g _ (.inr hrG) (fun z o hz ho => ?_) ⟨updG_same, ?_, ?_, Ne.symm npr, h.bp, fun x hx => h.g0 x (by simp [hx]), h.s0, by omega, h.d0, by have := h.gl; rw [List.length_cons] at this; omega, h.sl⟩
      · rw [updG_ne hz]
        have : z ≠ r := fun e => by rw [← e, updG_ne hz, ho] at hr; cases hr
        rw [updG_ne this, updG_ne hz]; exact ho
      · rw [updG_ne (Ne.symm npr), updG_same]
      · rw [updG_ne h.bp, updG_ne nrb, updG_ne h.bp]; exact h.gb
  · rw [decide_eq_false hc]
    simp only [WL.wSeq, WL.wSet, WL.wAsg, WL.wDrop, WL.wRet, WL.wRetN, WL.wIfS, WL.wBreak, WL.wCont, WL.wNext, WL.wV, WL.wC, WL.wOp, WL.wUn, WL.wNil, WL.wCons, WL.wApp, WL.wTest, WL.wChain, WL.wAndT, WL.wOrT, WL.wNotT, WL.wAnd, WL.wOr, WL.wNot, WL.wIf, WL.wTup, WL.wLst, WL.wCall, WL.wMake, WL.wFld, WL.wPutF, WL.wSl, WL.wPart, WL.wNoPart, WL.wRev, WL.wName, WL.wNames, WL.wSeqI, WL.wZip, WL.wRng3, WL.wRng1, WL.wRng2, WL.wEnum, WL.wLstRg, WL.wTupRg, WL.wR1, WL.wR2, WL.wCallD, WL.MdW, WL.wgSub, WL.one, WL.two, WL.lk, WL.isB_bl, WL.isI_int, WL.cmpI, WL.isNW, WL.notNW, WL.nonW, WL.wYes, WL.wLockE, WL.wLock, WL.wDNew, WL.wSortSet, WL.wNever, WL.addW_int, WL.addW_tup, WL.addW_str, WL.subW_int, WL.mulW_int, WL.modW_int, WL.fdivW_int, WL.powW_int, WL.negW_int, WL.intW_int, WL.intW_bl, WL.absW, WL.CTg.on, WL.wipeW, WL.setsW, WL.optW_some, WL.wDisp, WL.wPairs, WL.eqW_str, WL.neW_str, WL.eqW_int, WL.neW_int, WL.eqW_bl, WL.neW_bl, WL.ixW_tupE, WL.slW_tupE, WL.sortTW_ref, WL.lenW_tupE, WL.tupW_tupE, WL.listW_tupE, WL.atI_0, WL.atI_1, WL.atI_2, WL.atI_3, WL.atI_4, WL.seqOn_tup, WL.enumOn_tup, List.set, if_true, if_false, Bool.false_eq_true, if_pos, List.length_nil, List.length_cons, Bool.not_true, Bool.not_false]
    exact q a gs c G (.inl rfl) .refl h
end
theorem v_law_draw : ∀ ws G Q, S_law_draw ws G Q → rd_law_draw { nx := fun _ G' => Q .non G', rt := Q } (startW ["_law_pool_here", "_law_many", "_law_digit", "_law_cell", "_law_number"] ws) G := by
  rintro ws G Q ⟨ns, p, k, rfl, hk0, hk, ⟨⟨a, b, gs, sm, c, d, h, na, nb⟩, hn⟩, q⟩
  show tl_dr0 (tl_dr1 (tl_dr2 tl_dr3)) _ [some (.ref p), some (nI k), none, none, none] G
  refine dr0 h fun a' gs c G1 ha e1 h1 => ?_
  have na' : a' ∉ ns := fun hm => by
    rcases ha with rfl | ha
    · exact na hm
    · obtain ⟨u, hu⟩ := hn a' hm
      rw [hu] at ha; cases ha
  have live : ∀ G', ExtB p G G' → G' p ≠ none → ∀ r ∈ ns, ∃ u, G' r = some u := fun G' e hp r hr => by
    obtain ⟨u, hu⟩ := hn r hr
    by_cases hrp : r = p
    · rw [hrp]
      cases e' : G' p with
      | none => exact absurd e' hp
      | some u => exact ⟨u, rfl⟩
    · exact ⟨u, e r u hrp hu⟩
  refine dr1 hk0 hk h1 (fun d' c G2 hd e2 h2 => q d' G2 hd (e1.trans e2) ⟨⟨_, _, _, _, _, _, h2, na', nb⟩, live G2 (e1.trans e2) (by rw [h2.at_]; exact fun h => by cases h)⟩) ?_
  refine dr2 h1 fun x G2 e2 h2 => ?_
  exact dr3 hk0 hk h2 fun d' hd => q d' G2 hd (e1.trans e2) ⟨⟨_, _, _, _, _, _, h2, na', nb⟩, live G2 (e1.trans e2) (by rw [h2.at_]; exact fun h => by cases h)⟩
theorem v_law_pool : ∀ ws G Q, S_law_pool ws G Q → rd_law_pool { nx := fun _ G' => Q .non G', rt := Q } (startW ["_law_script", "_law_great", "_law_small", "_law_cell"] ws) G := by
  rintro ws G Q ⟨w, ns, rfl, hs, hl, q⟩
  show rd_law_pool _ [some w, none, none, none] G
  unfold rd_law_pool
  have sxt : ∀ G', Ext G G' → scrAt G' w ns := fun G' e => by
    rcases hs with ⟨a, rfl, ha⟩ | rfl
    · exact .inl ⟨a, rfl, e _ _ ha⟩
    · exact .inr rfl
  have items : ∀ (G : WHp) (h : scrAt G w ns) (ρ : WEnv) (hρ : ρ[0]? = some (some w)) (K : List W → (WHp → Prop) → WHp → Prop), (∀ items stable G1, (∃ p, items = (ns.take 63).map .int ∧ stable = (fun G => G p = some (.lst ((ns.take 63).map .int)) ∨ G p = some (.rol ((ns.take 63).map .int))) ∧ Ext G G1 ∧ G1 p = some (.lst ((ns.take 63).map .int))) → K items stable G1) → (wSeqI (wSl (wV 0) wNoPart (wPart (wC (.int 63))))) ρ G K := fun G h ρ hρ K hK => by
    have e : cutW (ns.map W.int) none (some 63) = (ns.take 63).map .int := by
      rw [show (63 : Int) = ((63 : Nat) : Int) from rfl, cut_take, List.map_take]
    have fin : ∀ p, G p = none → seqOn (.ref p) (updG G p (.lst (cutW (ns.map W.int) none (some 63)))) fun ws st => K ws st (updG G p (.lst (cutW (ns.map W.int) none (some 63)))) := fun p hp => by
      rw [e]
      exact seq_lst updG_same (hK _ _ _ ⟨p, rfl, rfl, .new hp, updG_same⟩)
    unfold wSeqI wSl
    refine wv_of hρ ?_
    simp only [WL.wSeq, WL.wSet, WL.wAsg, WL.wDrop, WL.wRet, WL.wRetN, WL.wIfS, WL.wBreak, WL.wCont, WL.wNext, WL.wV, WL.wC, WL.wOp, WL.wUn, WL.wNil, WL.wCons, WL.wApp, WL.wTest, WL.wChain, WL.wAndT, WL.wOrT, WL.wNotT, WL.wAnd, WL.wOr, WL.wNot, WL.wIf, WL.wTup, WL.wLst, WL.wCall, WL.wMake, WL.wFld, WL.wPutF, WL.wSl, WL.wPart, WL.wNoPart, WL.wRev, WL.wName, WL.wNames, WL.wSeqI, WL.wZip, WL.wRng3, WL.wRng1, WL.wRng2, WL.wEnum, WL.wLstRg, WL.wTupRg, WL.wR1, WL.wR2, WL.wCallD, WL.MdW, WL.wgSub, WL.one, WL.two, WL.lk, WL.isB_bl, WL.isI_int, WL.cmpI, WL.isNW, WL.notNW, WL.nonW, WL.wYes, WL.wLockE, WL.wLock, WL.wDNew, WL.wSortSet, WL.wNever, WL.addW_int, WL.addW_tup, WL.addW_str, WL.subW_int, WL.mulW_int, WL.modW_int, WL.fdivW_int, WL.powW_int, WL.negW_int, WL.intW_int, WL.intW_bl, WL.absW, WL.CTg.on, WL.wipeW, WL.setsW, WL.optW_some, WL.wDisp, WL.wPairs, WL.eqW_str, WL.neW_str, WL.eqW_int, WL.neW_int, WL.eqW_bl, WL.neW_bl, WL.ixW_tupE, WL.slW_tupE, WL.sortTW_ref, WL.lenW_tupE, WL.tupW_tupE, WL.listW_tupE, WL.atI_0, WL.atI_1, WL.atI_2, WL.atI_3, WL.atI_4, WL.seqOn_tup, WL.enumOn_tup, List.set, if_true, if_false, Bool.false_eq_true, if_pos, List.length_nil, List.length_cons, Bool.not_true, Bool.not_false]
    rcases h with ⟨a, rfl, ha⟩ | rfl
    · exact sl_rol ha fin
    · exact fin
  have tk : (ns.take 63).length ≤ 63 := by rw [List.length_take]; exact Nat.min_le_left _ _
  have fm : ∀ (P : Int → Bool) (f : Int → Int) (l : List Int), (l.map W.int).filterMap (fun w => match w with | .int i => (if P i = true then some (W.int (f i)) else none) | _ => none) = ((l.filter P).map f).map W.int := fun P f l => by
    rw [List.map_map]
    exact fm_filter fun n _ => rfl
  simp only [WL.wSeq, WL.wSet, WL.wAsg, WL.wDrop, WL.wRet, WL.wRetN, WL.wIfS, WL.wBreak, WL.wCont, WL.wNext, WL.wV, WL.wC, WL.wOp, WL.wUn, WL.wNil, WL.wCons, WL.wApp, WL.wTest, WL.wChain, WL.wAndT, WL.wOrT, WL.wNotT, WL.wAnd, WL.wOr, WL.wNot, WL.wIf, WL.wTup, WL.wLst, WL.wCall, WL.wMake, WL.wFld, WL.wPutF, WL.wSl, WL.wPart, WL.wNoPart, WL.wRev, WL.wName, WL.wNames, WL.wSeqI, WL.wZip, WL.wRng3, WL.wRng1, WL.wRng2, WL.wEnum, WL.wLstRg, WL.wTupRg, WL.wR1, WL.wR2, WL.wCallD, WL.MdW, WL.wgSub, WL.one, WL.two, WL.lk, WL.isB_bl, WL.isI_int, WL.cmpI, WL.isNW, WL.notNW, WL.nonW, WL.wYes, WL.wLockE, WL.wLock, WL.wDNew, WL.wSortSet, WL.wNever, WL.addW_int, WL.addW_tup, WL.addW_str, WL.subW_int, WL.mulW_int, WL.modW_int, WL.fdivW_int, WL.powW_int, WL.negW_int, WL.intW_int, WL.intW_bl, WL.absW, WL.CTg.on, WL.wipeW, WL.setsW, WL.optW_some, WL.wDisp, WL.wPairs, WL.eqW_str, WL.neW_str, WL.eqW_int, WL.neW_int, WL.eqW_bl, WL.neW_bl, WL.ixW_tupE, WL.slW_tupE, WL.sortTW_ref, WL.lenW_tupE, WL.tupW_tupE, WL.listW_tupE, WL.atI_0, WL.atI_1, WL.atI_2, WL.atI_3, WL.atI_4, WL.seqOn_tup, WL.enumOn_tup, List.set, if_true, if_false, Bool.false_eq_true, if_pos, List.length_nil, List.length_cons, Bool.not_true, Bool.not_false]
  refine wLc_Pfm (fun items stable G1 => ∃ p, items = (ns.take 63).map .int ∧ stable = (fun G => G p = some (.lst ((ns.take 63).map .int)) ∨ G p = some (.rol ((ns.take 63).map .int))) ∧ Ext G G1 ∧ G1 p = some (.lst ((ns.take 63).map .int))) (fun K hK => items G hs _ rfl K hK) ?_
  rintro items1 stable G1 ⟨p1, rfl, rfl, e1, ep1⟩
  refine ⟨fun w => match w with | .int i => (if decide ((10 : Int) ^ 18 ≤ (if i < 0 then -i else i)) = true then some (.int (if i < 0 then -i else i)) else none) | _ => none, by rw [List.length_map]; exact Nat.lt_of_le_of_lt tk (by decide), fun G' e => Or.inl (e _ _ ep1), fun i w hw G2 e2 R r => ?_, fun D G2 e2 hD => ?_⟩
  · rw [List.getElem?_map] at hw
    cases h : (ns.take 63)[i]? with
    | none => rw [h] at hw; cases hw
    | some n =>
      rw [h] at hw; cases hw
      simp only [WL.wSeq, WL.wSet, WL.wAsg, WL.wDrop, WL.wRet, WL.wRetN, WL.wIfS, WL.wBreak, WL.wCont, WL.wNext, WL.wV, WL.wC, WL.wOp, WL.wUn, WL.wNil, WL.wCons, WL.wApp, WL.wTest, WL.wChain, WL.wAndT, WL.wOrT, WL.wNotT, WL.wAnd, WL.wOr, WL.wNot, WL.wIf, WL.wTup, WL.wLst, WL.wCall, WL.wMake, WL.wFld, WL.wPutF, WL.wSl, WL.wPart, WL.wNoPart, WL.wRev, WL.wName, WL.wNames, WL.wSeqI, WL.wZip, WL.wRng3, WL.wRng1, WL.wRng2, WL.wEnum, WL.wLstRg, WL.wTupRg, WL.wR1, WL.wR2, WL.wCallD, WL.MdW, WL.wgSub, WL.one, WL.two, WL.lk, WL.isB_bl, WL.isI_int, WL.cmpI, WL.isNW, WL.notNW, WL.nonW, WL.wYes, WL.wLockE, WL.wLock, WL.wDNew, WL.wSortSet, WL.wNever, WL.addW_int, WL.addW_tup, WL.addW_str, WL.subW_int, WL.mulW_int, WL.modW_int, WL.fdivW_int, WL.powW_int, WL.negW_int, WL.intW_int, WL.intW_bl, WL.absW, WL.CTg.on, WL.wipeW, WL.setsW, WL.optW_some, WL.wDisp, WL.wPairs, WL.eqW_str, WL.neW_str, WL.eqW_int, WL.neW_int, WL.eqW_bl, WL.neW_bl, WL.ixW_tupE, WL.slW_tupE, WL.sortTW_ref, WL.lenW_tupE, WL.tupW_tupE, WL.listW_tupE, WL.atI_0, WL.atI_1, WL.atI_2, WL.atI_3, WL.atI_4, WL.seqOn_tup, WL.enumOn_tup, List.set, if_true, if_false, Bool.false_eq_true, if_pos, List.length_nil, List.length_cons, Bool.not_true, Bool.not_false]
      refine ⟨⟨by decide, by decide, by decide⟩, ?_⟩
      have r0 := r G2 .refl
      simp only [] at r0
      have e18 : (10 : Int) ^ Int.toNat 18 = 10 ^ 18 := rfl
      rw [e18]
      by_cases hc : (10 : Int) ^ 18 ≤ (if n < 0 then -n else n)
      · rw [decide_eq_true hc] at r0 ⊢
        rw [if_pos rfl] at r0 ⊢
        exact r0
      · rw [decide_eq_false hc] at r0 ⊢
        rw [if_neg Bool.false_ne_true] at r0 ⊢
        exact r0
  · rw [fm]
    have e3 : Ext G (updG G2 D (.lst (((((ns.take 63).filter fun i => decide ((10 : Int) ^ 18 ≤ (if i < 0 then -i else i))).map fun i => (if i < 0 then -i else i))).map W.int))) := e1.trans (e2.trans (.new hD))
    generalize hgs : (((ns.take 63).filter fun i => decide ((10 : Int) ^ 18 ≤ (if i < 0 then -i else i))).map fun i => (if i < 0 then -i else i)) = gs at e3 ⊢
    have g0 : ∀ x ∈ gs, (2 : Int) ≤ x := fun x hx => by
      rw [← hgs] at hx
      obtain ⟨n, hn, rfl⟩ := List.mem_map.mp hx
      have := of_decide_eq_true (List.mem_filter.mp hn).2
      exact Int.le_trans (by decide) this
    have gl : gs.length ≤ 63 := by rw [← hgs, List.length_map]; exact Nat.le_trans (List.length_filter_le _ _) tk
    have dD : updG G2 D (.lst (gs.map W.int)) D = some (.lst (intsW gs)) := updG_same
    refine wLc_Pfm (fun items stable G1 => ∃ p, items = (ns.take 63).map .int ∧ stable = (fun G => G p = some (.lst ((ns.take 63).map .int)) ∨ G p = some (.rol ((ns.take 63).map .int))) ∧ Ext (updG G2 D (.lst (gs.map W.int))) G1 ∧ G1 p = some (.lst ((ns.take 63).map .int))) (fun K hK => items _ (sxt _ e3) _ rfl K hK) ?_
    rintro items2 stable2 G4 ⟨p2, rfl, rfl, e4, ep2⟩
    refine ⟨fun w => match w with | .int i => (if decide ((if i < 0 then -i else i) < (10 : Int) ^ 18) = true then some (.int (i % 1000003)) else none) | _ => none, by rw [List.length_map]; exact Nat.lt_of_le_of_lt tk (by decide), fun G' e => Or.inl (e _ _ ep2), fun i w hw G5 e5 R r => ?_, fun D2 G5 e5 hD2 => ?_⟩
    · rw [List.getElem?_map] at hw
      cases h : (ns.take 63)[i]? with
      | none => rw [h] at hw; cases hw
      | some n =>
        rw [h] at hw; cases hw
        simp only [WL.wSeq, WL.wSet, WL.wAsg, WL.wDrop, WL.wRet, WL.wRetN, WL.wIfS, WL.wBreak, WL.wCont, WL.wNext, WL.wV, WL.wC, WL.wOp, WL.wUn, WL.wNil, WL.wCons, WL.wApp, WL.wTest, WL.wChain, WL.wAndT, WL.wOrT, WL.wNotT, WL.wAnd, WL.wOr, WL.wNot, WL.wIf, WL.wTup, WL.wLst, WL.wCall, WL.wMake, WL.wFld, WL.wPutF, WL.wSl, WL.wPart, WL.wNoPart, WL.wRev, WL.wName, WL.wNames, WL.wSeqI, WL.wZip, WL.wRng3, WL.wRng1, WL.wRng2, WL.wEnum, WL.wLstRg, WL.wTupRg, WL.wR1, WL.wR2, WL.wCallD, WL.MdW, WL.wgSub, WL.one, WL.two, WL.lk, WL.isB_bl, WL.isI_int, WL.cmpI, WL.isNW, WL.notNW, WL.nonW, WL.wYes, WL.wLockE, WL.wLock, WL.wDNew, WL.wSortSet, WL.wNever, WL.addW_int, WL.addW_tup, WL.addW_str, WL.subW_int, WL.mulW_int, WL.modW_int, WL.fdivW_int, WL.powW_int, WL.negW_int, WL.intW_int, WL.intW_bl, WL.absW, WL.CTg.on, WL.wipeW, WL.setsW, WL.optW_some, WL.wDisp, WL.wPairs, WL.eqW_str, WL.neW_str, WL.eqW_int, WL.neW_int, WL.eqW_bl, WL.neW_bl, WL.ixW_tupE, WL.slW_tupE, WL.sortTW_ref, WL.lenW_tupE, WL.tupW_tupE, WL.listW_tupE, WL.atI_0, WL.atI_1, WL.atI_2, WL.atI_3, WL.atI_4, WL.seqOn_tup, WL.enumOn_tup, List.set, if_true, if_false, Bool.false_eq_true, if_pos, List.length_nil, List.length_cons, Bool.not_true, Bool.not_false]
        refine ⟨⟨by decide, by decide, by decide⟩, ?_⟩
        have r0 := r G5 .refl
        simp only [] at r0
        have e18 : (10 : Int) ^ Int.toNat 18 = 10 ^ 18 := rfl
        rw [e18]
        by_cases hc : (if n < 0 then -n else n) < (10 : Int) ^ 18
        · rw [decide_eq_true hc] at r0 ⊢
          rw [if_pos rfl] at r0 ⊢
          exact ⟨by decide, r0⟩
        · rw [decide_eq_false hc] at r0 ⊢
          rw [if_neg Bool.false_ne_true] at r0 ⊢
          exact r0
    · rw [fm]
      refine ⟨by decide, fun p hp => ?_⟩
      have nD2 : D ≠ D2 := fun e => by rw [← e, e5 _ _ (e4 _ _ dD)] at hD2; cases hD2
      have d1 : updG G5 D2 (.lst (((((ns.take 63).filter fun i => decide ((if i < 0 then -i else i) < (10 : Int) ^ 18)).map fun i => i % 1000003)).map W.int)) D = some (.lst (intsW gs)) := by rw [updG_ne nD2]; exact e5 _ _ (e4 _ _ dD)
      have ap : D ≠ p := fun e => by rw [← e, d1] at hp; cases hp
      have bp : D2 ≠ p := fun e => by rw [← e, updG_same] at hp; cases hp
      have e6 : Ext G (updG G5 D2 (.lst (((((ns.take 63).filter fun i => decide ((if i < 0 then -i else i) < (10 : Int) ^ 18)).map fun i => i % 1000003)).map W.int))) := e3.trans (e4.trans (e5.trans (.new hD2)))
      refine q p _ (e6.trans (.new hp)) (none_of_ext e6 hp) ⟨⟨D, D2, gs, _, 0, 0, ⟨updG_same, by rw [updG_ne ap]; exact d1, by rw [updG_ne bp, updG_same]; rfl, ap, bp, g0, fun x hx => ?_, by omega, by omega, gl, by rw [List.length_map]; exact Nat.le_trans (List.length_filter_le _ _) tk⟩, fun h => (by cases h), fun h => (by cases h)⟩, fun r hr => (by cases hr)⟩
      obtain ⟨n, _, rfl⟩ := List.mem_map.mp hx
      exact ⟨Int.emod_nonneg _ (by decide), Int.emod_lt_of_pos _ (by decide)⟩
end K54
set_option Elab.async false
set_option linter.all false
set_option maxRecDepth 100000
set_option maxHeartbeats 1000000
set_option pp.maxSteps 400
namespace K54
open PySem PySem.Spec PyProof.Rows L2 WL PR
/-! ### drawn webs -/
noncomputable def rdsW (rs : List (List Nat)) : W := .tup (rs.map fun l => .tup (l.map nI))
noncomputable def S_law_web_reads : WSp := fun ws G Q => ∃ (ns : List Addr) (p : Addr) (most : Nat), ws = [.ref p, nI most] ∧ PoolAt ns G p ∧ 1 ≤ most ∧ most ≤ 10 ∧ ∀ rs G', ReadsOk rs → rs.length ≤ most → ExtB p G G' → PoolAt ns G' p → Q (rdsW rs) G'
noncomputable def tl_wr1 (T : WTS) : WTS := (wSeq (wSet 6 (wLc (wRng1 (wCons (wV 5) wNil)) (.one 7) (wTest (wOp eqW (wCall S_law_draw (wCons (wV 0) (wCons (wC (.int 3)) wNil))) (wC (.int 0)))) (wV 7) [7])) T)
noncomputable def tl_wr2 (T : WTS) : WTS := (wSeq (wIfS (wAndT (wTest (wOp eqW (wV 3) (wC (.int 1)))) (wTest (wOp gtW (wV 5) (wC (.int 0)))))
 (wSet 6 (wSortSetX (wLst (wCons (wOp subW (wV 5) (wC (.int 1))) (wCons (wCall S_law_draw (wCons (wV 0) (wCons (wV 5) wNil))) wNil)))))
 wNext) T)
noncomputable def tl_wr3 (T : WTS) : WTS := (wSeq (wIfS (wAndT (wTest (wOp eqW (wV 3) (wC (.int 2)))) (wTest (wOp gtW (wV 5) (wC (.int 1)))))
 (wSet 6 (wLst (wCons (wOp subW (wV 5) (wC (.int 2))) (wCons (wOp subW (wV 5) (wC (.int 1))) wNil))))
 wNext) T)
noncomputable def tl_wr4 : WTS := (wDrop (MdW appendW isLs (wV 4) (wCons (wApp (one tupW) (wCons (wV 6) wNil)) wNil)))
/-- a lot below t -/
noncomputable def LotOk (t : Nat) (l : List Nat) : Prop := List.Pairwise (fun a b : Nat => a < b) l ∧ ∀ o ∈ l, o < t
section
variable {ns : List Addr} {p pf : Addr} {G : WHp} {E : WEnds} {T : WTS} {k t : Nat} {w1 w2 w6 w7 : Option W} {l : List Nat} {pl : Addr} {rs : List (List Nat)}
noncomputable def wrE (p pf : Addr) (k t : Nat) (w1 w2 w6 w7 : Option W) : WEnv := [some (.ref p), w1, w2, some (nI k), some (.ref pf), some (nI t), w6, w7]
theorem wr1 (h : PoolAt ns G p) (ht : t ≤ 10) (q : ∀ pl l G', G pl = none → G' pl = some (.lst (l.map nI)) → LotOk t l → ExtB p G G' → PoolAt ns G' p → T E (wrE p pf k t w1 w2 (some (.ref pl)) w7) G') : tl_wr1 T E (wrE p pf k t w1 w2 w6 w7) G := by
  unfold tl_wr1
  refine seq_set ?_
  refine wLc_of (G1 := G) (items := rngW 0 t) (stable := fun _ => True) (fun K hK => ?_) (fun i acc G' => ∃ l : List Nat, acc = l.map nI ∧ LotOk i l ∧ l.length ≤ i ∧ ExtB p G G' ∧ PoolAt ns G' p)
    ⟨[], rfl, ⟨List.Pairwise.nil, fun o h => by cases h⟩, Nat.le_refl _, .refl, h⟩ (fun i acc G' hi ⟨l, e, _, hl, _⟩ => ⟨trivial, by rw [rngW_length] at hi; rw [e, List.length_map]; exact Nat.lt_of_le_of_lt (show _ ≤ 10 by omega) (by decide)⟩) ?_ ?_
  · unfold wrE nI
    simp only [WL.wSeq, WL.wSet, WL.wAsg, WL.wDrop, WL.wRet, WL.wRetN, WL.wIfS, WL.wBreak, WL.wCont, WL.wNext, WL.wV, WL.wC, WL.wOp, WL.wUn, WL.wNil, WL.wCons, WL.wApp, WL.wTest, WL.wChain, WL.wAndT, WL.wOrT, WL.wNotT, WL.wAnd, WL.wOr, WL.wNot, WL.wIf, WL.wTup, WL.wLst, WL.wCall, WL.wMake, WL.wFld, WL.wPutF, WL.wSl, WL.wPart, WL.wNoPart, WL.wRev, WL.wName, WL.wNames, WL.wSeqI, WL.wZip, WL.wRng3, WL.wRng1, WL.wRng2, WL.wEnum, WL.wLstRg, WL.wTupRg, WL.wR1, WL.wR2, WL.wCallD, WL.MdW, WL.wgSub, WL.one, WL.two, WL.lk, WL.isB_bl, WL.isI_int, WL.cmpI, WL.isNW, WL.notNW, WL.nonW, WL.wYes, WL.wLockE, WL.wLock, WL.wDNew, WL.wSortSet, WL.wNever, WL.addW_int, WL.addW_tup, WL.addW_str, WL.subW_int, WL.mulW_int, WL.modW_int, WL.fdivW_int, WL.powW_int, WL.negW_int, WL.intW_int, WL.intW_bl, WL.absW, WL.CTg.on, WL.wipeW, WL.setsW, WL.optW_some, WL.wDisp, WL.wPairs, WL.eqW_str, WL.neW_str, WL.eqW_int, WL.neW_int, WL.eqW_bl, WL.neW_bl, WL.ixW_tupE, WL.slW_tupE, WL.sortTW_ref, WL.lenW_tupE, WL.tupW_tupE, WL.listW_tupE, WL.atI_0, WL.atI_1, WL.atI_2, WL.atI_3, WL.atI_4, WL.seqOn_tup, WL.enumOn_tup, List.set, if_true, if_false, Bool.false_eq_true, if_pos, List.length_nil, List.length_cons, Bool.not_true, Bool.not_false]
    exact ⟨by omega, by omega, hK⟩
  · rintro i w acc G' hw ⟨l, rfl, lo, hl, e1, h1⟩
    have hi : i < t := by
      have := (List.getElem?_eq_some_iff.mp hw).1
      rw [rngW_length] at this; exact this
    have ew : w = nI i := by
      have := rngW_get (lo := 0) hi
      rw [this] at hw
      have := Option.some.inj hw
      rw [← this]; unfold nI; rw [Int.zero_add]
    subst ew
    unfold wrE
    simp only [WL.wSeq, WL.wSet, WL.wAsg, WL.wDrop, WL.wRet, WL.wRetN, WL.wIfS, WL.wBreak, WL.wCont, WL.wNext, WL.wV, WL.wC, WL.wOp, WL.wUn, WL.wNil, WL.wCons, WL.wApp, WL.wTest, WL.wChain, WL.wAndT, WL.wOrT, WL.wNotT, WL.wAnd, WL.wOr, WL.wNot, WL.wIf, WL.wTup, WL.wLst, WL.wCall, WL.wMake, WL.wFld, WL.wPutF, WL.wSl, WL.wPart, WL.wNoPart, WL.wRev, WL.wName, WL.wNames, WL.wSeqI, WL.wZip, WL.wRng3, WL.wRng1, WL.wRng2, WL.wEnum, WL.wLstRg, WL.wTupRg, WL.wR1, WL.wR2, WL.wCallD, WL.MdW, WL.wgSub, WL.one, WL.two, WL.lk, WL.isB_bl, WL.isI_int, WL.cmpI, WL.isNW, WL.notNW, WL.nonW, WL.wYes, WL.wLockE, WL.wLock, WL.wDNew, WL.wSortSet, WL.wNever, WL.addW_int, WL.addW_tup, WL.addW_str, WL.subW_int, WL.mulW_int, WL.modW_int, WL.fdivW_int, WL.powW_int, WL.negW_int, WL.intW_int, WL.intW_bl, WL.absW, WL.CTg.on, WL.wipeW, WL.setsW, WL.optW_some, WL.wDisp, WL.wPairs, WL.eqW_str, WL.neW_str, WL.eqW_int, WL.neW_int, WL.eqW_bl, WL.neW_bl, WL.ixW_tupE, WL.slW_tupE, WL.sortTW_ref, WL.lenW_tupE, WL.tupW_tupE, WL.listW_tupE, WL.atI_0, WL.atI_1, WL.atI_2, WL.atI_3, WL.atI_4, WL.seqOn_tup, WL.enumOn_tup, List.set, if_true, if_false, Bool.false_eq_true, if_pos, List.length_nil, List.length_cons, Bool.not_true, Bool.not_false]
    refine ⟨ns, p, 3, rfl, by omega, by omega, h1, fun d G2 hd e2 h2 => ?_⟩
    unfold nI
    simp only [WL.wSeq, WL.wSet, WL.wAsg, WL.wDrop, WL.wRet, WL.wRetN, WL.wIfS, WL.wBreak, WL.wCont, WL.wNext, WL.wV, WL.wC, WL.wOp, WL.wUn, WL.wNil, WL.wCons, WL.wApp, WL.wTest, WL.wChain, WL.wAndT, WL.wOrT, WL.wNotT, WL.wAnd, WL.wOr, WL.wNot, WL.wIf, WL.wTup, WL.wLst, WL.wCall, WL.wMake, WL.wFld, WL.wPutF, WL.wSl, WL.wPart, WL.wNoPart, WL.wRev, WL.wName, WL.wNames, WL.wSeqI, WL.wZip, WL.wRng3, WL.wRng1, WL.wRng2, WL.wEnum, WL.wLstRg, WL.wTupRg, WL.wR1, WL.wR2, WL.wCallD, WL.MdW, WL.wgSub, WL.one, WL.two, WL.lk, WL.isB_bl, WL.isI_int, WL.cmpI, WL.isNW, WL.notNW, WL.nonW, WL.wYes, WL.wLockE, WL.wLock, WL.wDNew, WL.wSortSet, WL.wNever, WL.addW_int, WL.addW_tup, WL.addW_str, WL.subW_int, WL.mulW_int, WL.modW_int, WL.fdivW_int, WL.powW_int, WL.negW_int, WL.intW_int, WL.intW_bl, WL.absW, WL.CTg.on, WL.wipeW, WL.setsW, WL.optW_some, WL.wDisp, WL.wPairs, WL.eqW_str, WL.neW_str, WL.eqW_int, WL.neW_int, WL.eqW_bl, WL.neW_bl, WL.ixW_tupE, WL.slW_tupE, WL.sortTW_ref, WL.lenW_tupE, WL.tupW_tupE, WL.listW_tupE, WL.atI_0, WL.atI_1, WL.atI_2, WL.atI_3, WL.atI_4, WL.seqOn_tup, WL.enumOn_tup, List.set, if_true, if_false, Bool.false_eq_true, if_pos, List.length_nil, List.length_cons, Bool.not_true, Bool.not_false]
    by_cases hd0 : d = 0
    · subst hd0
      rw [if_pos (by simp)]
      refine ⟨l ++ [i], by rw [List.map_append]; rfl, ⟨?_, ?_⟩, by rw [List.length_append]; exact Nat.succ_le_succ hl, e1.trans e2, h2⟩
      · refine List.pairwise_append.mpr ⟨lo.1, List.pairwise_singleton _ _, fun a ha b hb => ?_⟩
        rw [List.mem_singleton.mp hb]; exact lo.2 a ha
      · intro o ho
        rcases List.mem_append.mp ho with ho | ho
        · have := lo.2 o ho; omega
        · rw [List.mem_singleton.mp ho]; omega
    · rw [if_neg (by simp; omega)]
      exact ⟨l, rfl, ⟨lo.1, fun o ho => by have := lo.2 o ho; omega⟩, by omega, e1.trans e2, h2⟩
  · rintro acc G' ⟨l, rfl, lo, hl, e1, h1⟩ D hD
    rw [rngW_length] at lo
    have np := h1.np hD
    refine q D l _ ?_ updG_same lo (e1.trans (Ext.b (.new hD))) (h1.ext (.new hD))
    cases e : G D with
    | none => rfl
    | some u => rw [e1 D u np e] at hD; cases hD
theorem wr2 (h : PoolAt ns G p) (ht : t ≤ 10) (hp : G pl = some (.lst (l.map nI))) (lo : LotOk t l) (q : ∀ pl l G', G' pl = some (.lst (l.map nI)) → LotOk t l → ExtB p G G' → PoolAt ns G' p → T E (wrE p pf k t w1 w2 (some (.ref pl)) w7) G') : tl_wr2 T E (wrE p pf k t w1 w2 (some (.ref pl)) w7) G := by
  have q0 := q pl l G hp lo .refl h
  unfold tl_wr2
  unfold wrE nI at q q0 ⊢
  unfold nI at hp
  simp only [WL.wSeq, WL.wSet, WL.wAsg, WL.wDrop, WL.wRet, WL.wRetN, WL.wIfS, WL.wBreak, WL.wCont, WL.wNext, WL.wV, WL.wC, WL.wOp, WL.wUn, WL.wNil, WL.wCons, WL.wApp, WL.wTest, WL.wChain, WL.wAndT, WL.wOrT, WL.wNotT, WL.wAnd, WL.wOr, WL.wNot, WL.wIf, WL.wTup, WL.wLst, WL.wCall, WL.wMake, WL.wFld, WL.wPutF, WL.wSl, WL.wPart, WL.wNoPart, WL.wRev, WL.wName, WL.wNames, WL.wSeqI, WL.wZip, WL.wRng3, WL.wRng1, WL.wRng2, WL.wEnum, WL.wLstRg, WL.wTupRg, WL.wR1, WL.wR2, WL.wCallD, WL.MdW, WL.wgSub, WL.one, WL.two, WL.lk, WL.isB_bl, WL.isI_int, WL.cmpI, WL.isNW, WL.notNW, WL.nonW, WL.wYes, WL.wLockE, WL.wLock, WL.wDNew, WL.wSortSet, WL.wNever, WL.addW_int, WL.addW_tup, WL.addW_str, WL.subW_int, WL.mulW_int, WL.modW_int, WL.fdivW_int, WL.powW_int, WL.negW_int, WL.intW_int, WL.intW_bl, WL.absW, WL.CTg.on, WL.wipeW, WL.setsW, WL.optW_some, WL.wDisp, WL.wPairs, WL.eqW_str, WL.neW_str, WL.eqW_int, WL.neW_int, WL.eqW_bl, WL.neW_bl, WL.ixW_tupE, WL.slW_tupE, WL.sortTW_ref, WL.lenW_tupE, WL.tupW_tupE, WL.listW_tupE, WL.atI_0, WL.atI_1, WL.atI_2, WL.atI_3, WL.atI_4, WL.seqOn_tup, WL.enumOn_tup, List.set, if_true, if_false, Bool.false_eq_true, if_pos, List.length_nil, List.length_cons, Bool.not_true, Bool.not_false]
  by_cases hk : k = 1
  · rw [decide_eq_true (show (k : Int) = 1 by omega)]
    simp only [WL.wSeq, WL.wSet, WL.wAsg, WL.wDrop, WL.wRet, WL.wRetN, WL.wIfS, WL.wBreak, WL.wCont, WL.wNext, WL.wV, WL.wC, WL.wOp, WL.wUn, WL.wNil, WL.wCons, WL.wApp, WL.wTest, WL.wChain, WL.wAndT, WL.wOrT, WL.wNotT, WL.wAnd, WL.wOr, WL.wNot, WL.wIf, WL.wTup, WL.wLst, WL.wCall, WL.wMake, WL.wFld, WL.wPutF, WL.wSl, WL.wPart, WL.wNoPart, WL.wRev, WL.wName, WL.wNames, WL.wSeqI, WL.wZip, WL.wRng3, WL.wRng1, WL.wRng2, WL.wEnum, WL.wLstRg, WL.wTupRg, WL.wR1, WL.wR2, WL.wCallD, WL.MdW, WL.wgSub, WL.one, WL.two, WL.lk, WL.isB_bl, WL.isI_int, WL.cmpI, WL.isNW, WL.notNW, WL.nonW, WL.wYes, WL.wLockE, WL.wLock, WL.wDNew, WL.wSortSet, WL.wNever, WL.addW_int, WL.addW_tup, WL.addW_str, WL.subW_int, WL.mulW_int, WL.modW_int, WL.fdivW_int, WL.powW_int, WL.negW_int, WL.intW_int, WL.intW_bl, WL.absW, WL.CTg.on, WL.wipeW, WL.setsW, WL.optW_some, WL.wDisp, WL.wPairs, WL.eqW_str, WL.neW_str, WL.eqW_int, WL.neW_int, WL.eqW_bl, WL.neW_bl, WL.ixW_tupE, WL.slW_tupE, WL.sortTW_ref, WL.lenW_tupE, WL.tupW_tupE, WL.listW_tupE, WL.atI_0, WL.atI_1, WL.atI_2, WL.atI_3, WL.atI_4, WL.seqOn_tup, WL.enumOn_tup, List.set, if_true, if_false, Bool.false_eq_true, if_pos, List.length_nil, List.length_cons, Bool.not_true, Bool.not_false]
    by_cases h0 : 0 < t
    · rw [decide_eq_true (show (t : Int) > 0 by omega)]
      simp only [WL.wSeq, WL.wSet, WL.wAsg, WL.wDrop, WL.wRet, WL.wRetN, WL.wIfS, WL.wBreak, WL.wCont, WL.wNext, WL.wV, WL.wC, WL.wOp, WL.wUn, WL.wNil, WL.wCons, WL.wApp, WL.wTest, WL.wChain, WL.wAndT, WL.wOrT, WL.wNotT, WL.wAnd, WL.wOr, WL.wNot, WL.wIf, WL.wTup, WL.wLst, WL.wCall, WL.wMake, WL.wFld, WL.wPutF, WL.wSl, WL.wPart, WL.wNoPart, WL.wRev, WL.wName, WL.wNames, WL.wSeqI, WL.wZip, WL.wRng3, WL.wRng1, WL.wRng2, WL.wEnum, WL.wLstRg, WL.wTupRg, WL.wR1, WL.wR2, WL.wCallD, WL.MdW, WL.wgSub, WL.one, WL.two, WL.lk, WL.isB_bl, WL.isI_int, WL.cmpI, WL.isNW, WL.notNW, WL.nonW, WL.wYes, WL.wLockE, WL.wLock, WL.wDNew, WL.wSortSet, WL.wNever, WL.addW_int, WL.addW_tup, WL.addW_str, WL.subW_int, WL.mulW_int, WL.modW_int, WL.fdivW_int, WL.powW_int, WL.negW_int, WL.intW_int, WL.intW_bl, WL.absW, WL.CTg.on, WL.wipeW, WL.setsW, WL.optW_some, WL.wDisp, WL.wPairs, WL.eqW_str, WL.neW_str, WL.eqW_int, WL.neW_int, WL.eqW_bl, WL.neW_bl, WL.ixW_tupE, WL.slW_tupE, WL.sortTW_ref, WL.lenW_tupE, WL.tupW_tupE, WL.listW_tupE, WL.atI_0, WL.atI_1, WL.atI_2, WL.atI_3, WL.atI_4, WL.seqOn_tup, WL.enumOn_tup, List.set, if_true, if_false, Bool.false_eq_true, if_pos, List.length_nil, List.length_cons, Bool.not_true, Bool.not_false]
      show wSortSetX _ _ _ _
      unfold wSortSetX
      simp only [WL.wSeq, WL.wSet, WL.wAsg, WL.wDrop, WL.wRet, WL.wRetN, WL.wIfS, WL.wBreak, WL.wCont, WL.wNext, WL.wV, WL.wC, WL.wOp, WL.wUn, WL.wNil, WL.wCons, WL.wApp, WL.wTest, WL.wChain, WL.wAndT, WL.wOrT, WL.wNotT, WL.wAnd, WL.wOr, WL.wNot, WL.wIf, WL.wTup, WL.wLst, WL.wCall, WL.wMake, WL.wFld, WL.wPutF, WL.wSl, WL.wPart, WL.wNoPart, WL.wRev, WL.wName, WL.wNames, WL.wSeqI, WL.wZip, WL.wRng3, WL.wRng1, WL.wRng2, WL.wEnum, WL.wLstRg, WL.wTupRg, WL.wR1, WL.wR2, WL.wCallD, WL.MdW, WL.wgSub, WL.one, WL.two, WL.lk, WL.isB_bl, WL.isI_int, WL.cmpI, WL.isNW, WL.notNW, WL.nonW, WL.wYes, WL.wLockE, WL.wLock, WL.wDNew, WL.wSortSet, WL.wNever, WL.addW_int, WL.addW_tup, WL.addW_str, WL.subW_int, WL.mulW_int, WL.modW_int, WL.fdivW_int, WL.powW_int, WL.negW_int, WL.intW_int, WL.intW_bl, WL.absW, WL.CTg.on, WL.wipeW, WL.setsW, WL.optW_some, WL.wDisp, WL.wPairs, WL.eqW_str, WL.neW_str, WL.eqW_int, WL.neW_int, WL.eqW_bl, WL.neW_bl, WL.ixW_tupE, WL.slW_tupE, WL.sortTW_ref, WL.lenW_tupE, WL.tupW_tupE, WL.listW_tupE, WL.atI_0, WL.atI_1, WL.atI_2, WL.atI_3, WL.atI_4, WL.seqOn_tup, WL.enumOn_tup, List.set, if_true, if_false, Bool.false_eq_true, if_pos, List.length_nil, List.length_cons, Bool.not_true, Bool.not_false]
      refine ⟨ns, p, t, rfl, h0, by omega, h, fun d G2 hd e2 h2 => ⟨by decide, fun p2 hp2 => ?_⟩⟩
      have np := h2.np hp2
      refine sortSet_lst (ns := [(t : Int) - 1, (d : Int)]) (B := [(t : Int) - 1, (d : Int)]) updG_same (by show 2 ≤ 4000; decide) (fun k hk => hk) (by show 2 < 64; decide) fun ms p3 hms hmem hp3 => ?_
      obtain ⟨ns, rfl⟩ : ∃ ns : List Nat, ms = ns.map fun (n : Nat) => (n : Int) := by
        refine ⟨ms.map Int.toNat, ?_⟩
        rw [List.map_map]
        refine (List.map_id ms).symm.trans (List.map_congr_left fun x hx => ?_)
        have := (hmem x).mp hx
        simp only [List.mem_cons, List.not_mem_nil, or_false] at this
        show x = ((x.toNat : Nat) : Int)
        omega
      have lo' : LotOk t ns := by
        refine ⟨?_, fun o ho => ?_⟩
        · have := List.pairwise_map.mp hms
          exact this.imp fun h => by omega
        · have := (hmem (o : Int)).mp (List.mem_map_of_mem ho)
          simp only [List.mem_cons, List.not_mem_nil, or_false] at this
          omega
      have e3 : Ext G2 (updG (updG G2 p2 (.lst [.int ((t : Int) - 1), .int (d : Int)])) p3 (.lst ((ns.map fun (n : Nat) => (n : Int)).map W.int))) := Ext.trans (.new hp2) (.new hp3)
      refine q p3 ns _ ?_ lo' (e2.trans (Ext.b e3)) (h2.ext e3)
      rw [updG_same, List.map_map]; rfl
    · rw [decide_eq_false (show ¬ (t : Int) > 0 by omega)]
      simp only [WL.wSeq, WL.wSet, WL.wAsg, WL.wDrop, WL.wRet, WL.wRetN, WL.wIfS, WL.wBreak, WL.wCont, WL.wNext, WL.wV, WL.wC, WL.wOp, WL.wUn, WL.wNil, WL.wCons, WL.wApp, WL.wTest, WL.wChain, WL.wAndT, WL.wOrT, WL.wNotT, WL.wAnd, WL.wOr, WL.wNot, WL.wIf, WL.wTup, WL.wLst, WL.wCall, WL.wMake, WL.wFld, WL.wPutF, WL.wSl, WL.wPart, WL.wNoPart, WL.wRev, WL.wName, WL.wNames, WL.wSeqI, WL.wZip, WL.wRng3, WL.wRng1, WL.wRng2, WL.wEnum, WL.wLstRg, WL.wTupRg, WL.wR1, WL.wR2, WL.wCallD, WL.MdW, WL.wgSub, WL.one, WL.two, WL.lk, WL.isB_bl, WL.isI_int, WL.cmpI, WL.isNW, WL.notNW, WL.nonW, WL.wYes, WL.wLockE, WL.wLock, WL.wDNew, WL.wSortSet, WL.wNever, WL.addW_int, WL.addW_tup, WL.addW_str, WL.subW_int, WL.mulW_int, WL.modW_int, WL.fdivW_int, WL.powW_int, WL.negW_int, WL.intW_int, WL.intW_bl, WL.absW, WL.CTg.on, WL.wipeW, WL.setsW, WL.optW_some, WL.wDisp, WL.wPairs, WL.eqW_str, WL.neW_str, WL.eqW_int, WL.neW_int, WL.eqW_bl, WL.neW_bl, WL.ixW_tupE, WL.slW_tupE, WL.sortTW_ref, WL.lenW_tupE, WL.tupW_tupE, WL.listW_tupE, WL.atI_0, WL.atI_1, WL.atI_2, WL.atI_3, WL.atI_4, WL.seqOn_tup, WL.enumOn_tup, List.set, if_true, if_false, Bool.false_eq_true, if_pos, List.length_nil, List.length_cons, Bool.not_true, Bool.not_false]
      exact q0
  · rw [decide_eq_false (show ¬ (k : Int) = 1 by omega)]
    simp only [WL.wSeq, WL.wSet, WL.wAsg, WL.wDrop, WL.wRet, WL.wRetN, WL.wIfS, WL.wBreak, WL.wCont, WL.wNext, WL.wV, WL.wC, WL.wOp, WL.wUn, WL.wNil, WL.wCons, WL.wApp, WL.wTest, WL.wChain, WL.wAndT, WL.wOrT, WL.wNotT, WL.wAnd, WL.wOr, WL.wNot, WL.wIf, WL.wTup, WL.wLst, WL.wCall, WL.wMake, WL.wFld, WL.wPutF, WL.wSl, WL.wPart, WL.wNoPart, WL.wRev, WL.wName, WL.wNames, WL.wSeqI, WL.wZip, WL.wRng3, WL.wRng1, WL.wRng2, WL.wEnum, WL.wLstRg, WL.wTupRg, WL.wR1, WL.wR2, WL.wCallD, WL.MdW, WL.wgSub, WL.one, WL.two, WL.lk, WL.isB_bl, WL.isI_int, WL.cmpI, WL.isNW, WL.notNW, WL.nonW, WL.wYes, WL.wLockE, WL.wLock, WL.wDNew, WL.wSortSet, WL.wNever, WL.addW_int, WL.addW_tup, WL.addW_str, WL.subW_int, WL.mulW_int, WL.modW_int, WL.fdivW_int, WL.powW_int, WL.negW_int, WL.intW_int, WL.intW_bl, WL.absW, WL.CTg.on, WL.wipeW, WL.setsW, WL.optW_some, WL.wDisp, WL.wPairs, WL.eqW_str, WL.neW_str, WL.eqW_int, WL.neW_int, WL.eqW_bl, WL.neW_bl, WL.ixW_tupE, WL.slW_tupE, WL.sortTW_ref, WL.lenW_tupE, WL.tupW_tupE, WL.listW_tupE, WL.atI_0, WL.atI_1, WL.atI_2, WL.atI_3, WL.atI_4, WL.seqOn_tup, WL.enumOn_tup, List.set, if_true, if_false, Bool.false_eq_true, if_pos, List.length_nil, List.length_cons, Bool.not_true, Bool.not_false]
    exact q0
theorem wr3 (h : PoolAt ns G p) (ht : t ≤ 10) (hp : G pl = some (.lst (l.map nI))) (lo : LotOk t l) (q : ∀ pl l G', G' pl = some (.lst (l.map nI)) → LotOk t l → Ext G G' → T E (wrE p pf k t w1 w2 (some (.ref pl)) w7) G') : tl_wr3 T E (wrE p pf k t w1 w2 (some (.ref pl)) w7) G := by
  have q0 := q pl l G hp lo .refl
  unfold tl_wr3
  unfold wrE nI at q q0 ⊢
  simp only [WL.wSeq, WL.wSet, WL.wAsg, WL.wDrop, WL.wRet, WL.wRetN, WL.wIfS, WL.wBreak, WL.wCont, WL.wNext, WL.wV, WL.wC, WL.wOp, WL.wUn, WL.wNil, WL.wCons, WL.wApp, WL.wTest, WL.wChain, WL.wAndT, WL.wOrT, WL.wNotT, WL.wAnd, WL.wOr, WL.wNot, WL.wIf, WL.wTup, WL.wLst, WL.wCall, WL.wMake, WL.wFld, WL.wPutF, WL.wSl, WL.wPart, WL.wNoPart, WL.wRev, WL.wName, WL.wNames, WL.wSeqI, WL.wZip, WL.wRng3, WL.wRng1, WL.wRng2, WL.wEnum, WL.wLstRg, WL.wTupRg, WL.wR1, WL.wR2, WL.wCallD, WL.MdW, WL.wgSub, WL.one, WL.two, WL.lk, WL.isB_bl, WL.isI_int, WL.cmpI, WL.isNW, WL.notNW, WL.nonW, WL.wYes, WL.wLockE, WL.wLock, WL.wDNew, WL.wSortSet, WL.wNever, WL.addW_int, WL.addW_tup, WL.addW_str, WL.subW_int, WL.mulW_int, WL.modW_int, WL.fdivW_int, WL.powW_int, WL.negW_int, WL.intW_int, WL.intW_bl, WL.absW, WL.CTg.on, WL.wipeW, WL.setsW, WL.optW_some, WL.wDisp, WL.wPairs, WL.eqW_str, WL.neW_str, WL.eqW_int, WL.neW_int, WL.eqW_bl, WL.neW_bl, WL.ixW_tupE, WL.slW_tupE, WL.sortTW_ref, WL.lenW_tupE, WL.tupW_tupE, WL.listW_tupE, WL.atI_0, WL.atI_1, WL.atI_2, WL.atI_3, WL.atI_4, WL.seqOn_tup, WL.enumOn_tup, List.set, if_true, if_false, Bool.false_eq_true, if_pos, List.length_nil, List.length_cons, Bool.not_true, Bool.not_false]
  by_cases hk : k = 2
  · rw [decide_eq_true (show (k : Int) = 2 by omega)]
    simp only [WL.wSeq, WL.wSet, WL.wAsg, WL.wDrop, WL.wRet, WL.wRetN, WL.wIfS, WL.wBreak, WL.wCont, WL.wNext, WL.wV, WL.wC, WL.wOp, WL.wUn, WL.wNil, WL.wCons, WL.wApp, WL.wTest, WL.wChain, WL.wAndT, WL.wOrT, WL.wNotT, WL.wAnd, WL.wOr, WL.wNot, WL.wIf, WL.wTup, WL.wLst, WL.wCall, WL.wMake, WL.wFld, WL.wPutF, WL.wSl, WL.wPart, WL.wNoPart, WL.wRev, WL.wName, WL.wNames, WL.wSeqI, WL.wZip, WL.wRng3, WL.wRng1, WL.wRng2, WL.wEnum, WL.wLstRg, WL.wTupRg, WL.wR1, WL.wR2, WL.wCallD, WL.MdW, WL.wgSub, WL.one, WL.two, WL.lk, WL.isB_bl, WL.isI_int, WL.cmpI, WL.isNW, WL.notNW, WL.nonW, WL.wYes, WL.wLockE, WL.wLock, WL.wDNew, WL.wSortSet, WL.wNever, WL.addW_int, WL.addW_tup, WL.addW_str, WL.subW_int, WL.mulW_int, WL.modW_int, WL.fdivW_int, WL.powW_int, WL.negW_int, WL.intW_int, WL.intW_bl, WL.absW, WL.CTg.on, WL.wipeW, WL.setsW, WL.optW_some, WL.wDisp, WL.wPairs, WL.eqW_str, WL.neW_str, WL.eqW_int, WL.neW_int, WL.eqW_bl, WL.neW_bl, WL.ixW_tupE, WL.slW_tupE, WL.sortTW_ref, WL.lenW_tupE, WL.tupW_tupE, WL.listW_tupE, WL.atI_0, WL.atI_1, WL.atI_2, WL.atI_3, WL.atI_4, WL.seqOn_tup, WL.enumOn_tup, List.set, if_true, if_false, Bool.false_eq_true, if_pos, List.length_nil, List.length_cons, Bool.not_true, Bool.not_false]
    by_cases h0 : 1 < t
    · rw [decide_eq_true (show (t : Int) > 1 by omega)]
      simp only [WL.wSeq, WL.wSet, WL.wAsg, WL.wDrop, WL.wRet, WL.wRetN, WL.wIfS, WL.wBreak, WL.wCont, WL.wNext, WL.wV, WL.wC, WL.wOp, WL.wUn, WL.wNil, WL.wCons, WL.wApp, WL.wTest, WL.wChain, WL.wAndT, WL.wOrT, WL.wNotT, WL.wAnd, WL.wOr, WL.wNot, WL.wIf, WL.wTup, WL.wLst, WL.wCall, WL.wMake, WL.wFld, WL.wPutF, WL.wSl, WL.wPart, WL.wNoPart, WL.wRev, WL.wName, WL.wNames, WL.wSeqI, WL.wZip, WL.wRng3, WL.wRng1, WL.wRng2, WL.wEnum, WL.wLstRg, WL.wTupRg, WL.wR1, WL.wR2, WL.wCallD, WL.MdW, WL.wgSub, WL.one, WL.two, WL.lk, WL.isB_bl, WL.isI_int, WL.cmpI, WL.isNW, WL.notNW, WL.nonW, WL.wYes, WL.wLockE, WL.wLock, WL.wDNew, WL.wSortSet, WL.wNever, WL.addW_int, WL.addW_tup, WL.addW_str, WL.subW_int, WL.mulW_int, WL.modW_int, WL.fdivW_int, WL.powW_int, WL.negW_int, WL.intW_int, WL.intW_bl, WL.absW, WL.CTg.on, WL.wipeW, WL.setsW, WL.optW_some, WL.wDisp, WL.wPairs, WL.eqW_str, WL.neW_str, WL.eqW_int, WL.neW_int, WL.eqW_bl, WL.neW_bl, WL.ixW_tupE, WL.slW_tupE, WL.sortTW_ref, WL.lenW_tupE, WL.tupW_tupE, WL.listW_tupE, WL.atI_0, WL.atI_1, WL.atI_2, WL.atI_3, WL.atI_4, WL.seqOn_tup, WL.enumOn_tup, List.set, if_true, if_false, Bool.false_eq_true, if_pos, List.length_nil, List.length_cons, Bool.not_true, Bool.not_false]
      refine ⟨by decide, fun p2 hp2 => ?_⟩
      refine q p2 [t - 2, t - 1] _ ?_ ⟨?_, fun o ho => ?_⟩ (.new hp2)
      · rw [updG_same]
        show some (WO.lst [W.int ((t : Int) - 2), W.int ((t : Int) - 1)]) = some (WO.lst [W.int ((t - 2 : Nat) : Int), W.int ((t - 1 : Nat) : Int)])
        rw [show ((t - 2 : Nat) : Int) = (t : Int) - 2 by omega, show ((t - 1 : Nat) : Int) = (t : Int) - 1 by omega]
      · simp; omega
      · simp only [List.mem_cons, List.not_mem_nil, or_false] at ho; omega
    · rw [decide_eq_false (show ¬ (t : Int) > 1 by omega)]
      simp only [WL.wSeq, WL.wSet, WL.wAsg, WL.wDrop, WL.wRet, WL.wRetN, WL.wIfS, WL.wBreak, WL.wCont, WL.wNext, WL.wV, WL.wC, WL.wOp, WL.wUn, WL.wNil, WL.wCons, WL.wApp, WL.wTest, WL.wChain, WL.wAndT, WL.wOrT, WL.wNotT, WL.wAnd, WL.wOr, WL.wNot, WL.wIf, WL.wTup, WL.wLst, WL.wCall, WL.wMake, WL.wFld, WL.wPutF, WL.wSl, WL.wPart, WL.wNoPart, WL.wRev, WL.wName, WL.wNames, WL.wSeqI, WL.wZip, WL.wRng3, WL.wRng1, WL.wRng2, WL.wEnum, WL.wLstRg, WL.wTupRg, WL.wR1, WL.wR2, WL.wCallD, WL.MdW, WL.wgSub, WL.one, WL.two, WL.lk, WL.isB_bl, WL.isI_int, WL.cmpI, WL.isNW, WL.notNW, WL.nonW, WL.wYes, WL.wLockE, WL.wLock, WL.wDNew, WL.wSortSet, WL.wNever, WL.addW_int, WL.addW_tup, WL.addW_str, WL.subW_int, WL.mulW_int, WL.modW_int, WL.fdivW_int, WL.powW_int, WL.negW_int, WL.intW_int, WL.intW_bl, WL.absW, WL.CTg.on, WL.wipeW, WL.setsW, WL.optW_some, WL.wDisp, WL.wPairs, WL.eqW_str, WL.neW_str, WL.eqW_int, WL.neW_int, WL.eqW_bl, WL.neW_bl, WL.ixW_tupE, WL.slW_tupE, WL.sortTW_ref, WL.lenW_tupE, WL.tupW_tupE, WL.listW_tupE, WL.atI_0, WL.atI_1, WL.atI_2, WL.atI_3, WL.atI_4, WL.seqOn_tup, WL.enumOn_tup, List.set, if_true, if_false, Bool.false_eq_true, if_pos, List.length_nil, List.length_cons, Bool.not_true, Bool.not_false]
      exact q0
  · rw [decide_eq_false (show ¬ (k : Int) = 2 by omega)]
    simp only [WL.wSeq, WL.wSet, WL.wAsg, WL.wDrop, WL.wRet, WL.wRetN, WL.wIfS, WL.wBreak, WL.wCont, WL.wNext, WL.wV, WL.wC, WL.wOp, WL.wUn, WL.wNil, WL.wCons, WL.wApp, WL.wTest, WL.wChain, WL.wAndT, WL.wOrT, WL.wNotT, WL.wAnd, WL.wOr, WL.wNot, WL.wIf, WL.wTup, WL.wLst, WL.wCall, WL.wMake, WL.wFld, WL.wPutF, WL.wSl, WL.wPart, WL.wNoPart, WL.wRev, WL.wName, WL.wNames, WL.wSeqI, WL.wZip, WL.wRng3, WL.wRng1, WL.wRng2, WL.wEnum, WL.wLstRg, WL.wTupRg, WL.wR1, WL.wR2, WL.wCallD, WL.MdW, WL.wgSub, WL.one, WL.two, WL.lk, WL.isB_bl, WL.isI_int, WL.cmpI, WL.isNW, WL.notNW, WL.nonW, WL.wYes, WL.wLockE, WL.wLock, WL.wDNew, WL.wSortSet, WL.wNever, WL.addW_int, WL.addW_tup, WL.addW_str, WL.subW_int, WL.mulW_int, WL.modW_int, WL.fdivW_int, WL.powW_int, WL.negW_int, WL.intW_int, WL.intW_bl, WL.absW, WL.CTg.on, WL.wipeW, WL.setsW, WL.optW_some, WL.wDisp, WL.wPairs, WL.eqW_str, WL.neW_str, WL.eqW_int, WL.neW_int, WL.eqW_bl, WL.neW_bl, WL.ixW_tupE, WL.slW_tupE, WL.sortTW_ref, WL.lenW_tupE, WL.tupW_tupE, WL.listW_tupE, WL.atI_0, WL.atI_1, WL.atI_2, WL.atI_3, WL.atI_4, WL.seqOn_tup, WL.enumOn_tup, List.set, if_true, if_false, Bool.false_eq_true, if_pos, List.length_nil, List.length_cons, Bool.not_true, Bool.not_false]
    exact q0
end
theorem v_law_web_reads : ∀ ws G Q, S_law_web_reads ws G Q → rd_law_web_reads S_law_draw { nx := fun _ G' => Q .non G', rt := Q } (startW ["_law_pool_here", "_law_most", "_law_many", "_law_kind", "_law_found", "_law_thing", "_law_lot", "_law_other"] ws) G := by
  rintro ws G Q ⟨ns, p, most, rfl, h, hm1, hm, q⟩
  show (wSeq (wSet 2 (wOp addW (wC (.int 1)) (wCall S_law_draw (wCons (wV 0) (wCons (wV 1) wNil)))))
   (wSeq (wSet 3 (wCall S_law_draw (wCons (wV 0) (wCons (wC (.int 4)) wNil))))
   (wSeq (wSet 4 (wLst wNil))
   (wSeq (wFor (wRng1 (wCons (wV 2) wNil)) (wName 5) (tl_wr1 (tl_wr2 (tl_wr3 tl_wr4))))
   (wRet (wApp (one tupW) (wCons (wV 4) wNil))))))) _ [some (.ref p), some (nI most), none, none, none, none, none, none] G
  have loop : ∀ (n k : Nat) pf G1, 1 ≤ n → n ≤ most → ExtB p G G1 → PoolAt (pf :: ns) G1 p → pf ≠ p → G pf = none → G1 pf = some (.lst []) → (wSeq (wFor (wRng1 (wCons (wV 2) wNil)) (wName 5) (tl_wr1 (tl_wr2 (tl_wr3 tl_wr4)))) (wRet (wApp (one tupW) (wCons (wV 4) wNil)))) { nx := fun _ G' => Q .non G', rt := Q } [some (.ref p), some (nI most), some (nI n), some (nI k), some (.ref pf), none, none, none] G1 := fun n k pf G1 hn1 hn e1 h1 npf hpf0 hpf => by
    refine wFor_of (G1 := G1) (items := rngW 0 n) (stable := fun _ => True) (fun K hK => ?_)
      (fun i ρ G' => ∃ rs w5 w6 w7, ρ = [some (.ref p), some (nI most), some (nI n), some (nI k), some (.ref pf), w5, w6, w7] ∧ rs.length = i ∧ (∀ (t : Nat) (l : List Nat), rs[t]? = some l → LotOk t l) ∧ ExtB p G G' ∧ PoolAt (pf :: ns) G' p ∧ G' pf = some (.lst (rs.map fun l => .tup (l.map nI))))
      ⟨[], _, _, _, rfl, rfl, fun t l e => (by cases e), e1, h1, hpf⟩ (fun _ _ _ _ _ => trivial) ?_ ?_
    · unfold nI
      simp only [WL.wSeq, WL.wSet, WL.wAsg, WL.wDrop, WL.wRet, WL.wRetN, WL.wIfS, WL.wBreak, WL.wCont, WL.wNext, WL.wV, WL.wC, WL.wOp, WL.wUn, WL.wNil, WL.wCons, WL.wApp, WL.wTest, WL.wChain, WL.wAndT, WL.wOrT, WL.wNotT, WL.wAnd, WL.wOr, WL.wNot, WL.wIf, WL.wTup, WL.wLst, WL.wCall, WL.wMake, WL.wFld, WL.wPutF, WL.wSl, WL.wPart, WL.wNoPart, WL.wRev, WL.wName, WL.wNames, WL.wSeqI, WL.wZip, WL.wRng3, WL.wRng1, WL.wRng2, WL.wEnum, WL.wLstRg, WL.wTupRg, WL.wR1, WL.wR2, WL.wCallD, WL.MdW, WL.wgSub, WL.one, WL.two, WL.lk, WL.isB_bl, WL.isI_int, WL.cmpI, WL.isNW, WL.notNW, WL.nonW, WL.wYes, WL.wLockE, WL.wLock, WL.wDNew, WL.wSortSet, WL.wNever, WL.addW_int, WL.addW_tup, WL.addW_str, WL.subW_int, WL.mulW_int, WL.modW_int, WL.fdivW_int, WL.powW_int, WL.negW_int, WL.intW_int, WL.intW_bl, WL.absW, WL.CTg.on, WL.wipeW, WL.setsW, WL.optW_some, WL.wDisp, WL.wPairs, WL.eqW_str, WL.neW_str, WL.eqW_int, WL.neW_int, WL.eqW_bl, WL.neW_bl, WL.ixW_tupE, WL.slW_tupE, WL.sortTW_ref, WL.lenW_tupE, WL.tupW_tupE, WL.listW_tupE, WL.atI_0, WL.atI_1, WL.atI_2, WL.atI_3, WL.atI_4, WL.seqOn_tup, WL.enumOn_tup, List.set, if_true, if_false, Bool.false_eq_true, if_pos, List.length_nil, List.length_cons, Bool.not_true, Bool.not_false]
      exact ⟨by omega, by omega, hK⟩
    · rintro i w ρ G2 hw ⟨rs, w5, w6, w7, rfl, hl, lok, e2, h2, hp2⟩
      have hi : i < n := by
        have := (List.getElem?_eq_some_iff.mp hw).1
        rw [rngW_length] at this; exact this
      have ew : w = nI i := by
        have := rngW_get (lo := 0) hi
        rw [this] at hw
        have := Option.some.inj hw
        rw [← this]; unfold nI; rw [Int.zero_add]
      subst ew
      show tl_wr1 (tl_wr2 (tl_wr3 tl_wr4)) _ (wrE p pf k i (some (nI most)) (some (nI n)) w6 w7) G2
      refine wr1 h2 (by omega) fun pl l G3 hpl0 hpl lo e3 h3 => ?_
      refine wr2 h3 (by omega) hpl lo fun pl l G4 hpl lo e4 h4 => ?_
      refine wr3 h4 (by omega) hpl lo fun pl l G5 hpl lo e5 => ?_
      have h5 := h4.ext e5
      have hp5 := e5 _ _ (e4 _ _ npf (e3 _ _ npf hp2))
      unfold tl_wr4 wrE
      simp only [WL.wSeq, WL.wSet, WL.wAsg, WL.wDrop, WL.wRet, WL.wRetN, WL.wIfS, WL.wBreak, WL.wCont, WL.wNext, WL.wV, WL.wC, WL.wOp, WL.wUn, WL.wNil, WL.wCons, WL.wApp, WL.wTest, WL.wChain, WL.wAndT, WL.wOrT, WL.wNotT, WL.wAnd, WL.wOr, WL.wNot, WL.wIf, WL.wTup, WL.wLst, WL.wCall, WL.wMake, WL.wFld, WL.wPutF, WL.wSl, WL.wPart, WL.wNoPart, WL.wRev, WL.wName, WL.wNames, WL.wSeqI, WL.wZip, WL.wRng3, WL.wRng1, WL.wRng2, WL.wEnum, WL.wLstRg, WL.wTupRg, WL.wR1, WL.wR2, WL.wCallD, WL.MdW, WL.wgSub, WL.one, WL.two, WL.lk, WL.isB_bl, WL.isI_int, WL.cmpI, WL.isNW, WL.notNW, WL.nonW, WL.wYes, WL.wLockE, WL.wLock, WL.wDNew, WL.wSortSet, WL.wNever, WL.addW_int, WL.addW_tup, WL.addW_str, WL.subW_int, WL.mulW_int, WL.modW_int, WL.fdivW_int, WL.powW_int, WL.negW_int, WL.intW_int, WL.intW_bl, WL.absW, WL.CTg.on, WL.wipeW, WL.setsW, WL.optW_some, WL.wDisp, WL.wPairs, WL.eqW_str, WL.neW_str, WL.eqW_int, WL.neW_int, WL.eqW_bl, WL.neW_bl, WL.ixW_tupE, WL.slW_tupE, WL.sortTW_ref, WL.lenW_tupE, WL.tupW_tupE, WL.listW_tupE, WL.atI_0, WL.atI_1, WL.atI_2, WL.atI_3, WL.atI_4, WL.seqOn_tup, WL.enumOn_tup, List.set, if_true, if_false, Bool.false_eq_true, if_pos, List.length_nil, List.length_cons, Bool.not_true, Bool.not_false]
      refine ⟨isLs_of hp5, tup_lst hpl ?_⟩
      refine app_lst hp5 (by rw [List.length_map]; exact Nat.lt_of_le_of_lt (show _ ≤ 10 by omega) (by decide)) ?_
      refine ⟨rs ++ [l], _, _, _, rfl, by rw [List.length_append, hl]; rfl, fun t l' e => ?_, fun r u hr hu => ?_, ?_, ?_⟩
      · by_cases htl : t < rs.length
        · rw [List.getElem?_append_left htl] at e; exact lok t l' e
        · rw [List.getElem?_append_right (by omega)] at e
          by_cases ht0 : t - rs.length = 0
          · rw [ht0] at e
            have e : l = l' := Option.some.inj e
            subst e
            rw [show t = i by omega]; exact lo
          · rw [List.getElem?_eq_none (by simp; omega)] at e; cases e
      · have : r ≠ pf := fun e => by rw [e, hpf0] at hu; cases hu
        rw [updG_ne this]
        exact (e2.trans (e3.trans (e4.trans (Ext.b e5)))) r u hr hu
      · exact h5.upd (by simp) npf
      · rw [updG_same, List.map_append]; rfl
    · rintro ρ G2 ⟨rs, w5, w6, w7, rfl, hl, lok, e2, h2, hp2⟩
      simp only [WL.wSeq, WL.wSet, WL.wAsg, WL.wDrop, WL.wRet, WL.wRetN, WL.wIfS, WL.wBreak, WL.wCont, WL.wNext, WL.wV, WL.wC, WL.wOp, WL.wUn, WL.wNil, WL.wCons, WL.wApp, WL.wTest, WL.wChain, WL.wAndT, WL.wOrT, WL.wNotT, WL.wAnd, WL.wOr, WL.wNot, WL.wIf, WL.wTup, WL.wLst, WL.wCall, WL.wMake, WL.wFld, WL.wPutF, WL.wSl, WL.wPart, WL.wNoPart, WL.wRev, WL.wName, WL.wNames, WL.wSeqI, WL.wZip, WL.wRng3, WL.wRng1, WL.wRng2, WL.wEnum, WL.wLstRg, WL.wTupRg, WL.wR1, WL.wR2, WL.wCallD, WL.MdW, WL.wgSub, WL.one, WL.two, WL.lk, WL.isB_bl, WL.isI_int, WL.cmpI, WL.isNW, WL.notNW, WL.nonW, WL.wYes, WL.wLockE, WL.wLock, WL.wDNew, WL.wSortSet, WL.wNever, WL.addW_int, WL.addW_tup, WL.addW_str, WL.subW_int, WL.mulW_int, WL.modW_int, WL.fdivW_int, WL.powW_int, WL.negW_int, WL.intW_int, WL.intW_bl, WL.absW, WL.CTg.on, WL.wipeW, WL.setsW, WL.optW_some, WL.wDisp, WL.wPairs, WL.eqW_str, WL.neW_str, WL.eqW_int, WL.neW_int, WL.eqW_bl, WL.neW_bl, WL.ixW_tupE, WL.slW_tupE, WL.sortTW_ref, WL.lenW_tupE, WL.tupW_tupE, WL.listW_tupE, WL.atI_0, WL.atI_1, WL.atI_2, WL.atI_3, WL.atI_4, WL.seqOn_tup, WL.enumOn_tup, List.set, if_true, if_false, Bool.false_eq_true, if_pos, List.length_nil, List.length_cons, Bool.not_true, Bool.not_false]
      refine tup_lst hp2 ?_
      rw [rngW_length] at hl
      refine q rs G2 ⟨fun t l e => (lok t l e).2, fun l hm => ?_, by omega, by omega⟩ (by omega) e2 h2.drop
      obtain ⟨t, ht⟩ := List.mem_iff_getElem?.mp hm
      exact (lok t l ht).1
  generalize (wSeq (wFor (wRng1 (wCons (wV 2) wNil)) (wName 5) (tl_wr1 (tl_wr2 (tl_wr3 tl_wr4)))) (wRet (wApp (one tupW) (wCons (wV 4) wNil)))) = T at loop ⊢
  simp only [WL.wSeq, WL.wSet, WL.wAsg, WL.wDrop, WL.wRet, WL.wRetN, WL.wIfS, WL.wBreak, WL.wCont, WL.wNext, WL.wV, WL.wC, WL.wOp, WL.wUn, WL.wNil, WL.wCons, WL.wApp, WL.wTest, WL.wChain, WL.wAndT, WL.wOrT, WL.wNotT, WL.wAnd, WL.wOr, WL.wNot, WL.wIf, WL.wTup, WL.wLst, WL.wCall, WL.wMake, WL.wFld, WL.wPutF, WL.wSl, WL.wPart, WL.wNoPart, WL.wRev, WL.wName, WL.wNames, WL.wSeqI, WL.wZip, WL.wRng3, WL.wRng1, WL.wRng2, WL.wEnum, WL.wLstRg, WL.wTupRg, WL.wR1, WL.wR2, WL.wCallD, WL.MdW, WL.wgSub, WL.one, WL.two, WL.lk, WL.isB_bl, WL.isI_int, WL.cmpI, WL.isNW, WL.notNW, WL.nonW, WL.wYes, WL.wLockE, WL.wLock, WL.wDNew, WL.wSortSet, WL.wNever, WL.addW_int, WL.addW_tup, WL.addW_str, WL.subW_int, WL.mulW_int, WL.modW_int, WL.fdivW_int, WL.powW_int, WL.negW_int, WL.intW_int, WL.intW_bl, WL.absW, WL.CTg.on, WL.wipeW, WL.setsW, WL.optW_some, WL.wDisp, WL.wPairs, WL.eqW_str, WL.neW_str, WL.eqW_int, WL.neW_int, WL.eqW_bl, WL.neW_bl, WL.ixW_tupE, WL.slW_tupE, WL.sortTW_ref, WL.lenW_tupE, WL.tupW_tupE, WL.listW_tupE, WL.atI_0, WL.atI_1, WL.atI_2, WL.atI_3, WL.atI_4, WL.seqOn_tup, WL.enumOn_tup, List.set, if_true, if_false, Bool.false_eq_true, if_pos, List.length_nil, List.length_cons, Bool.not_true, Bool.not_false]
  refine ⟨ns, p, most, rfl, by omega, by omega, h, fun d G1 hd e1 h1 => ?_⟩
  have loop := loop (d + 1)
  unfold nI at loop ⊢
  simp only [WL.wSeq, WL.wSet, WL.wAsg, WL.wDrop, WL.wRet, WL.wRetN, WL.wIfS, WL.wBreak, WL.wCont, WL.wNext, WL.wV, WL.wC, WL.wOp, WL.wUn, WL.wNil, WL.wCons, WL.wApp, WL.wTest, WL.wChain, WL.wAndT, WL.wOrT, WL.wNotT, WL.wAnd, WL.wOr, WL.wNot, WL.wIf, WL.wTup, WL.wLst, WL.wCall, WL.wMake, WL.wFld, WL.wPutF, WL.wSl, WL.wPart, WL.wNoPart, WL.wRev, WL.wName, WL.wNames, WL.wSeqI, WL.wZip, WL.wRng3, WL.wRng1, WL.wRng2, WL.wEnum, WL.wLstRg, WL.wTupRg, WL.wR1, WL.wR2, WL.wCallD, WL.MdW, WL.wgSub, WL.one, WL.two, WL.lk, WL.isB_bl, WL.isI_int, WL.cmpI, WL.isNW, WL.notNW, WL.nonW, WL.wYes, WL.wLockE, WL.wLock, WL.wDNew, WL.wSortSet, WL.wNever, WL.addW_int, WL.addW_tup, WL.addW_str, WL.subW_int, WL.mulW_int, WL.modW_int, WL.fdivW_int, WL.powW_int, WL.negW_int, WL.intW_int, WL.intW_bl, WL.absW, WL.CTg.on, WL.wipeW, WL.setsW, WL.optW_some, WL.wDisp, WL.wPairs, WL.eqW_str, WL.neW_str, WL.eqW_int, WL.neW_int, WL.eqW_bl, WL.neW_bl, WL.ixW_tupE, WL.slW_tupE, WL.sortTW_ref, WL.lenW_tupE, WL.tupW_tupE, WL.listW_tupE, WL.atI_0, WL.atI_1, WL.atI_2, WL.atI_3, WL.atI_4, WL.seqOn_tup, WL.enumOn_tup, List.set, if_true, if_false, Bool.false_eq_true, if_pos, List.length_nil, List.length_cons, Bool.not_true, Bool.not_false]
  refine ⟨ns, p, 4, rfl, by omega, by omega, h1, fun k G2 hk e2 h2 => ⟨by decide, fun pf hpf => ?_⟩⟩
  have np := h2.np hpf
  rw [show (1 : Int) + (d : Int) = ((d + 1 : Nat) : Int) by omega]
  refine loop k pf _ (by omega) (by omega) (e1.trans (e2.trans (Ext.b (.new hpf)))) (h2.add hpf) np ?_ updG_same
  cases e : G pf with
  | none => rfl
  | some u => rw [e2 pf u np (e1 pf u np e)] at hpf; cases hpf
end K54
set_option Elab.async false
set_option linter.all false
set_option maxRecDepth 100000
set_option maxHeartbeats 1000000
set_option pp.maxSteps 400
/-! webs: counts of ones, lots as numbers, the moves that can follow -/
namespace PR
noncomputable def cntL : Nat → List Nat
  | 0 => [0]
  | n + 1 => cntL n ++ (cntL n).map (· + 1)
theorem cnt_len : ∀ n, (cntL n).length = 2 ^ n
  | 0 => rfl
  | n + 1 => by rw [cntL, List.length_append, List.length_map, cnt_len n, Nat.pow_succ]; omega
theorem ones_succ (n m : Nat) : ones (n + 1) m = ones n m ++ (if m.testBit n = true then [n] else []) := by
  unfold ones
  rw [List.range_succ, List.filter_append]
  congr 1
  cases h : m.testBit n <;> simp [h]
theorem ones_congr {n m k : Nat} (h : ∀ j, j < n → m.testBit j = k.testBit j) : ones n m = ones n k := by
  unfold ones
  refine List.filter_congr fun j hj => ?_
  exact h j (List.mem_range.mp hj)
theorem cnt_get : ∀ (n m : Nat), m < 2 ^ n → (cntL n)[m]? = some (popc n m)
  | 0, m, h => by
    have : m = 0 := by simpa using h
    subst this
    rw [popc_zero]; rfl
  | n + 1, m, h => by
    rw [cntL]
    unfold popc
    rw [ones_succ, List.length_append]
    by_cases hm : m < 2 ^ n
    · rw [List.getElem?_append_left (by rw [cnt_len]; exact hm), cnt_get n m hm, Nat.testBit_lt_two_pow hm]
      rfl
    · obtain ⟨k, rfl⟩ : ∃ k, m = k + 2 ^ n := ⟨m - 2 ^ n, by omega⟩
      have hk : k < 2 ^ n := by rw [Nat.pow_succ] at h; omega
      have hb : k.testBit n = false := Nat.testBit_lt_two_pow hk
      rw [List.getElem?_append_right (by rw [cnt_len]; omega), cnt_len, Nat.add_sub_cancel, List.getElem?_map, cnt_get n k hk, tb_add n hb]
      have e : ones n (k + 2 ^ n) = ones n k := ones_congr fun j hj => by
        rw [tb_add j hb]
        have : j ≠ n := by omega
        simp [this]
      rw [e]
      simp [popc]
/-- a lot as a number -/
noncomputable def msk (l : List Nat) : Nat := (l.map fun o => 2 ^ o).sum
theorem msk_bit : ∀ {l : List Nat}, List.Pairwise (fun a b : Nat => a < b) l → ∀ j, (msk l).testBit j = decide (j ∈ l)
  | [], _, j => by unfold msk; simp
  | a :: l, h, j => by
    obtain ⟨h1, h2⟩ := List.pairwise_cons.mp h
    have ih := msk_bit h2
    have ha : (msk l).testBit a = false := by
      rw [ih a, decide_eq_false_iff_not]
      exact fun hm => absurd (h1 a hm) (Nat.lt_irrefl _)
    have e : msk (a :: l) = msk l + 2 ^ a := by
      unfold msk
      rw [List.map_cons, List.sum_cons]; omega
    rw [e, tb_add j ha, ih j]
    simp
theorem and_pow {m t : Nat} : m &&& 2 ^ t ≠ 0 ↔ m.testBit t = true := by
  constructor
  · intro h
    cases e : m.testBit t with
    | true => rfl
    | false =>
      refine absurd (Nat.eq_of_testBit_eq fun j => ?_) h
      rw [Nat.testBit_and, Nat.testBit_two_pow, Nat.zero_testBit]
      by_cases hj : t = j
      · rw [← hj, e]; rfl
      · simp [hj]
  · intro h e
    have : (m &&& 2 ^ t).testBit t = true := by rw [Nat.testBit_and, Nat.testBit_two_pow, h]; simp
    rw [e] at this
    simp at this
theorem and_msk {m : Nat} {l : List Nat} (h : List.Pairwise (fun a b : Nat => a < b) l) : m &&& msk l = msk l ↔ ∀ o ∈ l, m.testBit o = true := by
  constructor
  · intro e o ho
    have : (m &&& msk l).testBit o = true := by rw [e, msk_bit h]; simpa using ho
    rw [Nat.testBit_and, Bool.and_eq_true] at this
    exact this.1
  · intro k
    refine Nat.eq_of_testBit_eq fun j => ?_
    rw [Nat.testBit_and, msk_bit h]
    by_cases hj : j ∈ l
    · rw [k j hj]; simp
    · simp [hj]
/-! ### moves -/
inductive Mv
  | clear (t : Nat)
  | fill (t : Nat)
  | slide (t o : Nat)
/-- what can follow by a thing, in the law's order -/
noncomputable def movT (rs : List (List Nat)) (apart : Bool) (m t : Nat) : List (Mv × Nat) :=
  if m.testBit t = true then [(.clear t, m - 2 ^ t)]
  else if (rdOf rs t).all (fun o => m.testBit o) = true then (.fill t, m + 2 ^ t) :: (if apart = true then [] else (rdOf rs t).map fun o => (.slide t o, m + 2 ^ t - 2 ^ o))
  else []
noncomputable def movL (rs : List (List Nat)) (apart : Bool) (m : Nat) : List (Mv × Nat) := (List.range rs.length).flatMap (movT rs apart m)
theorem mov_nx {rs : List (List Nat)} {apart : Bool} {m k : Nat} : (∃ mv, (mv, k) ∈ movL rs apart m) ↔ Nx rs apart m k := by
  constructor
  · rintro ⟨mv, h⟩
    obtain ⟨t, ht, h⟩ := List.mem_flatMap.mp h
    have ht := List.mem_range.mp ht
    unfold movT at h
    split at h
    · rename_i hb
      obtain ⟨-, rfl⟩ := Prod.mk.inj (List.mem_singleton.mp h)
      exact .clear t ht hb
    · rename_i hb
      split at h
      · rename_i ha
        have may : mayB rs m t = true := by
          unfold mayB
          rw [ha]; simp at hb; simp [hb]
        rcases List.mem_cons.mp h with h | h
        · obtain ⟨-, rfl⟩ := Prod.mk.inj h
          exact .fill t ht may
        · cases apart with
          | true => cases h
          | false =>
            obtain ⟨o, ho, e⟩ := List.mem_map.mp h
            obtain ⟨-, rfl⟩ := Prod.mk.inj e
            exact .slide t o ht may ho rfl
      · cases h
  · intro h
    have mem : ∀ {t : Nat} {x : Mv × Nat}, t < rs.length → x ∈ movT rs apart m t → x ∈ movL rs apart m := fun ht h => List.mem_flatMap.mpr ⟨_, List.mem_range.mpr ht, h⟩
    cases h with
    | clear t ht h => exact ⟨.clear t, mem ht (by unfold movT; rw [if_pos h]; exact List.mem_singleton.mpr rfl)⟩
    | fill t ht h =>
      obtain ⟨h1, h2⟩ := may_iff.mp h
      exact ⟨.fill t, mem ht (by unfold movT; rw [if_neg (by rw [h1]; exact Bool.false_ne_true), if_pos (List.all_eq_true.mpr h2)]; exact List.mem_cons_self ..)⟩
    | slide t o ht h ho ha =>
      obtain ⟨h1, h2⟩ := may_iff.mp h
      subst ha
      exact ⟨.slide t o, mem ht (by
        unfold movT
        rw [if_neg (by rw [h1]; exact Bool.false_ne_true), if_pos (List.all_eq_true.mpr h2), if_neg Bool.false_ne_true]
        exact List.mem_cons_of_mem _ (List.mem_map.mpr ⟨o, ho, rfl⟩))⟩
theorem movT_len {rs : List (List Nat)} {apart : Bool} {m t : Nat} : (movT rs apart m t).length ≤ 1 + (rdOf rs t).length := by
  unfold movT
  split
  · simp
  · split
    · rw [List.length_cons]
      split
      · simp
      · rw [List.length_map]; omega
    · simp
theorem rd_len {rs : List (List Nat)} (ok : ReadsOk rs) {t : Nat} (ht : t < rs.length) : (rdOf rs t).length ≤ t := by
  have hp : List.Pairwise (fun a b : Nat => a < b) (rdOf rs t) := by
    unfold rdOf
    rw [List.getD_eq_getElem?_getD, List.getElem?_eq_getElem ht]
    exact ok.asc _ (List.getElem_mem ht)
  have e : rdOf rs t = (List.range t).filter fun j => decide (j ∈ rdOf rs t) := asc_ext hp (List.pairwise_lt_range.filter _) fun j => by
    rw [List.mem_filter, List.mem_range, decide_eq_true_iff]
    exact ⟨fun h => ⟨rd_lt ok h, h⟩, fun h => h.2⟩
  rw [e]
  have := List.length_filter_le (fun j => decide (j ∈ rdOf rs t)) (List.range t)
  rw [List.length_range] at this
  exact this
theorem rd_asc {rs : List (List Nat)} (ok : ReadsOk rs) {t : Nat} : List.Pairwise (fun a b : Nat => a < b) (rdOf rs t) := by
  unfold rdOf
  rw [List.getD_eq_getElem?_getD]
  cases e : rs[t]? with
  | none => exact List.Pairwise.nil
  | some l => exact ok.asc l (List.mem_of_getElem? e)
theorem movTs_len {rs : List (List Nat)} (ok : ReadsOk rs) {apart : Bool} {m : Nat} : ∀ k, k ≤ rs.length → ((List.range k).flatMap (movT rs apart m)).length ≤ 10 * k
  | 0, _ => by simp
  | k + 1, hk => by
    rw [List.range_succ, List.flatMap_append, List.length_append]
    have ih := movTs_len ok (apart := apart) (m := m) k (by omega)
    have h1 := movT_len (rs := rs) (apart := apart) (m := m) (t := k)
    have h2 := rd_len ok (t := k) (by omega)
    have h3 := ok.ten
    have e : (List.flatMap (movT rs apart m) [k]).length = (movT rs apart m k).length := by simp [List.flatMap]
    rw [e]
    omega
end PR
set_option Elab.async false
set_option linter.all false
set_option maxRecDepth 100000
set_option maxHeartbeats 1000000
set_option pp.maxSteps 400
namespace K54
open PySem PySem.Spec PyProof.Rows L2 WL PR
/-! ### counts, masks, the law's moves -/
theorem rng_at {n i : Nat} {w : W} (h : (rngW 0 n)[i]? = some w) : i < n ∧ w = nI i := by
  have hi : i < n := by
    have := (List.getElem?_eq_some_iff.mp h).1
    rw [rngW_length] at this; exact this
  refine ⟨hi, ?_⟩
  have := rngW_get (lo := 0) hi
  rw [this] at h
  have := Option.some.inj h
  rw [← this]; unfold nI; rw [Int.zero_add]
theorem fm_idx {α : Type} (l : List α) (f : α → W) : (List.range l.length).filterMap (fun k => (l[k]?).map f) = l.map f := by
  refine List.ext_getElem? fun i => ?_
  have : ∀ n, n ≤ l.length → (List.range n).filterMap (fun k => (l[k]?).map f) = (l.take n).map f := by
    intro n
    induction n with
    | zero => intro _; simp
    | succ n ih =>
      intro h
      rw [List.range_succ, List.filterMap_append, ih (by omega), List.take_add_one, List.map_append]
      congr 1
      rw [List.getElem?_eq_getElem (by omega)]
      simp [List.getElem?_eq_getElem (show n < l.length by omega)]
  rw [this l.length (Nat.le_refl _), List.take_length]
noncomputable def S_law_counts : WSp := fun ws G Q => ∃ n : Nat, ws = [nI n] ∧ n ≤ 10 ∧ ∀ r G', Ext G G' → G r = none → G' r = some (.lst ((cntL n).map nI)) → Q (.ref r) G'
theorem v_law_counts : ∀ ws G Q, S_law_counts ws G Q → rd_law_counts { nx := fun _ G' => Q .non G', rt := Q } (startW ["_law_many", "_law_found", "_law_turn", "_law_count"] ws) G := by
  rintro ws G Q ⟨n, rfl, hn, q⟩
  show rd_law_counts _ [some (nI n), none, none, none] G
  unfold rd_law_counts
  have body : ∀ (E : WEnds) (i : Nat) pf G1 w2 w3, i < 10 → G1 pf = some (.lst ((cntL i).map nI)) → (∀ r G2, Ext G1 G2 → G1 r = none → G2 r = some (.lst ((cntL (i + 1)).map nI)) → E.nx [some (nI n), some (.ref r), w2, w3] G2) → (wSet 1 (wOp addW (wV 1) (wLc (wSeqI (wV 1)) (.one 3) wYes (wOp addW (wV 3) (wC (.int 1))) [3]))) E [some (nI n), some (.ref pf), w2, w3] G1 := fun E i pf G1 w2 w3 hi hp hq => by
    have hlen : (cntL i).length ≤ 1024 := by rw [cnt_len]; exact Nat.le_trans (Nat.pow_le_pow_right (by decide) (show i ≤ 10 by omega)) (by decide)
    show wOp addW (wV 1) _ _ _ _
    refine wop_of (wv_of rfl ?_)
    refine wLc_fm (G1 := G1) (items := (cntL i).map nI) (stable := fun G => G pf = some (.lst ((cntL i).map nI)) ∨ G pf = some (.rol ((cntL i).map nI))) (fun K hK => ?_) (fun w => match w with | .int j => some (.int (j + 1)) | _ => none) (by rw [List.length_map]; exact Nat.lt_of_le_of_lt hlen (by decide)) (fun G' e => .inl (e _ _ hp)) (fun k w hw G2 e2 K hK => ?_) (fun D G2 e2 hD => ?_)
    · refine wv_of rfl ?_
      exact seq_lst hp hK
    · rw [List.getElem?_map] at hw
      cases h : (cntL i)[k]? with
      | none => rw [h] at hw; cases hw
      | some c =>
        rw [h] at hw; cases hw
        unfold nI
        simp only [WL.wSeq, WL.wSet, WL.wAsg, WL.wDrop, WL.wRet, WL.wRetN, WL.wIfS, WL.wBreak, WL.wCont, WL.wNext, WL.wV, WL.wC, WL.wOp, WL.wUn, WL.wNil, WL.wCons, WL.wApp, WL.wTest, WL.wChain, WL.wAndT, WL.wOrT, WL.wNotT, WL.wAnd, WL.wOr, WL.wNot, WL.wIf, WL.wTup, WL.wLst, WL.wCall, WL.wMake, WL.wFld, WL.wPutF, WL.wSl, WL.wPart, WL.wNoPart, WL.wRev, WL.wName, WL.wNames, WL.wSeqI, WL.wZip, WL.wRng3, WL.wRng1, WL.wRng2, WL.wEnum, WL.wLstRg, WL.wTupRg, WL.wR1, WL.wR2, WL.wCallD, WL.MdW, WL.wgSub, WL.one, WL.two, WL.lk, WL.isB_bl, WL.isI_int, WL.cmpI, WL.isNW, WL.notNW, WL.nonW, WL.wYes, WL.wLockE, WL.wLock, WL.wDNew, WL.wSortSet, WL.wNever, WL.addW_int, WL.addW_tup, WL.addW_str, WL.subW_int, WL.mulW_int, WL.modW_int, WL.fdivW_int, WL.powW_int, WL.negW_int, WL.intW_int, WL.intW_bl, WL.absW, WL.CTg.on, WL.wipeW, WL.setsW, WL.optW_some, WL.wDisp, WL.wPairs, WL.eqW_str, WL.neW_str, WL.eqW_int, WL.neW_int, WL.eqW_bl, WL.neW_bl, WL.ixW_tupE, WL.slW_tupE, WL.sortTW_ref, WL.lenW_tupE, WL.tupW_tupE, WL.listW_tupE, WL.atI_0, WL.atI_1, WL.atI_2, WL.atI_3, WL.atI_4, WL.seqOn_tup, WL.enumOn_tup, List.set, if_true, if_false, Bool.false_eq_true, if_pos, List.length_nil, List.length_cons, Bool.not_true, Bool.not_false]
        exact hK G2 .refl
    · have e : ((cntL i).map nI).filterMap (fun w => match w with | W.int j => some (W.int (j + 1)) | _ => none) = ((cntL i).map (· + 1)).map nI := by
        rw [List.map_map]
        exact fm_map2 fun c _ => by show some (W.int ((c : Int) + 1)) = some (W.int ((c + 1 : Nat) : Int)); rw [Int.natCast_add]; rfl
      rw [e]
      refine add_lst (Ext.new hD _ _ (e2 _ _ hp)) updG_same (by rw [List.length_map, List.length_map, List.length_map]; exact Nat.le_trans (show _ ≤ 2048 by omega) (by decide)) fun r hr => ?_
      refine hq r _ (e2.trans (Ext.trans (.new hD) (.new hr))) (none_of_ext e2 (none_of_ext (.new hD) hr)) ?_
      rw [updG_same, cntL, List.map_append]
  generalize (wSet 1 (wOp addW (wV 1) (wLc (wSeqI (wV 1)) (.one 3) wYes (wOp addW (wV 3) (wC (.int 1))) [3]))) = B at body ⊢
  have loop : ∀ pf G1, Ext G G1 → G pf = none → G1 pf = some (.lst ((cntL 0).map nI)) → (wSeq (wFor (wRng1 (wCons (wV 0) wNil)) (wName 2) B) (wRet (wV 1))) { nx := fun _ G' => Q .non G', rt := Q } [some (nI n), some (.ref pf), none, none] G1 := fun pf G1 e1 hn0 hp => by
    refine wFor_of (G1 := G1) (items := rngW 0 n) (stable := fun _ => True) (fun K hK => ?_)
      (fun i ρ G' => ∃ r w2 w3, ρ = [some (nI n), some (.ref r), w2, w3] ∧ Ext G G' ∧ G r = none ∧ G' r = some (.lst ((cntL i).map nI)))
      ⟨pf, _, _, rfl, e1, hn0, hp⟩ (fun _ _ _ _ _ => trivial) ?_ ?_
    · unfold nI
      simp only [WL.wSeq, WL.wSet, WL.wAsg, WL.wDrop, WL.wRet, WL.wRetN, WL.wIfS, WL.wBreak, WL.wCont, WL.wNext, WL.wV, WL.wC, WL.wOp, WL.wUn, WL.wNil, WL.wCons, WL.wApp, WL.wTest, WL.wChain, WL.wAndT, WL.wOrT, WL.wNotT, WL.wAnd, WL.wOr, WL.wNot, WL.wIf, WL.wTup, WL.wLst, WL.wCall, WL.wMake, WL.wFld, WL.wPutF, WL.wSl, WL.wPart, WL.wNoPart, WL.wRev, WL.wName, WL.wNames, WL.wSeqI, WL.wZip, WL.wRng3, WL.wRng1, WL.wRng2, WL.wEnum, WL.wLstRg, WL.wTupRg, WL.wR1, WL.wR2, WL.wCallD, WL.MdW, WL.wgSub, WL.one, WL.two, WL.lk, WL.isB_bl, WL.isI_int, WL.cmpI, WL.isNW, WL.notNW, WL.nonW, WL.wYes, WL.wLockE, WL.wLock, WL.wDNew, WL.wSortSet, WL.wNever, WL.addW_int, WL.addW_tup, WL.addW_str, WL.subW_int, WL.mulW_int, WL.modW_int, WL.fdivW_int, WL.powW_int, WL.negW_int, WL.intW_int, WL.intW_bl, WL.absW, WL.CTg.on, WL.wipeW, WL.setsW, WL.optW_some, WL.wDisp, WL.wPairs, WL.eqW_str, WL.neW_str, WL.eqW_int, WL.neW_int, WL.eqW_bl, WL.neW_bl, WL.ixW_tupE, WL.slW_tupE, WL.sortTW_ref, WL.lenW_tupE, WL.tupW_tupE, WL.listW_tupE, WL.atI_0, WL.atI_1, WL.atI_2, WL.atI_3, WL.atI_4, WL.seqOn_tup, WL.enumOn_tup, List.set, if_true, if_false, Bool.false_eq_true, if_pos, List.length_nil, List.length_cons, Bool.not_true, Bool.not_false]
      exact ⟨by omega, by omega, hK⟩
    · rintro i w ρ G2 hw ⟨r, w2, w3, rfl, e2, hr, hp2⟩
      obtain ⟨hi, rfl⟩ := rng_at hw
      show B _ [some (nI n), some (.ref r), some (nI i), w3] G2
      refine body _ i r G2 _ _ (by omega) hp2 fun r' G3 e3 hr' h3 => ⟨r', _, _, rfl, e2.trans e3, none_of_ext e2 hr', h3⟩
    · rintro ρ G2 ⟨r, w2, w3, rfl, e2, hr, hp2⟩
      rw [rngW_length] at hp2
      simp only [WL.wSeq, WL.wSet, WL.wAsg, WL.wDrop, WL.wRet, WL.wRetN, WL.wIfS, WL.wBreak, WL.wCont, WL.wNext, WL.wV, WL.wC, WL.wOp, WL.wUn, WL.wNil, WL.wCons, WL.wApp, WL.wTest, WL.wChain, WL.wAndT, WL.wOrT, WL.wNotT, WL.wAnd, WL.wOr, WL.wNot, WL.wIf, WL.wTup, WL.wLst, WL.wCall, WL.wMake, WL.wFld, WL.wPutF, WL.wSl, WL.wPart, WL.wNoPart, WL.wRev, WL.wName, WL.wNames, WL.wSeqI, WL.wZip, WL.wRng3, WL.wRng1, WL.wRng2, WL.wEnum, WL.wLstRg, WL.wTupRg, WL.wR1, WL.wR2, WL.wCallD, WL.MdW, WL.wgSub, WL.one, WL.two, WL.lk, WL.isB_bl, WL.isI_int, WL.cmpI, WL.isNW, WL.notNW, WL.nonW, WL.wYes, WL.wLockE, WL.wLock, WL.wDNew, WL.wSortSet, WL.wNever, WL.addW_int, WL.addW_tup, WL.addW_str, WL.subW_int, WL.mulW_int, WL.modW_int, WL.fdivW_int, WL.powW_int, WL.negW_int, WL.intW_int, WL.intW_bl, WL.absW, WL.CTg.on, WL.wipeW, WL.setsW, WL.optW_some, WL.wDisp, WL.wPairs, WL.eqW_str, WL.neW_str, WL.eqW_int, WL.neW_int, WL.eqW_bl, WL.neW_bl, WL.ixW_tupE, WL.slW_tupE, WL.sortTW_ref, WL.lenW_tupE, WL.tupW_tupE, WL.listW_tupE, WL.atI_0, WL.atI_1, WL.atI_2, WL.atI_3, WL.atI_4, WL.seqOn_tup, WL.enumOn_tup, List.set, if_true, if_false, Bool.false_eq_true, if_pos, List.length_nil, List.length_cons, Bool.not_true, Bool.not_false]
      exact q r G2 e2 hr hp2
  generalize (wSeq (wFor (wRng1 (wCons (wV 0) wNil)) (wName 2) B) (wRet (wV 1))) = T at loop ⊢
  simp only [WL.wSeq, WL.wSet, WL.wAsg, WL.wDrop, WL.wRet, WL.wRetN, WL.wIfS, WL.wBreak, WL.wCont, WL.wNext, WL.wV, WL.wC, WL.wOp, WL.wUn, WL.wNil, WL.wCons, WL.wApp, WL.wTest, WL.wChain, WL.wAndT, WL.wOrT, WL.wNotT, WL.wAnd, WL.wOr, WL.wNot, WL.wIf, WL.wTup, WL.wLst, WL.wCall, WL.wMake, WL.wFld, WL.wPutF, WL.wSl, WL.wPart, WL.wNoPart, WL.wRev, WL.wName, WL.wNames, WL.wSeqI, WL.wZip, WL.wRng3, WL.wRng1, WL.wRng2, WL.wEnum, WL.wLstRg, WL.wTupRg, WL.wR1, WL.wR2, WL.wCallD, WL.MdW, WL.wgSub, WL.one, WL.two, WL.lk, WL.isB_bl, WL.isI_int, WL.cmpI, WL.isNW, WL.notNW, WL.nonW, WL.wYes, WL.wLockE, WL.wLock, WL.wDNew, WL.wSortSet, WL.wNever, WL.addW_int, WL.addW_tup, WL.addW_str, WL.subW_int, WL.mulW_int, WL.modW_int, WL.fdivW_int, WL.powW_int, WL.negW_int, WL.intW_int, WL.intW_bl, WL.absW, WL.CTg.on, WL.wipeW, WL.setsW, WL.optW_some, WL.wDisp, WL.wPairs, WL.eqW_str, WL.neW_str, WL.eqW_int, WL.neW_int, WL.eqW_bl, WL.neW_bl, WL.ixW_tupE, WL.slW_tupE, WL.sortTW_ref, WL.lenW_tupE, WL.tupW_tupE, WL.listW_tupE, WL.atI_0, WL.atI_1, WL.atI_2, WL.atI_3, WL.atI_4, WL.seqOn_tup, WL.enumOn_tup, List.set, if_true, if_false, Bool.false_eq_true, if_pos, List.length_nil, List.length_cons, Bool.not_true, Bool.not_false]
  refine ⟨by decide, fun pf hpf => ?_⟩
  exact loop pf _ (.new hpf) hpf updG_same
noncomputable def S_law_masks_of : WSp := fun ws G Q => ∃ rs, ws = [rdsW rs] ∧ ReadsOk rs ∧ ∀ r G', Ext G G' → G r = none → G' r = some (.lst (rs.map fun l => nI (msk l))) → Q (.ref r) G'
theorem v_law_masks_of : ∀ ws G Q, S_law_masks_of ws G Q → rd_law_masks_of { nx := fun _ G' => Q .non G', rt := Q } (startW ["_law_reads", "_law_lot", "_law_other"] ws) G := by
  rintro ws G Q ⟨rs, rfl, ok, q⟩
  show rd_law_masks_of _ [some (rdsW rs), none, none] G
  unfold rd_law_masks_of
  simp only [WL.wSeq, WL.wSet, WL.wAsg, WL.wDrop, WL.wRet, WL.wRetN, WL.wIfS, WL.wBreak, WL.wCont, WL.wNext, WL.wV, WL.wC, WL.wOp, WL.wUn, WL.wNil, WL.wCons, WL.wApp, WL.wTest, WL.wChain, WL.wAndT, WL.wOrT, WL.wNotT, WL.wAnd, WL.wOr, WL.wNot, WL.wIf, WL.wTup, WL.wLst, WL.wCall, WL.wMake, WL.wFld, WL.wPutF, WL.wSl, WL.wPart, WL.wNoPart, WL.wRev, WL.wName, WL.wNames, WL.wSeqI, WL.wZip, WL.wRng3, WL.wRng1, WL.wRng2, WL.wEnum, WL.wLstRg, WL.wTupRg, WL.wR1, WL.wR2, WL.wCallD, WL.MdW, WL.wgSub, WL.one, WL.two, WL.lk, WL.isB_bl, WL.isI_int, WL.cmpI, WL.isNW, WL.notNW, WL.nonW, WL.wYes, WL.wLockE, WL.wLock, WL.wDNew, WL.wSortSet, WL.wNever, WL.addW_int, WL.addW_tup, WL.addW_str, WL.subW_int, WL.mulW_int, WL.modW_int, WL.fdivW_int, WL.powW_int, WL.negW_int, WL.intW_int, WL.intW_bl, WL.absW, WL.CTg.on, WL.wipeW, WL.setsW, WL.optW_some, WL.wDisp, WL.wPairs, WL.eqW_str, WL.neW_str, WL.eqW_int, WL.neW_int, WL.eqW_bl, WL.neW_bl, WL.ixW_tupE, WL.slW_tupE, WL.sortTW_ref, WL.lenW_tupE, WL.tupW_tupE, WL.listW_tupE, WL.atI_0, WL.atI_1, WL.atI_2, WL.atI_3, WL.atI_4, WL.seqOn_tup, WL.enumOn_tup, List.set, if_true, if_false, Bool.false_eq_true, if_pos, List.length_nil, List.length_cons, Bool.not_true, Bool.not_false]
  refine wLc_ix (G1 := G) (items := rs.map fun l => .tup (l.map nI)) (stable := fun _ => True) (fun K hK => ?_) (fun k => (rs[k]?).map fun l => nI (msk l)) (by rw [List.length_map]; exact Nat.lt_of_le_of_lt ok.ten (by decide)) (fun _ _ => trivial) (fun k w hw G1 e1 K hK => ?_) (fun D G1 e1 hD => ?_)
  · unfold rdsW
    simp only [WL.wSeq, WL.wSet, WL.wAsg, WL.wDrop, WL.wRet, WL.wRetN, WL.wIfS, WL.wBreak, WL.wCont, WL.wNext, WL.wV, WL.wC, WL.wOp, WL.wUn, WL.wNil, WL.wCons, WL.wApp, WL.wTest, WL.wChain, WL.wAndT, WL.wOrT, WL.wNotT, WL.wAnd, WL.wOr, WL.wNot, WL.wIf, WL.wTup, WL.wLst, WL.wCall, WL.wMake, WL.wFld, WL.wPutF, WL.wSl, WL.wPart, WL.wNoPart, WL.wRev, WL.wName, WL.wNames, WL.wSeqI, WL.wZip, WL.wRng3, WL.wRng1, WL.wRng2, WL.wEnum, WL.wLstRg, WL.wTupRg, WL.wR1, WL.wR2, WL.wCallD, WL.MdW, WL.wgSub, WL.one, WL.two, WL.lk, WL.isB_bl, WL.isI_int, WL.cmpI, WL.isNW, WL.notNW, WL.nonW, WL.wYes, WL.wLockE, WL.wLock, WL.wDNew, WL.wSortSet, WL.wNever, WL.addW_int, WL.addW_tup, WL.addW_str, WL.subW_int, WL.mulW_int, WL.modW_int, WL.fdivW_int, WL.powW_int, WL.negW_int, WL.intW_int, WL.intW_bl, WL.absW, WL.CTg.on, WL.wipeW, WL.setsW, WL.optW_some, WL.wDisp, WL.wPairs, WL.eqW_str, WL.neW_str, WL.eqW_int, WL.neW_int, WL.eqW_bl, WL.neW_bl, WL.ixW_tupE, WL.slW_tupE, WL.sortTW_ref, WL.lenW_tupE, WL.tupW_tupE, WL.listW_tupE, WL.atI_0, WL.atI_1, WL.atI_2, WL.atI_3, WL.atI_4, WL.seqOn_tup, WL.enumOn_tup, List.set, if_true, if_false, Bool.false_eq_true, if_pos, List.length_nil, List.length_cons, Bool.not_true, Bool.not_false]
    exact hK
  · rw [List.getElem?_map] at hw
    cases hl : rs[k]? with
    | none => rw [hl] at hw; cases hw
    | some l =>
      rw [hl] at hw; cases hw
      have hk : ∀ G', Ext G1 G' → K (some (nI (msk l))) G' := fun G' e => by
        have := hK G' e
        simp only [hl] at this
        exact this
      have hlt : ∀ o ∈ l, o < 10 := fun o ho => by
        have := ok.lt k l hl o ho
        have := (List.getElem?_eq_some_iff.mp hl).1
        have := ok.ten
        omega
      simp only [WL.wSeq, WL.wSet, WL.wAsg, WL.wDrop, WL.wRet, WL.wRetN, WL.wIfS, WL.wBreak, WL.wCont, WL.wNext, WL.wV, WL.wC, WL.wOp, WL.wUn, WL.wNil, WL.wCons, WL.wApp, WL.wTest, WL.wChain, WL.wAndT, WL.wOrT, WL.wNotT, WL.wAnd, WL.wOr, WL.wNot, WL.wIf, WL.wTup, WL.wLst, WL.wCall, WL.wMake, WL.wFld, WL.wPutF, WL.wSl, WL.wPart, WL.wNoPart, WL.wRev, WL.wName, WL.wNames, WL.wSeqI, WL.wZip, WL.wRng3, WL.wRng1, WL.wRng2, WL.wEnum, WL.wLstRg, WL.wTupRg, WL.wR1, WL.wR2, WL.wCallD, WL.MdW, WL.wgSub, WL.one, WL.two, WL.lk, WL.isB_bl, WL.isI_int, WL.cmpI, WL.isNW, WL.notNW, WL.nonW, WL.wYes, WL.wLockE, WL.wLock, WL.wDNew, WL.wSortSet, WL.wNever, WL.addW_int, WL.addW_tup, WL.addW_str, WL.subW_int, WL.mulW_int, WL.modW_int, WL.fdivW_int, WL.powW_int, WL.negW_int, WL.intW_int, WL.intW_bl, WL.absW, WL.CTg.on, WL.wipeW, WL.setsW, WL.optW_some, WL.wDisp, WL.wPairs, WL.eqW_str, WL.neW_str, WL.eqW_int, WL.neW_int, WL.eqW_bl, WL.neW_bl, WL.ixW_tupE, WL.slW_tupE, WL.sortTW_ref, WL.lenW_tupE, WL.tupW_tupE, WL.listW_tupE, WL.atI_0, WL.atI_1, WL.atI_2, WL.atI_3, WL.atI_4, WL.seqOn_tup, WL.enumOn_tup, List.set, if_true, if_false, Bool.false_eq_true, if_pos, List.length_nil, List.length_cons, Bool.not_true, Bool.not_false]
      refine wLc_fm (G1 := G1) (items := l.map nI) (stable := fun _ => True) (fun K hK => ?_) (fun w => match w with | .int j => some (.int (2 ^ j.toNat)) | _ => none) ?_ (fun _ _ => trivial) (fun i w hw G2 e2 K hK => ?_) (fun D G2 e2 hD => ?_)
      · simp only [WL.wSeq, WL.wSet, WL.wAsg, WL.wDrop, WL.wRet, WL.wRetN, WL.wIfS, WL.wBreak, WL.wCont, WL.wNext, WL.wV, WL.wC, WL.wOp, WL.wUn, WL.wNil, WL.wCons, WL.wApp, WL.wTest, WL.wChain, WL.wAndT, WL.wOrT, WL.wNotT, WL.wAnd, WL.wOr, WL.wNot, WL.wIf, WL.wTup, WL.wLst, WL.wCall, WL.wMake, WL.wFld, WL.wPutF, WL.wSl, WL.wPart, WL.wNoPart, WL.wRev, WL.wName, WL.wNames, WL.wSeqI, WL.wZip, WL.wRng3, WL.wRng1, WL.wRng2, WL.wEnum, WL.wLstRg, WL.wTupRg, WL.wR1, WL.wR2, WL.wCallD, WL.MdW, WL.wgSub, WL.one, WL.two, WL.lk, WL.isB_bl, WL.isI_int, WL.cmpI, WL.isNW, WL.notNW, WL.nonW, WL.wYes, WL.wLockE, WL.wLock, WL.wDNew, WL.wSortSet, WL.wNever, WL.addW_int, WL.addW_tup, WL.addW_str, WL.subW_int, WL.mulW_int, WL.modW_int, WL.fdivW_int, WL.powW_int, WL.negW_int, WL.intW_int, WL.intW_bl, WL.absW, WL.CTg.on, WL.wipeW, WL.setsW, WL.optW_some, WL.wDisp, WL.wPairs, WL.eqW_str, WL.neW_str, WL.eqW_int, WL.neW_int, WL.eqW_bl, WL.neW_bl, WL.ixW_tupE, WL.slW_tupE, WL.sortTW_ref, WL.lenW_tupE, WL.tupW_tupE, WL.listW_tupE, WL.atI_0, WL.atI_1, WL.atI_2, WL.atI_3, WL.atI_4, WL.seqOn_tup, WL.enumOn_tup, List.set, if_true, if_false, Bool.false_eq_true, if_pos, List.length_nil, List.length_cons, Bool.not_true, Bool.not_false]
        exact hK
      · rw [List.length_map]
        have hp := ok.asc l (List.mem_of_getElem? hl)
        have e : l = (List.range 10).filter fun j => decide (j ∈ l) := PR.asc_ext hp (List.pairwise_lt_range.filter _) fun j => by
          rw [List.mem_filter, List.mem_range, decide_eq_true_iff]
          exact ⟨fun h => ⟨hlt j h, h⟩, fun h => h.2⟩
        rw [e]
        exact Nat.lt_of_le_of_lt (List.length_filter_le _ _) (by rw [List.length_range]; decide)
      · rw [List.getElem?_map] at hw
        cases ho : l[i]? with
        | none => rw [ho] at hw; cases hw
        | some o =>
          rw [ho] at hw; cases hw
          have := hlt o (List.mem_of_getElem? ho)
          unfold nI
          simp only [WL.wSeq, WL.wSet, WL.wAsg, WL.wDrop, WL.wRet, WL.wRetN, WL.wIfS, WL.wBreak, WL.wCont, WL.wNext, WL.wV, WL.wC, WL.wOp, WL.wUn, WL.wNil, WL.wCons, WL.wApp, WL.wTest, WL.wChain, WL.wAndT, WL.wOrT, WL.wNotT, WL.wAnd, WL.wOr, WL.wNot, WL.wIf, WL.wTup, WL.wLst, WL.wCall, WL.wMake, WL.wFld, WL.wPutF, WL.wSl, WL.wPart, WL.wNoPart, WL.wRev, WL.wName, WL.wNames, WL.wSeqI, WL.wZip, WL.wRng3, WL.wRng1, WL.wRng2, WL.wEnum, WL.wLstRg, WL.wTupRg, WL.wR1, WL.wR2, WL.wCallD, WL.MdW, WL.wgSub, WL.one, WL.two, WL.lk, WL.isB_bl, WL.isI_int, WL.cmpI, WL.isNW, WL.notNW, WL.nonW, WL.wYes, WL.wLockE, WL.wLock, WL.wDNew, WL.wSortSet, WL.wNever, WL.addW_int, WL.addW_tup, WL.addW_str, WL.subW_int, WL.mulW_int, WL.modW_int, WL.fdivW_int, WL.powW_int, WL.negW_int, WL.intW_int, WL.intW_bl, WL.absW, WL.CTg.on, WL.wipeW, WL.setsW, WL.optW_some, WL.wDisp, WL.wPairs, WL.eqW_str, WL.neW_str, WL.eqW_int, WL.neW_int, WL.eqW_bl, WL.neW_bl, WL.ixW_tupE, WL.slW_tupE, WL.sortTW_ref, WL.lenW_tupE, WL.tupW_tupE, WL.listW_tupE, WL.atI_0, WL.atI_1, WL.atI_2, WL.atI_3, WL.atI_4, WL.seqOn_tup, WL.enumOn_tup, List.set, if_true, if_false, Bool.false_eq_true, if_pos, List.length_nil, List.length_cons, Bool.not_true, Bool.not_false]
          show shlW (.int 1) (.int (o : Int)) G2 _
          refine ⟨⟨by omega, by omega, by decide⟩, ?_⟩
          rw [Int.one_mul]
          exact hK G2 .refl
      · have e : (l.map nI).filterMap (fun w => match w with | W.int j => some (W.int (2 ^ j.toNat)) | _ => none) = (l.map fun o => ((2 ^ o : Nat) : Int)).map W.int := by
          rw [List.map_map]
          exact fm_map2 fun o _ => by
            show some (W.int (2 ^ ((o : Int)).toNat)) = some (W.int ((2 ^ o : Nat) : Int))
            rw [Int.toNat_natCast, Int.natCast_pow]; rfl
        rw [e]
        show sumW (.ref D) _ _
        refine lsAt_of updG_same ⟨_, rfl, ?_⟩
        have es : ∀ l : List Nat, (l.map fun o => ((2 ^ o : Nat) : Int)).sum = ((msk l : Nat) : Int) := by
          intro l
          induction l with
          | nil => rfl
          | cons a l ih =>
            unfold msk at ih ⊢
            rw [List.map_cons, List.sum_cons, ih, List.map_cons, List.sum_cons, Int.natCast_add]
        rw [es]
        exact hk _ (e2.trans (.new hD))
  · have e : (List.range (rs.map fun l => W.tup (l.map nI)).length).filterMap (fun k => (rs[k]?).map fun l => nI (msk l)) = rs.map fun l => nI (msk l) := by
      rw [List.length_map]
      exact fm_idx rs _
    rw [e]
    exact q D _ (e1.trans (.new hD)) (none_of_ext e1 hD) updG_same
end K54
set_option Elab.async false
set_option linter.all false
set_option maxRecDepth 100000
set_option maxHeartbeats 1000000
set_option pp.maxSteps 400
namespace K54
open PySem PySem.Spec PyProof.Rows L2 WL PR
/-! ### the law's moves -/
noncomputable def mvW : Mv → W
  | .clear t => .tup [.str "clear", nI t]
  | .fill t => .tup [.str "fill", nI t]
  | .slide t o => .tup [.str "slide", nI t, nI o]
noncomputable def pairW (x : Mv × Nat) : W := .tup [mvW x.1, nI x.2]
noncomputable def S_law_moves_from : WSp := fun ws G Q => ∃ (rs : List (List Nat)) (pm : Addr) (m : Nat) (apart : Bool), ws = [rdsW rs, .ref pm, nI m, .bl apart] ∧ ReadsOk rs ∧ G pm = some (.lst (rs.map fun l => nI (msk l))) ∧ m < 2 ^ rs.length ∧
  ∀ r G', Ext G G' → G r = none → G' r = some (.lst ((movL rs apart m).map pairW)) → Q (.ref r) G'
noncomputable def tl_lm0 : WTS := (wIfS (wNotT (wTest (wV 3)))
 (wDrop (MdW extendW isLs (wV 4) (wCons (wLc (wSeqI (wOp ixW (wV 0) (wV 5))) (.one 7) wYes (wTup (wCons (wTup (wCons (wC (.str "slide")) (wCons (wV 5) (wCons (wV 7) wNil)))) (wCons (wOp subW (wOp addW (wV 2) (wV 6)) (wOp shlW (wC (.int 1)) (wV 7))) wNil))) [7]) wNil)))
 wNext)
noncomputable def tl_lm1 (T : WTS) : WTS := (wSeq (wSet 6 (wOp shlW (wC (.int 1)) (wV 5)))
 (wIfS (wTest (wOp neW (wOp bandW (wV 2) (wV 6)) (wC (.int 0))))
 (wDrop (MdW appendW isLs (wV 4) (wCons (wTup (wCons (wTup (wCons (wC (.str "clear")) (wCons (wV 5) wNil))) (wCons (wOp subW (wV 2) (wV 6)) wNil))) wNil)))
 (wIfS (wTest (wOp eqW (wOp bandW (wV 2) (wOp ixW (wV 1) (wV 5))) (wOp ixW (wV 1) (wV 5))))
 (wSeq (wDrop (MdW appendW isLs (wV 4) (wCons (wTup (wCons (wTup (wCons (wC (.str "fill")) (wCons (wV 5) wNil))) (wCons (wOp addW (wV 2) (wV 6)) wNil))) wNil))) T)
 wNext)))
theorem movT_of {rs : List (List Nat)} {apart : Bool} {m t : Nat} (hb : m.testBit t = false) (hr : ∀ o ∈ rdOf rs t, m.testBit o = true) : movT rs apart m t = (.fill t, m + 2 ^ t) :: (if apart = true then [] else (rdOf rs t).map fun o => (.slide t o, m + 2 ^ t - 2 ^ o)) := by
  unfold movT
  rw [if_neg (by rw [hb]; exact Bool.false_ne_true), if_pos (List.all_eq_true.mpr hr)]
section
variable {rs : List (List Nat)} {pm pf : Addr} {m t : Nat} {apart : Bool} {G : WHp} {E : WEnds} {T : WTS} {w6 w7 : Option W} {ws : List W}
noncomputable def lmE (rs : List (List Nat)) (pm : Addr) (m : Nat) (apart : Bool) (pf : Addr) (t : Nat) (w6 w7 : Option W) : WEnv := [some (rdsW rs), some (.ref pm), some (nI m), some (.bl apart), some (.ref pf), some (nI t), w6, w7]
theorem shl1 {o : Nat} {Q : WK} (h : o < 10) (q : Q (nI (2 ^ o)) G) : shlW (.int 1) (.int (o : Int)) G Q := by
  refine ⟨⟨by omega, by omega, by decide⟩, ?_⟩
  rw [Int.one_mul, Int.toNat_natCast]
  have : ((2 : Int) ^ o) = ((2 ^ o : Nat) : Int) := by rw [Int.natCast_pow]; rfl
  rw [this]; exact q
theorem rds_at {l : List Nat} (h : rs[t]? = some l) {Q : WK} (q : Q (.tup (l.map nI)) G) : ixW (rdsW rs) (nI t) G Q :=
  ixW_tup (i := t) (w := .tup (l.map nI)) (by rw [List.getElem?_map, h]; rfl) q
theorem lm0 (ok : ReadsOk rs) (ht : t < rs.length) (hb : m.testBit t = false) (hr : ∀ o ∈ rdOf rs t, m.testBit o = true) (hp : G pf = some (.lst ws)) (hl : ws.length ≤ 200)
    (q : ∀ w7 G', (∀ r u, r ≠ pf → G r = some u → G' r = some u) → G' pf = some (.lst (ws ++ (if apart = true then [] else (rdOf rs t).map fun o => pairW (.slide t o, m + 2 ^ t - 2 ^ o)))) → E.nx (lmE rs pm m apart pf t (some (nI (2 ^ t))) w7) G') : tl_lm0 E (lmE rs pm m apart pf t (some (nI (2 ^ t))) w7) G := by
  have htn := ok.ten
  have hrl : rs[t]? = some (rdOf rs t) := by
    unfold rdOf; rw [List.getD_eq_getElem?_getD, List.getElem?_eq_getElem ht]; rfl
  have hlen := rd_len ok ht
  unfold tl_lm0 lmE
  unfold lmE at q
  cases apart with
  | true =>
    simp only [WL.wSeq, WL.wSet, WL.wAsg, WL.wDrop, WL.wRet, WL.wRetN, WL.wIfS, WL.wBreak, WL.wCont, WL.wNext, WL.wV, WL.wC, WL.wOp, WL.wUn, WL.wNil, WL.wCons, WL.wApp, WL.wTest, WL.wChain, WL.wAndT, WL.wOrT, WL.wNotT, WL.wAnd, WL.wOr, WL.wNot, WL.wIf, WL.wTup, WL.wLst, WL.wCall, WL.wMake, WL.wFld, WL.wPutF, WL.wSl, WL.wPart, WL.wNoPart, WL.wRev, WL.wName, WL.wNames, WL.wSeqI, WL.wZip, WL.wRng3, WL.wRng1, WL.wRng2, WL.wEnum, WL.wLstRg, WL.wTupRg, WL.wR1, WL.wR2, WL.wCallD, WL.MdW, WL.wgSub, WL.one, WL.two, WL.lk, WL.isB_bl, WL.isI_int, WL.cmpI, WL.isNW, WL.notNW, WL.nonW, WL.wYes, WL.wLockE, WL.wLock, WL.wDNew, WL.wSortSet, WL.wNever, WL.addW_int, WL.addW_tup, WL.addW_str, WL.subW_int, WL.mulW_int, WL.modW_int, WL.fdivW_int, WL.powW_int, WL.negW_int, WL.intW_int, WL.intW_bl, WL.absW, WL.CTg.on, WL.wipeW, WL.setsW, WL.optW_some, WL.wDisp, WL.wPairs, WL.eqW_str, WL.neW_str, WL.eqW_int, WL.neW_int, WL.eqW_bl, WL.neW_bl, WL.ixW_tupE, WL.slW_tupE, WL.sortTW_ref, WL.lenW_tupE, WL.tupW_tupE, WL.listW_tupE, WL.atI_0, WL.atI_1, WL.atI_2, WL.atI_3, WL.atI_4, WL.seqOn_tup, WL.enumOn_tup, List.set, if_true, if_false, Bool.false_eq_true, if_pos, List.length_nil, List.length_cons, Bool.not_true, Bool.not_false]
    refine q _ G (fun r u _ h => h) ?_
    rw [hp, if_pos rfl, List.append_nil]
  | false =>
    unfold nI at q ⊢
    simp only [WL.wSeq, WL.wSet, WL.wAsg, WL.wDrop, WL.wRet, WL.wRetN, WL.wIfS, WL.wBreak, WL.wCont, WL.wNext, WL.wV, WL.wC, WL.wOp, WL.wUn, WL.wNil, WL.wCons, WL.wApp, WL.wTest, WL.wChain, WL.wAndT, WL.wOrT, WL.wNotT, WL.wAnd, WL.wOr, WL.wNot, WL.wIf, WL.wTup, WL.wLst, WL.wCall, WL.wMake, WL.wFld, WL.wPutF, WL.wSl, WL.wPart, WL.wNoPart, WL.wRev, WL.wName, WL.wNames, WL.wSeqI, WL.wZip, WL.wRng3, WL.wRng1, WL.wRng2, WL.wEnum, WL.wLstRg, WL.wTupRg, WL.wR1, WL.wR2, WL.wCallD, WL.MdW, WL.wgSub, WL.one, WL.two, WL.lk, WL.isB_bl, WL.isI_int, WL.cmpI, WL.isNW, WL.notNW, WL.nonW, WL.wYes, WL.wLockE, WL.wLock, WL.wDNew, WL.wSortSet, WL.wNever, WL.addW_int, WL.addW_tup, WL.addW_str, WL.subW_int, WL.mulW_int, WL.modW_int, WL.fdivW_int, WL.powW_int, WL.negW_int, WL.intW_int, WL.intW_bl, WL.absW, WL.CTg.on, WL.wipeW, WL.setsW, WL.optW_some, WL.wDisp, WL.wPairs, WL.eqW_str, WL.neW_str, WL.eqW_int, WL.neW_int, WL.eqW_bl, WL.neW_bl, WL.ixW_tupE, WL.slW_tupE, WL.sortTW_ref, WL.lenW_tupE, WL.tupW_tupE, WL.listW_tupE, WL.atI_0, WL.atI_1, WL.atI_2, WL.atI_3, WL.atI_4, WL.seqOn_tup, WL.enumOn_tup, List.set, if_true, if_false, Bool.false_eq_true, if_pos, List.length_nil, List.length_cons, Bool.not_true, Bool.not_false]
    refine ⟨isLs_of hp, ?_⟩
    refine wLc_fm (G1 := G) (items := (rdOf rs t).map nI) (stable := fun _ => True) (fun K hK => ?_) (fun w => match w with | .int j => some (pairW (.slide t j.toNat, m + 2 ^ t - 2 ^ j.toNat)) | _ => none) (by rw [List.length_map]; exact Nat.lt_of_le_of_lt (show _ ≤ 10 by omega) (by decide)) (fun _ _ => trivial) (fun k w hw G2 e2 K hK => ?_) (fun D G2 e2 hD => ?_)
    · simp only [WL.wSeq, WL.wSet, WL.wAsg, WL.wDrop, WL.wRet, WL.wRetN, WL.wIfS, WL.wBreak, WL.wCont, WL.wNext, WL.wV, WL.wC, WL.wOp, WL.wUn, WL.wNil, WL.wCons, WL.wApp, WL.wTest, WL.wChain, WL.wAndT, WL.wOrT, WL.wNotT, WL.wAnd, WL.wOr, WL.wNot, WL.wIf, WL.wTup, WL.wLst, WL.wCall, WL.wMake, WL.wFld, WL.wPutF, WL.wSl, WL.wPart, WL.wNoPart, WL.wRev, WL.wName, WL.wNames, WL.wSeqI, WL.wZip, WL.wRng3, WL.wRng1, WL.wRng2, WL.wEnum, WL.wLstRg, WL.wTupRg, WL.wR1, WL.wR2, WL.wCallD, WL.MdW, WL.wgSub, WL.one, WL.two, WL.lk, WL.isB_bl, WL.isI_int, WL.cmpI, WL.isNW, WL.notNW, WL.nonW, WL.wYes, WL.wLockE, WL.wLock, WL.wDNew, WL.wSortSet, WL.wNever, WL.addW_int, WL.addW_tup, WL.addW_str, WL.subW_int, WL.mulW_int, WL.modW_int, WL.fdivW_int, WL.powW_int, WL.negW_int, WL.intW_int, WL.intW_bl, WL.absW, WL.CTg.on, WL.wipeW, WL.setsW, WL.optW_some, WL.wDisp, WL.wPairs, WL.eqW_str, WL.neW_str, WL.eqW_int, WL.neW_int, WL.eqW_bl, WL.neW_bl, WL.ixW_tupE, WL.slW_tupE, WL.sortTW_ref, WL.lenW_tupE, WL.tupW_tupE, WL.listW_tupE, WL.atI_0, WL.atI_1, WL.atI_2, WL.atI_3, WL.atI_4, WL.seqOn_tup, WL.enumOn_tup, List.set, if_true, if_false, Bool.false_eq_true, if_pos, List.length_nil, List.length_cons, Bool.not_true, Bool.not_false]
      refine rds_at (t := t) hrl ?_
      simp only [WL.wSeq, WL.wSet, WL.wAsg, WL.wDrop, WL.wRet, WL.wRetN, WL.wIfS, WL.wBreak, WL.wCont, WL.wNext, WL.wV, WL.wC, WL.wOp, WL.wUn, WL.wNil, WL.wCons, WL.wApp, WL.wTest, WL.wChain, WL.wAndT, WL.wOrT, WL.wNotT, WL.wAnd, WL.wOr, WL.wNot, WL.wIf, WL.wTup, WL.wLst, WL.wCall, WL.wMake, WL.wFld, WL.wPutF, WL.wSl, WL.wPart, WL.wNoPart, WL.wRev, WL.wName, WL.wNames, WL.wSeqI, WL.wZip, WL.wRng3, WL.wRng1, WL.wRng2, WL.wEnum, WL.wLstRg, WL.wTupRg, WL.wR1, WL.wR2, WL.wCallD, WL.MdW, WL.wgSub, WL.one, WL.two, WL.lk, WL.isB_bl, WL.isI_int, WL.cmpI, WL.isNW, WL.notNW, WL.nonW, WL.wYes, WL.wLockE, WL.wLock, WL.wDNew, WL.wSortSet, WL.wNever, WL.addW_int, WL.addW_tup, WL.addW_str, WL.subW_int, WL.mulW_int, WL.modW_int, WL.fdivW_int, WL.powW_int, WL.negW_int, WL.intW_int, WL.intW_bl, WL.absW, WL.CTg.on, WL.wipeW, WL.setsW, WL.optW_some, WL.wDisp, WL.wPairs, WL.eqW_str, WL.neW_str, WL.eqW_int, WL.neW_int, WL.eqW_bl, WL.neW_bl, WL.ixW_tupE, WL.slW_tupE, WL.sortTW_ref, WL.lenW_tupE, WL.tupW_tupE, WL.listW_tupE, WL.atI_0, WL.atI_1, WL.atI_2, WL.atI_3, WL.atI_4, WL.seqOn_tup, WL.enumOn_tup, List.set, if_true, if_false, Bool.false_eq_true, if_pos, List.length_nil, List.length_cons, Bool.not_true, Bool.not_false]
      exact hK
    · rw [List.getElem?_map] at hw
      cases ho : (rdOf rs t)[k]? with
      | none => rw [ho] at hw; cases hw
      | some o =>
        rw [ho] at hw; cases hw
        have hom := List.mem_of_getElem? ho
        have hot := rd_lt ok hom
        unfold nI
        simp only [WL.wSeq, WL.wSet, WL.wAsg, WL.wDrop, WL.wRet, WL.wRetN, WL.wIfS, WL.wBreak, WL.wCont, WL.wNext, WL.wV, WL.wC, WL.wOp, WL.wUn, WL.wNil, WL.wCons, WL.wApp, WL.wTest, WL.wChain, WL.wAndT, WL.wOrT, WL.wNotT, WL.wAnd, WL.wOr, WL.wNot, WL.wIf, WL.wTup, WL.wLst, WL.wCall, WL.wMake, WL.wFld, WL.wPutF, WL.wSl, WL.wPart, WL.wNoPart, WL.wRev, WL.wName, WL.wNames, WL.wSeqI, WL.wZip, WL.wRng3, WL.wRng1, WL.wRng2, WL.wEnum, WL.wLstRg, WL.wTupRg, WL.wR1, WL.wR2, WL.wCallD, WL.MdW, WL.wgSub, WL.one, WL.two, WL.lk, WL.isB_bl, WL.isI_int, WL.cmpI, WL.isNW, WL.notNW, WL.nonW, WL.wYes, WL.wLockE, WL.wLock, WL.wDNew, WL.wSortSet, WL.wNever, WL.addW_int, WL.addW_tup, WL.addW_str, WL.subW_int, WL.mulW_int, WL.modW_int, WL.fdivW_int, WL.powW_int, WL.negW_int, WL.intW_int, WL.intW_bl, WL.absW, WL.CTg.on, WL.wipeW, WL.setsW, WL.optW_some, WL.wDisp, WL.wPairs, WL.eqW_str, WL.neW_str, WL.eqW_int, WL.neW_int, WL.eqW_bl, WL.neW_bl, WL.ixW_tupE, WL.slW_tupE, WL.sortTW_ref, WL.lenW_tupE, WL.tupW_tupE, WL.listW_tupE, WL.atI_0, WL.atI_1, WL.atI_2, WL.atI_3, WL.atI_4, WL.seqOn_tup, WL.enumOn_tup, List.set, if_true, if_false, Bool.false_eq_true, if_pos, List.length_nil, List.length_cons, Bool.not_true, Bool.not_false]
        refine ⟨by decide, ?_⟩
        refine shl1 (by omega) ?_
        unfold nI
        simp only [WL.wSeq, WL.wSet, WL.wAsg, WL.wDrop, WL.wRet, WL.wRetN, WL.wIfS, WL.wBreak, WL.wCont, WL.wNext, WL.wV, WL.wC, WL.wOp, WL.wUn, WL.wNil, WL.wCons, WL.wApp, WL.wTest, WL.wChain, WL.wAndT, WL.wOrT, WL.wNotT, WL.wAnd, WL.wOr, WL.wNot, WL.wIf, WL.wTup, WL.wLst, WL.wCall, WL.wMake, WL.wFld, WL.wPutF, WL.wSl, WL.wPart, WL.wNoPart, WL.wRev, WL.wName, WL.wNames, WL.wSeqI, WL.wZip, WL.wRng3, WL.wRng1, WL.wRng2, WL.wEnum, WL.wLstRg, WL.wTupRg, WL.wR1, WL.wR2, WL.wCallD, WL.MdW, WL.wgSub, WL.one, WL.two, WL.lk, WL.isB_bl, WL.isI_int, WL.cmpI, WL.isNW, WL.notNW, WL.nonW, WL.wYes, WL.wLockE, WL.wLock, WL.wDNew, WL.wSortSet, WL.wNever, WL.addW_int, WL.addW_tup, WL.addW_str, WL.subW_int, WL.mulW_int, WL.modW_int, WL.fdivW_int, WL.powW_int, WL.negW_int, WL.intW_int, WL.intW_bl, WL.absW, WL.CTg.on, WL.wipeW, WL.setsW, WL.optW_some, WL.wDisp, WL.wPairs, WL.eqW_str, WL.neW_str, WL.eqW_int, WL.neW_int, WL.eqW_bl, WL.neW_bl, WL.ixW_tupE, WL.slW_tupE, WL.sortTW_ref, WL.lenW_tupE, WL.tupW_tupE, WL.listW_tupE, WL.atI_0, WL.atI_1, WL.atI_2, WL.atI_3, WL.atI_4, WL.seqOn_tup, WL.enumOn_tup, List.set, if_true, if_false, Bool.false_eq_true, if_pos, List.length_nil, List.length_cons, Bool.not_true, Bool.not_false]
        have hge : 2 ^ o ≤ m := Nat.ge_two_pow_of_testBit (hr o hom)
        have e : ((m : Int) + ((2 ^ t : Nat) : Int) - ((2 ^ o : Nat) : Int)) = ((m + 2 ^ t - 2 ^ o : Nat) : Int) := by
          rw [Int.natCast_sub (Nat.le_trans hge (Nat.le_add_right _ _)), Int.natCast_add]
        rw [e]
        have := hK G2 .refl
        simp only [nI, Int.toNat_natCast] at this
        exact ⟨by decide, this⟩
    · have e : ((rdOf rs t).map nI).filterMap (fun w => match w with | W.int j => some (pairW (.slide t j.toNat, m + 2 ^ t - 2 ^ j.toNat)) | _ => none) = (rdOf rs t).map fun o => pairW (.slide t o, m + 2 ^ t - 2 ^ o) := fm_map2 fun o _ => by show some (pairW (.slide t ((o : Int)).toNat, m + 2 ^ t - 2 ^ ((o : Int)).toNat)) = _; rw [Int.toNat_natCast]
      rw [e]
      have npD : pf ≠ D := fun e' => by rw [← e', e2 _ _ hp] at hD; cases hD
      refine mlAt_of (show updG G2 D _ pf = _ by rw [updG_ne npD]; exact e2 _ _ hp) (mlAt_of updG_same ⟨by rw [List.length_map]; exact Nat.le_trans (show _ ≤ 300 by omega) (by decide), ?_⟩)
      refine q _ _ (fun r u hn hu => ?_) (by rw [updG_same]; rfl)
      rw [updG_ne hn]
      exact Ext.new hD _ _ (e2 _ _ hu)
theorem lm1 (ok : ReadsOk rs) (hmk : G pm = some (.lst (rs.map fun l => nI (msk l)))) (ht : t < rs.length) (hp : G pf = some (.lst ws)) (hl : ws.length ≤ 150) (hT : T = tl_lm0) (npm : pm ≠ pf)
    (q : ∀ w6 w7 G', (∀ r u, r ≠ pf → G r = some u → G' r = some u) → G' pf = some (.lst (ws ++ (movT rs apart m t).map pairW)) → E.nx (lmE rs pm m apart pf t w6 w7) G') : tl_lm1 T E (lmE rs pm m apart pf t w6 w7) G := by
  have htn := ok.ten
  have hrl : rs[t]? = some (rdOf rs t) := by
    unfold rdOf; rw [List.getD_eq_getElem?_getD, List.getElem?_eq_getElem ht]; rfl
  have hmt : (rs.map fun l => nI (msk l))[t]? = some (nI (msk (rdOf rs t))) := by rw [List.getElem?_map, hrl]; rfl
  have tail : m.testBit t = false → (∀ o ∈ rdOf rs t, m.testBit o = true) → ∀ w7 G1, (∀ r u, r ≠ pf → G r = some u → G1 r = some u) → G1 pf = some (.lst (ws ++ [pairW (.fill t, m + 2 ^ t)])) → T E (lmE rs pm m apart pf t (some (nI (2 ^ t))) w7) G1 := fun hb hr w7 G1 e1 h1 => by
    subst hT
    refine lm0 ok ht hb hr h1 (by rw [List.length_append]; show _ + 1 ≤ 200; omega) fun w7 G2 e2 h2 => ?_
    refine q _ _ G2 (fun r u hn hu => e2 r u hn (e1 r u hn hu)) ?_
    rw [h2, movT_of hb hr, List.map_cons, List.append_assoc]
    congr 3
    cases apart with
    | true => rfl
    | false =>
      rw [if_neg Bool.false_ne_true, if_neg Bool.false_ne_true, List.map_map]; rfl
  unfold tl_lm1
  unfold lmE nI at q tail ⊢
  simp only [WL.wSeq, WL.wSet, WL.wAsg, WL.wDrop, WL.wRet, WL.wRetN, WL.wIfS, WL.wBreak, WL.wCont, WL.wNext, WL.wV, WL.wC, WL.wOp, WL.wUn, WL.wNil, WL.wCons, WL.wApp, WL.wTest, WL.wChain, WL.wAndT, WL.wOrT, WL.wNotT, WL.wAnd, WL.wOr, WL.wNot, WL.wIf, WL.wTup, WL.wLst, WL.wCall, WL.wMake, WL.wFld, WL.wPutF, WL.wSl, WL.wPart, WL.wNoPart, WL.wRev, WL.wName, WL.wNames, WL.wSeqI, WL.wZip, WL.wRng3, WL.wRng1, WL.wRng2, WL.wEnum, WL.wLstRg, WL.wTupRg, WL.wR1, WL.wR2, WL.wCallD, WL.MdW, WL.wgSub, WL.one, WL.two, WL.lk, WL.isB_bl, WL.isI_int, WL.cmpI, WL.isNW, WL.notNW, WL.nonW, WL.wYes, WL.wLockE, WL.wLock, WL.wDNew, WL.wSortSet, WL.wNever, WL.addW_int, WL.addW_tup, WL.addW_str, WL.subW_int, WL.mulW_int, WL.modW_int, WL.fdivW_int, WL.powW_int, WL.negW_int, WL.intW_int, WL.intW_bl, WL.absW, WL.CTg.on, WL.wipeW, WL.setsW, WL.optW_some, WL.wDisp, WL.wPairs, WL.eqW_str, WL.neW_str, WL.eqW_int, WL.neW_int, WL.eqW_bl, WL.neW_bl, WL.ixW_tupE, WL.slW_tupE, WL.sortTW_ref, WL.lenW_tupE, WL.tupW_tupE, WL.listW_tupE, WL.atI_0, WL.atI_1, WL.atI_2, WL.atI_3, WL.atI_4, WL.seqOn_tup, WL.enumOn_tup, List.set, if_true, if_false, Bool.false_eq_true, if_pos, List.length_nil, List.length_cons, Bool.not_true, Bool.not_false]
  refine shl1 (by omega) ?_
  unfold nI
  simp only [WL.wSeq, WL.wSet, WL.wAsg, WL.wDrop, WL.wRet, WL.wRetN, WL.wIfS, WL.wBreak, WL.wCont, WL.wNext, WL.wV, WL.wC, WL.wOp, WL.wUn, WL.wNil, WL.wCons, WL.wApp, WL.wTest, WL.wChain, WL.wAndT, WL.wOrT, WL.wNotT, WL.wAnd, WL.wOr, WL.wNot, WL.wIf, WL.wTup, WL.wLst, WL.wCall, WL.wMake, WL.wFld, WL.wPutF, WL.wSl, WL.wPart, WL.wNoPart, WL.wRev, WL.wName, WL.wNames, WL.wSeqI, WL.wZip, WL.wRng3, WL.wRng1, WL.wRng2, WL.wEnum, WL.wLstRg, WL.wTupRg, WL.wR1, WL.wR2, WL.wCallD, WL.MdW, WL.wgSub, WL.one, WL.two, WL.lk, WL.isB_bl, WL.isI_int, WL.cmpI, WL.isNW, WL.notNW, WL.nonW, WL.wYes, WL.wLockE, WL.wLock, WL.wDNew, WL.wSortSet, WL.wNever, WL.addW_int, WL.addW_tup, WL.addW_str, WL.subW_int, WL.mulW_int, WL.modW_int, WL.fdivW_int, WL.powW_int, WL.negW_int, WL.intW_int, WL.intW_bl, WL.absW, WL.CTg.on, WL.wipeW, WL.setsW, WL.optW_some, WL.wDisp, WL.wPairs, WL.eqW_str, WL.neW_str, WL.eqW_int, WL.neW_int, WL.eqW_bl, WL.neW_bl, WL.ixW_tupE, WL.slW_tupE, WL.sortTW_ref, WL.lenW_tupE, WL.tupW_tupE, WL.listW_tupE, WL.atI_0, WL.atI_1, WL.atI_2, WL.atI_3, WL.atI_4, WL.seqOn_tup, WL.enumOn_tup, List.set, if_true, if_false, Bool.false_eq_true, if_pos, List.length_nil, List.length_cons, Bool.not_true, Bool.not_false]
  show bandW (.int (m : Int)) (.int ((2 ^ t : Nat) : Int)) _ _
  refine ⟨⟨Int.natCast_nonneg _, Int.natCast_nonneg _⟩, ?_⟩
  rw [Int.toNat_natCast, Int.toNat_natCast]
  simp only [WL.wSeq, WL.wSet, WL.wAsg, WL.wDrop, WL.wRet, WL.wRetN, WL.wIfS, WL.wBreak, WL.wCont, WL.wNext, WL.wV, WL.wC, WL.wOp, WL.wUn, WL.wNil, WL.wCons, WL.wApp, WL.wTest, WL.wChain, WL.wAndT, WL.wOrT, WL.wNotT, WL.wAnd, WL.wOr, WL.wNot, WL.wIf, WL.wTup, WL.wLst, WL.wCall, WL.wMake, WL.wFld, WL.wPutF, WL.wSl, WL.wPart, WL.wNoPart, WL.wRev, WL.wName, WL.wNames, WL.wSeqI, WL.wZip, WL.wRng3, WL.wRng1, WL.wRng2, WL.wEnum, WL.wLstRg, WL.wTupRg, WL.wR1, WL.wR2, WL.wCallD, WL.MdW, WL.wgSub, WL.one, WL.two, WL.lk, WL.isB_bl, WL.isI_int, WL.cmpI, WL.isNW, WL.notNW, WL.nonW, WL.wYes, WL.wLockE, WL.wLock, WL.wDNew, WL.wSortSet, WL.wNever, WL.addW_int, WL.addW_tup, WL.addW_str, WL.subW_int, WL.mulW_int, WL.modW_int, WL.fdivW_int, WL.powW_int, WL.negW_int, WL.intW_int, WL.intW_bl, WL.absW, WL.CTg.on, WL.wipeW, WL.setsW, WL.optW_some, WL.wDisp, WL.wPairs, WL.eqW_str, WL.neW_str, WL.eqW_int, WL.neW_int, WL.eqW_bl, WL.neW_bl, WL.ixW_tupE, WL.slW_tupE, WL.sortTW_ref, WL.lenW_tupE, WL.tupW_tupE, WL.listW_tupE, WL.atI_0, WL.atI_1, WL.atI_2, WL.atI_3, WL.atI_4, WL.seqOn_tup, WL.enumOn_tup, List.set, if_true, if_false, Bool.false_eq_true, if_pos, List.length_nil, List.length_cons, Bool.not_true, Bool.not_false]
  by_cases hb : m.testBit t = true
  · have h0 := and_pow.mpr hb
    rw [decide_eq_false (show ¬ ((m &&& 2 ^ t : Nat) : Int) = 0 from fun e => h0 (Int.ofNat.inj e))]
    simp only [WL.wSeq, WL.wSet, WL.wAsg, WL.wDrop, WL.wRet, WL.wRetN, WL.wIfS, WL.wBreak, WL.wCont, WL.wNext, WL.wV, WL.wC, WL.wOp, WL.wUn, WL.wNil, WL.wCons, WL.wApp, WL.wTest, WL.wChain, WL.wAndT, WL.wOrT, WL.wNotT, WL.wAnd, WL.wOr, WL.wNot, WL.wIf, WL.wTup, WL.wLst, WL.wCall, WL.wMake, WL.wFld, WL.wPutF, WL.wSl, WL.wPart, WL.wNoPart, WL.wRev, WL.wName, WL.wNames, WL.wSeqI, WL.wZip, WL.wRng3, WL.wRng1, WL.wRng2, WL.wEnum, WL.wLstRg, WL.wTupRg, WL.wR1, WL.wR2, WL.wCallD, WL.MdW, WL.wgSub, WL.one, WL.two, WL.lk, WL.isB_bl, WL.isI_int, WL.cmpI, WL.isNW, WL.notNW, WL.nonW, WL.wYes, WL.wLockE, WL.wLock, WL.wDNew, WL.wSortSet, WL.wNever, WL.addW_int, WL.addW_tup, WL.addW_str, WL.subW_int, WL.mulW_int, WL.modW_int, WL.fdivW_int, WL.powW_int, WL.negW_int, WL.intW_int, WL.intW_bl, WL.absW, WL.CTg.on, WL.wipeW, WL.setsW, WL.optW_some, WL.wDisp, WL.wPairs, WL.eqW_str, WL.neW_str, WL.eqW_int, WL.neW_int, WL.eqW_bl, WL.neW_bl, WL.ixW_tupE, WL.slW_tupE, WL.sortTW_ref, WL.lenW_tupE, WL.tupW_tupE, WL.listW_tupE, WL.atI_0, WL.atI_1, WL.atI_2, WL.atI_3, WL.atI_4, WL.seqOn_tup, WL.enumOn_tup, List.set, if_true, if_false, Bool.false_eq_true, if_pos, List.length_nil, List.length_cons, Bool.not_true, Bool.not_false]
    have hge : 2 ^ t ≤ m := Nat.ge_two_pow_of_testBit hb
    refine ⟨isLs_of hp, by decide, by decide, ?_⟩
    rw [show ((m : Int) - ((2 ^ t : Nat) : Int)) = ((m - 2 ^ t : Nat) : Int) by rw [Int.natCast_sub hge]]
    refine app_lst hp (Nat.lt_of_le_of_lt hl (by decide)) ?_
    refine q _ _ _ (fun r u hn hu => by rw [updG_ne hn]; exact hu) ?_
    rw [updG_same]
    unfold movT
    rw [if_pos hb]; rfl
  · have hb : m.testBit t = false := by simpa using hb
    have h0 : m &&& 2 ^ t = 0 := by
      by_cases e : m &&& 2 ^ t = 0
      · exact e
      · rw [and_pow.mp e] at hb; cases hb
    rw [h0, decide_eq_true (show ((0 : Nat) : Int) = 0 from rfl)]
    simp only [WL.wSeq, WL.wSet, WL.wAsg, WL.wDrop, WL.wRet, WL.wRetN, WL.wIfS, WL.wBreak, WL.wCont, WL.wNext, WL.wV, WL.wC, WL.wOp, WL.wUn, WL.wNil, WL.wCons, WL.wApp, WL.wTest, WL.wChain, WL.wAndT, WL.wOrT, WL.wNotT, WL.wAnd, WL.wOr, WL.wNot, WL.wIf, WL.wTup, WL.wLst, WL.wCall, WL.wMake, WL.wFld, WL.wPutF, WL.wSl, WL.wPart, WL.wNoPart, WL.wRev, WL.wName, WL.wNames, WL.wSeqI, WL.wZip, WL.wRng3, WL.wRng1, WL.wRng2, WL.wEnum, WL.wLstRg, WL.wTupRg, WL.wR1, WL.wR2, WL.wCallD, WL.MdW, WL.wgSub, WL.one, WL.two, WL.lk, WL.isB_bl, WL.isI_int, WL.cmpI, WL.isNW, WL.notNW, WL.nonW, WL.wYes, WL.wLockE, WL.wLock, WL.wDNew, WL.wSortSet, WL.wNever, WL.addW_int, WL.addW_tup, WL.addW_str, WL.subW_int, WL.mulW_int, WL.modW_int, WL.fdivW_int, WL.powW_int, WL.negW_int, WL.intW_int, WL.intW_bl, WL.absW, WL.CTg.on, WL.wipeW, WL.setsW, WL.optW_some, WL.wDisp, WL.wPairs, WL.eqW_str, WL.neW_str, WL.eqW_int, WL.neW_int, WL.eqW_bl, WL.neW_bl, WL.ixW_tupE, WL.slW_tupE, WL.sortTW_ref, WL.lenW_tupE, WL.tupW_tupE, WL.listW_tupE, WL.atI_0, WL.atI_1, WL.atI_2, WL.atI_3, WL.atI_4, WL.seqOn_tup, WL.enumOn_tup, List.set, if_true, if_false, Bool.false_eq_true, if_pos, List.length_nil, List.length_cons, Bool.not_true, Bool.not_false]
    refine ixW_lst (i := t) hmk hmt ?_
    unfold nI
    show bandW (.int (m : Int)) (.int ((msk (rdOf rs t) : Nat) : Int)) _ _
    refine ⟨⟨Int.natCast_nonneg _, Int.natCast_nonneg _⟩, ?_⟩
    rw [Int.toNat_natCast, Int.toNat_natCast]
    refine ixW_lst (i := t) hmk hmt ?_
    unfold nI
    simp only [WL.wSeq, WL.wSet, WL.wAsg, WL.wDrop, WL.wRet, WL.wRetN, WL.wIfS, WL.wBreak, WL.wCont, WL.wNext, WL.wV, WL.wC, WL.wOp, WL.wUn, WL.wNil, WL.wCons, WL.wApp, WL.wTest, WL.wChain, WL.wAndT, WL.wOrT, WL.wNotT, WL.wAnd, WL.wOr, WL.wNot, WL.wIf, WL.wTup, WL.wLst, WL.wCall, WL.wMake, WL.wFld, WL.wPutF, WL.wSl, WL.wPart, WL.wNoPart, WL.wRev, WL.wName, WL.wNames, WL.wSeqI, WL.wZip, WL.wRng3, WL.wRng1, WL.wRng2, WL.wEnum, WL.wLstRg, WL.wTupRg, WL.wR1, WL.wR2, WL.wCallD, WL.MdW, WL.wgSub, WL.one, WL.two, WL.lk, WL.isB_bl, WL.isI_int, WL.cmpI, WL.isNW, WL.notNW, WL.nonW, WL.wYes, WL.wLockE, WL.wLock, WL.wDNew, WL.wSortSet, WL.wNever, WL.addW_int, WL.addW_tup, WL.addW_str, WL.subW_int, WL.mulW_int, WL.modW_int, WL.fdivW_int, WL.powW_int, WL.negW_int, WL.intW_int, WL.intW_bl, WL.absW, WL.CTg.on, WL.wipeW, WL.setsW, WL.optW_some, WL.wDisp, WL.wPairs, WL.eqW_str, WL.neW_str, WL.eqW_int, WL.neW_int, WL.eqW_bl, WL.neW_bl, WL.ixW_tupE, WL.slW_tupE, WL.sortTW_ref, WL.lenW_tupE, WL.tupW_tupE, WL.listW_tupE, WL.atI_0, WL.atI_1, WL.atI_2, WL.atI_3, WL.atI_4, WL.seqOn_tup, WL.enumOn_tup, List.set, if_true, if_false, Bool.false_eq_true, if_pos, List.length_nil, List.length_cons, Bool.not_true, Bool.not_false]
    by_cases hr : ∀ o ∈ rdOf rs t, m.testBit o = true
    · have h1 := (and_msk (rd_asc ok)).mpr hr
      rw [h1, decide_eq_true rfl]
      simp only [WL.wSeq, WL.wSet, WL.wAsg, WL.wDrop, WL.wRet, WL.wRetN, WL.wIfS, WL.wBreak, WL.wCont, WL.wNext, WL.wV, WL.wC, WL.wOp, WL.wUn, WL.wNil, WL.wCons, WL.wApp, WL.wTest, WL.wChain, WL.wAndT, WL.wOrT, WL.wNotT, WL.wAnd, WL.wOr, WL.wNot, WL.wIf, WL.wTup, WL.wLst, WL.wCall, WL.wMake, WL.wFld, WL.wPutF, WL.wSl, WL.wPart, WL.wNoPart, WL.wRev, WL.wName, WL.wNames, WL.wSeqI, WL.wZip, WL.wRng3, WL.wRng1, WL.wRng2, WL.wEnum, WL.wLstRg, WL.wTupRg, WL.wR1, WL.wR2, WL.wCallD, WL.MdW, WL.wgSub, WL.one, WL.two, WL.lk, WL.isB_bl, WL.isI_int, WL.cmpI, WL.isNW, WL.notNW, WL.nonW, WL.wYes, WL.wLockE, WL.wLock, WL.wDNew, WL.wSortSet, WL.wNever, WL.addW_int, WL.addW_tup, WL.addW_str, WL.subW_int, WL.mulW_int, WL.modW_int, WL.fdivW_int, WL.powW_int, WL.negW_int, WL.intW_int, WL.intW_bl, WL.absW, WL.CTg.on, WL.wipeW, WL.setsW, WL.optW_some, WL.wDisp, WL.wPairs, WL.eqW_str, WL.neW_str, WL.eqW_int, WL.neW_int, WL.eqW_bl, WL.neW_bl, WL.ixW_tupE, WL.slW_tupE, WL.sortTW_ref, WL.lenW_tupE, WL.tupW_tupE, WL.listW_tupE, WL.atI_0, WL.atI_1, WL.atI_2, WL.atI_3, WL.atI_4, WL.seqOn_tup, WL.enumOn_tup, List.set, if_true, if_false, Bool.false_eq_true, if_pos, List.length_nil, List.length_cons, Bool.not_true, Bool.not_false]
      refine ⟨isLs_of hp, by decide, by decide, ?_⟩
      rw [show ((m : Int) + ((2 ^ t : Nat) : Int)) = ((m + 2 ^ t : Nat) : Int) by rw [Int.natCast_add]]
      refine app_lst hp (Nat.lt_of_le_of_lt hl (by decide)) ?_
      exact tail hb hr _ _ (fun r u hn hu => by rw [updG_ne hn]; exact hu) updG_same
    · have h1 : ¬ m &&& msk (rdOf rs t) = msk (rdOf rs t) := fun e => hr ((and_msk (rd_asc ok)).mp e)
      rw [decide_eq_false (show ¬ (((m &&& msk (rdOf rs t) : Nat) : Int) = ((msk (rdOf rs t) : Nat) : Int)) from fun e => h1 (Int.ofNat.inj e))]
      simp only [WL.wSeq, WL.wSet, WL.wAsg, WL.wDrop, WL.wRet, WL.wRetN, WL.wIfS, WL.wBreak, WL.wCont, WL.wNext, WL.wV, WL.wC, WL.wOp, WL.wUn, WL.wNil, WL.wCons, WL.wApp, WL.wTest, WL.wChain, WL.wAndT, WL.wOrT, WL.wNotT, WL.wAnd, WL.wOr, WL.wNot, WL.wIf, WL.wTup, WL.wLst, WL.wCall, WL.wMake, WL.wFld, WL.wPutF, WL.wSl, WL.wPart, WL.wNoPart, WL.wRev, WL.wName, WL.wNames, WL.wSeqI, WL.wZip, WL.wRng3, WL.wRng1, WL.wRng2, WL.wEnum, WL.wLstRg, WL.wTupRg, WL.wR1, WL.wR2, WL.wCallD, WL.MdW, WL.wgSub, WL.one, WL.two, WL.lk, WL.isB_bl, WL.isI_int, WL.cmpI, WL.isNW, WL.notNW, WL.nonW, WL.wYes, WL.wLockE, WL.wLock, WL.wDNew, WL.wSortSet, WL.wNever, WL.addW_int, WL.addW_tup, WL.addW_str, WL.subW_int, WL.mulW_int, WL.modW_int, WL.fdivW_int, WL.powW_int, WL.negW_int, WL.intW_int, WL.intW_bl, WL.absW, WL.CTg.on, WL.wipeW, WL.setsW, WL.optW_some, WL.wDisp, WL.wPairs, WL.eqW_str, WL.neW_str, WL.eqW_int, WL.neW_int, WL.eqW_bl, WL.neW_bl, WL.ixW_tupE, WL.slW_tupE, WL.sortTW_ref, WL.lenW_tupE, WL.tupW_tupE, WL.listW_tupE, WL.atI_0, WL.atI_1, WL.atI_2, WL.atI_3, WL.atI_4, WL.seqOn_tup, WL.enumOn_tup, List.set, if_true, if_false, Bool.false_eq_true, if_pos, List.length_nil, List.length_cons, Bool.not_true, Bool.not_false]
      refine q _ _ G (fun r u _ h => h) ?_
      rw [hp]
      unfold movT
      rw [if_neg (by rw [hb]; exact Bool.false_ne_true), if_neg (fun e => hr (List.all_eq_true.mp e)), List.map_nil, List.append_nil]
end
theorem v_law_moves_from : ∀ ws G Q, S_law_moves_from ws G Q → rd_law_moves_from { nx := fun _ G' => Q .non G', rt := Q } (startW ["_law_reads", "_law_masks", "_law_held", "_law_apart", "_law_found", "_law_thing", "_law_bit", "_law_other"] ws) G := by
  rintro ws G Q ⟨rs, pm, m, apart, rfl, ok, hmk, hm, q⟩
  show (wSeq (wSet 4 (wLst wNil))
   (wSeq (wFor (wRng1 (wCons (wApp (one lenW) (wCons (wV 0) wNil)) wNil)) (wName 5) (tl_lm1 tl_lm0))
   (wRet (wV 4)))) _ [some (rdsW rs), some (.ref pm), some (nI m), some (.bl apart), none, none, none, none] G
  have loop : ∀ pf, G pf = none → (wSeq (wFor (wRng1 (wCons (wApp (one lenW) (wCons (wV 0) wNil)) wNil)) (wName 5) (tl_lm1 tl_lm0)) (wRet (wV 4))) { nx := fun _ G' => Q .non G', rt := Q } [some (rdsW rs), some (.ref pm), some (nI m), some (.bl apart), some (.ref pf), none, none, none] (updG G pf (.lst [])) := fun pf hpf => by
    have npm : pm ≠ pf := fun e => by rw [e, hpf] at hmk; cases hmk
    refine wFor_of (G1 := updG G pf (.lst [])) (items := rngW 0 rs.length) (stable := fun _ => True) (fun K hK => ?_)
      (fun i ρ G' => ∃ w5 w6 w7, ρ = [some (rdsW rs), some (.ref pm), some (nI m), some (.bl apart), some (.ref pf), w5, w6, w7] ∧ Ext G G' ∧ G' pf = some (.lst (((List.range i).flatMap (movT rs apart m)).map pairW)))
      ⟨none, none, none, rfl, .new hpf, updG_same⟩ (fun _ _ _ _ _ => trivial) ?_ ?_
    · unfold rdsW
      simp only [WL.wSeq, WL.wSet, WL.wAsg, WL.wDrop, WL.wRet, WL.wRetN, WL.wIfS, WL.wBreak, WL.wCont, WL.wNext, WL.wV, WL.wC, WL.wOp, WL.wUn, WL.wNil, WL.wCons, WL.wApp, WL.wTest, WL.wChain, WL.wAndT, WL.wOrT, WL.wNotT, WL.wAnd, WL.wOr, WL.wNot, WL.wIf, WL.wTup, WL.wLst, WL.wCall, WL.wMake, WL.wFld, WL.wPutF, WL.wSl, WL.wPart, WL.wNoPart, WL.wRev, WL.wName, WL.wNames, WL.wSeqI, WL.wZip, WL.wRng3, WL.wRng1, WL.wRng2, WL.wEnum, WL.wLstRg, WL.wTupRg, WL.wR1, WL.wR2, WL.wCallD, WL.MdW, WL.wgSub, WL.one, WL.two, WL.lk, WL.isB_bl, WL.isI_int, WL.cmpI, WL.isNW, WL.notNW, WL.nonW, WL.wYes, WL.wLockE, WL.wLock, WL.wDNew, WL.wSortSet, WL.wNever, WL.addW_int, WL.addW_tup, WL.addW_str, WL.subW_int, WL.mulW_int, WL.modW_int, WL.fdivW_int, WL.powW_int, WL.negW_int, WL.intW_int, WL.intW_bl, WL.absW, WL.CTg.on, WL.wipeW, WL.setsW, WL.optW_some, WL.wDisp, WL.wPairs, WL.eqW_str, WL.neW_str, WL.eqW_int, WL.neW_int, WL.eqW_bl, WL.neW_bl, WL.ixW_tupE, WL.slW_tupE, WL.sortTW_ref, WL.lenW_tupE, WL.tupW_tupE, WL.listW_tupE, WL.atI_0, WL.atI_1, WL.atI_2, WL.atI_3, WL.atI_4, WL.seqOn_tup, WL.enumOn_tup, List.set, if_true, if_false, Bool.false_eq_true, if_pos, List.length_nil, List.length_cons, Bool.not_true, Bool.not_false]
      rw [List.length_map]
      have := ok.ten
      exact ⟨by omega, by omega, hK⟩
    · rintro i w ρ G2 hw ⟨w5, w6, w7, rfl, e2, hp2⟩
      obtain ⟨hi, rfl⟩ := rng_at hw
      show tl_lm1 tl_lm0 _ (lmE rs pm m apart pf i w6 w7) G2
      have hlen := movTs_len ok (apart := apart) (m := m) i (by omega)
      have := ok.ten
      refine lm1 ok (e2 _ _ hmk) hi hp2 (by rw [List.length_map]; omega) rfl npm fun w6 w7 G3 e3 h3 => ⟨_, _, _, rfl, fun r u hu => e3 r u (fun e => by rw [e, hpf] at hu; cases hu) (e2 r u hu), ?_⟩
      rw [h3, List.range_succ, List.flatMap_append, List.map_append]
      congr 3
      simp [List.flatMap]
    · rintro ρ G2 ⟨w5, w6, w7, rfl, e2, hp2⟩
      rw [rngW_length] at hp2
      simp only [WL.wSeq, WL.wSet, WL.wAsg, WL.wDrop, WL.wRet, WL.wRetN, WL.wIfS, WL.wBreak, WL.wCont, WL.wNext, WL.wV, WL.wC, WL.wOp, WL.wUn, WL.wNil, WL.wCons, WL.wApp, WL.wTest, WL.wChain, WL.wAndT, WL.wOrT, WL.wNotT, WL.wAnd, WL.wOr, WL.wNot, WL.wIf, WL.wTup, WL.wLst, WL.wCall, WL.wMake, WL.wFld, WL.wPutF, WL.wSl, WL.wPart, WL.wNoPart, WL.wRev, WL.wName, WL.wNames, WL.wSeqI, WL.wZip, WL.wRng3, WL.wRng1, WL.wRng2, WL.wEnum, WL.wLstRg, WL.wTupRg, WL.wR1, WL.wR2, WL.wCallD, WL.MdW, WL.wgSub, WL.one, WL.two, WL.lk, WL.isB_bl, WL.isI_int, WL.cmpI, WL.isNW, WL.notNW, WL.nonW, WL.wYes, WL.wLockE, WL.wLock, WL.wDNew, WL.wSortSet, WL.wNever, WL.addW_int, WL.addW_tup, WL.addW_str, WL.subW_int, WL.mulW_int, WL.modW_int, WL.fdivW_int, WL.powW_int, WL.negW_int, WL.intW_int, WL.intW_bl, WL.absW, WL.CTg.on, WL.wipeW, WL.setsW, WL.optW_some, WL.wDisp, WL.wPairs, WL.eqW_str, WL.neW_str, WL.eqW_int, WL.neW_int, WL.eqW_bl, WL.neW_bl, WL.ixW_tupE, WL.slW_tupE, WL.sortTW_ref, WL.lenW_tupE, WL.tupW_tupE, WL.listW_tupE, WL.atI_0, WL.atI_1, WL.atI_2, WL.atI_3, WL.atI_4, WL.seqOn_tup, WL.enumOn_tup, List.set, if_true, if_false, Bool.false_eq_true, if_pos, List.length_nil, List.length_cons, Bool.not_true, Bool.not_false]
      exact q pf G2 e2 hpf hp2
  generalize (wSeq (wFor (wRng1 (wCons (wApp (one lenW) (wCons (wV 0) wNil)) wNil)) (wName 5) (tl_lm1 tl_lm0)) (wRet (wV 4))) = T at loop ⊢
  simp only [WL.wSeq, WL.wSet, WL.wAsg, WL.wDrop, WL.wRet, WL.wRetN, WL.wIfS, WL.wBreak, WL.wCont, WL.wNext, WL.wV, WL.wC, WL.wOp, WL.wUn, WL.wNil, WL.wCons, WL.wApp, WL.wTest, WL.wChain, WL.wAndT, WL.wOrT, WL.wNotT, WL.wAnd, WL.wOr, WL.wNot, WL.wIf, WL.wTup, WL.wLst, WL.wCall, WL.wMake, WL.wFld, WL.wPutF, WL.wSl, WL.wPart, WL.wNoPart, WL.wRev, WL.wName, WL.wNames, WL.wSeqI, WL.wZip, WL.wRng3, WL.wRng1, WL.wRng2, WL.wEnum, WL.wLstRg, WL.wTupRg, WL.wR1, WL.wR2, WL.wCallD, WL.MdW, WL.wgSub, WL.one, WL.two, WL.lk, WL.isB_bl, WL.isI_int, WL.cmpI, WL.isNW, WL.notNW, WL.nonW, WL.wYes, WL.wLockE, WL.wLock, WL.wDNew, WL.wSortSet, WL.wNever, WL.addW_int, WL.addW_tup, WL.addW_str, WL.subW_int, WL.mulW_int, WL.modW_int, WL.fdivW_int, WL.powW_int, WL.negW_int, WL.intW_int, WL.intW_bl, WL.absW, WL.CTg.on, WL.wipeW, WL.setsW, WL.optW_some, WL.wDisp, WL.wPairs, WL.eqW_str, WL.neW_str, WL.eqW_int, WL.neW_int, WL.eqW_bl, WL.neW_bl, WL.ixW_tupE, WL.slW_tupE, WL.sortTW_ref, WL.lenW_tupE, WL.tupW_tupE, WL.listW_tupE, WL.atI_0, WL.atI_1, WL.atI_2, WL.atI_3, WL.atI_4, WL.seqOn_tup, WL.enumOn_tup, List.set, if_true, if_false, Bool.false_eq_true, if_pos, List.length_nil, List.length_cons, Bool.not_true, Bool.not_false]
  exact ⟨by decide, fun pf hpf => loop pf hpf⟩
end K54
set_option Elab.async false
set_option linter.all false
set_option maxRecDepth 100000
set_option maxHeartbeats 1000000
set_option pp.maxSteps 400
/-! webs: what a search knows -/
namespace PR
section
variable {rs : List (List Nat)} {rooms : Nat} {apart : Bool}
/-- what is known: each thing held with the moves to it -/
structure Bk (rs : List (List Nat)) (rooms : Nat) (apart : Bool) (K : List (Nat × List Mv)) : Prop where
  nd : (K.map (·.1)).Nodup
  rch : ∀ x ∈ K, Reach rs rooms apart x.1
  len : ∀ x ∈ K, x.2.length < K.length
  zero : 0 ∈ K.map (·.1)
theorem Bk.first : Bk rs rooms apart [(0, [])] where
  nd := by simp
  rch := fun x hx => by rw [List.mem_singleton.mp hx]; exact .zero
  len := fun x hx => by rw [List.mem_singleton.mp hx]; exact Nat.one_pos
  zero := by simp
theorem Bk.lt {K : List (Nat × List Mv)} (ok : ReadsOk rs) (h : Bk rs rooms apart K) {m : Nat} (hm : m ∈ K.map (·.1)) : m < 2 ^ rs.length := by
  obtain ⟨x, hx, rfl⟩ := List.mem_map.mp hm
  exact (h.rch x hx).lt ok
theorem Bk.le {K : List (Nat × List Mv)} (ok : ReadsOk rs) (h : Bk rs rooms apart K) : K.length ≤ 2 ^ rs.length := by
  have := nodup_lt h.nd fun x hx => h.lt ok hx
  rw [List.length_map] at this
  exact this
theorem Bk.k10 {K : List (Nat × List Mv)} (ok : ReadsOk rs) (h : Bk rs rooms apart K) : K.length ≤ 1024 :=
  Nat.le_trans (h.le ok) (Nat.le_trans (Nat.pow_le_pow_right (by decide) ok.ten) (by decide))
theorem Bk.add {K : List (Nat × List Mv)} (h : Bk rs rooms apart K) {m k : Nat} {sc : List Mv} {mv : Mv} (hm : (m, sc) ∈ K) (s : Nx rs apart m k) (hr : popc rs.length k ≤ rooms) (hk : k ∉ K.map (·.1)) : Bk rs rooms apart (K ++ [(k, sc ++ [mv])]) where
  nd := by
    rw [List.map_append]
    refine List.nodup_append.mpr ⟨h.nd, by simp, fun a ha b hb => ?_⟩
    have : b = k := by simpa using hb
    rw [this]
    rintro rfl
    exact hk ha
  rch := fun x hx => by
    rcases List.mem_append.mp hx with hx | hx
    · exact h.rch x hx
    · rw [List.mem_singleton.mp hx]
      exact .step (h.rch _ hm) s hr
  len := fun x hx => by
    rw [List.length_append]
    rcases List.mem_append.mp hx with hx | hx
    · have := h.len x hx
      show _ < _ + 1
      omega
    · rw [List.mem_singleton.mp hx]
      have : sc.length < K.length := h.len _ hm
      show (sc ++ [mv]).length < K.length + 1
      rw [List.length_append]
      show sc.length + 1 < _
      omega
  zero := by rw [List.map_append]; exact List.mem_append_left _ h.zero
/-- all that follows from m is known -/
noncomputable def Clo (rs : List (List Nat)) (rooms : Nat) (apart : Bool) (ks : List Nat) (m : Nat) : Prop := ∀ k, Nx rs apart m k → popc rs.length k ≤ rooms → k ∈ ks
theorem Clo.mono {ks ks' : List Nat} {m : Nat} (h : Clo rs rooms apart ks m) (s : ∀ k ∈ ks, k ∈ ks') : Clo rs rooms apart ks' m := fun k h1 h2 => s k (h k h1 h2)
theorem all_known {ks : List Nat} (h0 : 0 ∈ ks) (h : ∀ m ∈ ks, Clo rs rooms apart ks m) {m : Nat} (r : Reach rs rooms apart m) : m ∈ ks := by
  induction r with
  | zero => exact h0
  | step r s hr ih => exact h _ ih _ s hr
theorem no_win {ks : List Nat} (h0 : 0 ∈ ks) (h : ∀ m ∈ ks, goalB rs m = false ∧ Clo rs rooms apart ks m) : ¬ Win rs rooms apart := fun ⟨m, r, g⟩ => by
  have := (h m (all_known h0 (fun m hm => (h m hm).2) r)).1
  rw [g] at this; cases this
theorem clo_of {ks : List Nat} {m : Nat} (h : ∀ x ∈ movL rs apart m, popc rs.length x.2 ≤ rooms → x.2 ∈ ks) : Clo rs rooms apart ks m := fun k s hr => by
  obtain ⟨mv, hm⟩ := mov_nx.mpr s
  exact h _ hm hr
end
end PR
set_option Elab.async false
set_option linter.all false
set_option maxRecDepth 100000
set_option maxHeartbeats 1000000
set_option pp.maxSteps 400
namespace K54
open PySem PySem.Spec PyProof.Rows L2 WL PR
/-! ### the law's search -/
noncomputable def dcK (K : List (Nat × List Mv)) : List (Key × W) := K.map fun x => ((Sum.inl (x.1 : Int) : Key), W.tup (x.2.map mvW))
theorem dcK_val (K : List (Nat × List Mv)) (k : Nat) : valW (dcK K) (Sum.inl (k : Int) : Key) = (K.find? fun x => decide (x.1 = k)).map fun x => W.tup (x.2.map mvW) := by
  unfold valW dcK
  induction K with
  | nil => rfl
  | cons x K ih =>
    rw [List.map_cons, List.find?_cons, List.find?_cons]
    by_cases e : x.1 = k
    · rw [decide_eq_true (show (Sum.inl (x.1 : Int) : Key) = Sum.inl (k : Int) by rw [e]), decide_eq_true e]; rfl
    · rw [decide_eq_false (show ¬ (Sum.inl (x.1 : Int) : Key) = Sum.inl (k : Int) from fun h => e (Int.ofNat.inj (Sum.inl.inj h))), decide_eq_false e]; exact ih
theorem dcK_some (K : List (Nat × List Mv)) (k : Nat) : (valW (dcK K) (Sum.inl (k : Int) : Key)).isSome = decide (k ∈ K.map (·.1)) := by
  rw [dcK_val, Option.isSome_map]
  by_cases h : k ∈ K.map (·.1)
  · rw [decide_eq_true h, List.find?_isSome]
    obtain ⟨x, hx, e⟩ := List.mem_map.mp h
    exact ⟨x, hx, decide_eq_true e⟩
  · rw [decide_eq_false h, Option.isSome_eq_false_iff, Option.isNone_iff_eq_none, List.find?_eq_none]
    intro x hx e
    exact h (List.mem_map.mpr ⟨x, hx, of_decide_eq_true e⟩)
theorem dcK_at {K : List (Nat × List Mv)} {k : Nat} (h : k ∈ K.map (·.1)) : ∃ sc, (k, sc) ∈ K ∧ valW (dcK K) (Sum.inl (k : Int) : Key) = some (W.tup (sc.map mvW)) := by
  rw [dcK_val]
  cases e : K.find? fun x => decide (x.1 = k) with
  | none =>
    obtain ⟨x, hx, ex⟩ := List.mem_map.mp h
    exact absurd (decide_eq_true ex) (List.find?_eq_none.mp e x hx)
  | some x =>
    have h1 := List.mem_of_find?_eq_some e
    have h2 : x.1 = k := of_decide_eq_true (List.find?_some (p := fun x : Nat × List Mv => decide (x.1 = k)) e)
    exact ⟨x.2, by rw [← h2]; exact h1, rfl⟩
theorem dcK_put {K : List (Nat × List Mv)} {k : Nat} {sc : List Mv} (h : k ∉ K.map (·.1)) : putW (dcK K) (Sum.inl (k : Int) : Key) (W.tup (sc.map mvW)) = dcK (K ++ [(k, sc)]) := by
  unfold putW
  rw [dcK_some, decide_eq_false h, if_neg Bool.false_ne_true]
  unfold dcK
  rw [List.map_append]; rfl
theorem dcK_len (K : List (Nat × List Mv)) : (dcK K).length = K.length := by unfold dcK; rw [List.length_map]
noncomputable def S_law_fewest : WSp := fun ws G Q => ∃ (rs : List (List Nat)) (rooms : Nat) (apart : Bool), ws = [rdsW rs, nI rooms, .bl apart, .int 0] ∧ ReadsOk rs ∧ ∀ w G', Ext G G' → ((Win rs rooms apart ∧ ∃ l, w = .tup l) ∨ (¬ Win rs rooms apart ∧ w = .non)) → Q w G'
/-- the innermost turn -/
noncomputable def tl_lf3 : WTS := (wIfS (wAndT (wTest (wOp (inW true) (wV 12) (wV 7))) (wTest (wOp leW (wOp ixW (wV 5) (wV 12)) (wV 1))))
 (wSeq (wAsg (wOp addW (wOp ixW (wV 7) (wV 9)) (wTup (wCons (wV 11) wNil))) (wgSub (wV 7) (wV 12)))
 (wDrop (MdW appendW isLs (wV 10) (wCons (wV 12) wNil))))
 wNext)
noncomputable def tl_lf2 (B : WTS) : WTS := (wFor (wSeqI (wCall S_law_moves_from (wCons (wV 0) (wCons (wV 4) (wCons (wV 9) (wCons (wV 2) wNil)))))) (wNames [11, 12]) B)
noncomputable def tl_lf1 : WTS := (wIfS (wTest (wOp neW (wOp bandW (wV 9) (wV 6)) (wC (.int 0))))
 (wRet (wOp ixW (wV 7) (wV 9)))
 wNext)
section
variable {rs : List (List Nat)} {rooms : Nat} {apart : Bool} {pm pc pd pl pn : Addr} {m : Nat} {G : WHp} {E : WEnds} {w8 w9 w10 w11 w12 : Option W} {K : List (Nat × List Mv)} {later : List Nat}
noncomputable def lfE (rs : List (List Nat)) (rooms : Nat) (apart : Bool) (pm pc pd : Addr) (w8 w9 w10 w11 w12 : Option W) : WEnv := [some (rdsW rs), some (nI rooms), some (.bl apart), some (.int 0), some (.ref pm), some (.ref pc), some (nI (2 ^ (rs.length - 1))), some (.ref pd), w8, w9, w10, w11, w12]
theorem lf3 {x : Mv × Nat} (ok : ReadsOk rs) (bk : Bk rs rooms apart K) (hm : m ∈ K.map (·.1)) (hx : x ∈ movL rs apart m) (hc : G pc = some (.lst ((cntL rs.length).map nI))) (hd : G pd = some (.dct (dcK K))) (hn : G pn = some (.lst (later.map nI))) (hl : later.length ≤ K.length) (nd : pd ≠ pn)
    (q : ∀ K' later' G', Bk rs rooms apart K' → (∃ more, K'.map (·.1) = K.map (·.1) ++ more ∧ later' = later ++ more) → (popc rs.length x.2 ≤ rooms → x.2 ∈ K'.map (·.1)) → (∀ r u, r ≠ pd → r ≠ pn → G r = some u → G' r = some u) → G' pd = some (.dct (dcK K')) → G' pn = some (.lst (later'.map nI)) →
      E.nx (lfE rs rooms apart pm pc pd w8 (some (nI m)) (some (.ref pn)) (some (mvW x.1)) (some (nI x.2))) G') :
    tl_lf3 E (lfE rs rooms apart pm pc pd w8 (some (nI m)) (some (.ref pn)) (some (mvW x.1)) (some (nI x.2))) G := by
  have hs : Nx rs apart m x.2 := mov_nx.mp ⟨x.1, hx⟩
  have hlt := hs.lt ok (bk.lt ok hm)
  have h10 := bk.k10 ok
  unfold tl_lf3
  unfold lfE nI at q ⊢
  simp only [WL.wSeq, WL.wSet, WL.wAsg, WL.wDrop, WL.wRet, WL.wRetN, WL.wIfS, WL.wBreak, WL.wCont, WL.wNext, WL.wV, WL.wC, WL.wOp, WL.wUn, WL.wNil, WL.wCons, WL.wApp, WL.wTest, WL.wChain, WL.wAndT, WL.wOrT, WL.wNotT, WL.wAnd, WL.wOr, WL.wNot, WL.wIf, WL.wTup, WL.wLst, WL.wCall, WL.wMake, WL.wFld, WL.wPutF, WL.wSl, WL.wPart, WL.wNoPart, WL.wRev, WL.wName, WL.wNames, WL.wSeqI, WL.wZip, WL.wRng3, WL.wRng1, WL.wRng2, WL.wEnum, WL.wLstRg, WL.wTupRg, WL.wR1, WL.wR2, WL.wCallD, WL.MdW, WL.wgSub, WL.one, WL.two, WL.lk, WL.isB_bl, WL.isI_int, WL.cmpI, WL.isNW, WL.notNW, WL.nonW, WL.wYes, WL.wLockE, WL.wLock, WL.wDNew, WL.wSortSet, WL.wNever, WL.addW_int, WL.addW_tup, WL.addW_str, WL.subW_int, WL.mulW_int, WL.modW_int, WL.fdivW_int, WL.powW_int, WL.negW_int, WL.intW_int, WL.intW_bl, WL.absW, WL.CTg.on, WL.wipeW, WL.setsW, WL.optW_some, WL.wDisp, WL.wPairs, WL.eqW_str, WL.neW_str, WL.eqW_int, WL.neW_int, WL.eqW_bl, WL.neW_bl, WL.ixW_tupE, WL.slW_tupE, WL.sortTW_ref, WL.lenW_tupE, WL.tupW_tupE, WL.listW_tupE, WL.atI_0, WL.atI_1, WL.atI_2, WL.atI_3, WL.atI_4, WL.seqOn_tup, WL.enumOn_tup, List.set, if_true, if_false, Bool.false_eq_true, if_pos, List.length_nil, List.length_cons, Bool.not_true, Bool.not_false]
  refine notin_dct hd ?_
  rw [dcK_some]
  by_cases hk : x.2 ∈ K.map (·.1)
  · rw [decide_eq_true hk]
    simp only [WL.wSeq, WL.wSet, WL.wAsg, WL.wDrop, WL.wRet, WL.wRetN, WL.wIfS, WL.wBreak, WL.wCont, WL.wNext, WL.wV, WL.wC, WL.wOp, WL.wUn, WL.wNil, WL.wCons, WL.wApp, WL.wTest, WL.wChain, WL.wAndT, WL.wOrT, WL.wNotT, WL.wAnd, WL.wOr, WL.wNot, WL.wIf, WL.wTup, WL.wLst, WL.wCall, WL.wMake, WL.wFld, WL.wPutF, WL.wSl, WL.wPart, WL.wNoPart, WL.wRev, WL.wName, WL.wNames, WL.wSeqI, WL.wZip, WL.wRng3, WL.wRng1, WL.wRng2, WL.wEnum, WL.wLstRg, WL.wTupRg, WL.wR1, WL.wR2, WL.wCallD, WL.MdW, WL.wgSub, WL.one, WL.two, WL.lk, WL.isB_bl, WL.isI_int, WL.cmpI, WL.isNW, WL.notNW, WL.nonW, WL.wYes, WL.wLockE, WL.wLock, WL.wDNew, WL.wSortSet, WL.wNever, WL.addW_int, WL.addW_tup, WL.addW_str, WL.subW_int, WL.mulW_int, WL.modW_int, WL.fdivW_int, WL.powW_int, WL.negW_int, WL.intW_int, WL.intW_bl, WL.absW, WL.CTg.on, WL.wipeW, WL.setsW, WL.optW_some, WL.wDisp, WL.wPairs, WL.eqW_str, WL.neW_str, WL.eqW_int, WL.neW_int, WL.eqW_bl, WL.neW_bl, WL.ixW_tupE, WL.slW_tupE, WL.sortTW_ref, WL.lenW_tupE, WL.tupW_tupE, WL.listW_tupE, WL.atI_0, WL.atI_1, WL.atI_2, WL.atI_3, WL.atI_4, WL.seqOn_tup, WL.enumOn_tup, List.set, if_true, if_false, Bool.false_eq_true, if_pos, List.length_nil, List.length_cons, Bool.not_true, Bool.not_false]
    exact q K later G bk ⟨[], by simp, by simp⟩ (fun _ => hk) (fun r u _ _ h => h) hd hn
  · rw [decide_eq_false hk]
    simp only [WL.wSeq, WL.wSet, WL.wAsg, WL.wDrop, WL.wRet, WL.wRetN, WL.wIfS, WL.wBreak, WL.wCont, WL.wNext, WL.wV, WL.wC, WL.wOp, WL.wUn, WL.wNil, WL.wCons, WL.wApp, WL.wTest, WL.wChain, WL.wAndT, WL.wOrT, WL.wNotT, WL.wAnd, WL.wOr, WL.wNot, WL.wIf, WL.wTup, WL.wLst, WL.wCall, WL.wMake, WL.wFld, WL.wPutF, WL.wSl, WL.wPart, WL.wNoPart, WL.wRev, WL.wName, WL.wNames, WL.wSeqI, WL.wZip, WL.wRng3, WL.wRng1, WL.wRng2, WL.wEnum, WL.wLstRg, WL.wTupRg, WL.wR1, WL.wR2, WL.wCallD, WL.MdW, WL.wgSub, WL.one, WL.two, WL.lk, WL.isB_bl, WL.isI_int, WL.cmpI, WL.isNW, WL.notNW, WL.nonW, WL.wYes, WL.wLockE, WL.wLock, WL.wDNew, WL.wSortSet, WL.wNever, WL.addW_int, WL.addW_tup, WL.addW_str, WL.subW_int, WL.mulW_int, WL.modW_int, WL.fdivW_int, WL.powW_int, WL.negW_int, WL.intW_int, WL.intW_bl, WL.absW, WL.CTg.on, WL.wipeW, WL.setsW, WL.optW_some, WL.wDisp, WL.wPairs, WL.eqW_str, WL.neW_str, WL.eqW_int, WL.neW_int, WL.eqW_bl, WL.neW_bl, WL.ixW_tupE, WL.slW_tupE, WL.sortTW_ref, WL.lenW_tupE, WL.tupW_tupE, WL.listW_tupE, WL.atI_0, WL.atI_1, WL.atI_2, WL.atI_3, WL.atI_4, WL.seqOn_tup, WL.enumOn_tup, List.set, if_true, if_false, Bool.false_eq_true, if_pos, List.length_nil, List.length_cons, Bool.not_true, Bool.not_false]
    refine ixW_lst (i := x.2) hc (w := nI (popc rs.length x.2)) (by rw [List.getElem?_map, cnt_get _ _ hlt]; rfl) ?_
    unfold nI
    simp only [WL.wSeq, WL.wSet, WL.wAsg, WL.wDrop, WL.wRet, WL.wRetN, WL.wIfS, WL.wBreak, WL.wCont, WL.wNext, WL.wV, WL.wC, WL.wOp, WL.wUn, WL.wNil, WL.wCons, WL.wApp, WL.wTest, WL.wChain, WL.wAndT, WL.wOrT, WL.wNotT, WL.wAnd, WL.wOr, WL.wNot, WL.wIf, WL.wTup, WL.wLst, WL.wCall, WL.wMake, WL.wFld, WL.wPutF, WL.wSl, WL.wPart, WL.wNoPart, WL.wRev, WL.wName, WL.wNames, WL.wSeqI, WL.wZip, WL.wRng3, WL.wRng1, WL.wRng2, WL.wEnum, WL.wLstRg, WL.wTupRg, WL.wR1, WL.wR2, WL.wCallD, WL.MdW, WL.wgSub, WL.one, WL.two, WL.lk, WL.isB_bl, WL.isI_int, WL.cmpI, WL.isNW, WL.notNW, WL.nonW, WL.wYes, WL.wLockE, WL.wLock, WL.wDNew, WL.wSortSet, WL.wNever, WL.addW_int, WL.addW_tup, WL.addW_str, WL.subW_int, WL.mulW_int, WL.modW_int, WL.fdivW_int, WL.powW_int, WL.negW_int, WL.intW_int, WL.intW_bl, WL.absW, WL.CTg.on, WL.wipeW, WL.setsW, WL.optW_some, WL.wDisp, WL.wPairs, WL.eqW_str, WL.neW_str, WL.eqW_int, WL.neW_int, WL.eqW_bl, WL.neW_bl, WL.ixW_tupE, WL.slW_tupE, WL.sortTW_ref, WL.lenW_tupE, WL.tupW_tupE, WL.listW_tupE, WL.atI_0, WL.atI_1, WL.atI_2, WL.atI_3, WL.atI_4, WL.seqOn_tup, WL.enumOn_tup, List.set, if_true, if_false, Bool.false_eq_true, if_pos, List.length_nil, List.length_cons, Bool.not_true, Bool.not_false]
    by_cases hp : popc rs.length x.2 ≤ rooms
    · rw [decide_eq_true (show ((popc rs.length x.2 : Nat) : Int) ≤ (rooms : Int) by omega)]
      simp only [WL.wSeq, WL.wSet, WL.wAsg, WL.wDrop, WL.wRet, WL.wRetN, WL.wIfS, WL.wBreak, WL.wCont, WL.wNext, WL.wV, WL.wC, WL.wOp, WL.wUn, WL.wNil, WL.wCons, WL.wApp, WL.wTest, WL.wChain, WL.wAndT, WL.wOrT, WL.wNotT, WL.wAnd, WL.wOr, WL.wNot, WL.wIf, WL.wTup, WL.wLst, WL.wCall, WL.wMake, WL.wFld, WL.wPutF, WL.wSl, WL.wPart, WL.wNoPart, WL.wRev, WL.wName, WL.wNames, WL.wSeqI, WL.wZip, WL.wRng3, WL.wRng1, WL.wRng2, WL.wEnum, WL.wLstRg, WL.wTupRg, WL.wR1, WL.wR2, WL.wCallD, WL.MdW, WL.wgSub, WL.one, WL.two, WL.lk, WL.isB_bl, WL.isI_int, WL.cmpI, WL.isNW, WL.notNW, WL.nonW, WL.wYes, WL.wLockE, WL.wLock, WL.wDNew, WL.wSortSet, WL.wNever, WL.addW_int, WL.addW_tup, WL.addW_str, WL.subW_int, WL.mulW_int, WL.modW_int, WL.fdivW_int, WL.powW_int, WL.negW_int, WL.intW_int, WL.intW_bl, WL.absW, WL.CTg.on, WL.wipeW, WL.setsW, WL.optW_some, WL.wDisp, WL.wPairs, WL.eqW_str, WL.neW_str, WL.eqW_int, WL.neW_int, WL.eqW_bl, WL.neW_bl, WL.ixW_tupE, WL.slW_tupE, WL.sortTW_ref, WL.lenW_tupE, WL.tupW_tupE, WL.listW_tupE, WL.atI_0, WL.atI_1, WL.atI_2, WL.atI_3, WL.atI_4, WL.seqOn_tup, WL.enumOn_tup, List.set, if_true, if_false, Bool.false_eq_true, if_pos, List.length_nil, List.length_cons, Bool.not_true, Bool.not_false]
      obtain ⟨sc, hsc, hv⟩ := dcK_at hm
      have hsl := bk.len _ hsc
      refine ixW_dct hd hv ?_
      simp only [WL.wSeq, WL.wSet, WL.wAsg, WL.wDrop, WL.wRet, WL.wRetN, WL.wIfS, WL.wBreak, WL.wCont, WL.wNext, WL.wV, WL.wC, WL.wOp, WL.wUn, WL.wNil, WL.wCons, WL.wApp, WL.wTest, WL.wChain, WL.wAndT, WL.wOrT, WL.wNotT, WL.wAnd, WL.wOr, WL.wNot, WL.wIf, WL.wTup, WL.wLst, WL.wCall, WL.wMake, WL.wFld, WL.wPutF, WL.wSl, WL.wPart, WL.wNoPart, WL.wRev, WL.wName, WL.wNames, WL.wSeqI, WL.wZip, WL.wRng3, WL.wRng1, WL.wRng2, WL.wEnum, WL.wLstRg, WL.wTupRg, WL.wR1, WL.wR2, WL.wCallD, WL.MdW, WL.wgSub, WL.one, WL.two, WL.lk, WL.isB_bl, WL.isI_int, WL.cmpI, WL.isNW, WL.notNW, WL.nonW, WL.wYes, WL.wLockE, WL.wLock, WL.wDNew, WL.wSortSet, WL.wNever, WL.addW_int, WL.addW_tup, WL.addW_str, WL.subW_int, WL.mulW_int, WL.modW_int, WL.fdivW_int, WL.powW_int, WL.negW_int, WL.intW_int, WL.intW_bl, WL.absW, WL.CTg.on, WL.wipeW, WL.setsW, WL.optW_some, WL.wDisp, WL.wPairs, WL.eqW_str, WL.neW_str, WL.eqW_int, WL.neW_int, WL.eqW_bl, WL.neW_bl, WL.ixW_tupE, WL.slW_tupE, WL.sortTW_ref, WL.lenW_tupE, WL.tupW_tupE, WL.listW_tupE, WL.atI_0, WL.atI_1, WL.atI_2, WL.atI_3, WL.atI_4, WL.seqOn_tup, WL.enumOn_tup, List.set, if_true, if_false, Bool.false_eq_true, if_pos, List.length_nil, List.length_cons, Bool.not_true, Bool.not_false]
      refine ⟨by decide, by rw [List.length_map]; exact Nat.le_trans (show _ ≤ 1025 by show sc.length + 1 ≤ 1025; have : sc.length < K.length := hsl; omega) (by decide), ?_⟩
      have e : sc.map mvW ++ [mvW x.1] = (sc ++ [x.1]).map mvW := by rw [List.map_append]; rfl
      rw [e]
      refine put_dct hd (by rw [dcK_len]; exact Nat.lt_of_le_of_lt h10 (by decide)) ?_
      rw [dcK_put hk]
      refine ⟨isLs_of (by rw [updG_ne (Ne.symm nd)]; exact hn), ?_⟩
      refine app_lst (by rw [updG_ne (Ne.symm nd)]; exact hn) (by rw [List.length_map]; exact Nat.lt_of_le_of_lt (show _ ≤ 1024 by omega) (by decide)) ?_
      refine q _ (later ++ [x.2]) _ (bk.add hsc hs hp hk) ⟨[x.2], by rw [List.map_append]; rfl, rfl⟩ (fun _ => by rw [List.map_append]; exact List.mem_append_right _ (by simp)) (fun r u h1 h2 hu => by rw [updG_ne h2, updG_ne h1]; exact hu) (by rw [updG_ne nd, updG_same]) (by rw [updG_same, List.map_append]; rfl)
    · rw [decide_eq_false (show ¬ ((popc rs.length x.2 : Nat) : Int) ≤ (rooms : Int) by omega)]
      simp only [WL.wSeq, WL.wSet, WL.wAsg, WL.wDrop, WL.wRet, WL.wRetN, WL.wIfS, WL.wBreak, WL.wCont, WL.wNext, WL.wV, WL.wC, WL.wOp, WL.wUn, WL.wNil, WL.wCons, WL.wApp, WL.wTest, WL.wChain, WL.wAndT, WL.wOrT, WL.wNotT, WL.wAnd, WL.wOr, WL.wNot, WL.wIf, WL.wTup, WL.wLst, WL.wCall, WL.wMake, WL.wFld, WL.wPutF, WL.wSl, WL.wPart, WL.wNoPart, WL.wRev, WL.wName, WL.wNames, WL.wSeqI, WL.wZip, WL.wRng3, WL.wRng1, WL.wRng2, WL.wEnum, WL.wLstRg, WL.wTupRg, WL.wR1, WL.wR2, WL.wCallD, WL.MdW, WL.wgSub, WL.one, WL.two, WL.lk, WL.isB_bl, WL.isI_int, WL.cmpI, WL.isNW, WL.notNW, WL.nonW, WL.wYes, WL.wLockE, WL.wLock, WL.wDNew, WL.wSortSet, WL.wNever, WL.addW_int, WL.addW_tup, WL.addW_str, WL.subW_int, WL.mulW_int, WL.modW_int, WL.fdivW_int, WL.powW_int, WL.negW_int, WL.intW_int, WL.intW_bl, WL.absW, WL.CTg.on, WL.wipeW, WL.setsW, WL.optW_some, WL.wDisp, WL.wPairs, WL.eqW_str, WL.neW_str, WL.eqW_int, WL.neW_int, WL.eqW_bl, WL.neW_bl, WL.ixW_tupE, WL.slW_tupE, WL.sortTW_ref, WL.lenW_tupE, WL.tupW_tupE, WL.listW_tupE, WL.atI_0, WL.atI_1, WL.atI_2, WL.atI_3, WL.atI_4, WL.seqOn_tup, WL.enumOn_tup, List.set, if_true, if_false, Bool.false_eq_true, if_pos, List.length_nil, List.length_cons, Bool.not_true, Bool.not_false]
      exact q K later G bk ⟨[], by simp, by simp⟩ (fun h => absurd h hp) (fun r u _ _ h => h) hd hn
theorem lf2 (ok : ReadsOk rs) (bk : Bk rs rooms apart K) (hm : m ∈ K.map (·.1)) (hmk : G pm = some (.lst (rs.map fun l => nI (msk l)))) (hc : G pc = some (.lst ((cntL rs.length).map nI))) (hd : G pd = some (.dct (dcK K))) (hn : G pn = some (.lst (later.map nI))) (hl : later.length ≤ K.length) (nd : pd ≠ pn) (ncd : pc ≠ pd) (ncn : pc ≠ pn)
    (q : ∀ K' later' w11 w12 G', Bk rs rooms apart K' → (∃ more, K'.map (·.1) = K.map (·.1) ++ more ∧ later' = later ++ more) → Clo rs rooms apart (K'.map (·.1)) m → (∀ r u, r ≠ pd → r ≠ pn → G r = some u → G' r = some u) → G' pd = some (.dct (dcK K')) → G' pn = some (.lst (later'.map nI)) →
      E.nx (lfE rs rooms apart pm pc pd w8 (some (nI m)) (some (.ref pn)) w11 w12) G') :
    tl_lf2 tl_lf3 E (lfE rs rooms apart pm pc pd w8 (some (nI m)) (some (.ref pn)) w11 w12) G := by
  unfold tl_lf2
  refine wFor_P (fun items stable G1 => ∃ r, items = (movL rs apart m).map pairW ∧ Ext G G1 ∧ G r = none ∧ G1 r = some (.lst ((movL rs apart m).map pairW)) ∧ ∀ G2, G2 r = some (.lst ((movL rs apart m).map pairW)) → stable G2) (fun R hR => ?_) ?_
  · unfold lfE
    simp only [WL.wSeq, WL.wSet, WL.wAsg, WL.wDrop, WL.wRet, WL.wRetN, WL.wIfS, WL.wBreak, WL.wCont, WL.wNext, WL.wV, WL.wC, WL.wOp, WL.wUn, WL.wNil, WL.wCons, WL.wApp, WL.wTest, WL.wChain, WL.wAndT, WL.wOrT, WL.wNotT, WL.wAnd, WL.wOr, WL.wNot, WL.wIf, WL.wTup, WL.wLst, WL.wCall, WL.wMake, WL.wFld, WL.wPutF, WL.wSl, WL.wPart, WL.wNoPart, WL.wRev, WL.wName, WL.wNames, WL.wSeqI, WL.wZip, WL.wRng3, WL.wRng1, WL.wRng2, WL.wEnum, WL.wLstRg, WL.wTupRg, WL.wR1, WL.wR2, WL.wCallD, WL.MdW, WL.wgSub, WL.one, WL.two, WL.lk, WL.isB_bl, WL.isI_int, WL.cmpI, WL.isNW, WL.notNW, WL.nonW, WL.wYes, WL.wLockE, WL.wLock, WL.wDNew, WL.wSortSet, WL.wNever, WL.addW_int, WL.addW_tup, WL.addW_str, WL.subW_int, WL.mulW_int, WL.modW_int, WL.fdivW_int, WL.powW_int, WL.negW_int, WL.intW_int, WL.intW_bl, WL.absW, WL.CTg.on, WL.wipeW, WL.setsW, WL.optW_some, WL.wDisp, WL.wPairs, WL.eqW_str, WL.neW_str, WL.eqW_int, WL.neW_int, WL.eqW_bl, WL.neW_bl, WL.ixW_tupE, WL.slW_tupE, WL.sortTW_ref, WL.lenW_tupE, WL.tupW_tupE, WL.listW_tupE, WL.atI_0, WL.atI_1, WL.atI_2, WL.atI_3, WL.atI_4, WL.seqOn_tup, WL.enumOn_tup, List.set, if_true, if_false, Bool.false_eq_true, if_pos, List.length_nil, List.length_cons, Bool.not_true, Bool.not_false]
    refine ⟨rs, pm, m, apart, rfl, ok, hmk, bk.lt ok hm, fun r G1 e1 hr h1 => ?_⟩
    unfold seqOn
    simp only [h1]
    exact hR _ _ _ ⟨r, rfl, e1, hr, h1, fun G2 h => .inl h⟩
  · rintro items stable G1 ⟨r, rfl, e1, hr, h1, hs⟩
    have nrd : r ≠ pd := fun e => by rw [e, hd] at hr; cases hr
    have nrn : r ≠ pn := fun e => by rw [e, hn] at hr; cases hr
    refine ⟨fun i ρ G' => ∃ K' later' w11 w12, ρ = lfE rs rooms apart pm pc pd w8 (some (nI m)) (some (.ref pn)) w11 w12 ∧ Bk rs rooms apart K' ∧ (∃ more, K'.map (·.1) = K.map (·.1) ++ more ∧ later' = later ++ more) ∧ (∀ x ∈ (movL rs apart m).take i, popc rs.length x.2 ≤ rooms → x.2 ∈ K'.map (·.1)) ∧ (∀ r u, r ≠ pd → r ≠ pn → G1 r = some u → G' r = some u) ∧ G' pd = some (.dct (dcK K')) ∧ G' pn = some (.lst (later'.map nI)),
      ⟨K, later, _, _, rfl, bk, ⟨[], by simp, by simp⟩, fun x hx => (by simp at hx), fun r u _ _ h => h, e1 _ _ hd, e1 _ _ hn⟩, fun i ρ G' _ ⟨_, _, _, _, _, _, _, _, k, _⟩ => hs G' (k r _ nrd nrn h1), ?_, ?_⟩
    · rintro i w ρ G2 hw ⟨K', later', w11, w12, rfl, bk', ⟨more, em, el⟩, hk, k2, hd2, hn2⟩
      rw [List.getElem?_map] at hw
      cases hx : (movL rs apart m)[i]? with
      | none => rw [hx] at hw; cases hw
      | some x =>
        rw [hx] at hw
        have hw := (Option.some.inj hw).symm
        subst hw
        unfold lfE pairW
        simp only [WL.wSeq, WL.wSet, WL.wAsg, WL.wDrop, WL.wRet, WL.wRetN, WL.wIfS, WL.wBreak, WL.wCont, WL.wNext, WL.wV, WL.wC, WL.wOp, WL.wUn, WL.wNil, WL.wCons, WL.wApp, WL.wTest, WL.wChain, WL.wAndT, WL.wOrT, WL.wNotT, WL.wAnd, WL.wOr, WL.wNot, WL.wIf, WL.wTup, WL.wLst, WL.wCall, WL.wMake, WL.wFld, WL.wPutF, WL.wSl, WL.wPart, WL.wNoPart, WL.wRev, WL.wName, WL.wNames, WL.wSeqI, WL.wZip, WL.wRng3, WL.wRng1, WL.wRng2, WL.wEnum, WL.wLstRg, WL.wTupRg, WL.wR1, WL.wR2, WL.wCallD, WL.MdW, WL.wgSub, WL.one, WL.two, WL.lk, WL.isB_bl, WL.isI_int, WL.cmpI, WL.isNW, WL.notNW, WL.nonW, WL.wYes, WL.wLockE, WL.wLock, WL.wDNew, WL.wSortSet, WL.wNever, WL.addW_int, WL.addW_tup, WL.addW_str, WL.subW_int, WL.mulW_int, WL.modW_int, WL.fdivW_int, WL.powW_int, WL.negW_int, WL.intW_int, WL.intW_bl, WL.absW, WL.CTg.on, WL.wipeW, WL.setsW, WL.optW_some, WL.wDisp, WL.wPairs, WL.eqW_str, WL.neW_str, WL.eqW_int, WL.neW_int, WL.eqW_bl, WL.neW_bl, WL.ixW_tupE, WL.slW_tupE, WL.sortTW_ref, WL.lenW_tupE, WL.tupW_tupE, WL.listW_tupE, WL.atI_0, WL.atI_1, WL.atI_2, WL.atI_3, WL.atI_4, WL.seqOn_tup, WL.enumOn_tup, List.set, if_true, if_false, Bool.false_eq_true, if_pos, List.length_nil, List.length_cons, Bool.not_true, Bool.not_false]
        refine ⟨trivial, ?_⟩
        show tl_lf3 _ (lfE rs rooms apart pm pc pd w8 (some (nI m)) (some (.ref pn)) (some (mvW x.1)) (some (nI x.2))) G2
        have hlen : K'.length = K.length + more.length := by
          have := congrArg List.length em
          rw [List.length_map, List.length_append, List.length_map] at this; exact this
        refine lf3 ok bk' (by rw [em]; exact List.mem_append_left _ hm) (List.mem_of_getElem? hx) (k2 _ _ ncd ncn (e1 _ _ hc)) hd2 hn2 (by rw [el, List.length_append]; omega) nd fun K2 l2 G3 bk2 ⟨more2, em2, el2⟩ hx2 k3 hd3 hn3 => ?_
        refine ⟨K2, l2, _, _, rfl, bk2, ⟨more ++ more2, by rw [em2, em, List.append_assoc], by rw [el2, el, List.append_assoc]⟩, fun y hy hp => ?_, fun r u h1 h2 hu => k3 r u h1 h2 (k2 r u h1 h2 hu), hd3, hn3⟩
        rw [List.take_add_one, hx] at hy
        rcases List.mem_append.mp hy with hy | hy
        · rw [em2]; exact List.mem_append_left _ (hk y hy hp)
        · have : y = x := by simpa using hy
          subst this
          exact hx2 hp
    · rintro ρ G2 ⟨K', later', w11, w12, rfl, bk', em, hk, k2, hd2, hn2⟩
      rw [List.length_map, List.take_length] at hk
      exact q K' later' _ _ G2 bk' em (clo_of hk) (fun r u h1 h2 hu => k2 r u h1 h2 (e1 _ _ hu)) hd2 hn2
end
end K54
set_option Elab.async false
set_option linter.all false
set_option maxRecDepth 100000
set_option maxHeartbeats 1000000
set_option pp.maxSteps 400
namespace K54
open PySem PySem.Spec PyProof.Rows L2 WL PR
theorem set_of {i : Nat} {t : WTE} {D : WEnds} {ρ : WEnv} {G : WHp} (h : t ρ G fun w G1 => D.nx (ρ.set i (some w)) G1) : wSet i t D ρ G := h
section
variable {rs : List (List Nat)} {rooms : Nat} {apart : Bool} {pm pc pd pl pn : Addr} {m : Nat} {G : WHp} {E : WEnds} {w8 w9 w10 w11 w12 : Option W} {K : List (Nat × List Mv)} {lay later : List Nat}
/-- is the goal held? -/
theorem lf1 (ok : ReadsOk rs) (bk : Bk rs rooms apart K) (hm : m ∈ K.map (·.1)) (hd : G pd = some (.dct (dcK K)))
    (r : Win rs rooms apart → ∀ l, E.rt (.tup l) G) (q : PR.goalB rs m = false → E.nx (lfE rs rooms apart pm pc pd w8 (some (nI m)) w10 w11 w12) G) :
    tl_lf1 E (lfE rs rooms apart pm pc pd w8 (some (nI m)) w10 w11 w12) G := by
  unfold tl_lf1
  unfold lfE nI at q ⊢
  simp only [WL.wSeq, WL.wSet, WL.wAsg, WL.wDrop, WL.wRet, WL.wRetN, WL.wIfS, WL.wBreak, WL.wCont, WL.wNext, WL.wV, WL.wC, WL.wOp, WL.wUn, WL.wNil, WL.wCons, WL.wApp, WL.wTest, WL.wChain, WL.wAndT, WL.wOrT, WL.wNotT, WL.wAnd, WL.wOr, WL.wNot, WL.wIf, WL.wTup, WL.wLst, WL.wCall, WL.wMake, WL.wFld, WL.wPutF, WL.wSl, WL.wPart, WL.wNoPart, WL.wRev, WL.wName, WL.wNames, WL.wSeqI, WL.wZip, WL.wRng3, WL.wRng1, WL.wRng2, WL.wEnum, WL.wLstRg, WL.wTupRg, WL.wR1, WL.wR2, WL.wCallD, WL.MdW, WL.wgSub, WL.one, WL.two, WL.lk, WL.isB_bl, WL.isI_int, WL.cmpI, WL.isNW, WL.notNW, WL.nonW, WL.wYes, WL.wLockE, WL.wLock, WL.wDNew, WL.wSortSet, WL.wNever, WL.addW_int, WL.addW_tup, WL.addW_str, WL.subW_int, WL.mulW_int, WL.modW_int, WL.fdivW_int, WL.powW_int, WL.negW_int, WL.intW_int, WL.intW_bl, WL.absW, WL.CTg.on, WL.wipeW, WL.setsW, WL.optW_some, WL.wDisp, WL.wPairs, WL.eqW_str, WL.neW_str, WL.eqW_int, WL.neW_int, WL.eqW_bl, WL.neW_bl, WL.ixW_tupE, WL.slW_tupE, WL.sortTW_ref, WL.lenW_tupE, WL.tupW_tupE, WL.listW_tupE, WL.atI_0, WL.atI_1, WL.atI_2, WL.atI_3, WL.atI_4, WL.seqOn_tup, WL.enumOn_tup, List.set, if_true, if_false, Bool.false_eq_true, if_pos, List.length_nil, List.length_cons, Bool.not_true, Bool.not_false]
  show bandW (.int (m : Int)) (.int ((2 ^ (rs.length - 1) : Nat) : Int)) _ _
  refine ⟨⟨Int.natCast_nonneg _, Int.natCast_nonneg _⟩, ?_⟩
  rw [Int.toNat_natCast, Int.toNat_natCast]
  simp only [WL.wSeq, WL.wSet, WL.wAsg, WL.wDrop, WL.wRet, WL.wRetN, WL.wIfS, WL.wBreak, WL.wCont, WL.wNext, WL.wV, WL.wC, WL.wOp, WL.wUn, WL.wNil, WL.wCons, WL.wApp, WL.wTest, WL.wChain, WL.wAndT, WL.wOrT, WL.wNotT, WL.wAnd, WL.wOr, WL.wNot, WL.wIf, WL.wTup, WL.wLst, WL.wCall, WL.wMake, WL.wFld, WL.wPutF, WL.wSl, WL.wPart, WL.wNoPart, WL.wRev, WL.wName, WL.wNames, WL.wSeqI, WL.wZip, WL.wRng3, WL.wRng1, WL.wRng2, WL.wEnum, WL.wLstRg, WL.wTupRg, WL.wR1, WL.wR2, WL.wCallD, WL.MdW, WL.wgSub, WL.one, WL.two, WL.lk, WL.isB_bl, WL.isI_int, WL.cmpI, WL.isNW, WL.notNW, WL.nonW, WL.wYes, WL.wLockE, WL.wLock, WL.wDNew, WL.wSortSet, WL.wNever, WL.addW_int, WL.addW_tup, WL.addW_str, WL.subW_int, WL.mulW_int, WL.modW_int, WL.fdivW_int, WL.powW_int, WL.negW_int, WL.intW_int, WL.intW_bl, WL.absW, WL.CTg.on, WL.wipeW, WL.setsW, WL.optW_some, WL.wDisp, WL.wPairs, WL.eqW_str, WL.neW_str, WL.eqW_int, WL.neW_int, WL.eqW_bl, WL.neW_bl, WL.ixW_tupE, WL.slW_tupE, WL.sortTW_ref, WL.lenW_tupE, WL.tupW_tupE, WL.listW_tupE, WL.atI_0, WL.atI_1, WL.atI_2, WL.atI_3, WL.atI_4, WL.seqOn_tup, WL.enumOn_tup, List.set, if_true, if_false, Bool.false_eq_true, if_pos, List.length_nil, List.length_cons, Bool.not_true, Bool.not_false]
  cases hb : m.testBit (rs.length - 1) with
  | true =>
    have h0 := and_pow.mpr hb
    rw [decide_eq_false (show ¬ ((m &&& 2 ^ (rs.length - 1) : Nat) : Int) = 0 from fun e => h0 (Int.ofNat.inj e))]
    simp only [WL.wSeq, WL.wSet, WL.wAsg, WL.wDrop, WL.wRet, WL.wRetN, WL.wIfS, WL.wBreak, WL.wCont, WL.wNext, WL.wV, WL.wC, WL.wOp, WL.wUn, WL.wNil, WL.wCons, WL.wApp, WL.wTest, WL.wChain, WL.wAndT, WL.wOrT, WL.wNotT, WL.wAnd, WL.wOr, WL.wNot, WL.wIf, WL.wTup, WL.wLst, WL.wCall, WL.wMake, WL.wFld, WL.wPutF, WL.wSl, WL.wPart, WL.wNoPart, WL.wRev, WL.wName, WL.wNames, WL.wSeqI, WL.wZip, WL.wRng3, WL.wRng1, WL.wRng2, WL.wEnum, WL.wLstRg, WL.wTupRg, WL.wR1, WL.wR2, WL.wCallD, WL.MdW, WL.wgSub, WL.one, WL.two, WL.lk, WL.isB_bl, WL.isI_int, WL.cmpI, WL.isNW, WL.notNW, WL.nonW, WL.wYes, WL.wLockE, WL.wLock, WL.wDNew, WL.wSortSet, WL.wNever, WL.addW_int, WL.addW_tup, WL.addW_str, WL.subW_int, WL.mulW_int, WL.modW_int, WL.fdivW_int, WL.powW_int, WL.negW_int, WL.intW_int, WL.intW_bl, WL.absW, WL.CTg.on, WL.wipeW, WL.setsW, WL.optW_some, WL.wDisp, WL.wPairs, WL.eqW_str, WL.neW_str, WL.eqW_int, WL.neW_int, WL.eqW_bl, WL.neW_bl, WL.ixW_tupE, WL.slW_tupE, WL.sortTW_ref, WL.lenW_tupE, WL.tupW_tupE, WL.listW_tupE, WL.atI_0, WL.atI_1, WL.atI_2, WL.atI_3, WL.atI_4, WL.seqOn_tup, WL.enumOn_tup, List.set, if_true, if_false, Bool.false_eq_true, if_pos, List.length_nil, List.length_cons, Bool.not_true, Bool.not_false]
    obtain ⟨sc, hsc, hv⟩ := dcK_at hm
    exact ixW_dct hd hv (r ⟨m, bk.rch _ hsc, hb⟩ _)
  | false =>
    have h0 : m &&& 2 ^ (rs.length - 1) = 0 := by
      by_cases e : m &&& 2 ^ (rs.length - 1) = 0
      · exact e
      · rw [and_pow.mp e] at hb; cases hb
    rw [h0, decide_eq_true (show ((0 : Nat) : Int) = 0 from rfl)]
    simp only [WL.wSeq, WL.wSet, WL.wAsg, WL.wDrop, WL.wRet, WL.wRetN, WL.wIfS, WL.wBreak, WL.wCont, WL.wNext, WL.wV, WL.wC, WL.wOp, WL.wUn, WL.wNil, WL.wCons, WL.wApp, WL.wTest, WL.wChain, WL.wAndT, WL.wOrT, WL.wNotT, WL.wAnd, WL.wOr, WL.wNot, WL.wIf, WL.wTup, WL.wLst, WL.wCall, WL.wMake, WL.wFld, WL.wPutF, WL.wSl, WL.wPart, WL.wNoPart, WL.wRev, WL.wName, WL.wNames, WL.wSeqI, WL.wZip, WL.wRng3, WL.wRng1, WL.wRng2, WL.wEnum, WL.wLstRg, WL.wTupRg, WL.wR1, WL.wR2, WL.wCallD, WL.MdW, WL.wgSub, WL.one, WL.two, WL.lk, WL.isB_bl, WL.isI_int, WL.cmpI, WL.isNW, WL.notNW, WL.nonW, WL.wYes, WL.wLockE, WL.wLock, WL.wDNew, WL.wSortSet, WL.wNever, WL.addW_int, WL.addW_tup, WL.addW_str, WL.subW_int, WL.mulW_int, WL.modW_int, WL.fdivW_int, WL.powW_int, WL.negW_int, WL.intW_int, WL.intW_bl, WL.absW, WL.CTg.on, WL.wipeW, WL.setsW, WL.optW_some, WL.wDisp, WL.wPairs, WL.eqW_str, WL.neW_str, WL.eqW_int, WL.neW_int, WL.eqW_bl, WL.neW_bl, WL.ixW_tupE, WL.slW_tupE, WL.sortTW_ref, WL.lenW_tupE, WL.tupW_tupE, WL.listW_tupE, WL.atI_0, WL.atI_1, WL.atI_2, WL.atI_3, WL.atI_4, WL.seqOn_tup, WL.enumOn_tup, List.set, if_true, if_false, Bool.false_eq_true, if_pos, List.length_nil, List.length_cons, Bool.not_true, Bool.not_false]
    exact q hb
theorem lay_items (hl : G pl = some (.lst (lay.map nI))) {R : List W → (WHp → Prop) → WHp → Prop} (hR : R (lay.map nI) (fun G => G pl = some (.lst (lay.map nI)) ∨ G pl = some (.rol (lay.map nI))) G) : (wSeqI (wV 8)) (lfE rs rooms apart pm pc pd (some (.ref pl)) w9 w10 w11 w12) G R := by
  unfold lfE
  simp only [WL.wSeq, WL.wSet, WL.wAsg, WL.wDrop, WL.wRet, WL.wRetN, WL.wIfS, WL.wBreak, WL.wCont, WL.wNext, WL.wV, WL.wC, WL.wOp, WL.wUn, WL.wNil, WL.wCons, WL.wApp, WL.wTest, WL.wChain, WL.wAndT, WL.wOrT, WL.wNotT, WL.wAnd, WL.wOr, WL.wNot, WL.wIf, WL.wTup, WL.wLst, WL.wCall, WL.wMake, WL.wFld, WL.wPutF, WL.wSl, WL.wPart, WL.wNoPart, WL.wRev, WL.wName, WL.wNames, WL.wSeqI, WL.wZip, WL.wRng3, WL.wRng1, WL.wRng2, WL.wEnum, WL.wLstRg, WL.wTupRg, WL.wR1, WL.wR2, WL.wCallD, WL.MdW, WL.wgSub, WL.one, WL.two, WL.lk, WL.isB_bl, WL.isI_int, WL.cmpI, WL.isNW, WL.notNW, WL.nonW, WL.wYes, WL.wLockE, WL.wLock, WL.wDNew, WL.wSortSet, WL.wNever, WL.addW_int, WL.addW_tup, WL.addW_str, WL.subW_int, WL.mulW_int, WL.modW_int, WL.fdivW_int, WL.powW_int, WL.negW_int, WL.intW_int, WL.intW_bl, WL.absW, WL.CTg.on, WL.wipeW, WL.setsW, WL.optW_some, WL.wDisp, WL.wPairs, WL.eqW_str, WL.neW_str, WL.eqW_int, WL.neW_int, WL.eqW_bl, WL.neW_bl, WL.ixW_tupE, WL.slW_tupE, WL.sortTW_ref, WL.lenW_tupE, WL.tupW_tupE, WL.listW_tupE, WL.atI_0, WL.atI_1, WL.atI_2, WL.atI_3, WL.atI_4, WL.seqOn_tup, WL.enumOn_tup, List.set, if_true, if_false, Bool.false_eq_true, if_pos, List.length_nil, List.length_cons, Bool.not_true, Bool.not_false]
  unfold seqOn
  simp only [hl]
  exact hR
theorem lf_scan (ok : ReadsOk rs) (bk : Bk rs rooms apart K) (hm : ∀ m ∈ lay, m ∈ K.map (·.1)) (hd : G pd = some (.dct (dcK K))) (hl : G pl = some (.lst (lay.map nI)))
    (r : Win rs rooms apart → ∀ l, E.rt (.tup l) G) (q : (∀ m ∈ lay, PR.goalB rs m = false) → ∀ w9, E.nx (lfE rs rooms apart pm pc pd (some (.ref pl)) w9 w10 w11 w12) G) :
    (wFor (wSeqI (wV 8)) (wName 9) tl_lf1) E (lfE rs rooms apart pm pc pd (some (.ref pl)) w9 w10 w11 w12) G := by
  refine wFor_of (G1 := G) (items := lay.map nI) (stable := fun G => G pl = some (.lst (lay.map nI)) ∨ G pl = some (.rol (lay.map nI))) (fun R hR => lay_items hl hR)
    (fun i ρ G' => ∃ w9, ρ = lfE rs rooms apart pm pc pd (some (.ref pl)) w9 w10 w11 w12 ∧ G' = G ∧ ∀ m ∈ lay.take i, PR.goalB rs m = false)
    ⟨_, rfl, rfl, fun m h => (by simp at h)⟩ (fun i ρ G' _ ⟨_, _, e, _⟩ => e ▸ .inl hl) ?_ ?_
  · rintro i w ρ G2 hw ⟨w9, rfl, rfl, hg⟩
    rw [List.getElem?_map] at hw
    cases hx : lay[i]? with
    | none => rw [hx] at hw; cases hw
    | some m =>
      rw [hx] at hw
      have hw := (Option.some.inj hw).symm
      subst hw
      show tl_lf1 _ (lfE rs rooms apart pm pc pd (some (.ref pl)) (some (nI m)) w10 w11 w12) G2
      refine lf1 ok bk (hm m (List.mem_of_getElem? hx)) hd r fun hb => ⟨_, rfl, rfl, fun y hy => ?_⟩
      rw [List.take_add_one, hx] at hy
      rcases List.mem_append.mp hy with hy | hy
      · exact hg y hy
      · have : y = m := by simpa using hy
        rw [this]; exact hb
  · rintro ρ G2 ⟨w9, rfl, rfl, hg⟩
    rw [List.length_map, List.take_length] at hg
    exact q hg w9
theorem lf4 (ok : ReadsOk rs) (bk : Bk rs rooms apart K) (hm : ∀ m ∈ lay, m ∈ K.map (·.1)) (hmk : G pm = some (.lst (rs.map fun l => nI (msk l)))) (hc : G pc = some (.lst ((cntL rs.length).map nI))) (hd : G pd = some (.dct (dcK K))) (hl : G pl = some (.lst (lay.map nI))) (hn : G pn = some (.lst (([] : List Nat).map nI)))
    (nd : pd ≠ pn) (nmd : pm ≠ pd) (nmn : pm ≠ pn) (ncd : pc ≠ pd) (ncn : pc ≠ pn) (nld : pl ≠ pd) (nln : pl ≠ pn)
    (q : ∀ K' later w9 w11 w12 G', Bk rs rooms apart K' → K'.map (·.1) = K.map (·.1) ++ later → (∀ m ∈ lay, Clo rs rooms apart (K'.map (·.1)) m) → (∀ r u, r ≠ pd → r ≠ pn → G r = some u → G' r = some u) → G' pd = some (.dct (dcK K')) → G' pn = some (.lst (later.map nI)) →
      E.nx (lfE rs rooms apart pm pc pd (some (.ref pl)) w9 (some (.ref pn)) w11 w12) G') :
    (wFor (wSeqI (wV 8)) (wName 9) (tl_lf2 tl_lf3)) E (lfE rs rooms apart pm pc pd (some (.ref pl)) w9 (some (.ref pn)) w11 w12) G := by
  refine wFor_of (G1 := G) (items := lay.map nI) (stable := fun G => G pl = some (.lst (lay.map nI)) ∨ G pl = some (.rol (lay.map nI))) (fun R hR => lay_items hl hR)
    (fun i ρ G' => ∃ K' later w9 w11 w12, ρ = lfE rs rooms apart pm pc pd (some (.ref pl)) w9 (some (.ref pn)) w11 w12 ∧ Bk rs rooms apart K' ∧ K'.map (·.1) = K.map (·.1) ++ later ∧ (∀ m ∈ lay.take i, Clo rs rooms apart (K'.map (·.1)) m) ∧ (∀ r u, r ≠ pd → r ≠ pn → G r = some u → G' r = some u) ∧ G' pd = some (.dct (dcK K')) ∧ G' pn = some (.lst (later.map nI)))
    ⟨K, [], _, _, _, rfl, bk, by simp, fun m h => (by simp at h), fun r u _ _ h => h, hd, hn⟩ (fun i ρ G' _ ⟨_, _, _, _, _, _, _, _, _, k, _⟩ => .inl (k pl _ nld nln hl)) ?_ ?_
  · rintro i w ρ G2 hw ⟨K', later, w9, w11, w12, rfl, bk', em, hg, k2, hd2, hn2⟩
    rw [List.getElem?_map] at hw
    cases hx : lay[i]? with
    | none => rw [hx] at hw; cases hw
    | some m =>
      rw [hx] at hw
      have hw := (Option.some.inj hw).symm
      subst hw
      show tl_lf2 tl_lf3 _ (lfE rs rooms apart pm pc pd (some (.ref pl)) (some (nI m)) (some (.ref pn)) w11 w12) G2
      have hlen : K'.length = K.length + later.length := by
        have := congrArg List.length em
        rw [List.length_map, List.length_append, List.length_map] at this; exact this
      refine lf2 ok bk' (by rw [em]; exact List.mem_append_left _ (hm m (List.mem_of_getElem? hx))) (k2 _ _ nmd nmn hmk) (k2 _ _ ncd ncn hc) hd2 hn2 (by omega) nd ncd ncn fun K2 l2 w11 w12 G3 bk2 ⟨more, em2, el2⟩ hcl k3 hd3 hn3 => ?_
      refine ⟨K2, l2, _, _, _, rfl, bk2, by rw [em2, em, el2, List.append_assoc], fun y hy => ?_, fun r u h1 h2 hu => k3 r u h1 h2 (k2 r u h1 h2 hu), hd3, hn3⟩
      rw [List.take_add_one, hx] at hy
      rcases List.mem_append.mp hy with hy | hy
      · exact (hg y hy).mono fun k hk => by rw [em2]; exact List.mem_append_left _ hk
      · have : y = m := by simpa using hy
        rw [this]; exact hcl
  · rintro ρ G2 ⟨K', later, w9, w11, w12, rfl, bk', em, hg, k2, hd2, hn2⟩
    rw [List.length_map, List.take_length] at hg
    exact q K' later _ _ _ G2 bk' em hg k2 hd2 hn2
end
noncomputable def tl_lfW : WTS := (wSeq (wWhile (wTest (wOp gtW (wApp (one lenW) (wCons (wV 8) wNil)) (wC (.int 0))))
 (wSeq (wFor (wSeqI (wV 8)) (wName 9) tl_lf1)
 (wSeq (wSet 10 (wLst wNil))
 (wSeq (wFor (wSeqI (wV 8)) (wName 9) (tl_lf2 tl_lf3))
 (wSet 8 (wV 10))))))
 (wRet (wC .non)))
section
variable {rs : List (List Nat)} {rooms : Nat} {apart : Bool} {pm pc pd pl : Addr} {G0 G : WHp} {Q : WK} {w9 w10 w11 w12 : Option W}
theorem lfW (ok : ReadsOk rs) (e0 : Ext G0 G) (hmk : G pm = some (.lst (rs.map fun l => nI (msk l)))) (hc : G pc = some (.lst ((cntL rs.length).map nI))) (hd : G pd = some (.dct (dcK [(0, [])]))) (hl : G pl = some (.lst ([0].map nI))) (n0 : G0 pd = none) (nmd : pm ≠ pd) (ncd : pc ≠ pd) (nld : pl ≠ pd)
    (q : ∀ w G', Ext G0 G' → ((Win rs rooms apart ∧ ∃ l, w = .tup l) ∨ (¬ Win rs rooms apart ∧ w = .non)) → Q w G') :
    tl_lfW { nx := fun _ G' => Q .non G', rt := Q } (lfE rs rooms apart pm pc pd (some (.ref pl)) w9 w10 w11 w12) G := by
  unfold tl_lfW
  refine wWhile_of (fun me ρ G' => ∃ K lay pl w9 w10 w11 w12, ρ = lfE rs rooms apart pm pc pd (some (.ref pl)) w9 w10 w11 w12 ∧ Bk rs rooms apart K ∧ (∀ m ∈ lay, m ∈ K.map (·.1)) ∧ (∀ m ∈ K.map (·.1), m ∉ lay → PR.goalB rs m = false ∧ Clo rs rooms apart (K.map (·.1)) m) ∧ Ext G0 G' ∧ G' pm = some (.lst (rs.map fun l => nI (msk l))) ∧ G' pc = some (.lst ((cntL rs.length).map nI)) ∧ G' pd = some (.dct (dcK K)) ∧ G' pl = some (.lst (lay.map nI)) ∧ pl ≠ pd ∧ me = 2 * (1024 - K.length) + (if lay = [] then 0 else 1))
    (m := 2 * (1024 - 1) + 1) ⟨[(0, [])], [0], pl, _, _, _, _, rfl, .first, fun m h => by simpa using h, fun m h1 h2 => absurd h1 h2, e0, hmk, hc, hd, hl, nld, rfl⟩ ?_
  rintro me ρ G1 ⟨K, lay, pl, w9, w10, w11, w12, rfl, bk, hm, hcl, e1, hmk, hc, hd, hl, nld, rfl⟩
  have h10 := bk.k10 ok
  unfold wTest wOp
  have ht : ∀ (P : W → WHp → Prop), P (.int lay.length) G1 → (wApp (one lenW) (wCons (wV 8) wNil)) (lfE rs rooms apart pm pc pd (some (.ref pl)) w9 w10 w11 w12) G1 P := fun P hP => by
    unfold lfE
    simp only [WL.wSeq, WL.wSet, WL.wAsg, WL.wDrop, WL.wRet, WL.wRetN, WL.wIfS, WL.wBreak, WL.wCont, WL.wNext, WL.wV, WL.wC, WL.wOp, WL.wUn, WL.wNil, WL.wCons, WL.wApp, WL.wTest, WL.wChain, WL.wAndT, WL.wOrT, WL.wNotT, WL.wAnd, WL.wOr, WL.wNot, WL.wIf, WL.wTup, WL.wLst, WL.wCall, WL.wMake, WL.wFld, WL.wPutF, WL.wSl, WL.wPart, WL.wNoPart, WL.wRev, WL.wName, WL.wNames, WL.wSeqI, WL.wZip, WL.wRng3, WL.wRng1, WL.wRng2, WL.wEnum, WL.wLstRg, WL.wTupRg, WL.wR1, WL.wR2, WL.wCallD, WL.MdW, WL.wgSub, WL.one, WL.two, WL.lk, WL.isB_bl, WL.isI_int, WL.cmpI, WL.isNW, WL.notNW, WL.nonW, WL.wYes, WL.wLockE, WL.wLock, WL.wDNew, WL.wSortSet, WL.wNever, WL.addW_int, WL.addW_tup, WL.addW_str, WL.subW_int, WL.mulW_int, WL.modW_int, WL.fdivW_int, WL.powW_int, WL.negW_int, WL.intW_int, WL.intW_bl, WL.absW, WL.CTg.on, WL.wipeW, WL.setsW, WL.optW_some, WL.wDisp, WL.wPairs, WL.eqW_str, WL.neW_str, WL.eqW_int, WL.neW_int, WL.eqW_bl, WL.neW_bl, WL.ixW_tupE, WL.slW_tupE, WL.sortTW_ref, WL.lenW_tupE, WL.tupW_tupE, WL.listW_tupE, WL.atI_0, WL.atI_1, WL.atI_2, WL.atI_3, WL.atI_4, WL.seqOn_tup, WL.enumOn_tup, List.set, if_true, if_false, Bool.false_eq_true, if_pos, List.length_nil, List.length_cons, Bool.not_true, Bool.not_false]
    refine len_lst hl ?_
    rw [List.length_map]
    exact hP
  refine ht _ ?_
  simp only [WL.wSeq, WL.wSet, WL.wAsg, WL.wDrop, WL.wRet, WL.wRetN, WL.wIfS, WL.wBreak, WL.wCont, WL.wNext, WL.wV, WL.wC, WL.wOp, WL.wUn, WL.wNil, WL.wCons, WL.wApp, WL.wTest, WL.wChain, WL.wAndT, WL.wOrT, WL.wNotT, WL.wAnd, WL.wOr, WL.wNot, WL.wIf, WL.wTup, WL.wLst, WL.wCall, WL.wMake, WL.wFld, WL.wPutF, WL.wSl, WL.wPart, WL.wNoPart, WL.wRev, WL.wName, WL.wNames, WL.wSeqI, WL.wZip, WL.wRng3, WL.wRng1, WL.wRng2, WL.wEnum, WL.wLstRg, WL.wTupRg, WL.wR1, WL.wR2, WL.wCallD, WL.MdW, WL.wgSub, WL.one, WL.two, WL.lk, WL.isB_bl, WL.isI_int, WL.cmpI, WL.isNW, WL.notNW, WL.nonW, WL.wYes, WL.wLockE, WL.wLock, WL.wDNew, WL.wSortSet, WL.wNever, WL.addW_int, WL.addW_tup, WL.addW_str, WL.subW_int, WL.mulW_int, WL.modW_int, WL.fdivW_int, WL.powW_int, WL.negW_int, WL.intW_int, WL.intW_bl, WL.absW, WL.CTg.on, WL.wipeW, WL.setsW, WL.optW_some, WL.wDisp, WL.wPairs, WL.eqW_str, WL.neW_str, WL.eqW_int, WL.neW_int, WL.eqW_bl, WL.neW_bl, WL.ixW_tupE, WL.slW_tupE, WL.sortTW_ref, WL.lenW_tupE, WL.tupW_tupE, WL.listW_tupE, WL.atI_0, WL.atI_1, WL.atI_2, WL.atI_3, WL.atI_4, WL.seqOn_tup, WL.enumOn_tup, List.set, if_true, if_false, Bool.false_eq_true, if_pos, List.length_nil, List.length_cons, Bool.not_true, Bool.not_false]
  cases hlay : lay with
  | nil =>
    rw [decide_eq_false (show ¬ ((([] : List Nat).length : Nat) : Int) > 0 by decide)]
    simp only [WL.wSeq, WL.wSet, WL.wAsg, WL.wDrop, WL.wRet, WL.wRetN, WL.wIfS, WL.wBreak, WL.wCont, WL.wNext, WL.wV, WL.wC, WL.wOp, WL.wUn, WL.wNil, WL.wCons, WL.wApp, WL.wTest, WL.wChain, WL.wAndT, WL.wOrT, WL.wNotT, WL.wAnd, WL.wOr, WL.wNot, WL.wIf, WL.wTup, WL.wLst, WL.wCall, WL.wMake, WL.wFld, WL.wPutF, WL.wSl, WL.wPart, WL.wNoPart, WL.wRev, WL.wName, WL.wNames, WL.wSeqI, WL.wZip, WL.wRng3, WL.wRng1, WL.wRng2, WL.wEnum, WL.wLstRg, WL.wTupRg, WL.wR1, WL.wR2, WL.wCallD, WL.MdW, WL.wgSub, WL.one, WL.two, WL.lk, WL.isB_bl, WL.isI_int, WL.cmpI, WL.isNW, WL.notNW, WL.nonW, WL.wYes, WL.wLockE, WL.wLock, WL.wDNew, WL.wSortSet, WL.wNever, WL.addW_int, WL.addW_tup, WL.addW_str, WL.subW_int, WL.mulW_int, WL.modW_int, WL.fdivW_int, WL.powW_int, WL.negW_int, WL.intW_int, WL.intW_bl, WL.absW, WL.CTg.on, WL.wipeW, WL.setsW, WL.optW_some, WL.wDisp, WL.wPairs, WL.eqW_str, WL.neW_str, WL.eqW_int, WL.neW_int, WL.eqW_bl, WL.neW_bl, WL.ixW_tupE, WL.slW_tupE, WL.sortTW_ref, WL.lenW_tupE, WL.tupW_tupE, WL.listW_tupE, WL.atI_0, WL.atI_1, WL.atI_2, WL.atI_3, WL.atI_4, WL.seqOn_tup, WL.enumOn_tup, List.set, if_true, if_false, Bool.false_eq_true, if_pos, List.length_nil, List.length_cons, Bool.not_true, Bool.not_false]
    refine q _ _ e1 (.inr ⟨no_win bk.zero fun m h => hcl m h (by rw [hlay]; simp), rfl⟩)
  | cons l0 lr =>
    rw [← hlay]
    have hpos : 0 < lay.length := by rw [hlay, List.length_cons]; omega
    rw [decide_eq_true (show ((lay.length : Nat) : Int) > 0 by omega)]
    simp only [WL.wSeq, WL.wSet, WL.wAsg, WL.wDrop, WL.wRet, WL.wRetN, WL.wIfS, WL.wBreak, WL.wCont, WL.wNext, WL.wV, WL.wC, WL.wOp, WL.wUn, WL.wNil, WL.wCons, WL.wApp, WL.wTest, WL.wChain, WL.wAndT, WL.wOrT, WL.wNotT, WL.wAnd, WL.wOr, WL.wNot, WL.wIf, WL.wTup, WL.wLst, WL.wCall, WL.wMake, WL.wFld, WL.wPutF, WL.wSl, WL.wPart, WL.wNoPart, WL.wRev, WL.wName, WL.wNames, WL.wSeqI, WL.wZip, WL.wRng3, WL.wRng1, WL.wRng2, WL.wEnum, WL.wLstRg, WL.wTupRg, WL.wR1, WL.wR2, WL.wCallD, WL.MdW, WL.wgSub, WL.one, WL.two, WL.lk, WL.isB_bl, WL.isI_int, WL.cmpI, WL.isNW, WL.notNW, WL.nonW, WL.wYes, WL.wLockE, WL.wLock, WL.wDNew, WL.wSortSet, WL.wNever, WL.addW_int, WL.addW_tup, WL.addW_str, WL.subW_int, WL.mulW_int, WL.modW_int, WL.fdivW_int, WL.powW_int, WL.negW_int, WL.intW_int, WL.intW_bl, WL.absW, WL.CTg.on, WL.wipeW, WL.setsW, WL.optW_some, WL.wDisp, WL.wPairs, WL.eqW_str, WL.neW_str, WL.eqW_int, WL.neW_int, WL.eqW_bl, WL.neW_bl, WL.ixW_tupE, WL.slW_tupE, WL.sortTW_ref, WL.lenW_tupE, WL.tupW_tupE, WL.listW_tupE, WL.atI_0, WL.atI_1, WL.atI_2, WL.atI_3, WL.atI_4, WL.seqOn_tup, WL.enumOn_tup, List.set, if_true, if_false, Bool.false_eq_true, if_pos, List.length_nil, List.length_cons, Bool.not_true, Bool.not_false]
    refine lf_scan ok bk hm hd hl (fun hw l => q _ _ e1 (.inl ⟨hw, l, rfl⟩)) fun hg w9 => ?_
    show (wSeq (wSet 10 (wLst wNil)) _) _ _ _
    refine seq_set ?_
    refine ⟨by decide, fun pn hpn => ?_⟩
    have x1 : Ext G1 (updG G1 pn (.lst [])) := .new hpn
    have ne : ∀ {r : Addr} {u : WO}, G1 r = some u → r ≠ pn := fun h e => by rw [e, hpn] at h; cases h
    show (wSeq (wFor (wSeqI (wV 8)) (wName 9) (tl_lf2 tl_lf3)) (wSet 8 (wV 10))) _ (lfE rs rooms apart pm pc pd (some (.ref pl)) w9 (some (.ref pn)) w11 w12) _
    refine lf4 ok bk hm (x1 _ _ hmk) (x1 _ _ hc) (x1 _ _ hd) (x1 _ _ hl) updG_same (ne hd) nmd (ne hmk) ncd (ne hc) nld (ne hl) fun K' later w9 w11 w12 G2 bk' em hc2 k2 hd2 hn2 => ?_
    refine set_of (i := 8) (t := wV 10) (wv_of (w := .ref pn) rfl ?_)
    have hlen : K'.length = K.length + later.length := by
      have := congrArg List.length em
      rw [List.length_map, List.length_append, List.length_map] at this; exact this
    have h10' := bk'.k10 ok
    refine ⟨2 * (1024 - K'.length) + (if later = [] then 0 else 1), ?_, K', later, pn, _, _, _, _, rfl, bk', fun m h => by rw [em]; exact List.mem_append_right _ h, fun m h1 h2 => ?_, ?_, k2 _ _ nmd (ne hmk) (x1 _ _ hmk), k2 _ _ ncd (ne hc) (x1 _ _ hc), hd2, hn2, Ne.symm (ne hd), rfl⟩
    · rw [if_neg (show ¬ lay = [] by rw [hlay]; exact fun h => by cases h)]
      by_cases hle : later = []
      · rw [if_pos hle]
        have : later.length = 0 := by rw [hle]; rfl
        omega
      · rw [if_neg hle]
        have : 0 < later.length := List.length_pos_iff.mpr hle
        omega
    · rw [em] at h1
      rcases List.mem_append.mp h1 with h1 | h1
      · by_cases hml : m ∈ lay
        · exact ⟨hg m hml, hc2 m hml⟩
        · obtain ⟨a, b⟩ := hcl m h1 hml
          exact ⟨a, b.mono fun k hk => by rw [em]; exact List.mem_append_left _ hk⟩
      · exact absurd h1 h2
    · intro r u hu
      have h1 := e1 _ _ hu
      exact k2 r u (fun e => by rw [e, n0] at hu; cases hu) (ne h1) (x1 _ _ h1)
end
theorem v_law_fewest : ∀ ws G Q, S_law_fewest ws G Q → rd_law_fewest S_law_masks_of S_law_counts S_law_moves_from { nx := fun _ G' => Q .non G', rt := Q } (startW ["_law_reads", "_law_rooms", "_law_apart", "_law_begun", "_law_masks", "_law_counts_here", "_law_goal", "_law_known", "_law_layer", "_law_held", "_law_later", "_law_move", "_law_behind"] ws) G := by
  rintro ws G Q ⟨rs, rooms, apart, rfl, ok, q⟩
  show (wSeq (wSet 4 (wCall S_law_masks_of (wCons (wV 0) wNil)))
   (wSeq (wSet 5 (wCall S_law_counts (wCons (wApp (one lenW) (wCons (wV 0) wNil)) wNil)))
   (wSeq (wSet 6 (wOp shlW (wC (.int 1)) (wOp subW (wApp (one lenW) (wCons (wV 0) wNil)) (wC (.int 1)))))
   (wSeq (wSet 7 (wDisp [((wV 3), (wTup wNil))]))
   (wSeq (wSet 8 (wLst (wCons (wV 3) wNil)))
   tl_lfW))))) _ [some (rdsW rs), some (nI rooms), some (.bl apart), some (.int 0), none, none, none, none, none, none, none, none, none] G
  have loop : ∀ pm pc pd pl G1, Ext G G1 → G1 pm = some (.lst (rs.map fun l => nI (msk l))) → G1 pc = some (.lst ((cntL rs.length).map nI)) → G1 pd = some (.dct (dcK [(0, [])])) → G1 pl = some (.lst ([0].map nI)) → G pd = none → pm ≠ pd → pc ≠ pd → pl ≠ pd → tl_lfW { nx := fun _ G' => Q .non G', rt := Q } (lfE rs rooms apart pm pc pd (some (.ref pl)) none none none none) G1 := fun pm pc pd pl G1 e1 h1 h2 h3 h4 n0 a b c => lfW ok e1 h1 h2 h3 h4 n0 a b c q
  unfold lfE at loop
  generalize tl_lfW = T at loop ⊢
  have htn := ok.ten
  have hps := ok.pos
  simp only [WL.wSeq, WL.wSet, WL.wAsg, WL.wDrop, WL.wRet, WL.wRetN, WL.wIfS, WL.wBreak, WL.wCont, WL.wNext, WL.wV, WL.wC, WL.wOp, WL.wUn, WL.wNil, WL.wCons, WL.wApp, WL.wTest, WL.wChain, WL.wAndT, WL.wOrT, WL.wNotT, WL.wAnd, WL.wOr, WL.wNot, WL.wIf, WL.wTup, WL.wLst, WL.wCall, WL.wMake, WL.wFld, WL.wPutF, WL.wSl, WL.wPart, WL.wNoPart, WL.wRev, WL.wName, WL.wNames, WL.wSeqI, WL.wZip, WL.wRng3, WL.wRng1, WL.wRng2, WL.wEnum, WL.wLstRg, WL.wTupRg, WL.wR1, WL.wR2, WL.wCallD, WL.MdW, WL.wgSub, WL.one, WL.two, WL.lk, WL.isB_bl, WL.isI_int, WL.cmpI, WL.isNW, WL.notNW, WL.nonW, WL.wYes, WL.wLockE, WL.wLock, WL.wDNew, WL.wSortSet, WL.wNever, WL.addW_int, WL.addW_tup, WL.addW_str, WL.subW_int, WL.mulW_int, WL.modW_int, WL.fdivW_int, WL.powW_int, WL.negW_int, WL.intW_int, WL.intW_bl, WL.absW, WL.CTg.on, WL.wipeW, WL.setsW, WL.optW_some, WL.wDisp, WL.wPairs, WL.eqW_str, WL.neW_str, WL.eqW_int, WL.neW_int, WL.eqW_bl, WL.neW_bl, WL.ixW_tupE, WL.slW_tupE, WL.sortTW_ref, WL.lenW_tupE, WL.tupW_tupE, WL.listW_tupE, WL.atI_0, WL.atI_1, WL.atI_2, WL.atI_3, WL.atI_4, WL.seqOn_tup, WL.enumOn_tup, List.set, if_true, if_false, Bool.false_eq_true, if_pos, List.length_nil, List.length_cons, Bool.not_true, Bool.not_false]
  refine ⟨rs, rfl, ok, fun pm G1 e1 n1 h1 => ?_⟩
  unfold rdsW nI
  simp only [WL.wSeq, WL.wSet, WL.wAsg, WL.wDrop, WL.wRet, WL.wRetN, WL.wIfS, WL.wBreak, WL.wCont, WL.wNext, WL.wV, WL.wC, WL.wOp, WL.wUn, WL.wNil, WL.wCons, WL.wApp, WL.wTest, WL.wChain, WL.wAndT, WL.wOrT, WL.wNotT, WL.wAnd, WL.wOr, WL.wNot, WL.wIf, WL.wTup, WL.wLst, WL.wCall, WL.wMake, WL.wFld, WL.wPutF, WL.wSl, WL.wPart, WL.wNoPart, WL.wRev, WL.wName, WL.wNames, WL.wSeqI, WL.wZip, WL.wRng3, WL.wRng1, WL.wRng2, WL.wEnum, WL.wLstRg, WL.wTupRg, WL.wR1, WL.wR2, WL.wCallD, WL.MdW, WL.wgSub, WL.one, WL.two, WL.lk, WL.isB_bl, WL.isI_int, WL.cmpI, WL.isNW, WL.notNW, WL.nonW, WL.wYes, WL.wLockE, WL.wLock, WL.wDNew, WL.wSortSet, WL.wNever, WL.addW_int, WL.addW_tup, WL.addW_str, WL.subW_int, WL.mulW_int, WL.modW_int, WL.fdivW_int, WL.powW_int, WL.negW_int, WL.intW_int, WL.intW_bl, WL.absW, WL.CTg.on, WL.wipeW, WL.setsW, WL.optW_some, WL.wDisp, WL.wPairs, WL.eqW_str, WL.neW_str, WL.eqW_int, WL.neW_int, WL.eqW_bl, WL.neW_bl, WL.ixW_tupE, WL.slW_tupE, WL.sortTW_ref, WL.lenW_tupE, WL.tupW_tupE, WL.listW_tupE, WL.atI_0, WL.atI_1, WL.atI_2, WL.atI_3, WL.atI_4, WL.seqOn_tup, WL.enumOn_tup, List.set, if_true, if_false, Bool.false_eq_true, if_pos, List.length_nil, List.length_cons, Bool.not_true, Bool.not_false]
  rw [List.length_map]
  refine ⟨rs.length, rfl, ok.ten, fun pc G2 e2 n2 h2 => ?_⟩
  rw [show ((rs.length : Nat) : Int) - 1 = ((rs.length - 1 : Nat) : Int) by omega]
  refine shl1 (by omega) ?_
  unfold nI
  refine ⟨by decide, [(Sum.inl 0, .tup [])], rfl, by decide +kernel, fun pd hpd => ⟨by decide, fun pl hpl => ?_⟩⟩
  have e3 : Ext G2 (updG (updG G2 pd (.dct (mergeW [] [((Sum.inl 0 : Key), W.tup [])]))) pl (.lst [.int 0])) := Ext.trans (.new hpd) (.new hpl)
  have ne : ∀ {r : Addr} {u : WO}, G2 r = some u → r ≠ pd := fun h e => by rw [e, hpd] at h; cases h
  have nlp : pl ≠ pd := fun e => by rw [e, updG_same] at hpl; cases hpl
  refine loop pm pc pd pl _ (e1.trans (e2.trans e3)) (e3 _ _ (e2 _ _ h1)) (e3 _ _ h2) ?_ updG_same (none_of_ext e1 (none_of_ext e2 hpd)) (ne (e2 _ _ h1)) (ne h2) nlp
  rw [updG_ne (Ne.symm nlp), updG_same]
  rfl
noncomputable def S_law_least : WSp := fun ws G Q => ∃ (rs : List (List Nat)) (apart : Bool), ws = [rdsW rs, .bl apart] ∧ ReadsOk rs ∧ ∀ (r : Nat) G', Ext G G' → Least rs apart r → Q (nI r) G'
theorem v_law_least : ∀ ws G Q, S_law_least ws G Q → rd_law_least S_law_fewest { nx := fun _ G' => Q .non G', rt := Q } (startW ["_law_reads", "_law_apart", "_law_rooms"] ws) G := by
  rintro ws G Q ⟨rs, apart, rfl, ok, q⟩
  show (wSeq (wFor (wRng2 (wCons (wC (.int 1)) (wCons (wOp addW (wApp (one lenW) (wCons (wV 0) wNil)) (wC (.int 1))) wNil))) (wName 2)
   (wIfS (wTest (wOp notNW (wCall S_law_fewest (wCons (wV 0) (wCons (wV 2) (wCons (wV 1) (wCons (wC (.int 0)) wNil))))) (wC .non)))
   (wRet (wV 2))
   wNext))
   (wRet (wC .non))) _ [some (rdsW rs), some (.bl apart), none] G
  have htn := ok.ten
  refine wFor_of (G1 := G) (items := rngW 1 rs.length) (stable := fun _ => True) (fun K hK => ?_)
    (fun i ρ G' => ∃ w2, ρ = [some (rdsW rs), some (.bl apart), w2] ∧ Ext G G' ∧ ∀ k, 1 ≤ k → k ≤ i → ¬ Win rs k apart)
    ⟨none, rfl, .refl, fun k h1 h2 => by omega⟩ (fun _ _ _ _ _ => trivial) ?_ ?_
  · unfold rdsW
    simp only [WL.wSeq, WL.wSet, WL.wAsg, WL.wDrop, WL.wRet, WL.wRetN, WL.wIfS, WL.wBreak, WL.wCont, WL.wNext, WL.wV, WL.wC, WL.wOp, WL.wUn, WL.wNil, WL.wCons, WL.wApp, WL.wTest, WL.wChain, WL.wAndT, WL.wOrT, WL.wNotT, WL.wAnd, WL.wOr, WL.wNot, WL.wIf, WL.wTup, WL.wLst, WL.wCall, WL.wMake, WL.wFld, WL.wPutF, WL.wSl, WL.wPart, WL.wNoPart, WL.wRev, WL.wName, WL.wNames, WL.wSeqI, WL.wZip, WL.wRng3, WL.wRng1, WL.wRng2, WL.wEnum, WL.wLstRg, WL.wTupRg, WL.wR1, WL.wR2, WL.wCallD, WL.MdW, WL.wgSub, WL.one, WL.two, WL.lk, WL.isB_bl, WL.isI_int, WL.cmpI, WL.isNW, WL.notNW, WL.nonW, WL.wYes, WL.wLockE, WL.wLock, WL.wDNew, WL.wSortSet, WL.wNever, WL.addW_int, WL.addW_tup, WL.addW_str, WL.subW_int, WL.mulW_int, WL.modW_int, WL.fdivW_int, WL.powW_int, WL.negW_int, WL.intW_int, WL.intW_bl, WL.absW, WL.CTg.on, WL.wipeW, WL.setsW, WL.optW_some, WL.wDisp, WL.wPairs, WL.eqW_str, WL.neW_str, WL.eqW_int, WL.neW_int, WL.eqW_bl, WL.neW_bl, WL.ixW_tupE, WL.slW_tupE, WL.sortTW_ref, WL.lenW_tupE, WL.tupW_tupE, WL.listW_tupE, WL.atI_0, WL.atI_1, WL.atI_2, WL.atI_3, WL.atI_4, WL.seqOn_tup, WL.enumOn_tup, List.set, if_true, if_false, Bool.false_eq_true, if_pos, List.length_nil, List.length_cons, Bool.not_true, Bool.not_false]
    rw [List.length_map]
    have e : (((rs.length : Nat) : Int) + 1 - 1).toNat = rs.length := by omega
    rw [e]
    exact ⟨⟨by decide, by decide, by omega, by omega⟩, hK⟩
  · rintro i w ρ G2 hw ⟨w2, rfl, e2, hno⟩
    have hi : i < rs.length := by
      have := (List.getElem?_eq_some_iff.mp hw).1
      rw [rngW_length] at this; exact this
    have ew : w = nI (i + 1) := by
      have := rngW_get (lo := 1) hi
      rw [this] at hw
      have := Option.some.inj hw
      rw [← this]; unfold nI; rw [Int.natCast_add, Int.add_comm]; rfl
    subst ew
    simp only [WL.wSeq, WL.wSet, WL.wAsg, WL.wDrop, WL.wRet, WL.wRetN, WL.wIfS, WL.wBreak, WL.wCont, WL.wNext, WL.wV, WL.wC, WL.wOp, WL.wUn, WL.wNil, WL.wCons, WL.wApp, WL.wTest, WL.wChain, WL.wAndT, WL.wOrT, WL.wNotT, WL.wAnd, WL.wOr, WL.wNot, WL.wIf, WL.wTup, WL.wLst, WL.wCall, WL.wMake, WL.wFld, WL.wPutF, WL.wSl, WL.wPart, WL.wNoPart, WL.wRev, WL.wName, WL.wNames, WL.wSeqI, WL.wZip, WL.wRng3, WL.wRng1, WL.wRng2, WL.wEnum, WL.wLstRg, WL.wTupRg, WL.wR1, WL.wR2, WL.wCallD, WL.MdW, WL.wgSub, WL.one, WL.two, WL.lk, WL.isB_bl, WL.isI_int, WL.cmpI, WL.isNW, WL.notNW, WL.nonW, WL.wYes, WL.wLockE, WL.wLock, WL.wDNew, WL.wSortSet, WL.wNever, WL.addW_int, WL.addW_tup, WL.addW_str, WL.subW_int, WL.mulW_int, WL.modW_int, WL.fdivW_int, WL.powW_int, WL.negW_int, WL.intW_int, WL.intW_bl, WL.absW, WL.CTg.on, WL.wipeW, WL.setsW, WL.optW_some, WL.wDisp, WL.wPairs, WL.eqW_str, WL.neW_str, WL.eqW_int, WL.neW_int, WL.eqW_bl, WL.neW_bl, WL.ixW_tupE, WL.slW_tupE, WL.sortTW_ref, WL.lenW_tupE, WL.tupW_tupE, WL.listW_tupE, WL.atI_0, WL.atI_1, WL.atI_2, WL.atI_3, WL.atI_4, WL.seqOn_tup, WL.enumOn_tup, List.set, if_true, if_false, Bool.false_eq_true, if_pos, List.length_nil, List.length_cons, Bool.not_true, Bool.not_false]
    refine ⟨rs, i + 1, apart, rfl, ok, fun w G3 e3 hw => ?_⟩
    rcases hw with ⟨hwin, l, rfl⟩ | ⟨hwin, rfl⟩
    · simp only [WL.wSeq, WL.wSet, WL.wAsg, WL.wDrop, WL.wRet, WL.wRetN, WL.wIfS, WL.wBreak, WL.wCont, WL.wNext, WL.wV, WL.wC, WL.wOp, WL.wUn, WL.wNil, WL.wCons, WL.wApp, WL.wTest, WL.wChain, WL.wAndT, WL.wOrT, WL.wNotT, WL.wAnd, WL.wOr, WL.wNot, WL.wIf, WL.wTup, WL.wLst, WL.wCall, WL.wMake, WL.wFld, WL.wPutF, WL.wSl, WL.wPart, WL.wNoPart, WL.wRev, WL.wName, WL.wNames, WL.wSeqI, WL.wZip, WL.wRng3, WL.wRng1, WL.wRng2, WL.wEnum, WL.wLstRg, WL.wTupRg, WL.wR1, WL.wR2, WL.wCallD, WL.MdW, WL.wgSub, WL.one, WL.two, WL.lk, WL.isB_bl, WL.isI_int, WL.cmpI, WL.isNW, WL.notNW, WL.nonW, WL.wYes, WL.wLockE, WL.wLock, WL.wDNew, WL.wSortSet, WL.wNever, WL.addW_int, WL.addW_tup, WL.addW_str, WL.subW_int, WL.mulW_int, WL.modW_int, WL.fdivW_int, WL.powW_int, WL.negW_int, WL.intW_int, WL.intW_bl, WL.absW, WL.CTg.on, WL.wipeW, WL.setsW, WL.optW_some, WL.wDisp, WL.wPairs, WL.eqW_str, WL.neW_str, WL.eqW_int, WL.neW_int, WL.eqW_bl, WL.neW_bl, WL.ixW_tupE, WL.slW_tupE, WL.sortTW_ref, WL.lenW_tupE, WL.tupW_tupE, WL.listW_tupE, WL.atI_0, WL.atI_1, WL.atI_2, WL.atI_3, WL.atI_4, WL.seqOn_tup, WL.enumOn_tup, List.set, if_true, if_false, Bool.false_eq_true, if_pos, List.length_nil, List.length_cons, Bool.not_true, Bool.not_false]
      refine ⟨trivial, ?_⟩
      exact q (i + 1) G3 (e2.trans e3) ⟨by omega, hwin, fun k h1 h2 => hno k h1 (by omega)⟩
    · simp only [WL.wSeq, WL.wSet, WL.wAsg, WL.wDrop, WL.wRet, WL.wRetN, WL.wIfS, WL.wBreak, WL.wCont, WL.wNext, WL.wV, WL.wC, WL.wOp, WL.wUn, WL.wNil, WL.wCons, WL.wApp, WL.wTest, WL.wChain, WL.wAndT, WL.wOrT, WL.wNotT, WL.wAnd, WL.wOr, WL.wNot, WL.wIf, WL.wTup, WL.wLst, WL.wCall, WL.wMake, WL.wFld, WL.wPutF, WL.wSl, WL.wPart, WL.wNoPart, WL.wRev, WL.wName, WL.wNames, WL.wSeqI, WL.wZip, WL.wRng3, WL.wRng1, WL.wRng2, WL.wEnum, WL.wLstRg, WL.wTupRg, WL.wR1, WL.wR2, WL.wCallD, WL.MdW, WL.wgSub, WL.one, WL.two, WL.lk, WL.isB_bl, WL.isI_int, WL.cmpI, WL.isNW, WL.notNW, WL.nonW, WL.wYes, WL.wLockE, WL.wLock, WL.wDNew, WL.wSortSet, WL.wNever, WL.addW_int, WL.addW_tup, WL.addW_str, WL.subW_int, WL.mulW_int, WL.modW_int, WL.fdivW_int, WL.powW_int, WL.negW_int, WL.intW_int, WL.intW_bl, WL.absW, WL.CTg.on, WL.wipeW, WL.setsW, WL.optW_some, WL.wDisp, WL.wPairs, WL.eqW_str, WL.neW_str, WL.eqW_int, WL.neW_int, WL.eqW_bl, WL.neW_bl, WL.ixW_tupE, WL.slW_tupE, WL.sortTW_ref, WL.lenW_tupE, WL.tupW_tupE, WL.listW_tupE, WL.atI_0, WL.atI_1, WL.atI_2, WL.atI_3, WL.atI_4, WL.seqOn_tup, WL.enumOn_tup, List.set, if_true, if_false, Bool.false_eq_true, if_pos, List.length_nil, List.length_cons, Bool.not_true, Bool.not_false]
      refine ⟨trivial, _, rfl, e2.trans e3, fun k h1 h2 => ?_⟩
      by_cases h : k = i + 1
      · rw [h]; exact hwin
      · exact hno k h1 (by omega)
  · rintro ρ G2 ⟨w2, rfl, e2, hno⟩
    rw [rngW_length] at hno
    exact absurd (win_all ok) (hno rs.length ok.pos (Nat.le_refl _))
/-! ### repr(told) == repr(due) -/
noncomputable def S_law_is : WSp := fun ws G Q => ∃ (a b : W) (da db : PyData), ws = [a, b] ∧ Dw G a da ∧ Dw G b db ∧ ShOk da ∧ ShOk db ∧ Q (.bl (decide (da.shown = db.shown))) G
theorem v_law_is : ∀ ws G Q, S_law_is ws G Q → rd_law_is { nx := fun _ G' => Q .non G', rt := Q } (startW ["_law_told", "_law_due"] ws) G := by
  rintro ws G Q ⟨a, b, da, db, rfl, ha, hb, sa, sb, q⟩
  show rd_law_is _ [some a, some b] G
  unfold rd_law_is
  simp only [WL.wSeq, WL.wSet, WL.wAsg, WL.wDrop, WL.wRet, WL.wRetN, WL.wIfS, WL.wBreak, WL.wCont, WL.wNext, WL.wV, WL.wC, WL.wOp, WL.wUn, WL.wNil, WL.wCons, WL.wApp, WL.wTest, WL.wChain, WL.wAndT, WL.wOrT, WL.wNotT, WL.wAnd, WL.wOr, WL.wNot, WL.wIf, WL.wTup, WL.wLst, WL.wCall, WL.wMake, WL.wFld, WL.wPutF, WL.wSl, WL.wPart, WL.wNoPart, WL.wRev, WL.wName, WL.wNames, WL.wSeqI, WL.wZip, WL.wRng3, WL.wRng1, WL.wRng2, WL.wEnum, WL.wLstRg, WL.wTupRg, WL.wR1, WL.wR2, WL.wCallD, WL.MdW, WL.wgSub, WL.one, WL.two, WL.lk, WL.isB_bl, WL.isI_int, WL.cmpI, WL.isNW, WL.notNW, WL.nonW, WL.wYes, WL.wLockE, WL.wLock, WL.wDNew, WL.wSortSet, WL.wNever, WL.addW_int, WL.addW_tup, WL.addW_str, WL.subW_int, WL.mulW_int, WL.modW_int, WL.fdivW_int, WL.powW_int, WL.negW_int, WL.intW_int, WL.intW_bl, WL.absW, WL.CTg.on, WL.wipeW, WL.setsW, WL.optW_some, WL.wDisp, WL.wPairs, WL.eqW_str, WL.neW_str, WL.eqW_int, WL.neW_int, WL.eqW_bl, WL.neW_bl, WL.ixW_tupE, WL.slW_tupE, WL.sortTW_ref, WL.lenW_tupE, WL.tupW_tupE, WL.listW_tupE, WL.atI_0, WL.atI_1, WL.atI_2, WL.atI_3, WL.atI_4, WL.seqOn_tup, WL.enumOn_tup, List.set, if_true, if_false, Bool.false_eq_true, if_pos, List.length_nil, List.length_cons, Bool.not_true, Bool.not_false]
  exact is_repr ha hb sa sb q
theorem is_same_data {a : W} {d : PyData} {G : WHp} {Q : WK} (h : Dw G a d) (s : ShOk d) (q : Q (.bl true) G) : S_law_is [a, a] G Q := ⟨a, a, d, d, rfl, h, h, s, s, by rw [decide_eq_true rfl]; exact q⟩
theorem is_nat {i : Nat} {G : WHp} {Q : WK} (hi : i < 100000) (q : Q (.bl true) G) : S_law_is [nI i, nI i] G Q := is_same_data (.int _) ((ShB.nat (Nat.lt_trans hi (by decide))).ok (by decide) (by decide)) q
end K54
set_option Elab.async false
set_option linter.all false
set_option maxRecDepth 100000
set_option maxHeartbeats 1000000
set_option pp.maxSteps 400
namespace K54
open PySem PySem.Spec PyProof.Rows L2 WL PR
/-! ### webs as objects -/
noncomputable def isWeb (C : Addr) (G : WHp) (x : Addr) (rs : List (List Nat)) : Prop := G x = some (.ins C [("reads", rdsW rs)])
noncomputable def S_Web_init (C : Addr) : WSp := fun ws G Q => ∃ (x : Addr) (rs : List (List Nat)), ws = [.ref x, rdsW rs] ∧ G x = some (.ins C []) ∧ ReadsOk rs ∧ ∀ G', ExtB x G G' → isWeb C G' x rs → Q .non G'
theorem v_Web_init {C : Addr} : ∀ ws G Q, S_Web_init C ws G Q → rd_Web_init C S_is_sized S_is_lot { nx := fun _ G' => Q .non G', rt := Q } (startW ["self", "reads", "number", "lot"] ws) G := by
  rintro ws G Q ⟨x, rs, rfl, hx, ok, q⟩
  show rd_Web_init _ _ _ _ [some (.ref x), some (rdsW rs), none, none] G
  unfold rd_Web_init
  have htn := ok.ten
  have hps := ok.pos
  simp only [WL.wSeq, WL.wSet, WL.wAsg, WL.wDrop, WL.wRet, WL.wRetN, WL.wIfS, WL.wBreak, WL.wCont, WL.wNext, WL.wV, WL.wC, WL.wOp, WL.wUn, WL.wNil, WL.wCons, WL.wApp, WL.wTest, WL.wChain, WL.wAndT, WL.wOrT, WL.wNotT, WL.wAnd, WL.wOr, WL.wNot, WL.wIf, WL.wTup, WL.wLst, WL.wCall, WL.wMake, WL.wFld, WL.wPutF, WL.wSl, WL.wPart, WL.wNoPart, WL.wRev, WL.wName, WL.wNames, WL.wSeqI, WL.wZip, WL.wRng3, WL.wRng1, WL.wRng2, WL.wEnum, WL.wLstRg, WL.wTupRg, WL.wR1, WL.wR2, WL.wCallD, WL.MdW, WL.wgSub, WL.one, WL.two, WL.lk, WL.isB_bl, WL.isI_int, WL.cmpI, WL.isNW, WL.notNW, WL.nonW, WL.wYes, WL.wLockE, WL.wLock, WL.wDNew, WL.wSortSet, WL.wNever, WL.addW_int, WL.addW_tup, WL.addW_str, WL.subW_int, WL.mulW_int, WL.modW_int, WL.fdivW_int, WL.powW_int, WL.negW_int, WL.intW_int, WL.intW_bl, WL.absW, WL.CTg.on, WL.wipeW, WL.setsW, WL.optW_some, WL.wDisp, WL.wPairs, WL.eqW_str, WL.neW_str, WL.eqW_int, WL.neW_int, WL.eqW_bl, WL.neW_bl, WL.ixW_tupE, WL.slW_tupE, WL.sortTW_ref, WL.lenW_tupE, WL.tupW_tupE, WL.listW_tupE, WL.atI_0, WL.atI_1, WL.atI_2, WL.atI_3, WL.atI_4, WL.seqOn_tup, WL.enumOn_tup, List.set, if_true, if_false, Bool.false_eq_true, if_pos, List.length_nil, List.length_cons, Bool.not_true, Bool.not_false]
  refine ⟨rdsW rs, 1, 10, rfl, .t, ?_⟩
  rw [show sizB 1 10 (rdsW rs) = true from by
    show (decide ((1 : Int) ≤ ((rs.map fun l => W.tup (l.map nI)).length : Int)) && decide (((rs.map fun l => W.tup (l.map nI)).length : Int) ≤ 10)) = true
    rw [List.length_map, decide_eq_true (by omega), decide_eq_true (by omega)]; rfl]
  simp only [WL.wSeq, WL.wSet, WL.wAsg, WL.wDrop, WL.wRet, WL.wRetN, WL.wIfS, WL.wBreak, WL.wCont, WL.wNext, WL.wV, WL.wC, WL.wOp, WL.wUn, WL.wNil, WL.wCons, WL.wApp, WL.wTest, WL.wChain, WL.wAndT, WL.wOrT, WL.wNotT, WL.wAnd, WL.wOr, WL.wNot, WL.wIf, WL.wTup, WL.wLst, WL.wCall, WL.wMake, WL.wFld, WL.wPutF, WL.wSl, WL.wPart, WL.wNoPart, WL.wRev, WL.wName, WL.wNames, WL.wSeqI, WL.wZip, WL.wRng3, WL.wRng1, WL.wRng2, WL.wEnum, WL.wLstRg, WL.wTupRg, WL.wR1, WL.wR2, WL.wCallD, WL.MdW, WL.wgSub, WL.one, WL.two, WL.lk, WL.isB_bl, WL.isI_int, WL.cmpI, WL.isNW, WL.notNW, WL.nonW, WL.wYes, WL.wLockE, WL.wLock, WL.wDNew, WL.wSortSet, WL.wNever, WL.addW_int, WL.addW_tup, WL.addW_str, WL.subW_int, WL.mulW_int, WL.modW_int, WL.fdivW_int, WL.powW_int, WL.negW_int, WL.intW_int, WL.intW_bl, WL.absW, WL.CTg.on, WL.wipeW, WL.setsW, WL.optW_some, WL.wDisp, WL.wPairs, WL.eqW_str, WL.neW_str, WL.eqW_int, WL.neW_int, WL.eqW_bl, WL.neW_bl, WL.ixW_tupE, WL.slW_tupE, WL.sortTW_ref, WL.lenW_tupE, WL.tupW_tupE, WL.listW_tupE, WL.atI_0, WL.atI_1, WL.atI_2, WL.atI_3, WL.atI_4, WL.seqOn_tup, WL.enumOn_tup, List.set, if_true, if_false, Bool.false_eq_true, if_pos, List.length_nil, List.length_cons, Bool.not_true, Bool.not_false]
  refine wFor_of (G1 := G) (items := numW 0 (rs.map fun l => .tup (l.map nI))) (stable := fun _ => True) (fun K hK => by unfold rdsW; simp only [WL.wSeq, WL.wSet, WL.wAsg, WL.wDrop, WL.wRet, WL.wRetN, WL.wIfS, WL.wBreak, WL.wCont, WL.wNext, WL.wV, WL.wC, WL.wOp, WL.wUn, WL.wNil, WL.wCons, WL.wApp, WL.wTest, WL.wChain, WL.wAndT, WL.wOrT, WL.wNotT, WL.wAnd, WL.wOr, WL.wNot, WL.wIf, WL.wTup, WL.wLst, WL.wCall, WL.wMake, WL.wFld, WL.wPutF, WL.wSl, WL.wPart, WL.wNoPart, WL.wRev, WL.wName, WL.wNames, WL.wSeqI, WL.wZip, WL.wRng3, WL.wRng1, WL.wRng2, WL.wEnum, WL.wLstRg, WL.wTupRg, WL.wR1, WL.wR2, WL.wCallD, WL.MdW, WL.wgSub, WL.one, WL.two, WL.lk, WL.isB_bl, WL.isI_int, WL.cmpI, WL.isNW, WL.notNW, WL.nonW, WL.wYes, WL.wLockE, WL.wLock, WL.wDNew, WL.wSortSet, WL.wNever, WL.addW_int, WL.addW_tup, WL.addW_str, WL.subW_int, WL.mulW_int, WL.modW_int, WL.fdivW_int, WL.powW_int, WL.negW_int, WL.intW_int, WL.intW_bl, WL.absW, WL.CTg.on, WL.wipeW, WL.setsW, WL.optW_some, WL.wDisp, WL.wPairs, WL.eqW_str, WL.neW_str, WL.eqW_int, WL.neW_int, WL.eqW_bl, WL.neW_bl, WL.ixW_tupE, WL.slW_tupE, WL.sortTW_ref, WL.lenW_tupE, WL.tupW_tupE, WL.listW_tupE, WL.atI_0, WL.atI_1, WL.atI_2, WL.atI_3, WL.atI_4, WL.seqOn_tup, WL.enumOn_tup, List.set, if_true, if_false, Bool.false_eq_true, if_pos, List.length_nil, List.length_cons, Bool.not_true, Bool.not_false]; exact hK)
    (fun j ρ G' => Ext G G' ∧ ∃ a b : Option W, ρ = [some (.ref x), some (rdsW rs), a, b]) ⟨.refl, none, none, rfl⟩ (fun _ _ _ _ _ => trivial) ?_ ?_
  · rintro j w ρ G2 hw ⟨e2, a, b, rfl⟩
    obtain ⟨y, hy, rfl⟩ := numW_at hw
    rw [List.getElem?_map] at hy
    cases hl : rs[j]? with
    | none => rw [hl] at hy; cases hy
    | some l =>
      rw [hl] at hy
      have hy := (Option.some.inj hy).symm
      subst hy
      rw [Nat.zero_add]
      have hlt := ok.lt j l hl
      have hasc := ok.asc l (List.mem_of_getElem? hl)
      have hjn : j < rs.length := (List.getElem?_eq_some_iff.mp hl).1
      refine ⟨rfl, ?_⟩
      simp only [WL.wSeq, WL.wSet, WL.wAsg, WL.wDrop, WL.wRet, WL.wRetN, WL.wIfS, WL.wBreak, WL.wCont, WL.wNext, WL.wV, WL.wC, WL.wOp, WL.wUn, WL.wNil, WL.wCons, WL.wApp, WL.wTest, WL.wChain, WL.wAndT, WL.wOrT, WL.wNotT, WL.wAnd, WL.wOr, WL.wNot, WL.wIf, WL.wTup, WL.wLst, WL.wCall, WL.wMake, WL.wFld, WL.wPutF, WL.wSl, WL.wPart, WL.wNoPart, WL.wRev, WL.wName, WL.wNames, WL.wSeqI, WL.wZip, WL.wRng3, WL.wRng1, WL.wRng2, WL.wEnum, WL.wLstRg, WL.wTupRg, WL.wR1, WL.wR2, WL.wCallD, WL.MdW, WL.wgSub, WL.one, WL.two, WL.lk, WL.isB_bl, WL.isI_int, WL.cmpI, WL.isNW, WL.notNW, WL.nonW, WL.wYes, WL.wLockE, WL.wLock, WL.wDNew, WL.wSortSet, WL.wNever, WL.addW_int, WL.addW_tup, WL.addW_str, WL.subW_int, WL.mulW_int, WL.modW_int, WL.fdivW_int, WL.powW_int, WL.negW_int, WL.intW_int, WL.intW_bl, WL.absW, WL.CTg.on, WL.wipeW, WL.setsW, WL.optW_some, WL.wDisp, WL.wPairs, WL.eqW_str, WL.neW_str, WL.eqW_int, WL.neW_int, WL.eqW_bl, WL.neW_bl, WL.ixW_tupE, WL.slW_tupE, WL.sortTW_ref, WL.lenW_tupE, WL.tupW_tupE, WL.listW_tupE, WL.atI_0, WL.atI_1, WL.atI_2, WL.atI_3, WL.atI_4, WL.seqOn_tup, WL.enumOn_tup, List.set, if_true, if_false, Bool.false_eq_true, if_pos, List.length_nil, List.length_cons, Bool.not_true, Bool.not_false]
      have hll : l.length ≤ 10 := by
        have e : l = rdOf rs j := by unfold rdOf; rw [List.getD_eq_getElem?_getD, hl]; rfl
        rw [e]
        have := rd_len ok hjn
        omega
      have el : l.map nI = (l.map fun (n : Nat) => (n : Int)).map W.int := by rw [List.map_map]; rfl
      refine ⟨.tup (l.map nI), (j : Int), rfl, ⟨.t, fun l' e => ?_⟩, fun l' e => ?_, fun b G3 hb e3 => ?_⟩
      · cases e
        refine ⟨by rw [List.length_map]; exact Nat.lt_of_le_of_lt hll (by decide), fun z hz => ?_⟩
        obtain ⟨o, _, rfl⟩ := List.mem_map.mp hz
        exact .i
      · cases e
        rw [List.length_map]; omega
      · have : b = true := hb.mpr ⟨l.map fun (n : Nat) => (n : Int), by rw [el], List.pairwise_map.mpr (hasc.imp fun h => by omega), fun n hn => by
          obtain ⟨o, ho, rfl⟩ := List.mem_map.mp hn
          have := hlt o ho
          exact ⟨Int.natCast_nonneg _, by omega⟩⟩
        subst this
        simp only [WL.wSeq, WL.wSet, WL.wAsg, WL.wDrop, WL.wRet, WL.wRetN, WL.wIfS, WL.wBreak, WL.wCont, WL.wNext, WL.wV, WL.wC, WL.wOp, WL.wUn, WL.wNil, WL.wCons, WL.wApp, WL.wTest, WL.wChain, WL.wAndT, WL.wOrT, WL.wNotT, WL.wAnd, WL.wOr, WL.wNot, WL.wIf, WL.wTup, WL.wLst, WL.wCall, WL.wMake, WL.wFld, WL.wPutF, WL.wSl, WL.wPart, WL.wNoPart, WL.wRev, WL.wName, WL.wNames, WL.wSeqI, WL.wZip, WL.wRng3, WL.wRng1, WL.wRng2, WL.wEnum, WL.wLstRg, WL.wTupRg, WL.wR1, WL.wR2, WL.wCallD, WL.MdW, WL.wgSub, WL.one, WL.two, WL.lk, WL.isB_bl, WL.isI_int, WL.cmpI, WL.isNW, WL.notNW, WL.nonW, WL.wYes, WL.wLockE, WL.wLock, WL.wDNew, WL.wSortSet, WL.wNever, WL.addW_int, WL.addW_tup, WL.addW_str, WL.subW_int, WL.mulW_int, WL.modW_int, WL.fdivW_int, WL.powW_int, WL.negW_int, WL.intW_int, WL.intW_bl, WL.absW, WL.CTg.on, WL.wipeW, WL.setsW, WL.optW_some, WL.wDisp, WL.wPairs, WL.eqW_str, WL.neW_str, WL.eqW_int, WL.neW_int, WL.eqW_bl, WL.neW_bl, WL.ixW_tupE, WL.slW_tupE, WL.sortTW_ref, WL.lenW_tupE, WL.tupW_tupE, WL.listW_tupE, WL.atI_0, WL.atI_1, WL.atI_2, WL.atI_3, WL.atI_4, WL.seqOn_tup, WL.enumOn_tup, List.set, if_true, if_false, Bool.false_eq_true, if_pos, List.length_nil, List.length_cons, Bool.not_true, Bool.not_false]
        exact ⟨e2.trans e3, _, _, rfl⟩
  · rintro ρ G2 ⟨e2, a, b, rfl⟩
    simp only [WL.wSeq, WL.wSet, WL.wAsg, WL.wDrop, WL.wRet, WL.wRetN, WL.wIfS, WL.wBreak, WL.wCont, WL.wNext, WL.wV, WL.wC, WL.wOp, WL.wUn, WL.wNil, WL.wCons, WL.wApp, WL.wTest, WL.wChain, WL.wAndT, WL.wOrT, WL.wNotT, WL.wAnd, WL.wOr, WL.wNot, WL.wIf, WL.wTup, WL.wLst, WL.wCall, WL.wMake, WL.wFld, WL.wPutF, WL.wSl, WL.wPart, WL.wNoPart, WL.wRev, WL.wName, WL.wNames, WL.wSeqI, WL.wZip, WL.wRng3, WL.wRng1, WL.wRng2, WL.wEnum, WL.wLstRg, WL.wTupRg, WL.wR1, WL.wR2, WL.wCallD, WL.MdW, WL.wgSub, WL.one, WL.two, WL.lk, WL.isB_bl, WL.isI_int, WL.cmpI, WL.isNW, WL.notNW, WL.nonW, WL.wYes, WL.wLockE, WL.wLock, WL.wDNew, WL.wSortSet, WL.wNever, WL.addW_int, WL.addW_tup, WL.addW_str, WL.subW_int, WL.mulW_int, WL.modW_int, WL.fdivW_int, WL.powW_int, WL.negW_int, WL.intW_int, WL.intW_bl, WL.absW, WL.CTg.on, WL.wipeW, WL.setsW, WL.optW_some, WL.wDisp, WL.wPairs, WL.eqW_str, WL.neW_str, WL.eqW_int, WL.neW_int, WL.eqW_bl, WL.neW_bl, WL.ixW_tupE, WL.slW_tupE, WL.sortTW_ref, WL.lenW_tupE, WL.tupW_tupE, WL.listW_tupE, WL.atI_0, WL.atI_1, WL.atI_2, WL.atI_3, WL.atI_4, WL.seqOn_tup, WL.enumOn_tup, List.set, if_true, if_false, Bool.false_eq_true, if_pos, List.length_nil, List.length_cons, Bool.not_true, Bool.not_false]
    refine insAt_of (e2 _ _ hx) ⟨by simp, ?_⟩
    refine q _ (fun r u hr hu => ?_) ?_
    · rw [updG_ne hr]; exact e2 _ _ hu
    · unfold isWeb
      rw [updG_same]; rfl
/-- what is held, as a tuple -/
noncomputable def hW (n m : Nat) : W := .tup ((ones n m).map nI)
section
variable {C x : Addr} {rs : List (List Nat)} {G : WHp}
theorem in_held {n m t : Nat} {Q : WK} (q : Q (.bl (decide (t < n ∧ m.testBit t = true))) G) : inW false (nI t) (hW n m) G Q := by
  have e : (ones n m).map nI = ((ones n m).map fun (k : Nat) => (k : Int)).map W.int := by rw [List.map_map]; rfl
  unfold hW
  rw [e]
  refine in_tup (i := (t : Int)) ?_
  have : decide ((t : Int) ∈ (ones n m).map fun (k : Nat) => (k : Int)) = decide (t < n ∧ m.testBit t = true) := by
    rw [Bool.eq_iff_iff, decide_eq_true_iff, decide_eq_true_iff, ← mem_ones, List.mem_map]
    exact ⟨fun ⟨k, h, e⟩ => by have := Int.ofNat.inj e; subst this; exact h, fun h => ⟨t, h, rfl⟩⟩
  rw [this]; exact q
theorem notin_held {n m t : Nat} {Q : WK} (q : Q (.bl (!decide (t < n ∧ m.testBit t = true))) G) : inW true (nI t) (hW n m) G Q := by
  have e : (ones n m).map nI = ((ones n m).map fun (k : Nat) => (k : Int)).map W.int := by rw [List.map_map]; rfl
  unfold hW
  rw [e]
  refine notin_tup (i := (t : Int)) ?_
  have : decide ((t : Int) ∈ (ones n m).map fun (k : Nat) => (k : Int)) = decide (t < n ∧ m.testBit t = true) := by
    rw [Bool.eq_iff_iff, decide_eq_true_iff, decide_eq_true_iff, ← mem_ones, List.mem_map]
    exact ⟨fun ⟨k, h, e⟩ => by have := Int.ofNat.inj e; subst this; exact h, fun h => ⟨t, h, rfl⟩⟩
  rw [this]; exact q
end
noncomputable def S_may_be_made (C : Addr) : WSp := fun ws G Q => ∃ (x : Addr) (rs : List (List Nat)) (m t : Nat), ws = [.ref x, hW rs.length m, nI t] ∧ isWeb C G x rs ∧ ReadsOk rs ∧ t < rs.length ∧ ∀ G', Ext G G' → Q (.bl (mayB rs m t)) G'
theorem v_may_be_made {C : Addr} : ∀ ws G Q, S_may_be_made C ws G Q → rd_may_be_made C { nx := fun _ G' => Q .non G', rt := Q } (startW ["web", "here", "thing", "other"] ws) G := by
  rintro ws G Q ⟨x, rs, m, t, rfl, hx, ok, ht, q⟩
  show rd_may_be_made _ _ [some (.ref x), some (hW rs.length m), some (nI t), none] G
  unfold rd_may_be_made
  have hrl : rs[t]? = some (rdOf rs t) := by
    unfold rdOf; rw [List.getD_eq_getElem?_getD, List.getElem?_eq_getElem ht]; rfl
  have htn := ok.ten
  have hlen := rd_len ok ht
  simp only [WL.wSeq, WL.wSet, WL.wAsg, WL.wDrop, WL.wRet, WL.wRetN, WL.wIfS, WL.wBreak, WL.wCont, WL.wNext, WL.wV, WL.wC, WL.wOp, WL.wUn, WL.wNil, WL.wCons, WL.wApp, WL.wTest, WL.wChain, WL.wAndT, WL.wOrT, WL.wNotT, WL.wAnd, WL.wOr, WL.wNot, WL.wIf, WL.wTup, WL.wLst, WL.wCall, WL.wMake, WL.wFld, WL.wPutF, WL.wSl, WL.wPart, WL.wNoPart, WL.wRev, WL.wName, WL.wNames, WL.wSeqI, WL.wZip, WL.wRng3, WL.wRng1, WL.wRng2, WL.wEnum, WL.wLstRg, WL.wTupRg, WL.wR1, WL.wR2, WL.wCallD, WL.MdW, WL.wgSub, WL.one, WL.two, WL.lk, WL.isB_bl, WL.isI_int, WL.cmpI, WL.isNW, WL.notNW, WL.nonW, WL.wYes, WL.wLockE, WL.wLock, WL.wDNew, WL.wSortSet, WL.wNever, WL.addW_int, WL.addW_tup, WL.addW_str, WL.subW_int, WL.mulW_int, WL.modW_int, WL.fdivW_int, WL.powW_int, WL.negW_int, WL.intW_int, WL.intW_bl, WL.absW, WL.CTg.on, WL.wipeW, WL.setsW, WL.optW_some, WL.wDisp, WL.wPairs, WL.eqW_str, WL.neW_str, WL.eqW_int, WL.neW_int, WL.eqW_bl, WL.neW_bl, WL.ixW_tupE, WL.slW_tupE, WL.sortTW_ref, WL.lenW_tupE, WL.tupW_tupE, WL.listW_tupE, WL.atI_0, WL.atI_1, WL.atI_2, WL.atI_3, WL.atI_4, WL.seqOn_tup, WL.enumOn_tup, List.set, if_true, if_false, Bool.false_eq_true, if_pos, List.length_nil, List.length_cons, Bool.not_true, Bool.not_false]
  refine notin_held ?_
  cases hb : m.testBit t with
  | true =>
    rw [show decide (t < rs.length ∧ true = true) = true by simp [ht]]
    simp only [WL.wSeq, WL.wSet, WL.wAsg, WL.wDrop, WL.wRet, WL.wRetN, WL.wIfS, WL.wBreak, WL.wCont, WL.wNext, WL.wV, WL.wC, WL.wOp, WL.wUn, WL.wNil, WL.wCons, WL.wApp, WL.wTest, WL.wChain, WL.wAndT, WL.wOrT, WL.wNotT, WL.wAnd, WL.wOr, WL.wNot, WL.wIf, WL.wTup, WL.wLst, WL.wCall, WL.wMake, WL.wFld, WL.wPutF, WL.wSl, WL.wPart, WL.wNoPart, WL.wRev, WL.wName, WL.wNames, WL.wSeqI, WL.wZip, WL.wRng3, WL.wRng1, WL.wRng2, WL.wEnum, WL.wLstRg, WL.wTupRg, WL.wR1, WL.wR2, WL.wCallD, WL.MdW, WL.wgSub, WL.one, WL.two, WL.lk, WL.isB_bl, WL.isI_int, WL.cmpI, WL.isNW, WL.notNW, WL.nonW, WL.wYes, WL.wLockE, WL.wLock, WL.wDNew, WL.wSortSet, WL.wNever, WL.addW_int, WL.addW_tup, WL.addW_str, WL.subW_int, WL.mulW_int, WL.modW_int, WL.fdivW_int, WL.powW_int, WL.negW_int, WL.intW_int, WL.intW_bl, WL.absW, WL.CTg.on, WL.wipeW, WL.setsW, WL.optW_some, WL.wDisp, WL.wPairs, WL.eqW_str, WL.neW_str, WL.eqW_int, WL.neW_int, WL.eqW_bl, WL.neW_bl, WL.ixW_tupE, WL.slW_tupE, WL.sortTW_ref, WL.lenW_tupE, WL.tupW_tupE, WL.listW_tupE, WL.atI_0, WL.atI_1, WL.atI_2, WL.atI_3, WL.atI_4, WL.seqOn_tup, WL.enumOn_tup, List.set, if_true, if_false, Bool.false_eq_true, if_pos, List.length_nil, List.length_cons, Bool.not_true, Bool.not_false]
    have := q G .refl
    unfold mayB at this
    rw [hb] at this
    exact this
  | false =>
    rw [show decide (t < rs.length ∧ false = true) = false by simp]
    simp only [WL.wSeq, WL.wSet, WL.wAsg, WL.wDrop, WL.wRet, WL.wRetN, WL.wIfS, WL.wBreak, WL.wCont, WL.wNext, WL.wV, WL.wC, WL.wOp, WL.wUn, WL.wNil, WL.wCons, WL.wApp, WL.wTest, WL.wChain, WL.wAndT, WL.wOrT, WL.wNotT, WL.wAnd, WL.wOr, WL.wNot, WL.wIf, WL.wTup, WL.wLst, WL.wCall, WL.wMake, WL.wFld, WL.wPutF, WL.wSl, WL.wPart, WL.wNoPart, WL.wRev, WL.wName, WL.wNames, WL.wSeqI, WL.wZip, WL.wRng3, WL.wRng1, WL.wRng2, WL.wEnum, WL.wLstRg, WL.wTupRg, WL.wR1, WL.wR2, WL.wCallD, WL.MdW, WL.wgSub, WL.one, WL.two, WL.lk, WL.isB_bl, WL.isI_int, WL.cmpI, WL.isNW, WL.notNW, WL.nonW, WL.wYes, WL.wLockE, WL.wLock, WL.wDNew, WL.wSortSet, WL.wNever, WL.addW_int, WL.addW_tup, WL.addW_str, WL.subW_int, WL.mulW_int, WL.modW_int, WL.fdivW_int, WL.powW_int, WL.negW_int, WL.intW_int, WL.intW_bl, WL.absW, WL.CTg.on, WL.wipeW, WL.setsW, WL.optW_some, WL.wDisp, WL.wPairs, WL.eqW_str, WL.neW_str, WL.eqW_int, WL.neW_int, WL.eqW_bl, WL.neW_bl, WL.ixW_tupE, WL.slW_tupE, WL.sortTW_ref, WL.lenW_tupE, WL.tupW_tupE, WL.listW_tupE, WL.atI_0, WL.atI_1, WL.atI_2, WL.atI_3, WL.atI_4, WL.seqOn_tup, WL.enumOn_tup, List.set, if_true, if_false, Bool.false_eq_true, if_pos, List.length_nil, List.length_cons, Bool.not_true, Bool.not_false]
    refine wLc_fm (G1 := G) (items := (rdOf rs t).map nI) (stable := fun _ => True) (fun K hK => ?_) (fun w => match w with | .int j => some (.bl (m.testBit j.toNat)) | _ => none) (by rw [List.length_map]; exact Nat.lt_of_le_of_lt (show _ ≤ 10 by omega) (by decide)) (fun _ _ => trivial) (fun k w hw G2 e2 K hK => ?_) (fun D G2 e2 hD => ?_)
    · simp only [WL.wSeq, WL.wSet, WL.wAsg, WL.wDrop, WL.wRet, WL.wRetN, WL.wIfS, WL.wBreak, WL.wCont, WL.wNext, WL.wV, WL.wC, WL.wOp, WL.wUn, WL.wNil, WL.wCons, WL.wApp, WL.wTest, WL.wChain, WL.wAndT, WL.wOrT, WL.wNotT, WL.wAnd, WL.wOr, WL.wNot, WL.wIf, WL.wTup, WL.wLst, WL.wCall, WL.wMake, WL.wFld, WL.wPutF, WL.wSl, WL.wPart, WL.wNoPart, WL.wRev, WL.wName, WL.wNames, WL.wSeqI, WL.wZip, WL.wRng3, WL.wRng1, WL.wRng2, WL.wEnum, WL.wLstRg, WL.wTupRg, WL.wR1, WL.wR2, WL.wCallD, WL.MdW, WL.wgSub, WL.one, WL.two, WL.lk, WL.isB_bl, WL.isI_int, WL.cmpI, WL.isNW, WL.notNW, WL.nonW, WL.wYes, WL.wLockE, WL.wLock, WL.wDNew, WL.wSortSet, WL.wNever, WL.addW_int, WL.addW_tup, WL.addW_str, WL.subW_int, WL.mulW_int, WL.modW_int, WL.fdivW_int, WL.powW_int, WL.negW_int, WL.intW_int, WL.intW_bl, WL.absW, WL.CTg.on, WL.wipeW, WL.setsW, WL.optW_some, WL.wDisp, WL.wPairs, WL.eqW_str, WL.neW_str, WL.eqW_int, WL.neW_int, WL.eqW_bl, WL.neW_bl, WL.ixW_tupE, WL.slW_tupE, WL.sortTW_ref, WL.lenW_tupE, WL.tupW_tupE, WL.listW_tupE, WL.atI_0, WL.atI_1, WL.atI_2, WL.atI_3, WL.atI_4, WL.seqOn_tup, WL.enumOn_tup, List.set, if_true, if_false, Bool.false_eq_true, if_pos, List.length_nil, List.length_cons, Bool.not_true, Bool.not_false]
      refine insAt_of hx (optW_of rfl ?_)
      refine rds_at (t := t) hrl ?_
      simp only [WL.wSeq, WL.wSet, WL.wAsg, WL.wDrop, WL.wRet, WL.wRetN, WL.wIfS, WL.wBreak, WL.wCont, WL.wNext, WL.wV, WL.wC, WL.wOp, WL.wUn, WL.wNil, WL.wCons, WL.wApp, WL.wTest, WL.wChain, WL.wAndT, WL.wOrT, WL.wNotT, WL.wAnd, WL.wOr, WL.wNot, WL.wIf, WL.wTup, WL.wLst, WL.wCall, WL.wMake, WL.wFld, WL.wPutF, WL.wSl, WL.wPart, WL.wNoPart, WL.wRev, WL.wName, WL.wNames, WL.wSeqI, WL.wZip, WL.wRng3, WL.wRng1, WL.wRng2, WL.wEnum, WL.wLstRg, WL.wTupRg, WL.wR1, WL.wR2, WL.wCallD, WL.MdW, WL.wgSub, WL.one, WL.two, WL.lk, WL.isB_bl, WL.isI_int, WL.cmpI, WL.isNW, WL.notNW, WL.nonW, WL.wYes, WL.wLockE, WL.wLock, WL.wDNew, WL.wSortSet, WL.wNever, WL.addW_int, WL.addW_tup, WL.addW_str, WL.subW_int, WL.mulW_int, WL.modW_int, WL.fdivW_int, WL.powW_int, WL.negW_int, WL.intW_int, WL.intW_bl, WL.absW, WL.CTg.on, WL.wipeW, WL.setsW, WL.optW_some, WL.wDisp, WL.wPairs, WL.eqW_str, WL.neW_str, WL.eqW_int, WL.neW_int, WL.eqW_bl, WL.neW_bl, WL.ixW_tupE, WL.slW_tupE, WL.sortTW_ref, WL.lenW_tupE, WL.tupW_tupE, WL.listW_tupE, WL.atI_0, WL.atI_1, WL.atI_2, WL.atI_3, WL.atI_4, WL.seqOn_tup, WL.enumOn_tup, List.set, if_true, if_false, Bool.false_eq_true, if_pos, List.length_nil, List.length_cons, Bool.not_true, Bool.not_false]
      exact hK
    · rw [List.getElem?_map] at hw
      cases ho : (rdOf rs t)[k]? with
      | none => rw [ho] at hw; cases hw
      | some o =>
        rw [ho] at hw; cases hw
        have hot := rd_lt ok (List.mem_of_getElem? ho)
        simp only [WL.wSeq, WL.wSet, WL.wAsg, WL.wDrop, WL.wRet, WL.wRetN, WL.wIfS, WL.wBreak, WL.wCont, WL.wNext, WL.wV, WL.wC, WL.wOp, WL.wUn, WL.wNil, WL.wCons, WL.wApp, WL.wTest, WL.wChain, WL.wAndT, WL.wOrT, WL.wNotT, WL.wAnd, WL.wOr, WL.wNot, WL.wIf, WL.wTup, WL.wLst, WL.wCall, WL.wMake, WL.wFld, WL.wPutF, WL.wSl, WL.wPart, WL.wNoPart, WL.wRev, WL.wName, WL.wNames, WL.wSeqI, WL.wZip, WL.wRng3, WL.wRng1, WL.wRng2, WL.wEnum, WL.wLstRg, WL.wTupRg, WL.wR1, WL.wR2, WL.wCallD, WL.MdW, WL.wgSub, WL.one, WL.two, WL.lk, WL.isB_bl, WL.isI_int, WL.cmpI, WL.isNW, WL.notNW, WL.nonW, WL.wYes, WL.wLockE, WL.wLock, WL.wDNew, WL.wSortSet, WL.wNever, WL.addW_int, WL.addW_tup, WL.addW_str, WL.subW_int, WL.mulW_int, WL.modW_int, WL.fdivW_int, WL.powW_int, WL.negW_int, WL.intW_int, WL.intW_bl, WL.absW, WL.CTg.on, WL.wipeW, WL.setsW, WL.optW_some, WL.wDisp, WL.wPairs, WL.eqW_str, WL.neW_str, WL.eqW_int, WL.neW_int, WL.eqW_bl, WL.neW_bl, WL.ixW_tupE, WL.slW_tupE, WL.sortTW_ref, WL.lenW_tupE, WL.tupW_tupE, WL.listW_tupE, WL.atI_0, WL.atI_1, WL.atI_2, WL.atI_3, WL.atI_4, WL.seqOn_tup, WL.enumOn_tup, List.set, if_true, if_false, Bool.false_eq_true, if_pos, List.length_nil, List.length_cons, Bool.not_true, Bool.not_false]
        refine in_held ?_
        have e : decide (o < rs.length ∧ m.testBit o = true) = m.testBit o := by
          cases m.testBit o <;> simp <;> omega
        rw [e]
        have := hK G2 .refl
        unfold nI at this
        simp only [Int.toNat_natCast] at this
        exact this
    · have e : ((rdOf rs t).map nI).filterMap (fun w => match w with | W.int j => some (W.bl (m.testBit j.toNat)) | _ => none) = ((rdOf rs t).map fun o => m.testBit o).map W.bl := by
        rw [List.map_map]
        exact fm_map2 fun o _ => by show some (W.bl (m.testBit ((o : Int)).toNat)) = _; rw [Int.toNat_natCast]; rfl
      rw [e]
      refine allW_of updG_same ?_
      have := q (updG G2 D (.lst (((rdOf rs t).map fun o => m.testBit o).map W.bl))) (e2.trans (.new hD))
      unfold mayB at this
      rw [hb] at this
      rw [List.all_map]
      exact this
end K54
set_option Elab.async false
set_option linter.all false
set_option maxRecDepth 100000
set_option maxHeartbeats 1000000
set_option pp.maxSteps 400
namespace K54
open PySem PySem.Spec PyProof.Rows L2 WL PR
/-! ### the program's moves -/
noncomputable def okMv (rs : List (List Nat)) (m : Nat) : Mv → Prop
  | .clear t => t < rs.length ∧ m.testBit t = true
  | .fill t => t < rs.length ∧ mayB rs m t = true
  | .slide t o => t < rs.length ∧ mayB rs m t = true ∧ o ∈ rdOf rs t
noncomputable def toM (m : Nat) : Mv → Nat
  | .clear t => m - 2 ^ t
  | .fill t => m + 2 ^ t
  | .slide t o => m + 2 ^ t - 2 ^ o
noncomputable def intL (l : List Nat) : List Int := l.map fun (n : Nat) => (n : Int)
theorem intL_w (l : List Nat) : l.map nI = (intL l).map W.int := by unfold intL; rw [List.map_map]; rfl
theorem sorted_is {l k : List Nat} {ns : List Int} (h : ns.Perm (intL l)) (hs : ns.Pairwise (· ≤ ·)) (hp : l.Perm k) (hk : List.Pairwise (fun a b : Nat => a < b) k) : ns = intL k := by
  have p2 : ns.Perm (intL k) := h.trans (hp.map _)
  refine p2.eq_of_pairwise (fun a b _ _ h1 h2 => Int.le_antisymm h1 h2) hs ?_
  unfold intL
  exact List.pairwise_map.mpr (hk.imp fun h => by omega)
noncomputable def S_behind_move (C : Addr) : WSp := fun ws G Q => ∃ (x : Addr) (rs : List (List Nat)) (m : Nat) (mv : Mv), ws = [.ref x, hW rs.length m, mvW mv] ∧ isWeb C G x rs ∧ ReadsOk rs ∧ m < 2 ^ rs.length ∧ okMv rs m mv ∧ ∀ G', Ext G G' → Q (hW rs.length (toM m mv)) G'
theorem filt_list {n m d : Nat} : ((ones n m).map nI).filterMap (fun w => match w with | W.int j => (if decide (j ≠ (d : Int)) = true then some (W.int j) else none) | _ => none) = (((ones n m).filter fun j => !decide (j = d)).map nI) := by
  refine fm_filter (a := nI) (b := nI) (p := fun j => !decide (j = d)) fun o _ => ?_
  show (if decide ((o : Int) ≠ (d : Int)) = true then some (W.int (o : Int)) else none) = _
  by_cases e : o = d
  · subst e; simp
  · rw [decide_eq_true (show (o : Int) ≠ (d : Int) by omega)]
    simp [e]; rfl
theorem v_behind_move {C : Addr} : ∀ ws G Q, S_behind_move C ws G Q → rd_behind_move C (S_may_be_made C) { nx := fun _ G' => Q .non G', rt := Q } (startW ["web", "here", "move", "thing", "other"] ws) G := by
  rintro ws G Q ⟨x, rs, m, mv, rfl, hx, ok, hm, hok, q⟩
  show rd_behind_move _ _ _ [some (.ref x), some (hW rs.length m), some (mvW mv), none, none] G
  unfold rd_behind_move
  have htn := ok.ten
  have hlen : (ones rs.length m).length ≤ 10 := Nat.le_trans ones_len htn
  have sl : ∀ n : Nat, n ≤ 100 → n < sizeLine := fun n h => Nat.lt_of_le_of_lt h (by decide)
  cases mv with
  | clear t =>
    obtain ⟨ht, hb⟩ := hok
    unfold mvW nI
    simp only [WL.wSeq, WL.wSet, WL.wAsg, WL.wDrop, WL.wRet, WL.wRetN, WL.wIfS, WL.wBreak, WL.wCont, WL.wNext, WL.wV, WL.wC, WL.wOp, WL.wUn, WL.wNil, WL.wCons, WL.wApp, WL.wTest, WL.wChain, WL.wAndT, WL.wOrT, WL.wNotT, WL.wAnd, WL.wOr, WL.wNot, WL.wIf, WL.wTup, WL.wLst, WL.wCall, WL.wMake, WL.wFld, WL.wPutF, WL.wSl, WL.wPart, WL.wNoPart, WL.wRev, WL.wName, WL.wNames, WL.wSeqI, WL.wZip, WL.wRng3, WL.wRng1, WL.wRng2, WL.wEnum, WL.wLstRg, WL.wTupRg, WL.wR1, WL.wR2, WL.wCallD, WL.MdW, WL.wgSub, WL.one, WL.two, WL.lk, WL.isB_bl, WL.isI_int, WL.cmpI, WL.isNW, WL.notNW, WL.nonW, WL.wYes, WL.wLockE, WL.wLock, WL.wDNew, WL.wSortSet, WL.wNever, WL.addW_int, WL.addW_tup, WL.addW_str, WL.subW_int, WL.mulW_int, WL.modW_int, WL.fdivW_int, WL.powW_int, WL.negW_int, WL.intW_int, WL.intW_bl, WL.absW, WL.CTg.on, WL.wipeW, WL.setsW, WL.optW_some, WL.wDisp, WL.wPairs, WL.eqW_str, WL.neW_str, WL.eqW_int, WL.neW_int, WL.eqW_bl, WL.neW_bl, WL.ixW_tupE, WL.slW_tupE, WL.sortTW_ref, WL.lenW_tupE, WL.tupW_tupE, WL.listW_tupE, WL.atI_0, WL.atI_1, WL.atI_2, WL.atI_3, WL.atI_4, WL.seqOn_tup, WL.enumOn_tup, List.set, if_true, if_false, Bool.false_eq_true, if_pos, List.length_nil, List.length_cons, Bool.not_true, Bool.not_false]
    rw [if_pos (decide_eq_true trivial)]
    refine in_held (t := t) ?_
    rw [decide_eq_true (⟨ht, hb⟩ : t < rs.length ∧ m.testBit t = true)]
    simp only [WL.wSeq, WL.wSet, WL.wAsg, WL.wDrop, WL.wRet, WL.wRetN, WL.wIfS, WL.wBreak, WL.wCont, WL.wNext, WL.wV, WL.wC, WL.wOp, WL.wUn, WL.wNil, WL.wCons, WL.wApp, WL.wTest, WL.wChain, WL.wAndT, WL.wOrT, WL.wNotT, WL.wAnd, WL.wOr, WL.wNot, WL.wIf, WL.wTup, WL.wLst, WL.wCall, WL.wMake, WL.wFld, WL.wPutF, WL.wSl, WL.wPart, WL.wNoPart, WL.wRev, WL.wName, WL.wNames, WL.wSeqI, WL.wZip, WL.wRng3, WL.wRng1, WL.wRng2, WL.wEnum, WL.wLstRg, WL.wTupRg, WL.wR1, WL.wR2, WL.wCallD, WL.MdW, WL.wgSub, WL.one, WL.two, WL.lk, WL.isB_bl, WL.isI_int, WL.cmpI, WL.isNW, WL.notNW, WL.nonW, WL.wYes, WL.wLockE, WL.wLock, WL.wDNew, WL.wSortSet, WL.wNever, WL.addW_int, WL.addW_tup, WL.addW_str, WL.subW_int, WL.mulW_int, WL.modW_int, WL.fdivW_int, WL.powW_int, WL.negW_int, WL.intW_int, WL.intW_bl, WL.absW, WL.CTg.on, WL.wipeW, WL.setsW, WL.optW_some, WL.wDisp, WL.wPairs, WL.eqW_str, WL.neW_str, WL.eqW_int, WL.neW_int, WL.eqW_bl, WL.neW_bl, WL.ixW_tupE, WL.slW_tupE, WL.sortTW_ref, WL.lenW_tupE, WL.tupW_tupE, WL.listW_tupE, WL.atI_0, WL.atI_1, WL.atI_2, WL.atI_3, WL.atI_4, WL.seqOn_tup, WL.enumOn_tup, List.set, if_true, if_false, Bool.false_eq_true, if_pos, List.length_nil, List.length_cons, Bool.not_true, Bool.not_false]
    refine wLc_fm (G1 := G) (items := (ones rs.length m).map nI) (stable := fun _ => True) (fun K hK => ?_) (fun w => match w with | .int j => (if decide (j ≠ (t : Int)) = true then some (W.int j) else none) | _ => none) (by rw [List.length_map]; exact sl _ (by omega)) (fun _ _ => trivial) (fun k w hw G2 e2 K hK => ?_) (fun D G2 e2 hD => ?_)
    · unfold hW
      simp only [WL.wSeq, WL.wSet, WL.wAsg, WL.wDrop, WL.wRet, WL.wRetN, WL.wIfS, WL.wBreak, WL.wCont, WL.wNext, WL.wV, WL.wC, WL.wOp, WL.wUn, WL.wNil, WL.wCons, WL.wApp, WL.wTest, WL.wChain, WL.wAndT, WL.wOrT, WL.wNotT, WL.wAnd, WL.wOr, WL.wNot, WL.wIf, WL.wTup, WL.wLst, WL.wCall, WL.wMake, WL.wFld, WL.wPutF, WL.wSl, WL.wPart, WL.wNoPart, WL.wRev, WL.wName, WL.wNames, WL.wSeqI, WL.wZip, WL.wRng3, WL.wRng1, WL.wRng2, WL.wEnum, WL.wLstRg, WL.wTupRg, WL.wR1, WL.wR2, WL.wCallD, WL.MdW, WL.wgSub, WL.one, WL.two, WL.lk, WL.isB_bl, WL.isI_int, WL.cmpI, WL.isNW, WL.notNW, WL.nonW, WL.wYes, WL.wLockE, WL.wLock, WL.wDNew, WL.wSortSet, WL.wNever, WL.addW_int, WL.addW_tup, WL.addW_str, WL.subW_int, WL.mulW_int, WL.modW_int, WL.fdivW_int, WL.powW_int, WL.negW_int, WL.intW_int, WL.intW_bl, WL.absW, WL.CTg.on, WL.wipeW, WL.setsW, WL.optW_some, WL.wDisp, WL.wPairs, WL.eqW_str, WL.neW_str, WL.eqW_int, WL.neW_int, WL.eqW_bl, WL.neW_bl, WL.ixW_tupE, WL.slW_tupE, WL.sortTW_ref, WL.lenW_tupE, WL.tupW_tupE, WL.listW_tupE, WL.atI_0, WL.atI_1, WL.atI_2, WL.atI_3, WL.atI_4, WL.seqOn_tup, WL.enumOn_tup, List.set, if_true, if_false, Bool.false_eq_true, if_pos, List.length_nil, List.length_cons, Bool.not_true, Bool.not_false]
      exact hK
    · rw [List.getElem?_map] at hw
      cases ho : (ones rs.length m)[k]? with
      | none => rw [ho] at hw; cases hw
      | some o =>
        rw [ho] at hw; cases hw
        unfold nI
        simp only [WL.wSeq, WL.wSet, WL.wAsg, WL.wDrop, WL.wRet, WL.wRetN, WL.wIfS, WL.wBreak, WL.wCont, WL.wNext, WL.wV, WL.wC, WL.wOp, WL.wUn, WL.wNil, WL.wCons, WL.wApp, WL.wTest, WL.wChain, WL.wAndT, WL.wOrT, WL.wNotT, WL.wAnd, WL.wOr, WL.wNot, WL.wIf, WL.wTup, WL.wLst, WL.wCall, WL.wMake, WL.wFld, WL.wPutF, WL.wSl, WL.wPart, WL.wNoPart, WL.wRev, WL.wName, WL.wNames, WL.wSeqI, WL.wZip, WL.wRng3, WL.wRng1, WL.wRng2, WL.wEnum, WL.wLstRg, WL.wTupRg, WL.wR1, WL.wR2, WL.wCallD, WL.MdW, WL.wgSub, WL.one, WL.two, WL.lk, WL.isB_bl, WL.isI_int, WL.cmpI, WL.isNW, WL.notNW, WL.nonW, WL.wYes, WL.wLockE, WL.wLock, WL.wDNew, WL.wSortSet, WL.wNever, WL.addW_int, WL.addW_tup, WL.addW_str, WL.subW_int, WL.mulW_int, WL.modW_int, WL.fdivW_int, WL.powW_int, WL.negW_int, WL.intW_int, WL.intW_bl, WL.absW, WL.CTg.on, WL.wipeW, WL.setsW, WL.optW_some, WL.wDisp, WL.wPairs, WL.eqW_str, WL.neW_str, WL.eqW_int, WL.neW_int, WL.eqW_bl, WL.neW_bl, WL.ixW_tupE, WL.slW_tupE, WL.sortTW_ref, WL.lenW_tupE, WL.tupW_tupE, WL.listW_tupE, WL.atI_0, WL.atI_1, WL.atI_2, WL.atI_3, WL.atI_4, WL.seqOn_tup, WL.enumOn_tup, List.set, if_true, if_false, Bool.false_eq_true, if_pos, List.length_nil, List.length_cons, Bool.not_true, Bool.not_false]
        have := hK G2 .refl
        unfold nI at this
        by_cases e : (o : Int) = (t : Int)
        · simp [e] at this ⊢
          exact this
        · simp [e] at this ⊢
          exact this
    · rw [filt_list]
      refine tup_lst updG_same ?_
      rw [ones_sub hb]
      exact q _ (e2.trans (.new hD))
  | fill t =>
    obtain ⟨ht, hmay⟩ := hok
    obtain ⟨h1, h2⟩ := may_iff.mp hmay
    unfold mvW nI
    simp only [WL.wSeq, WL.wSet, WL.wAsg, WL.wDrop, WL.wRet, WL.wRetN, WL.wIfS, WL.wBreak, WL.wCont, WL.wNext, WL.wV, WL.wC, WL.wOp, WL.wUn, WL.wNil, WL.wCons, WL.wApp, WL.wTest, WL.wChain, WL.wAndT, WL.wOrT, WL.wNotT, WL.wAnd, WL.wOr, WL.wNot, WL.wIf, WL.wTup, WL.wLst, WL.wCall, WL.wMake, WL.wFld, WL.wPutF, WL.wSl, WL.wPart, WL.wNoPart, WL.wRev, WL.wName, WL.wNames, WL.wSeqI, WL.wZip, WL.wRng3, WL.wRng1, WL.wRng2, WL.wEnum, WL.wLstRg, WL.wTupRg, WL.wR1, WL.wR2, WL.wCallD, WL.MdW, WL.wgSub, WL.one, WL.two, WL.lk, WL.isB_bl, WL.isI_int, WL.cmpI, WL.isNW, WL.notNW, WL.nonW, WL.wYes, WL.wLockE, WL.wLock, WL.wDNew, WL.wSortSet, WL.wNever, WL.addW_int, WL.addW_tup, WL.addW_str, WL.subW_int, WL.mulW_int, WL.modW_int, WL.fdivW_int, WL.powW_int, WL.negW_int, WL.intW_int, WL.intW_bl, WL.absW, WL.CTg.on, WL.wipeW, WL.setsW, WL.optW_some, WL.wDisp, WL.wPairs, WL.eqW_str, WL.neW_str, WL.eqW_int, WL.neW_int, WL.eqW_bl, WL.neW_bl, WL.ixW_tupE, WL.slW_tupE, WL.sortTW_ref, WL.lenW_tupE, WL.tupW_tupE, WL.listW_tupE, WL.atI_0, WL.atI_1, WL.atI_2, WL.atI_3, WL.atI_4, WL.seqOn_tup, WL.enumOn_tup, List.set, if_true, if_false, Bool.false_eq_true, if_pos, List.length_nil, List.length_cons, Bool.not_true, Bool.not_false]
    rw [decide_eq_false (show ¬ ("fill" : Str) = "clear" by decide +kernel)]
    simp only [WL.wSeq, WL.wSet, WL.wAsg, WL.wDrop, WL.wRet, WL.wRetN, WL.wIfS, WL.wBreak, WL.wCont, WL.wNext, WL.wV, WL.wC, WL.wOp, WL.wUn, WL.wNil, WL.wCons, WL.wApp, WL.wTest, WL.wChain, WL.wAndT, WL.wOrT, WL.wNotT, WL.wAnd, WL.wOr, WL.wNot, WL.wIf, WL.wTup, WL.wLst, WL.wCall, WL.wMake, WL.wFld, WL.wPutF, WL.wSl, WL.wPart, WL.wNoPart, WL.wRev, WL.wName, WL.wNames, WL.wSeqI, WL.wZip, WL.wRng3, WL.wRng1, WL.wRng2, WL.wEnum, WL.wLstRg, WL.wTupRg, WL.wR1, WL.wR2, WL.wCallD, WL.MdW, WL.wgSub, WL.one, WL.two, WL.lk, WL.isB_bl, WL.isI_int, WL.cmpI, WL.isNW, WL.notNW, WL.nonW, WL.wYes, WL.wLockE, WL.wLock, WL.wDNew, WL.wSortSet, WL.wNever, WL.addW_int, WL.addW_tup, WL.addW_str, WL.subW_int, WL.mulW_int, WL.modW_int, WL.fdivW_int, WL.powW_int, WL.negW_int, WL.intW_int, WL.intW_bl, WL.absW, WL.CTg.on, WL.wipeW, WL.setsW, WL.optW_some, WL.wDisp, WL.wPairs, WL.eqW_str, WL.neW_str, WL.eqW_int, WL.neW_int, WL.eqW_bl, WL.neW_bl, WL.ixW_tupE, WL.slW_tupE, WL.sortTW_ref, WL.lenW_tupE, WL.tupW_tupE, WL.listW_tupE, WL.atI_0, WL.atI_1, WL.atI_2, WL.atI_3, WL.atI_4, WL.seqOn_tup, WL.enumOn_tup, List.set, if_true, if_false, Bool.false_eq_true, if_pos, List.length_nil, List.length_cons, Bool.not_true, Bool.not_false]
    refine ⟨x, rs, m, t, rfl, hx, ok, ht, fun G1 e1 => ?_⟩
    rw [hmay]
    simp only [WL.wSeq, WL.wSet, WL.wAsg, WL.wDrop, WL.wRet, WL.wRetN, WL.wIfS, WL.wBreak, WL.wCont, WL.wNext, WL.wV, WL.wC, WL.wOp, WL.wUn, WL.wNil, WL.wCons, WL.wApp, WL.wTest, WL.wChain, WL.wAndT, WL.wOrT, WL.wNotT, WL.wAnd, WL.wOr, WL.wNot, WL.wIf, WL.wTup, WL.wLst, WL.wCall, WL.wMake, WL.wFld, WL.wPutF, WL.wSl, WL.wPart, WL.wNoPart, WL.wRev, WL.wName, WL.wNames, WL.wSeqI, WL.wZip, WL.wRng3, WL.wRng1, WL.wRng2, WL.wEnum, WL.wLstRg, WL.wTupRg, WL.wR1, WL.wR2, WL.wCallD, WL.MdW, WL.wgSub, WL.one, WL.two, WL.lk, WL.isB_bl, WL.isI_int, WL.cmpI, WL.isNW, WL.notNW, WL.nonW, WL.wYes, WL.wLockE, WL.wLock, WL.wDNew, WL.wSortSet, WL.wNever, WL.addW_int, WL.addW_tup, WL.addW_str, WL.subW_int, WL.mulW_int, WL.modW_int, WL.fdivW_int, WL.powW_int, WL.negW_int, WL.intW_int, WL.intW_bl, WL.absW, WL.CTg.on, WL.wipeW, WL.setsW, WL.optW_some, WL.wDisp, WL.wPairs, WL.eqW_str, WL.neW_str, WL.eqW_int, WL.neW_int, WL.eqW_bl, WL.neW_bl, WL.ixW_tupE, WL.slW_tupE, WL.sortTW_ref, WL.lenW_tupE, WL.tupW_tupE, WL.listW_tupE, WL.atI_0, WL.atI_1, WL.atI_2, WL.atI_3, WL.atI_4, WL.seqOn_tup, WL.enumOn_tup, List.set, if_true, if_false, Bool.false_eq_true, if_pos, List.length_nil, List.length_cons, Bool.not_true, Bool.not_false]
    unfold hW
    simp only [WL.wSeq, WL.wSet, WL.wAsg, WL.wDrop, WL.wRet, WL.wRetN, WL.wIfS, WL.wBreak, WL.wCont, WL.wNext, WL.wV, WL.wC, WL.wOp, WL.wUn, WL.wNil, WL.wCons, WL.wApp, WL.wTest, WL.wChain, WL.wAndT, WL.wOrT, WL.wNotT, WL.wAnd, WL.wOr, WL.wNot, WL.wIf, WL.wTup, WL.wLst, WL.wCall, WL.wMake, WL.wFld, WL.wPutF, WL.wSl, WL.wPart, WL.wNoPart, WL.wRev, WL.wName, WL.wNames, WL.wSeqI, WL.wZip, WL.wRng3, WL.wRng1, WL.wRng2, WL.wEnum, WL.wLstRg, WL.wTupRg, WL.wR1, WL.wR2, WL.wCallD, WL.MdW, WL.wgSub, WL.one, WL.two, WL.lk, WL.isB_bl, WL.isI_int, WL.cmpI, WL.isNW, WL.notNW, WL.nonW, WL.wYes, WL.wLockE, WL.wLock, WL.wDNew, WL.wSortSet, WL.wNever, WL.addW_int, WL.addW_tup, WL.addW_str, WL.subW_int, WL.mulW_int, WL.modW_int, WL.fdivW_int, WL.powW_int, WL.negW_int, WL.intW_int, WL.intW_bl, WL.absW, WL.CTg.on, WL.wipeW, WL.setsW, WL.optW_some, WL.wDisp, WL.wPairs, WL.eqW_str, WL.neW_str, WL.eqW_int, WL.neW_int, WL.eqW_bl, WL.neW_bl, WL.ixW_tupE, WL.slW_tupE, WL.sortTW_ref, WL.lenW_tupE, WL.tupW_tupE, WL.listW_tupE, WL.atI_0, WL.atI_1, WL.atI_2, WL.atI_3, WL.atI_4, WL.seqOn_tup, WL.enumOn_tup, List.set, if_true, if_false, Bool.false_eq_true, if_pos, List.length_nil, List.length_cons, Bool.not_true, Bool.not_false]
    refine ⟨by decide, by rw [List.length_map]; exact Nat.le_of_lt (sl _ (show _ ≤ 100 by show (ones rs.length m).length + 1 ≤ 100; omega)), ?_⟩
    have e : (ones rs.length m).map nI ++ [W.int (t : Int)] = (intL (ones rs.length m ++ [t])).map W.int := by rw [← intL_w, List.map_append]; rfl
    rw [e]
    refine ⟨_, rfl, fun ns p hp hs hpn => ?_⟩
    have hperm : (ones rs.length m ++ [t]).Perm (ones rs.length (m + 2 ^ t)) := (List.perm_append_comm.trans (by exact ones_add ht h1))
    rw [sorted_is hp hs hperm (ones_lt _ _)]
    refine tup_lst updG_same ?_
    rw [← intL_w]
    exact q _ (e1.trans (.new hpn))
  | slide t o =>
    obtain ⟨ht, hmay, ho⟩ := hok
    obtain ⟨h1, h2⟩ := may_iff.mp hmay
    have hot := rd_lt ok ho
    have hbo := h2 o ho
    have hrl : rs[t]? = some (rdOf rs t) := by
      unfold rdOf; rw [List.getD_eq_getElem?_getD, List.getElem?_eq_getElem ht]; rfl
    unfold mvW nI
    simp only [WL.wSeq, WL.wSet, WL.wAsg, WL.wDrop, WL.wRet, WL.wRetN, WL.wIfS, WL.wBreak, WL.wCont, WL.wNext, WL.wV, WL.wC, WL.wOp, WL.wUn, WL.wNil, WL.wCons, WL.wApp, WL.wTest, WL.wChain, WL.wAndT, WL.wOrT, WL.wNotT, WL.wAnd, WL.wOr, WL.wNot, WL.wIf, WL.wTup, WL.wLst, WL.wCall, WL.wMake, WL.wFld, WL.wPutF, WL.wSl, WL.wPart, WL.wNoPart, WL.wRev, WL.wName, WL.wNames, WL.wSeqI, WL.wZip, WL.wRng3, WL.wRng1, WL.wRng2, WL.wEnum, WL.wLstRg, WL.wTupRg, WL.wR1, WL.wR2, WL.wCallD, WL.MdW, WL.wgSub, WL.one, WL.two, WL.lk, WL.isB_bl, WL.isI_int, WL.cmpI, WL.isNW, WL.notNW, WL.nonW, WL.wYes, WL.wLockE, WL.wLock, WL.wDNew, WL.wSortSet, WL.wNever, WL.addW_int, WL.addW_tup, WL.addW_str, WL.subW_int, WL.mulW_int, WL.modW_int, WL.fdivW_int, WL.powW_int, WL.negW_int, WL.intW_int, WL.intW_bl, WL.absW, WL.CTg.on, WL.wipeW, WL.setsW, WL.optW_some, WL.wDisp, WL.wPairs, WL.eqW_str, WL.neW_str, WL.eqW_int, WL.neW_int, WL.eqW_bl, WL.neW_bl, WL.ixW_tupE, WL.slW_tupE, WL.sortTW_ref, WL.lenW_tupE, WL.tupW_tupE, WL.listW_tupE, WL.atI_0, WL.atI_1, WL.atI_2, WL.atI_3, WL.atI_4, WL.seqOn_tup, WL.enumOn_tup, List.set, if_true, if_false, Bool.false_eq_true, if_pos, List.length_nil, List.length_cons, Bool.not_true, Bool.not_false]
    rw [decide_eq_false (show ¬ ("slide" : Str) = "clear" by decide +kernel)]
    simp only [WL.wSeq, WL.wSet, WL.wAsg, WL.wDrop, WL.wRet, WL.wRetN, WL.wIfS, WL.wBreak, WL.wCont, WL.wNext, WL.wV, WL.wC, WL.wOp, WL.wUn, WL.wNil, WL.wCons, WL.wApp, WL.wTest, WL.wChain, WL.wAndT, WL.wOrT, WL.wNotT, WL.wAnd, WL.wOr, WL.wNot, WL.wIf, WL.wTup, WL.wLst, WL.wCall, WL.wMake, WL.wFld, WL.wPutF, WL.wSl, WL.wPart, WL.wNoPart, WL.wRev, WL.wName, WL.wNames, WL.wSeqI, WL.wZip, WL.wRng3, WL.wRng1, WL.wRng2, WL.wEnum, WL.wLstRg, WL.wTupRg, WL.wR1, WL.wR2, WL.wCallD, WL.MdW, WL.wgSub, WL.one, WL.two, WL.lk, WL.isB_bl, WL.isI_int, WL.cmpI, WL.isNW, WL.notNW, WL.nonW, WL.wYes, WL.wLockE, WL.wLock, WL.wDNew, WL.wSortSet, WL.wNever, WL.addW_int, WL.addW_tup, WL.addW_str, WL.subW_int, WL.mulW_int, WL.modW_int, WL.fdivW_int, WL.powW_int, WL.negW_int, WL.intW_int, WL.intW_bl, WL.absW, WL.CTg.on, WL.wipeW, WL.setsW, WL.optW_some, WL.wDisp, WL.wPairs, WL.eqW_str, WL.neW_str, WL.eqW_int, WL.neW_int, WL.eqW_bl, WL.neW_bl, WL.ixW_tupE, WL.slW_tupE, WL.sortTW_ref, WL.lenW_tupE, WL.tupW_tupE, WL.listW_tupE, WL.atI_0, WL.atI_1, WL.atI_2, WL.atI_3, WL.atI_4, WL.seqOn_tup, WL.enumOn_tup, List.set, if_true, if_false, Bool.false_eq_true, if_pos, List.length_nil, List.length_cons, Bool.not_true, Bool.not_false]
    refine ⟨x, rs, m, t, rfl, hx, ok, ht, fun G1 e1 => ?_⟩
    rw [hmay]
    simp only [WL.wSeq, WL.wSet, WL.wAsg, WL.wDrop, WL.wRet, WL.wRetN, WL.wIfS, WL.wBreak, WL.wCont, WL.wNext, WL.wV, WL.wC, WL.wOp, WL.wUn, WL.wNil, WL.wCons, WL.wApp, WL.wTest, WL.wChain, WL.wAndT, WL.wOrT, WL.wNotT, WL.wAnd, WL.wOr, WL.wNot, WL.wIf, WL.wTup, WL.wLst, WL.wCall, WL.wMake, WL.wFld, WL.wPutF, WL.wSl, WL.wPart, WL.wNoPart, WL.wRev, WL.wName, WL.wNames, WL.wSeqI, WL.wZip, WL.wRng3, WL.wRng1, WL.wRng2, WL.wEnum, WL.wLstRg, WL.wTupRg, WL.wR1, WL.wR2, WL.wCallD, WL.MdW, WL.wgSub, WL.one, WL.two, WL.lk, WL.isB_bl, WL.isI_int, WL.cmpI, WL.isNW, WL.notNW, WL.nonW, WL.wYes, WL.wLockE, WL.wLock, WL.wDNew, WL.wSortSet, WL.wNever, WL.addW_int, WL.addW_tup, WL.addW_str, WL.subW_int, WL.mulW_int, WL.modW_int, WL.fdivW_int, WL.powW_int, WL.negW_int, WL.intW_int, WL.intW_bl, WL.absW, WL.CTg.on, WL.wipeW, WL.setsW, WL.optW_some, WL.wDisp, WL.wPairs, WL.eqW_str, WL.neW_str, WL.eqW_int, WL.neW_int, WL.eqW_bl, WL.neW_bl, WL.ixW_tupE, WL.slW_tupE, WL.sortTW_ref, WL.lenW_tupE, WL.tupW_tupE, WL.listW_tupE, WL.atI_0, WL.atI_1, WL.atI_2, WL.atI_3, WL.atI_4, WL.seqOn_tup, WL.enumOn_tup, List.set, if_true, if_false, Bool.false_eq_true, if_pos, List.length_nil, List.length_cons, Bool.not_true, Bool.not_false]
    rw [decide_eq_false (show ¬ ("slide" : Str) = "fill" by decide +kernel)]
    simp only [WL.wSeq, WL.wSet, WL.wAsg, WL.wDrop, WL.wRet, WL.wRetN, WL.wIfS, WL.wBreak, WL.wCont, WL.wNext, WL.wV, WL.wC, WL.wOp, WL.wUn, WL.wNil, WL.wCons, WL.wApp, WL.wTest, WL.wChain, WL.wAndT, WL.wOrT, WL.wNotT, WL.wAnd, WL.wOr, WL.wNot, WL.wIf, WL.wTup, WL.wLst, WL.wCall, WL.wMake, WL.wFld, WL.wPutF, WL.wSl, WL.wPart, WL.wNoPart, WL.wRev, WL.wName, WL.wNames, WL.wSeqI, WL.wZip, WL.wRng3, WL.wRng1, WL.wRng2, WL.wEnum, WL.wLstRg, WL.wTupRg, WL.wR1, WL.wR2, WL.wCallD, WL.MdW, WL.wgSub, WL.one, WL.two, WL.lk, WL.isB_bl, WL.isI_int, WL.cmpI, WL.isNW, WL.notNW, WL.nonW, WL.wYes, WL.wLockE, WL.wLock, WL.wDNew, WL.wSortSet, WL.wNever, WL.addW_int, WL.addW_tup, WL.addW_str, WL.subW_int, WL.mulW_int, WL.modW_int, WL.fdivW_int, WL.powW_int, WL.negW_int, WL.intW_int, WL.intW_bl, WL.absW, WL.CTg.on, WL.wipeW, WL.setsW, WL.optW_some, WL.wDisp, WL.wPairs, WL.eqW_str, WL.neW_str, WL.eqW_int, WL.neW_int, WL.eqW_bl, WL.neW_bl, WL.ixW_tupE, WL.slW_tupE, WL.sortTW_ref, WL.lenW_tupE, WL.tupW_tupE, WL.listW_tupE, WL.atI_0, WL.atI_1, WL.atI_2, WL.atI_3, WL.atI_4, WL.seqOn_tup, WL.enumOn_tup, List.set, if_true, if_false, Bool.false_eq_true, if_pos, List.length_nil, List.length_cons, Bool.not_true, Bool.not_false]
    refine insAt_of (e1 _ _ hx) (optW_of rfl ?_)
    refine rds_at (t := t) hrl ?_
    rw [intL_w]
    refine notin_tup ?_
    rw [decide_eq_true (show (o : Int) ∈ intL (rdOf rs t) from List.mem_map.mpr ⟨o, ho, rfl⟩)]
    simp only [WL.wSeq, WL.wSet, WL.wAsg, WL.wDrop, WL.wRet, WL.wRetN, WL.wIfS, WL.wBreak, WL.wCont, WL.wNext, WL.wV, WL.wC, WL.wOp, WL.wUn, WL.wNil, WL.wCons, WL.wApp, WL.wTest, WL.wChain, WL.wAndT, WL.wOrT, WL.wNotT, WL.wAnd, WL.wOr, WL.wNot, WL.wIf, WL.wTup, WL.wLst, WL.wCall, WL.wMake, WL.wFld, WL.wPutF, WL.wSl, WL.wPart, WL.wNoPart, WL.wRev, WL.wName, WL.wNames, WL.wSeqI, WL.wZip, WL.wRng3, WL.wRng1, WL.wRng2, WL.wEnum, WL.wLstRg, WL.wTupRg, WL.wR1, WL.wR2, WL.wCallD, WL.MdW, WL.wgSub, WL.one, WL.two, WL.lk, WL.isB_bl, WL.isI_int, WL.cmpI, WL.isNW, WL.notNW, WL.nonW, WL.wYes, WL.wLockE, WL.wLock, WL.wDNew, WL.wSortSet, WL.wNever, WL.addW_int, WL.addW_tup, WL.addW_str, WL.subW_int, WL.mulW_int, WL.modW_int, WL.fdivW_int, WL.powW_int, WL.negW_int, WL.intW_int, WL.intW_bl, WL.absW, WL.CTg.on, WL.wipeW, WL.setsW, WL.optW_some, WL.wDisp, WL.wPairs, WL.eqW_str, WL.neW_str, WL.eqW_int, WL.neW_int, WL.eqW_bl, WL.neW_bl, WL.ixW_tupE, WL.slW_tupE, WL.sortTW_ref, WL.lenW_tupE, WL.tupW_tupE, WL.listW_tupE, WL.atI_0, WL.atI_1, WL.atI_2, WL.atI_3, WL.atI_4, WL.seqOn_tup, WL.enumOn_tup, List.set, if_true, if_false, Bool.false_eq_true, if_pos, List.length_nil, List.length_cons, Bool.not_true, Bool.not_false]
    refine wLc_fm (G1 := G1) (items := (ones rs.length m).map nI) (stable := fun _ => True) (fun K hK => ?_) (fun w => match w with | .int j => (if decide (j ≠ (o : Int)) = true then some (W.int j) else none) | _ => none) (by rw [List.length_map]; exact sl _ (by omega)) (fun _ _ => trivial) (fun k w hw G2 e2 K hK => ?_) (fun D G2 e2 hD => ?_)
    · unfold hW
      simp only [WL.wSeq, WL.wSet, WL.wAsg, WL.wDrop, WL.wRet, WL.wRetN, WL.wIfS, WL.wBreak, WL.wCont, WL.wNext, WL.wV, WL.wC, WL.wOp, WL.wUn, WL.wNil, WL.wCons, WL.wApp, WL.wTest, WL.wChain, WL.wAndT, WL.wOrT, WL.wNotT, WL.wAnd, WL.wOr, WL.wNot, WL.wIf, WL.wTup, WL.wLst, WL.wCall, WL.wMake, WL.wFld, WL.wPutF, WL.wSl, WL.wPart, WL.wNoPart, WL.wRev, WL.wName, WL.wNames, WL.wSeqI, WL.wZip, WL.wRng3, WL.wRng1, WL.wRng2, WL.wEnum, WL.wLstRg, WL.wTupRg, WL.wR1, WL.wR2, WL.wCallD, WL.MdW, WL.wgSub, WL.one, WL.two, WL.lk, WL.isB_bl, WL.isI_int, WL.cmpI, WL.isNW, WL.notNW, WL.nonW, WL.wYes, WL.wLockE, WL.wLock, WL.wDNew, WL.wSortSet, WL.wNever, WL.addW_int, WL.addW_tup, WL.addW_str, WL.subW_int, WL.mulW_int, WL.modW_int, WL.fdivW_int, WL.powW_int, WL.negW_int, WL.intW_int, WL.intW_bl, WL.absW, WL.CTg.on, WL.wipeW, WL.setsW, WL.optW_some, WL.wDisp, WL.wPairs, WL.eqW_str, WL.neW_str, WL.eqW_int, WL.neW_int, WL.eqW_bl, WL.neW_bl, WL.ixW_tupE, WL.slW_tupE, WL.sortTW_ref, WL.lenW_tupE, WL.tupW_tupE, WL.listW_tupE, WL.atI_0, WL.atI_1, WL.atI_2, WL.atI_3, WL.atI_4, WL.seqOn_tup, WL.enumOn_tup, List.set, if_true, if_false, Bool.false_eq_true, if_pos, List.length_nil, List.length_cons, Bool.not_true, Bool.not_false]
      exact hK
    · rw [List.getElem?_map] at hw
      cases hk : (ones rs.length m)[k]? with
      | none => rw [hk] at hw; cases hw
      | some j =>
        rw [hk] at hw; cases hw
        unfold nI
        simp only [WL.wSeq, WL.wSet, WL.wAsg, WL.wDrop, WL.wRet, WL.wRetN, WL.wIfS, WL.wBreak, WL.wCont, WL.wNext, WL.wV, WL.wC, WL.wOp, WL.wUn, WL.wNil, WL.wCons, WL.wApp, WL.wTest, WL.wChain, WL.wAndT, WL.wOrT, WL.wNotT, WL.wAnd, WL.wOr, WL.wNot, WL.wIf, WL.wTup, WL.wLst, WL.wCall, WL.wMake, WL.wFld, WL.wPutF, WL.wSl, WL.wPart, WL.wNoPart, WL.wRev, WL.wName, WL.wNames, WL.wSeqI, WL.wZip, WL.wRng3, WL.wRng1, WL.wRng2, WL.wEnum, WL.wLstRg, WL.wTupRg, WL.wR1, WL.wR2, WL.wCallD, WL.MdW, WL.wgSub, WL.one, WL.two, WL.lk, WL.isB_bl, WL.isI_int, WL.cmpI, WL.isNW, WL.notNW, WL.nonW, WL.wYes, WL.wLockE, WL.wLock, WL.wDNew, WL.wSortSet, WL.wNever, WL.addW_int, WL.addW_tup, WL.addW_str, WL.subW_int, WL.mulW_int, WL.modW_int, WL.fdivW_int, WL.powW_int, WL.negW_int, WL.intW_int, WL.intW_bl, WL.absW, WL.CTg.on, WL.wipeW, WL.setsW, WL.optW_some, WL.wDisp, WL.wPairs, WL.eqW_str, WL.neW_str, WL.eqW_int, WL.neW_int, WL.eqW_bl, WL.neW_bl, WL.ixW_tupE, WL.slW_tupE, WL.sortTW_ref, WL.lenW_tupE, WL.tupW_tupE, WL.listW_tupE, WL.atI_0, WL.atI_1, WL.atI_2, WL.atI_3, WL.atI_4, WL.seqOn_tup, WL.enumOn_tup, List.set, if_true, if_false, Bool.false_eq_true, if_pos, List.length_nil, List.length_cons, Bool.not_true, Bool.not_false]
        have := hK G2 .refl
        unfold nI at this
        by_cases e : (j : Int) = (o : Int)
        · simp [e] at this ⊢
          exact this
        · simp [e] at this ⊢
          exact this
    · rw [filt_list, ones_sub hbo]
      refine ⟨by decide, fun p1 hp1 => ?_⟩
      have nDp : D ≠ p1 := fun e => by rw [← e, updG_same] at hp1; cases hp1
      have hl2 : (ones rs.length (m - 2 ^ o)).length ≤ 10 := Nat.le_trans ones_len htn
      refine add_lst (xs := (ones rs.length (m - 2 ^ o)).map nI) (ys := [W.int (t : Int)]) (by rw [updG_ne nDp, updG_same]) updG_same (Nat.le_of_lt (sl _ (by rw [List.length_map]; show _ + 1 ≤ 100; omega))) fun p2 hp2 => ?_
      simp only [WL.wSeq, WL.wSet, WL.wAsg, WL.wDrop, WL.wRet, WL.wRetN, WL.wIfS, WL.wBreak, WL.wCont, WL.wNext, WL.wV, WL.wC, WL.wOp, WL.wUn, WL.wNil, WL.wCons, WL.wApp, WL.wTest, WL.wChain, WL.wAndT, WL.wOrT, WL.wNotT, WL.wAnd, WL.wOr, WL.wNot, WL.wIf, WL.wTup, WL.wLst, WL.wCall, WL.wMake, WL.wFld, WL.wPutF, WL.wSl, WL.wPart, WL.wNoPart, WL.wRev, WL.wName, WL.wNames, WL.wSeqI, WL.wZip, WL.wRng3, WL.wRng1, WL.wRng2, WL.wEnum, WL.wLstRg, WL.wTupRg, WL.wR1, WL.wR2, WL.wCallD, WL.MdW, WL.wgSub, WL.one, WL.two, WL.lk, WL.isB_bl, WL.isI_int, WL.cmpI, WL.isNW, WL.notNW, WL.nonW, WL.wYes, WL.wLockE, WL.wLock, WL.wDNew, WL.wSortSet, WL.wNever, WL.addW_int, WL.addW_tup, WL.addW_str, WL.subW_int, WL.mulW_int, WL.modW_int, WL.fdivW_int, WL.powW_int, WL.negW_int, WL.intW_int, WL.intW_bl, WL.absW, WL.CTg.on, WL.wipeW, WL.setsW, WL.optW_some, WL.wDisp, WL.wPairs, WL.eqW_str, WL.neW_str, WL.eqW_int, WL.neW_int, WL.eqW_bl, WL.neW_bl, WL.ixW_tupE, WL.slW_tupE, WL.sortTW_ref, WL.lenW_tupE, WL.tupW_tupE, WL.listW_tupE, WL.atI_0, WL.atI_1, WL.atI_2, WL.atI_3, WL.atI_4, WL.seqOn_tup, WL.enumOn_tup, List.set, if_true, if_false, Bool.false_eq_true, if_pos, List.length_nil, List.length_cons, Bool.not_true, Bool.not_false]
      have e : (ones rs.length (m - 2 ^ o)).map nI ++ [W.int (t : Int)] = (intL (ones rs.length (m - 2 ^ o) ++ [t])).map W.int := by rw [← intL_w, List.map_append]; rfl
      rw [e]
      refine sort_lst updG_same fun ns p hp hs hpn => ?_
      have ht2 : (m - 2 ^ o).testBit t = false := by rw [tb_sub t hbo, h1]; simp
      have hperm : (ones rs.length (m - 2 ^ o) ++ [t]).Perm (ones rs.length (m - 2 ^ o + 2 ^ t)) := (List.perm_append_comm.trans (by exact ones_add ht ht2))
      rw [sorted_is hp hs hperm (ones_lt _ _)]
      refine tup_lst updG_same ?_
      rw [← intL_w]
      have hge := Nat.ge_two_pow_of_testBit hbo
      rw [show m - 2 ^ o + 2 ^ t = m + 2 ^ t - 2 ^ o from (Nat.sub_add_comm hge).symm]
      exact q _ (e1.trans (e2.trans (Ext.trans (.new hD) (Ext.trans (.new hp1) (Ext.trans (.new hp2) (.new hpn))))))
end K54
set_option Elab.async false
set_option linter.all false
set_option maxRecDepth 100000
set_option maxHeartbeats 1000000
set_option pp.maxSteps 400
namespace K54
open PySem PySem.Spec PyProof.Rows L2 WL PR
/-! ### the program's list of moves -/
noncomputable def pmT (rs : List (List Nat)) (rooms : Nat) (apart : Bool) (m t : Nat) : List Mv :=
  if mayB rs m t = true then (if popc rs.length m < rooms then [.fill t] else []) ++ (if apart = true then [] else (rdOf rs t).map fun o => .slide t o) else []
noncomputable def pmL (rs : List (List Nat)) (rooms : Nat) (apart : Bool) (m : Nat) : List Mv := (ones rs.length m).map (fun t => .clear t) ++ (List.range rs.length).flatMap (pmT rs rooms apart m)
theorem pmL_ok {rs : List (List Nat)} {rooms : Nat} {apart : Bool} {m : Nat} {mv : Mv} (ok : ReadsOk rs) (h : mv ∈ pmL rs rooms apart m) (hr : popc rs.length m ≤ rooms) : okMv rs m mv ∧ Nx rs apart m (toM m mv) ∧ popc rs.length (toM m mv) ≤ rooms := by
  rcases List.mem_append.mp h with h | h
  · obtain ⟨t, ht, rfl⟩ := List.mem_map.mp h
    obtain ⟨h1, h2⟩ := mem_ones.mp ht
    have := popc_sub h1 h2
    exact ⟨⟨h1, h2⟩, .clear t h1 h2, by show popc rs.length (m - 2 ^ t) ≤ rooms; omega⟩
  · obtain ⟨t, ht, h⟩ := List.mem_flatMap.mp h
    have ht := List.mem_range.mp ht
    unfold pmT at h
    split at h
    · rename_i hm
      obtain ⟨h1, h2⟩ := may_iff.mp hm
      have hp := popc_add ht h1
      rcases List.mem_append.mp h with h | h
      · split at h
        · rename_i hlt
          rw [List.mem_singleton.mp h]
          exact ⟨⟨ht, hm⟩, .fill t ht hm, by show popc rs.length (m + 2 ^ t) ≤ rooms; omega⟩
        · cases h
      · cases apart with
        | true => cases h
        | false =>
          obtain ⟨o, ho, rfl⟩ := List.mem_map.mp h
          have hot := rd_lt ok ho
          have hb : (m + 2 ^ t).testBit o = true := by rw [tb_add o h1, h2 o ho]; simp
          have := popc_sub (n := rs.length) (by omega) hb
          exact ⟨⟨ht, hm, ho⟩, .slide t o ht hm ho rfl, by show popc rs.length (m + 2 ^ t - 2 ^ o) ≤ rooms; omega⟩
    · cases h
theorem pmL_all {rs : List (List Nat)} {rooms : Nat} {apart : Bool} {m k : Nat} (s : Nx rs apart m k) (hk : popc rs.length k ≤ rooms) : ∃ mv ∈ pmL rs rooms apart m, toM m mv = k := by
  have mem : ∀ {t : Nat} {mv : Mv}, t < rs.length → mv ∈ pmT rs rooms apart m t → mv ∈ pmL rs rooms apart m := fun ht h => List.mem_append_right _ (List.mem_flatMap.mpr ⟨_, List.mem_range.mpr ht, h⟩)
  cases s with
  | clear t ht h => exact ⟨.clear t, List.mem_append_left _ (List.mem_map.mpr ⟨t, mem_ones.mpr ⟨ht, h⟩, rfl⟩), rfl⟩
  | fill t ht h =>
    have hp := popc_add ht (may_iff.mp h).1
    refine ⟨.fill t, mem ht ?_, rfl⟩
    unfold pmT
    rw [if_pos h, if_pos (show popc rs.length m < rooms by omega)]
    exact List.mem_append_left _ (by simp)
  | slide t o ht h ho ha =>
    refine ⟨.slide t o, mem ht ?_, rfl⟩
    unfold pmT
    subst ha
    rw [if_pos h, if_neg Bool.false_ne_true]
    exact List.mem_append_right _ (List.mem_map.mpr ⟨o, ho, rfl⟩)
theorem pmT_len {rs : List (List Nat)} (ok : ReadsOk rs) {rooms : Nat} {apart : Bool} {m t : Nat} (ht : t < rs.length) : (pmT rs rooms apart m t).length ≤ 10 := by
  have h1 := rd_len ok ht
  have h2 := ok.ten
  unfold pmT
  split
  · rw [List.length_append]
    have a : (if popc rs.length m < rooms then [Mv.fill t] else []).length ≤ 1 := by split <;> simp
    have b : (if apart = true then [] else (rdOf rs t).map fun o => Mv.slide t o).length ≤ t := by
      split
      · simp
      · rw [List.length_map]; exact h1
    omega
  · simp
theorem pmTs_len {rs : List (List Nat)} (ok : ReadsOk rs) {rooms : Nat} {apart : Bool} {m : Nat} : ∀ k, k ≤ rs.length → ((List.range k).flatMap (pmT rs rooms apart m)).length ≤ 10 * k
  | 0, _ => by simp
  | k + 1, hk => by
    rw [List.range_succ, List.flatMap_append, List.length_append]
    have ih := pmTs_len ok (rooms := rooms) (apart := apart) (m := m) k (by omega)
    have h1 := pmT_len ok (rooms := rooms) (apart := apart) (m := m) (t := k) (by omega)
    have e : (List.flatMap (pmT rs rooms apart m) [k]).length = (pmT rs rooms apart m k).length := by simp [List.flatMap]
    rw [e]
    omega
noncomputable def S_moves_from (C : Addr) : WSp := fun ws G Q => ∃ (x : Addr) (rs : List (List Nat)) (m rooms : Nat) (apart : Bool), ws = [.ref x, hW rs.length m, nI rooms, .bl apart] ∧ isWeb C G x rs ∧ ReadsOk rs ∧ m < 2 ^ rs.length ∧ ∀ r G', Ext G G' → G r = none → G' r = some (.lst ((pmL rs rooms apart m).map mvW)) → Q (.ref r) G'
noncomputable def tl_pm2 (C : Addr) : WTS := (wIfS (wNotT (wTest (wV 3)))
 (wDrop (MdW extendW isLs (wV 4) (wCons (wLc (wSeqI (wOp ixW (wFld C (wV 0) "reads") (wV 5))) (.one 6) wYes (wTup (wCons (wC (.str "slide")) (wCons (wV 5) (wCons (wV 6) wNil)))) [6]) wNil)))
 wNext)
noncomputable def tl_pm1 (T : WTS) : WTS := (wSeq (wIfS (wTest (wOp ltW (wApp (one lenW) (wCons (wV 1) wNil)) (wV 2)))
 (wDrop (MdW appendW isLs (wV 4) (wCons (wTup (wCons (wC (.str "fill")) (wCons (wV 5) wNil))) wNil)))
 wNext) T)
noncomputable def tl_pm0 (C : Addr) (T : WTS) : WTS := (wIfS (wTest (wCall (S_may_be_made C) (wCons (wV 0) (wCons (wV 1) (wCons (wV 5) wNil))))) T wNext)
section
variable {C x pf : Addr} {rs : List (List Nat)} {m t rooms : Nat} {apart : Bool} {G : WHp} {E : WEnds} {T : WTS} {w6 : Option W} {ws : List W}
noncomputable def pmE (x : Addr) (rs : List (List Nat)) (m rooms : Nat) (apart : Bool) (pf : Addr) (t : Nat) (w6 : Option W) : WEnv := [some (.ref x), some (hW rs.length m), some (nI rooms), some (.bl apart), some (.ref pf), some (nI t), w6]
theorem pm2 (ok : ReadsOk rs) (hx : isWeb C G x rs) (ht : t < rs.length) (hp : G pf = some (.lst ws)) (hl : ws.length ≤ 400)
    (q : ∀ w6 G', (∀ r u, r ≠ pf → G r = some u → G' r = some u) → G' pf = some (.lst (ws ++ (if apart = true then [] else (rdOf rs t).map fun o => mvW (.slide t o)))) → E.nx (pmE x rs m rooms apart pf t w6) G') : tl_pm2 C E (pmE x rs m rooms apart pf t w6) G := by
  have htn := ok.ten
  have hrl : rs[t]? = some (rdOf rs t) := by
    unfold rdOf; rw [List.getD_eq_getElem?_getD, List.getElem?_eq_getElem ht]; rfl
  have hlen := rd_len ok ht
  unfold tl_pm2 pmE
  unfold pmE at q
  cases apart with
  | true =>
    simp only [WL.wSeq, WL.wSet, WL.wAsg, WL.wDrop, WL.wRet, WL.wRetN, WL.wIfS, WL.wBreak, WL.wCont, WL.wNext, WL.wV, WL.wC, WL.wOp, WL.wUn, WL.wNil, WL.wCons, WL.wApp, WL.wTest, WL.wChain, WL.wAndT, WL.wOrT, WL.wNotT, WL.wAnd, WL.wOr, WL.wNot, WL.wIf, WL.wTup, WL.wLst, WL.wCall, WL.wMake, WL.wFld, WL.wPutF, WL.wSl, WL.wPart, WL.wNoPart, WL.wRev, WL.wName, WL.wNames, WL.wSeqI, WL.wZip, WL.wRng3, WL.wRng1, WL.wRng2, WL.wEnum, WL.wLstRg, WL.wTupRg, WL.wR1, WL.wR2, WL.wCallD, WL.MdW, WL.wgSub, WL.one, WL.two, WL.lk, WL.isB_bl, WL.isI_int, WL.cmpI, WL.isNW, WL.notNW, WL.nonW, WL.wYes, WL.wLockE, WL.wLock, WL.wDNew, WL.wSortSet, WL.wNever, WL.addW_int, WL.addW_tup, WL.addW_str, WL.subW_int, WL.mulW_int, WL.modW_int, WL.fdivW_int, WL.powW_int, WL.negW_int, WL.intW_int, WL.intW_bl, WL.absW, WL.CTg.on, WL.wipeW, WL.setsW, WL.optW_some, WL.wDisp, WL.wPairs, WL.eqW_str, WL.neW_str, WL.eqW_int, WL.neW_int, WL.eqW_bl, WL.neW_bl, WL.ixW_tupE, WL.slW_tupE, WL.sortTW_ref, WL.lenW_tupE, WL.tupW_tupE, WL.listW_tupE, WL.atI_0, WL.atI_1, WL.atI_2, WL.atI_3, WL.atI_4, WL.seqOn_tup, WL.enumOn_tup, List.set, if_true, if_false, Bool.false_eq_true, if_pos, List.length_nil, List.length_cons, Bool.not_true, Bool.not_false]
    refine q _ G (fun r u _ h => h) ?_
    rw [hp, if_pos rfl, List.append_nil]
  | false =>
    simp only [WL.wSeq, WL.wSet, WL.wAsg, WL.wDrop, WL.wRet, WL.wRetN, WL.wIfS, WL.wBreak, WL.wCont, WL.wNext, WL.wV, WL.wC, WL.wOp, WL.wUn, WL.wNil, WL.wCons, WL.wApp, WL.wTest, WL.wChain, WL.wAndT, WL.wOrT, WL.wNotT, WL.wAnd, WL.wOr, WL.wNot, WL.wIf, WL.wTup, WL.wLst, WL.wCall, WL.wMake, WL.wFld, WL.wPutF, WL.wSl, WL.wPart, WL.wNoPart, WL.wRev, WL.wName, WL.wNames, WL.wSeqI, WL.wZip, WL.wRng3, WL.wRng1, WL.wRng2, WL.wEnum, WL.wLstRg, WL.wTupRg, WL.wR1, WL.wR2, WL.wCallD, WL.MdW, WL.wgSub, WL.one, WL.two, WL.lk, WL.isB_bl, WL.isI_int, WL.cmpI, WL.isNW, WL.notNW, WL.nonW, WL.wYes, WL.wLockE, WL.wLock, WL.wDNew, WL.wSortSet, WL.wNever, WL.addW_int, WL.addW_tup, WL.addW_str, WL.subW_int, WL.mulW_int, WL.modW_int, WL.fdivW_int, WL.powW_int, WL.negW_int, WL.intW_int, WL.intW_bl, WL.absW, WL.CTg.on, WL.wipeW, WL.setsW, WL.optW_some, WL.wDisp, WL.wPairs, WL.eqW_str, WL.neW_str, WL.eqW_int, WL.neW_int, WL.eqW_bl, WL.neW_bl, WL.ixW_tupE, WL.slW_tupE, WL.sortTW_ref, WL.lenW_tupE, WL.tupW_tupE, WL.listW_tupE, WL.atI_0, WL.atI_1, WL.atI_2, WL.atI_3, WL.atI_4, WL.seqOn_tup, WL.enumOn_tup, List.set, if_true, if_false, Bool.false_eq_true, if_pos, List.length_nil, List.length_cons, Bool.not_true, Bool.not_false]
    refine ⟨isLs_of hp, ?_⟩
    refine wLc_fm (G1 := G) (items := (rdOf rs t).map nI) (stable := fun _ => True) (fun K hK => ?_) (fun w => some (.tup [.str "slide", nI t, w])) (by rw [List.length_map]; exact Nat.lt_of_le_of_lt (show _ ≤ 10 by omega) (by decide)) (fun _ _ => trivial) (fun k w hw G2 e2 K hK => ?_) (fun D G2 e2 hD => ?_)
    · simp only [WL.wSeq, WL.wSet, WL.wAsg, WL.wDrop, WL.wRet, WL.wRetN, WL.wIfS, WL.wBreak, WL.wCont, WL.wNext, WL.wV, WL.wC, WL.wOp, WL.wUn, WL.wNil, WL.wCons, WL.wApp, WL.wTest, WL.wChain, WL.wAndT, WL.wOrT, WL.wNotT, WL.wAnd, WL.wOr, WL.wNot, WL.wIf, WL.wTup, WL.wLst, WL.wCall, WL.wMake, WL.wFld, WL.wPutF, WL.wSl, WL.wPart, WL.wNoPart, WL.wRev, WL.wName, WL.wNames, WL.wSeqI, WL.wZip, WL.wRng3, WL.wRng1, WL.wRng2, WL.wEnum, WL.wLstRg, WL.wTupRg, WL.wR1, WL.wR2, WL.wCallD, WL.MdW, WL.wgSub, WL.one, WL.two, WL.lk, WL.isB_bl, WL.isI_int, WL.cmpI, WL.isNW, WL.notNW, WL.nonW, WL.wYes, WL.wLockE, WL.wLock, WL.wDNew, WL.wSortSet, WL.wNever, WL.addW_int, WL.addW_tup, WL.addW_str, WL.subW_int, WL.mulW_int, WL.modW_int, WL.fdivW_int, WL.powW_int, WL.negW_int, WL.intW_int, WL.intW_bl, WL.absW, WL.CTg.on, WL.wipeW, WL.setsW, WL.optW_some, WL.wDisp, WL.wPairs, WL.eqW_str, WL.neW_str, WL.eqW_int, WL.neW_int, WL.eqW_bl, WL.neW_bl, WL.ixW_tupE, WL.slW_tupE, WL.sortTW_ref, WL.lenW_tupE, WL.tupW_tupE, WL.listW_tupE, WL.atI_0, WL.atI_1, WL.atI_2, WL.atI_3, WL.atI_4, WL.seqOn_tup, WL.enumOn_tup, List.set, if_true, if_false, Bool.false_eq_true, if_pos, List.length_nil, List.length_cons, Bool.not_true, Bool.not_false]
      refine insAt_of hx (optW_of rfl ?_)
      refine rds_at (t := t) hrl ?_
      simp only [WL.wSeq, WL.wSet, WL.wAsg, WL.wDrop, WL.wRet, WL.wRetN, WL.wIfS, WL.wBreak, WL.wCont, WL.wNext, WL.wV, WL.wC, WL.wOp, WL.wUn, WL.wNil, WL.wCons, WL.wApp, WL.wTest, WL.wChain, WL.wAndT, WL.wOrT, WL.wNotT, WL.wAnd, WL.wOr, WL.wNot, WL.wIf, WL.wTup, WL.wLst, WL.wCall, WL.wMake, WL.wFld, WL.wPutF, WL.wSl, WL.wPart, WL.wNoPart, WL.wRev, WL.wName, WL.wNames, WL.wSeqI, WL.wZip, WL.wRng3, WL.wRng1, WL.wRng2, WL.wEnum, WL.wLstRg, WL.wTupRg, WL.wR1, WL.wR2, WL.wCallD, WL.MdW, WL.wgSub, WL.one, WL.two, WL.lk, WL.isB_bl, WL.isI_int, WL.cmpI, WL.isNW, WL.notNW, WL.nonW, WL.wYes, WL.wLockE, WL.wLock, WL.wDNew, WL.wSortSet, WL.wNever, WL.addW_int, WL.addW_tup, WL.addW_str, WL.subW_int, WL.mulW_int, WL.modW_int, WL.fdivW_int, WL.powW_int, WL.negW_int, WL.intW_int, WL.intW_bl, WL.absW, WL.CTg.on, WL.wipeW, WL.setsW, WL.optW_some, WL.wDisp, WL.wPairs, WL.eqW_str, WL.neW_str, WL.eqW_int, WL.neW_int, WL.eqW_bl, WL.neW_bl, WL.ixW_tupE, WL.slW_tupE, WL.sortTW_ref, WL.lenW_tupE, WL.tupW_tupE, WL.listW_tupE, WL.atI_0, WL.atI_1, WL.atI_2, WL.atI_3, WL.atI_4, WL.seqOn_tup, WL.enumOn_tup, List.set, if_true, if_false, Bool.false_eq_true, if_pos, List.length_nil, List.length_cons, Bool.not_true, Bool.not_false]
      exact hK
    · simp only [WL.wSeq, WL.wSet, WL.wAsg, WL.wDrop, WL.wRet, WL.wRetN, WL.wIfS, WL.wBreak, WL.wCont, WL.wNext, WL.wV, WL.wC, WL.wOp, WL.wUn, WL.wNil, WL.wCons, WL.wApp, WL.wTest, WL.wChain, WL.wAndT, WL.wOrT, WL.wNotT, WL.wAnd, WL.wOr, WL.wNot, WL.wIf, WL.wTup, WL.wLst, WL.wCall, WL.wMake, WL.wFld, WL.wPutF, WL.wSl, WL.wPart, WL.wNoPart, WL.wRev, WL.wName, WL.wNames, WL.wSeqI, WL.wZip, WL.wRng3, WL.wRng1, WL.wRng2, WL.wEnum, WL.wLstRg, WL.wTupRg, WL.wR1, WL.wR2, WL.wCallD, WL.MdW, WL.wgSub, WL.one, WL.two, WL.lk, WL.isB_bl, WL.isI_int, WL.cmpI, WL.isNW, WL.notNW, WL.nonW, WL.wYes, WL.wLockE, WL.wLock, WL.wDNew, WL.wSortSet, WL.wNever, WL.addW_int, WL.addW_tup, WL.addW_str, WL.subW_int, WL.mulW_int, WL.modW_int, WL.fdivW_int, WL.powW_int, WL.negW_int, WL.intW_int, WL.intW_bl, WL.absW, WL.CTg.on, WL.wipeW, WL.setsW, WL.optW_some, WL.wDisp, WL.wPairs, WL.eqW_str, WL.neW_str, WL.eqW_int, WL.neW_int, WL.eqW_bl, WL.neW_bl, WL.ixW_tupE, WL.slW_tupE, WL.sortTW_ref, WL.lenW_tupE, WL.tupW_tupE, WL.listW_tupE, WL.atI_0, WL.atI_1, WL.atI_2, WL.atI_3, WL.atI_4, WL.seqOn_tup, WL.enumOn_tup, List.set, if_true, if_false, Bool.false_eq_true, if_pos, List.length_nil, List.length_cons, Bool.not_true, Bool.not_false]
      exact ⟨by decide, hK G2 .refl⟩
    · have e : ((rdOf rs t).map nI).filterMap (fun w => some (W.tup [.str "slide", nI t, w])) = (rdOf rs t).map fun o => mvW (.slide t o) := by rw [fm_map, List.map_map]; rfl
      rw [e]
      have npD : pf ≠ D := fun e' => by rw [← e', e2 _ _ hp] at hD; cases hD
      refine mlAt_of (show updG G2 D _ pf = _ by rw [updG_ne npD]; exact e2 _ _ hp) (mlAt_of updG_same ⟨by rw [List.length_map]; exact Nat.le_trans (show _ ≤ 500 by omega) (by decide), ?_⟩)
      refine q _ _ (fun r u hn hu => ?_) (by rw [updG_same]; rfl)
      rw [updG_ne hn]
      exact Ext.new hD _ _ (e2 _ _ hu)
theorem pm1 (hp : G pf = some (.lst ws)) (hl : ws.length ≤ 300)
    (q : ∀ G', (∀ r u, r ≠ pf → G r = some u → G' r = some u) → G' pf = some (.lst (ws ++ (if popc rs.length m < rooms then [mvW (.fill t)] else []))) → T E (pmE x rs m rooms apart pf t w6) G') : tl_pm1 T E (pmE x rs m rooms apart pf t w6) G := by
  unfold tl_pm1
  unfold pmE at q ⊢
  unfold hW at q ⊢
  simp only [WL.wSeq, WL.wSet, WL.wAsg, WL.wDrop, WL.wRet, WL.wRetN, WL.wIfS, WL.wBreak, WL.wCont, WL.wNext, WL.wV, WL.wC, WL.wOp, WL.wUn, WL.wNil, WL.wCons, WL.wApp, WL.wTest, WL.wChain, WL.wAndT, WL.wOrT, WL.wNotT, WL.wAnd, WL.wOr, WL.wNot, WL.wIf, WL.wTup, WL.wLst, WL.wCall, WL.wMake, WL.wFld, WL.wPutF, WL.wSl, WL.wPart, WL.wNoPart, WL.wRev, WL.wName, WL.wNames, WL.wSeqI, WL.wZip, WL.wRng3, WL.wRng1, WL.wRng2, WL.wEnum, WL.wLstRg, WL.wTupRg, WL.wR1, WL.wR2, WL.wCallD, WL.MdW, WL.wgSub, WL.one, WL.two, WL.lk, WL.isB_bl, WL.isI_int, WL.cmpI, WL.isNW, WL.notNW, WL.nonW, WL.wYes, WL.wLockE, WL.wLock, WL.wDNew, WL.wSortSet, WL.wNever, WL.addW_int, WL.addW_tup, WL.addW_str, WL.subW_int, WL.mulW_int, WL.modW_int, WL.fdivW_int, WL.powW_int, WL.negW_int, WL.intW_int, WL.intW_bl, WL.absW, WL.CTg.on, WL.wipeW, WL.setsW, WL.optW_some, WL.wDisp, WL.wPairs, WL.eqW_str, WL.neW_str, WL.eqW_int, WL.neW_int, WL.eqW_bl, WL.neW_bl, WL.ixW_tupE, WL.slW_tupE, WL.sortTW_ref, WL.lenW_tupE, WL.tupW_tupE, WL.listW_tupE, WL.atI_0, WL.atI_1, WL.atI_2, WL.atI_3, WL.atI_4, WL.seqOn_tup, WL.enumOn_tup, List.set, if_true, if_false, Bool.false_eq_true, if_pos, List.length_nil, List.length_cons, Bool.not_true, Bool.not_false]
  rw [List.length_map]
  by_cases h : popc rs.length m < rooms
  · unfold nI at q ⊢
    simp only [WL.wSeq, WL.wSet, WL.wAsg, WL.wDrop, WL.wRet, WL.wRetN, WL.wIfS, WL.wBreak, WL.wCont, WL.wNext, WL.wV, WL.wC, WL.wOp, WL.wUn, WL.wNil, WL.wCons, WL.wApp, WL.wTest, WL.wChain, WL.wAndT, WL.wOrT, WL.wNotT, WL.wAnd, WL.wOr, WL.wNot, WL.wIf, WL.wTup, WL.wLst, WL.wCall, WL.wMake, WL.wFld, WL.wPutF, WL.wSl, WL.wPart, WL.wNoPart, WL.wRev, WL.wName, WL.wNames, WL.wSeqI, WL.wZip, WL.wRng3, WL.wRng1, WL.wRng2, WL.wEnum, WL.wLstRg, WL.wTupRg, WL.wR1, WL.wR2, WL.wCallD, WL.MdW, WL.wgSub, WL.one, WL.two, WL.lk, WL.isB_bl, WL.isI_int, WL.cmpI, WL.isNW, WL.notNW, WL.nonW, WL.wYes, WL.wLockE, WL.wLock, WL.wDNew, WL.wSortSet, WL.wNever, WL.addW_int, WL.addW_tup, WL.addW_str, WL.subW_int, WL.mulW_int, WL.modW_int, WL.fdivW_int, WL.powW_int, WL.negW_int, WL.intW_int, WL.intW_bl, WL.absW, WL.CTg.on, WL.wipeW, WL.setsW, WL.optW_some, WL.wDisp, WL.wPairs, WL.eqW_str, WL.neW_str, WL.eqW_int, WL.neW_int, WL.eqW_bl, WL.neW_bl, WL.ixW_tupE, WL.slW_tupE, WL.sortTW_ref, WL.lenW_tupE, WL.tupW_tupE, WL.listW_tupE, WL.atI_0, WL.atI_1, WL.atI_2, WL.atI_3, WL.atI_4, WL.seqOn_tup, WL.enumOn_tup, List.set, if_true, if_false, Bool.false_eq_true, if_pos, List.length_nil, List.length_cons, Bool.not_true, Bool.not_false]
    rw [decide_eq_true (show (((ones rs.length m).length : Nat) : Int) < (rooms : Int) by have : (ones rs.length m).length < rooms := h; omega)]
    simp only [WL.wSeq, WL.wSet, WL.wAsg, WL.wDrop, WL.wRet, WL.wRetN, WL.wIfS, WL.wBreak, WL.wCont, WL.wNext, WL.wV, WL.wC, WL.wOp, WL.wUn, WL.wNil, WL.wCons, WL.wApp, WL.wTest, WL.wChain, WL.wAndT, WL.wOrT, WL.wNotT, WL.wAnd, WL.wOr, WL.wNot, WL.wIf, WL.wTup, WL.wLst, WL.wCall, WL.wMake, WL.wFld, WL.wPutF, WL.wSl, WL.wPart, WL.wNoPart, WL.wRev, WL.wName, WL.wNames, WL.wSeqI, WL.wZip, WL.wRng3, WL.wRng1, WL.wRng2, WL.wEnum, WL.wLstRg, WL.wTupRg, WL.wR1, WL.wR2, WL.wCallD, WL.MdW, WL.wgSub, WL.one, WL.two, WL.lk, WL.isB_bl, WL.isI_int, WL.cmpI, WL.isNW, WL.notNW, WL.nonW, WL.wYes, WL.wLockE, WL.wLock, WL.wDNew, WL.wSortSet, WL.wNever, WL.addW_int, WL.addW_tup, WL.addW_str, WL.subW_int, WL.mulW_int, WL.modW_int, WL.fdivW_int, WL.powW_int, WL.negW_int, WL.intW_int, WL.intW_bl, WL.absW, WL.CTg.on, WL.wipeW, WL.setsW, WL.optW_some, WL.wDisp, WL.wPairs, WL.eqW_str, WL.neW_str, WL.eqW_int, WL.neW_int, WL.eqW_bl, WL.neW_bl, WL.ixW_tupE, WL.slW_tupE, WL.sortTW_ref, WL.lenW_tupE, WL.tupW_tupE, WL.listW_tupE, WL.atI_0, WL.atI_1, WL.atI_2, WL.atI_3, WL.atI_4, WL.seqOn_tup, WL.enumOn_tup, List.set, if_true, if_false, Bool.false_eq_true, if_pos, List.length_nil, List.length_cons, Bool.not_true, Bool.not_false]
    refine ⟨isLs_of hp, by decide, app_lst hp (Nat.lt_of_le_of_lt hl (by decide)) ?_⟩
    refine q _ (fun r u hn hu => by rw [updG_ne hn]; exact hu) ?_
    rw [updG_same, if_pos h]; rfl
  · unfold nI at q ⊢
    simp only [WL.wSeq, WL.wSet, WL.wAsg, WL.wDrop, WL.wRet, WL.wRetN, WL.wIfS, WL.wBreak, WL.wCont, WL.wNext, WL.wV, WL.wC, WL.wOp, WL.wUn, WL.wNil, WL.wCons, WL.wApp, WL.wTest, WL.wChain, WL.wAndT, WL.wOrT, WL.wNotT, WL.wAnd, WL.wOr, WL.wNot, WL.wIf, WL.wTup, WL.wLst, WL.wCall, WL.wMake, WL.wFld, WL.wPutF, WL.wSl, WL.wPart, WL.wNoPart, WL.wRev, WL.wName, WL.wNames, WL.wSeqI, WL.wZip, WL.wRng3, WL.wRng1, WL.wRng2, WL.wEnum, WL.wLstRg, WL.wTupRg, WL.wR1, WL.wR2, WL.wCallD, WL.MdW, WL.wgSub, WL.one, WL.two, WL.lk, WL.isB_bl, WL.isI_int, WL.cmpI, WL.isNW, WL.notNW, WL.nonW, WL.wYes, WL.wLockE, WL.wLock, WL.wDNew, WL.wSortSet, WL.wNever, WL.addW_int, WL.addW_tup, WL.addW_str, WL.subW_int, WL.mulW_int, WL.modW_int, WL.fdivW_int, WL.powW_int, WL.negW_int, WL.intW_int, WL.intW_bl, WL.absW, WL.CTg.on, WL.wipeW, WL.setsW, WL.optW_some, WL.wDisp, WL.wPairs, WL.eqW_str, WL.neW_str, WL.eqW_int, WL.neW_int, WL.eqW_bl, WL.neW_bl, WL.ixW_tupE, WL.slW_tupE, WL.sortTW_ref, WL.lenW_tupE, WL.tupW_tupE, WL.listW_tupE, WL.atI_0, WL.atI_1, WL.atI_2, WL.atI_3, WL.atI_4, WL.seqOn_tup, WL.enumOn_tup, List.set, if_true, if_false, Bool.false_eq_true, if_pos, List.length_nil, List.length_cons, Bool.not_true, Bool.not_false]
    rw [decide_eq_false (show ¬ (((ones rs.length m).length : Nat) : Int) < (rooms : Int) by have : ¬ (ones rs.length m).length < rooms := h; omega)]
    simp only [WL.wSeq, WL.wSet, WL.wAsg, WL.wDrop, WL.wRet, WL.wRetN, WL.wIfS, WL.wBreak, WL.wCont, WL.wNext, WL.wV, WL.wC, WL.wOp, WL.wUn, WL.wNil, WL.wCons, WL.wApp, WL.wTest, WL.wChain, WL.wAndT, WL.wOrT, WL.wNotT, WL.wAnd, WL.wOr, WL.wNot, WL.wIf, WL.wTup, WL.wLst, WL.wCall, WL.wMake, WL.wFld, WL.wPutF, WL.wSl, WL.wPart, WL.wNoPart, WL.wRev, WL.wName, WL.wNames, WL.wSeqI, WL.wZip, WL.wRng3, WL.wRng1, WL.wRng2, WL.wEnum, WL.wLstRg, WL.wTupRg, WL.wR1, WL.wR2, WL.wCallD, WL.MdW, WL.wgSub, WL.one, WL.two, WL.lk, WL.isB_bl, WL.isI_int, WL.cmpI, WL.isNW, WL.notNW, WL.nonW, WL.wYes, WL.wLockE, WL.wLock, WL.wDNew, WL.wSortSet, WL.wNever, WL.addW_int, WL.addW_tup, WL.addW_str, WL.subW_int, WL.mulW_int, WL.modW_int, WL.fdivW_int, WL.powW_int, WL.negW_int, WL.intW_int, WL.intW_bl, WL.absW, WL.CTg.on, WL.wipeW, WL.setsW, WL.optW_some, WL.wDisp, WL.wPairs, WL.eqW_str, WL.neW_str, WL.eqW_int, WL.neW_int, WL.eqW_bl, WL.neW_bl, WL.ixW_tupE, WL.slW_tupE, WL.sortTW_ref, WL.lenW_tupE, WL.tupW_tupE, WL.listW_tupE, WL.atI_0, WL.atI_1, WL.atI_2, WL.atI_3, WL.atI_4, WL.seqOn_tup, WL.enumOn_tup, List.set, if_true, if_false, Bool.false_eq_true, if_pos, List.length_nil, List.length_cons, Bool.not_true, Bool.not_false]
    refine q G (fun r u _ h => h) ?_
    rw [hp, if_neg h, List.append_nil]
theorem pm0 (ok : ReadsOk rs) (hx : isWeb C G x rs) (ht : t < rs.length) (hp : G pf = some (.lst ws)) (hl : ws.length ≤ 300) (nxp : x ≠ pf)
    (q : ∀ w6 G', (∀ r u, r ≠ pf → G r = some u → G' r = some u) → G' pf = some (.lst (ws ++ (pmT rs rooms apart m t).map mvW)) → E.nx (pmE x rs m rooms apart pf t w6) G') : tl_pm0 C (tl_pm1 (tl_pm2 C)) E (pmE x rs m rooms apart pf t w6) G := by
  have rest : mayB rs m t = true → ∀ G1, Ext G G1 → tl_pm1 (tl_pm2 C) E (pmE x rs m rooms apart pf t w6) G1 := fun hm G1 e1 => by
    refine pm1 (e1 _ _ hp) hl fun G2 e2 h2 => ?_
    refine pm2 ok (e2 _ _ nxp (e1 _ _ hx)) ht h2 (by rw [List.length_append]; split <;> simp <;> omega) fun w6 G3 e3 h3 => ?_
    refine q _ G3 (fun r u hn hu => e3 r u hn (e2 r u hn (e1 _ _ hu))) ?_
    rw [h3]
    unfold pmT
    rw [if_pos hm, List.map_append]
    have a : (if popc rs.length m < rooms then [mvW (.fill t)] else []) = List.map mvW (if popc rs.length m < rooms then [Mv.fill t] else []) := by split <;> rfl
    have b : (if apart = true then [] else (rdOf rs t).map fun o => mvW (.slide t o)) = List.map mvW (if apart = true then [] else (rdOf rs t).map fun o => Mv.slide t o) := by
      split
      · rfl
      · rw [List.map_map]; rfl
    rw [a, b, List.append_assoc]
  unfold tl_pm0
  generalize tl_pm1 (tl_pm2 C) = T at rest ⊢
  unfold pmE at q rest ⊢
  simp only [WL.wSeq, WL.wSet, WL.wAsg, WL.wDrop, WL.wRet, WL.wRetN, WL.wIfS, WL.wBreak, WL.wCont, WL.wNext, WL.wV, WL.wC, WL.wOp, WL.wUn, WL.wNil, WL.wCons, WL.wApp, WL.wTest, WL.wChain, WL.wAndT, WL.wOrT, WL.wNotT, WL.wAnd, WL.wOr, WL.wNot, WL.wIf, WL.wTup, WL.wLst, WL.wCall, WL.wMake, WL.wFld, WL.wPutF, WL.wSl, WL.wPart, WL.wNoPart, WL.wRev, WL.wName, WL.wNames, WL.wSeqI, WL.wZip, WL.wRng3, WL.wRng1, WL.wRng2, WL.wEnum, WL.wLstRg, WL.wTupRg, WL.wR1, WL.wR2, WL.wCallD, WL.MdW, WL.wgSub, WL.one, WL.two, WL.lk, WL.isB_bl, WL.isI_int, WL.cmpI, WL.isNW, WL.notNW, WL.nonW, WL.wYes, WL.wLockE, WL.wLock, WL.wDNew, WL.wSortSet, WL.wNever, WL.addW_int, WL.addW_tup, WL.addW_str, WL.subW_int, WL.mulW_int, WL.modW_int, WL.fdivW_int, WL.powW_int, WL.negW_int, WL.intW_int, WL.intW_bl, WL.absW, WL.CTg.on, WL.wipeW, WL.setsW, WL.optW_some, WL.wDisp, WL.wPairs, WL.eqW_str, WL.neW_str, WL.eqW_int, WL.neW_int, WL.eqW_bl, WL.neW_bl, WL.ixW_tupE, WL.slW_tupE, WL.sortTW_ref, WL.lenW_tupE, WL.tupW_tupE, WL.listW_tupE, WL.atI_0, WL.atI_1, WL.atI_2, WL.atI_3, WL.atI_4, WL.seqOn_tup, WL.enumOn_tup, List.set, if_true, if_false, Bool.false_eq_true, if_pos, List.length_nil, List.length_cons, Bool.not_true, Bool.not_false]
  refine ⟨x, rs, m, t, rfl, hx, ok, ht, fun G1 e1 => ?_⟩
  cases hm : mayB rs m t with
  | true =>
    simp only [WL.wSeq, WL.wSet, WL.wAsg, WL.wDrop, WL.wRet, WL.wRetN, WL.wIfS, WL.wBreak, WL.wCont, WL.wNext, WL.wV, WL.wC, WL.wOp, WL.wUn, WL.wNil, WL.wCons, WL.wApp, WL.wTest, WL.wChain, WL.wAndT, WL.wOrT, WL.wNotT, WL.wAnd, WL.wOr, WL.wNot, WL.wIf, WL.wTup, WL.wLst, WL.wCall, WL.wMake, WL.wFld, WL.wPutF, WL.wSl, WL.wPart, WL.wNoPart, WL.wRev, WL.wName, WL.wNames, WL.wSeqI, WL.wZip, WL.wRng3, WL.wRng1, WL.wRng2, WL.wEnum, WL.wLstRg, WL.wTupRg, WL.wR1, WL.wR2, WL.wCallD, WL.MdW, WL.wgSub, WL.one, WL.two, WL.lk, WL.isB_bl, WL.isI_int, WL.cmpI, WL.isNW, WL.notNW, WL.nonW, WL.wYes, WL.wLockE, WL.wLock, WL.wDNew, WL.wSortSet, WL.wNever, WL.addW_int, WL.addW_tup, WL.addW_str, WL.subW_int, WL.mulW_int, WL.modW_int, WL.fdivW_int, WL.powW_int, WL.negW_int, WL.intW_int, WL.intW_bl, WL.absW, WL.CTg.on, WL.wipeW, WL.setsW, WL.optW_some, WL.wDisp, WL.wPairs, WL.eqW_str, WL.neW_str, WL.eqW_int, WL.neW_int, WL.eqW_bl, WL.neW_bl, WL.ixW_tupE, WL.slW_tupE, WL.sortTW_ref, WL.lenW_tupE, WL.tupW_tupE, WL.listW_tupE, WL.atI_0, WL.atI_1, WL.atI_2, WL.atI_3, WL.atI_4, WL.seqOn_tup, WL.enumOn_tup, List.set, if_true, if_false, Bool.false_eq_true, if_pos, List.length_nil, List.length_cons, Bool.not_true, Bool.not_false]
    exact rest hm G1 e1
  | false =>
    simp only [WL.wSeq, WL.wSet, WL.wAsg, WL.wDrop, WL.wRet, WL.wRetN, WL.wIfS, WL.wBreak, WL.wCont, WL.wNext, WL.wV, WL.wC, WL.wOp, WL.wUn, WL.wNil, WL.wCons, WL.wApp, WL.wTest, WL.wChain, WL.wAndT, WL.wOrT, WL.wNotT, WL.wAnd, WL.wOr, WL.wNot, WL.wIf, WL.wTup, WL.wLst, WL.wCall, WL.wMake, WL.wFld, WL.wPutF, WL.wSl, WL.wPart, WL.wNoPart, WL.wRev, WL.wName, WL.wNames, WL.wSeqI, WL.wZip, WL.wRng3, WL.wRng1, WL.wRng2, WL.wEnum, WL.wLstRg, WL.wTupRg, WL.wR1, WL.wR2, WL.wCallD, WL.MdW, WL.wgSub, WL.one, WL.two, WL.lk, WL.isB_bl, WL.isI_int, WL.cmpI, WL.isNW, WL.notNW, WL.nonW, WL.wYes, WL.wLockE, WL.wLock, WL.wDNew, WL.wSortSet, WL.wNever, WL.addW_int, WL.addW_tup, WL.addW_str, WL.subW_int, WL.mulW_int, WL.modW_int, WL.fdivW_int, WL.powW_int, WL.negW_int, WL.intW_int, WL.intW_bl, WL.absW, WL.CTg.on, WL.wipeW, WL.setsW, WL.optW_some, WL.wDisp, WL.wPairs, WL.eqW_str, WL.neW_str, WL.eqW_int, WL.neW_int, WL.eqW_bl, WL.neW_bl, WL.ixW_tupE, WL.slW_tupE, WL.sortTW_ref, WL.lenW_tupE, WL.tupW_tupE, WL.listW_tupE, WL.atI_0, WL.atI_1, WL.atI_2, WL.atI_3, WL.atI_4, WL.seqOn_tup, WL.enumOn_tup, List.set, if_true, if_false, Bool.false_eq_true, if_pos, List.length_nil, List.length_cons, Bool.not_true, Bool.not_false]
    refine q _ G1 (fun r u _ h => e1 _ _ h) ?_
    unfold pmT
    rw [if_neg (by rw [hm]; exact Bool.false_ne_true), List.map_nil, List.append_nil]
    exact e1 _ _ hp
end
theorem v_moves_from {C : Addr} : ∀ ws G Q, S_moves_from C ws G Q → rd_moves_from C (S_may_be_made C) { nx := fun _ G' => Q .non G', rt := Q } (startW ["web", "here", "rooms", "apart", "found", "thing", "other"] ws) G := by
  rintro ws G Q ⟨x, rs, m, rooms, apart, rfl, hx, ok, hm, q⟩
  show (wSeq (wSet 4 (wLc (wSeqI (wV 1)) (.one 5) wYes (wTup (wCons (wC (.str "clear")) (wCons (wV 5) wNil))) [5]))
   (wSeq (wFor (wRng1 (wCons (wApp (one lenW) (wCons (wFld C (wV 0) "reads") wNil)) wNil)) (wName 5) (tl_pm0 C (tl_pm1 (tl_pm2 C))))
   (wRet (wV 4)))) _ [some (.ref x), some (hW rs.length m), some (nI rooms), some (.bl apart), none, none, none] G
  have htn := ok.ten
  have hlen : (ones rs.length m).length ≤ 10 := Nat.le_trans ones_len htn
  refine seq_set ?_
  refine wLc_fm (G1 := G) (items := (ones rs.length m).map nI) (stable := fun _ => True) (fun K hK => ?_) (fun w => some (.tup [.str "clear", w])) (by rw [List.length_map]; exact Nat.lt_of_le_of_lt hlen (by decide)) (fun _ _ => trivial) (fun k w hw G2 e2 K hK => ?_) (fun pf G1 e1 hpf => ?_)
  · unfold hW
    simp only [WL.wSeq, WL.wSet, WL.wAsg, WL.wDrop, WL.wRet, WL.wRetN, WL.wIfS, WL.wBreak, WL.wCont, WL.wNext, WL.wV, WL.wC, WL.wOp, WL.wUn, WL.wNil, WL.wCons, WL.wApp, WL.wTest, WL.wChain, WL.wAndT, WL.wOrT, WL.wNotT, WL.wAnd, WL.wOr, WL.wNot, WL.wIf, WL.wTup, WL.wLst, WL.wCall, WL.wMake, WL.wFld, WL.wPutF, WL.wSl, WL.wPart, WL.wNoPart, WL.wRev, WL.wName, WL.wNames, WL.wSeqI, WL.wZip, WL.wRng3, WL.wRng1, WL.wRng2, WL.wEnum, WL.wLstRg, WL.wTupRg, WL.wR1, WL.wR2, WL.wCallD, WL.MdW, WL.wgSub, WL.one, WL.two, WL.lk, WL.isB_bl, WL.isI_int, WL.cmpI, WL.isNW, WL.notNW, WL.nonW, WL.wYes, WL.wLockE, WL.wLock, WL.wDNew, WL.wSortSet, WL.wNever, WL.addW_int, WL.addW_tup, WL.addW_str, WL.subW_int, WL.mulW_int, WL.modW_int, WL.fdivW_int, WL.powW_int, WL.negW_int, WL.intW_int, WL.intW_bl, WL.absW, WL.CTg.on, WL.wipeW, WL.setsW, WL.optW_some, WL.wDisp, WL.wPairs, WL.eqW_str, WL.neW_str, WL.eqW_int, WL.neW_int, WL.eqW_bl, WL.neW_bl, WL.ixW_tupE, WL.slW_tupE, WL.sortTW_ref, WL.lenW_tupE, WL.tupW_tupE, WL.listW_tupE, WL.atI_0, WL.atI_1, WL.atI_2, WL.atI_3, WL.atI_4, WL.seqOn_tup, WL.enumOn_tup, List.set, if_true, if_false, Bool.false_eq_true, if_pos, List.length_nil, List.length_cons, Bool.not_true, Bool.not_false]
    exact hK
  · simp only [WL.wSeq, WL.wSet, WL.wAsg, WL.wDrop, WL.wRet, WL.wRetN, WL.wIfS, WL.wBreak, WL.wCont, WL.wNext, WL.wV, WL.wC, WL.wOp, WL.wUn, WL.wNil, WL.wCons, WL.wApp, WL.wTest, WL.wChain, WL.wAndT, WL.wOrT, WL.wNotT, WL.wAnd, WL.wOr, WL.wNot, WL.wIf, WL.wTup, WL.wLst, WL.wCall, WL.wMake, WL.wFld, WL.wPutF, WL.wSl, WL.wPart, WL.wNoPart, WL.wRev, WL.wName, WL.wNames, WL.wSeqI, WL.wZip, WL.wRng3, WL.wRng1, WL.wRng2, WL.wEnum, WL.wLstRg, WL.wTupRg, WL.wR1, WL.wR2, WL.wCallD, WL.MdW, WL.wgSub, WL.one, WL.two, WL.lk, WL.isB_bl, WL.isI_int, WL.cmpI, WL.isNW, WL.notNW, WL.nonW, WL.wYes, WL.wLockE, WL.wLock, WL.wDNew, WL.wSortSet, WL.wNever, WL.addW_int, WL.addW_tup, WL.addW_str, WL.subW_int, WL.mulW_int, WL.modW_int, WL.fdivW_int, WL.powW_int, WL.negW_int, WL.intW_int, WL.intW_bl, WL.absW, WL.CTg.on, WL.wipeW, WL.setsW, WL.optW_some, WL.wDisp, WL.wPairs, WL.eqW_str, WL.neW_str, WL.eqW_int, WL.neW_int, WL.eqW_bl, WL.neW_bl, WL.ixW_tupE, WL.slW_tupE, WL.sortTW_ref, WL.lenW_tupE, WL.tupW_tupE, WL.listW_tupE, WL.atI_0, WL.atI_1, WL.atI_2, WL.atI_3, WL.atI_4, WL.seqOn_tup, WL.enumOn_tup, List.set, if_true, if_false, Bool.false_eq_true, if_pos, List.length_nil, List.length_cons, Bool.not_true, Bool.not_false]
    exact ⟨by decide, hK G2 .refl⟩
  · have e : ((ones rs.length m).map nI).filterMap (fun w => some (W.tup [.str "clear", w])) = ((ones rs.length m).map fun t => Mv.clear t).map mvW := by rw [fm_map, List.map_map, List.map_map]; rfl
    rw [e]
    have e01 : Ext G (updG G1 pf (.lst (((ones rs.length m).map fun t => Mv.clear t).map mvW))) := e1.trans (.new hpf)
    have npf : x ≠ pf := fun e' => by
      have := e1 _ _ hx
      rw [e', hpf] at this; cases this
    refine wFor_of (G1 := updG G1 pf (.lst (((ones rs.length m).map fun t => Mv.clear t).map mvW))) (items := rngW 0 rs.length) (stable := fun _ => True) (fun K hK => ?_)
      (fun i ρ G' => ∃ w5 w6, ρ = [some (.ref x), some (hW rs.length m), some (nI rooms), some (.bl apart), some (.ref pf), w5, w6] ∧ Ext G G' ∧ G' pf = some (.lst (((ones rs.length m).map (fun t => Mv.clear t) ++ (List.range i).flatMap (pmT rs rooms apart m)).map mvW)))
      ⟨none, none, rfl, e01, by rw [updG_same]; simp⟩ (fun _ _ _ _ _ => trivial) ?_ ?_
    · simp only [WL.wSeq, WL.wSet, WL.wAsg, WL.wDrop, WL.wRet, WL.wRetN, WL.wIfS, WL.wBreak, WL.wCont, WL.wNext, WL.wV, WL.wC, WL.wOp, WL.wUn, WL.wNil, WL.wCons, WL.wApp, WL.wTest, WL.wChain, WL.wAndT, WL.wOrT, WL.wNotT, WL.wAnd, WL.wOr, WL.wNot, WL.wIf, WL.wTup, WL.wLst, WL.wCall, WL.wMake, WL.wFld, WL.wPutF, WL.wSl, WL.wPart, WL.wNoPart, WL.wRev, WL.wName, WL.wNames, WL.wSeqI, WL.wZip, WL.wRng3, WL.wRng1, WL.wRng2, WL.wEnum, WL.wLstRg, WL.wTupRg, WL.wR1, WL.wR2, WL.wCallD, WL.MdW, WL.wgSub, WL.one, WL.two, WL.lk, WL.isB_bl, WL.isI_int, WL.cmpI, WL.isNW, WL.notNW, WL.nonW, WL.wYes, WL.wLockE, WL.wLock, WL.wDNew, WL.wSortSet, WL.wNever, WL.addW_int, WL.addW_tup, WL.addW_str, WL.subW_int, WL.mulW_int, WL.modW_int, WL.fdivW_int, WL.powW_int, WL.negW_int, WL.intW_int, WL.intW_bl, WL.absW, WL.CTg.on, WL.wipeW, WL.setsW, WL.optW_some, WL.wDisp, WL.wPairs, WL.eqW_str, WL.neW_str, WL.eqW_int, WL.neW_int, WL.eqW_bl, WL.neW_bl, WL.ixW_tupE, WL.slW_tupE, WL.sortTW_ref, WL.lenW_tupE, WL.tupW_tupE, WL.listW_tupE, WL.atI_0, WL.atI_1, WL.atI_2, WL.atI_3, WL.atI_4, WL.seqOn_tup, WL.enumOn_tup, List.set, if_true, if_false, Bool.false_eq_true, if_pos, List.length_nil, List.length_cons, Bool.not_true, Bool.not_false]
      refine insAt_of (e01 _ _ hx) (optW_of rfl ?_)
      unfold rdsW
      simp only [WL.wSeq, WL.wSet, WL.wAsg, WL.wDrop, WL.wRet, WL.wRetN, WL.wIfS, WL.wBreak, WL.wCont, WL.wNext, WL.wV, WL.wC, WL.wOp, WL.wUn, WL.wNil, WL.wCons, WL.wApp, WL.wTest, WL.wChain, WL.wAndT, WL.wOrT, WL.wNotT, WL.wAnd, WL.wOr, WL.wNot, WL.wIf, WL.wTup, WL.wLst, WL.wCall, WL.wMake, WL.wFld, WL.wPutF, WL.wSl, WL.wPart, WL.wNoPart, WL.wRev, WL.wName, WL.wNames, WL.wSeqI, WL.wZip, WL.wRng3, WL.wRng1, WL.wRng2, WL.wEnum, WL.wLstRg, WL.wTupRg, WL.wR1, WL.wR2, WL.wCallD, WL.MdW, WL.wgSub, WL.one, WL.two, WL.lk, WL.isB_bl, WL.isI_int, WL.cmpI, WL.isNW, WL.notNW, WL.nonW, WL.wYes, WL.wLockE, WL.wLock, WL.wDNew, WL.wSortSet, WL.wNever, WL.addW_int, WL.addW_tup, WL.addW_str, WL.subW_int, WL.mulW_int, WL.modW_int, WL.fdivW_int, WL.powW_int, WL.negW_int, WL.intW_int, WL.intW_bl, WL.absW, WL.CTg.on, WL.wipeW, WL.setsW, WL.optW_some, WL.wDisp, WL.wPairs, WL.eqW_str, WL.neW_str, WL.eqW_int, WL.neW_int, WL.eqW_bl, WL.neW_bl, WL.ixW_tupE, WL.slW_tupE, WL.sortTW_ref, WL.lenW_tupE, WL.tupW_tupE, WL.listW_tupE, WL.atI_0, WL.atI_1, WL.atI_2, WL.atI_3, WL.atI_4, WL.seqOn_tup, WL.enumOn_tup, List.set, if_true, if_false, Bool.false_eq_true, if_pos, List.length_nil, List.length_cons, Bool.not_true, Bool.not_false]
      rw [List.length_map]
      exact ⟨by omega, by omega, hK⟩
    · rintro i w ρ G2 hw ⟨w5, w6, rfl, e2, hp2⟩
      obtain ⟨hi, rfl⟩ := rng_at hw
      show tl_pm0 C (tl_pm1 (tl_pm2 C)) _ (pmE x rs m rooms apart pf i w6) G2
      have hlen2 := pmTs_len ok (rooms := rooms) (apart := apart) (m := m) i (by omega)
      refine pm0 ok (e2 _ _ hx) hi hp2 (by rw [List.length_map, List.length_append, List.length_map]; omega) npf fun w6 G3 e3 h3 => ⟨_, _, rfl, fun r u hu => e3 r u (fun e => ?_) (e2 r u hu), ?_⟩
      · have := e1 _ _ hu
        rw [e, hpf] at this; cases this
      · rw [h3, ← List.map_append, List.append_assoc, List.range_succ, List.flatMap_append]
        congr 4
        simp [List.flatMap]
    · rintro ρ G2 ⟨w5, w6, rfl, e2, hp2⟩
      rw [rngW_length] at hp2
      simp only [WL.wSeq, WL.wSet, WL.wAsg, WL.wDrop, WL.wRet, WL.wRetN, WL.wIfS, WL.wBreak, WL.wCont, WL.wNext, WL.wV, WL.wC, WL.wOp, WL.wUn, WL.wNil, WL.wCons, WL.wApp, WL.wTest, WL.wChain, WL.wAndT, WL.wOrT, WL.wNotT, WL.wAnd, WL.wOr, WL.wNot, WL.wIf, WL.wTup, WL.wLst, WL.wCall, WL.wMake, WL.wFld, WL.wPutF, WL.wSl, WL.wPart, WL.wNoPart, WL.wRev, WL.wName, WL.wNames, WL.wSeqI, WL.wZip, WL.wRng3, WL.wRng1, WL.wRng2, WL.wEnum, WL.wLstRg, WL.wTupRg, WL.wR1, WL.wR2, WL.wCallD, WL.MdW, WL.wgSub, WL.one, WL.two, WL.lk, WL.isB_bl, WL.isI_int, WL.cmpI, WL.isNW, WL.notNW, WL.nonW, WL.wYes, WL.wLockE, WL.wLock, WL.wDNew, WL.wSortSet, WL.wNever, WL.addW_int, WL.addW_tup, WL.addW_str, WL.subW_int, WL.mulW_int, WL.modW_int, WL.fdivW_int, WL.powW_int, WL.negW_int, WL.intW_int, WL.intW_bl, WL.absW, WL.CTg.on, WL.wipeW, WL.setsW, WL.optW_some, WL.wDisp, WL.wPairs, WL.eqW_str, WL.neW_str, WL.eqW_int, WL.neW_int, WL.eqW_bl, WL.neW_bl, WL.ixW_tupE, WL.slW_tupE, WL.sortTW_ref, WL.lenW_tupE, WL.tupW_tupE, WL.listW_tupE, WL.atI_0, WL.atI_1, WL.atI_2, WL.atI_3, WL.atI_4, WL.seqOn_tup, WL.enumOn_tup, List.set, if_true, if_false, Bool.false_eq_true, if_pos, List.length_nil, List.length_cons, Bool.not_true, Bool.not_false]
      exact q pf G2 e2 (none_of_ext e1 hpf) hp2
end K54
set_option Elab.async false
set_option linter.all false
set_option maxRecDepth 100000
set_option maxHeartbeats 1000000
set_option pp.maxSteps 400
namespace K54
open PySem PySem.Spec PyProof.Rows L2 WL PR PySem.W
/-! ### the dict of ways -/
noncomputable def numN (n : Nat) : NestedKey := .num (n : Int)
noncomputable def kM (n m : Nat) : NestedKey := .tup ((ones n m).map numN)
theorem nks_nats : ∀ h : List Nat, nksW (h.map nI) = some (h.map numN)
  | [] => by rw [List.map_nil, nksW]; rfl
  | i :: h => by
    rw [List.map_cons, nksW, nks_nats h]
    rw [show nkW (nI i) = some (numN i) from by unfold nI numN; rw [nkW]]
    rfl
theorem nk_kM (n m : Nat) : nkW (hW n m) = some (kM n m) := by
  unfold hW kM
  rw [nkW, nks_nats]; rfl
theorem dep_nats : ∀ h : List Nat, NestedKey.depthAll (h.map numN) = 0
  | [] => rfl
  | i :: h => by
    show max 0 (NestedKey.depthAll (h.map numN)) = 0
    rw [dep_nats h]; rfl
theorem dep_kM (n m : Nat) : (kM n m).depth ≤ 8 := by
  show NestedKey.depthAll ((ones n m).map numN) + 1 ≤ 8
  rw [dep_nats]; decide
theorem map_numN_inj : ∀ {a b : List Nat}, a.map numN = b.map numN → a = b
  | [], [], _ => rfl
  | [], _ :: _, h => by cases h
  | _ :: _, [], h => by cases h
  | x :: a, y :: b, h => by
    rw [List.map_cons, List.map_cons] at h
    injection h with h1 h2
    injection h1 with h1
    rw [show x = y by omega, map_numN_inj h2]
theorem kM_inj {n m k : Nat} (hm : m < 2 ^ n) (hk : k < 2 ^ n) (h : kM n m = kM n k) : m = k := by
  unfold kM at h
  injection h with h
  exact ones_inj hm hk (map_numN_inj h)
theorem is_kM {n m : Nat} {k : NestedKey → Prop} (h : k (kM n m)) : isNK (hW n m) k := ⟨_, kM n m, rfl, nk_kM n m, dep_kM n m, h⟩
/-- what was reached: what is held, how far from the begin, from what by which move -/
structure Wy where
  m : Nat
  d : Nat
  up : Option (Nat × Mv)
noncomputable def wyW (n : Nat) : Option (Nat × Mv) → W
  | none => .non
  | some (p, mv) => .tup [hW n p, mvW mv]
noncomputable def dcY (n : Nat) (C : List Wy) : List (NestedKey × W) := C.map fun x => (kM n x.m, wyW n x.up)
structure Wk (rs : List (List Nat)) (rooms : Nat) (apart : Bool) (C : List Wy) : Prop where
  nd : (C.map (·.m)).Nodup
  rch : ∀ x ∈ C, Reach rs rooms apart x.m
  zero : 0 ∈ C.map (·.m)
  ch : ∀ x ∈ C, x.up = none ∨ ∃ mv y, y ∈ C ∧ x.up = some (y.m, mv) ∧ y.d < x.d
section
variable {rs : List (List Nat)} {rooms : Nat} {apart : Bool} {C : List Wy} {m : Nat}
theorem Wk.lt (ok : ReadsOk rs) (h : Wk rs rooms apart C) (hm : m ∈ C.map (·.m)) : m < 2 ^ rs.length := by
  obtain ⟨x, hx, rfl⟩ := List.mem_map.mp hm
  exact (h.rch x hx).lt ok
theorem Wk.k10 (ok : ReadsOk rs) (h : Wk rs rooms apart C) : C.length ≤ 1024 := by
  have := nodup_lt h.nd fun x hx => h.lt ok hx
  rw [List.length_map] at this
  exact Nat.le_trans this (Nat.le_trans (Nat.pow_le_pow_right (by decide) ok.ten) (by decide))
theorem dcY_val (hC : ∀ x ∈ C, x.m < 2 ^ rs.length) (hm : m < 2 ^ rs.length) : WL.valN (dcY rs.length C) (kM rs.length m) = (C.find? fun x => decide (x.m = m)).map fun x => wyW rs.length x.up := by
  unfold WL.valN dcY
  induction C with
  | nil => rfl
  | cons x K ih =>
    have ih := ih fun y hy => hC y (by simp [hy])
    rw [List.map_cons, List.find?_cons, List.find?_cons]
    by_cases e : x.m = m
    · rw [decide_eq_true (show kM rs.length x.m = kM rs.length m by rw [e]), decide_eq_true e]; rfl
    · rw [decide_eq_false (show ¬ kM rs.length x.m = kM rs.length m from fun h => e (kM_inj (hC x (by simp)) hm h)), decide_eq_false e]; exact ih
theorem dcY_some (hC : ∀ x ∈ C, x.m < 2 ^ rs.length) (hm : m < 2 ^ rs.length) : (WL.valN (dcY rs.length C) (kM rs.length m)).isSome = decide (m ∈ C.map (·.m)) := by
  rw [dcY_val hC hm, Option.isSome_map]
  by_cases h : m ∈ C.map (·.m)
  · rw [decide_eq_true h, List.find?_isSome]
    obtain ⟨x, hx, e⟩ := List.mem_map.mp h
    exact ⟨x, hx, decide_eq_true e⟩
  · rw [decide_eq_false h, Option.isSome_eq_false_iff, Option.isNone_iff_eq_none, List.find?_eq_none]
    intro x hx e
    exact h (List.mem_map.mpr ⟨x, hx, of_decide_eq_true e⟩)
theorem dcY_at (hC : ∀ x ∈ C, x.m < 2 ^ rs.length) (nd : (C.map (·.m)).Nodup) {x : Wy} (hx : x ∈ C) : WL.valN (dcY rs.length C) (kM rs.length x.m) = some (wyW rs.length x.up) := by
  rw [dcY_val hC (hC x hx)]
  cases e : C.find? fun y => decide (y.m = x.m) with
  | none => exact absurd (decide_eq_true rfl) (List.find?_eq_none.mp e x hx)
  | some y =>
    have h1 := List.mem_of_find?_eq_some e
    have h2 : y.m = x.m := of_decide_eq_true (List.find?_some (p := fun y : Wy => decide (y.m = x.m)) e)
    have : y = x := by
      obtain ⟨i, hi⟩ := List.mem_iff_getElem?.mp h1
      obtain ⟨j, hj⟩ := List.mem_iff_getElem?.mp hx
      have hil := (List.getElem?_eq_some_iff.mp hi).1
      have hjl := (List.getElem?_eq_some_iff.mp hj).1
      have : (C.map (·.m))[i]'(by rw [List.length_map]; exact hil) = (C.map (·.m))[j]'(by rw [List.length_map]; exact hjl) := by
        rw [List.getElem_map, List.getElem_map, (List.getElem?_eq_some_iff.mp hi).2, (List.getElem?_eq_some_iff.mp hj).2, h2]
      have := (List.getElem_inj nd).mp this
      subst this
      rw [hi] at hj
      exact Option.some.inj hj
    rw [this]; rfl
theorem dcY_put (hC : ∀ x ∈ C, x.m < 2 ^ rs.length) (hm : m < 2 ^ rs.length) {d : Nat} {up : Option (Nat × Mv)} (h : m ∉ C.map (·.m)) : WL.putN (dcY rs.length C) (kM rs.length m) (wyW rs.length up) = dcY rs.length (C ++ [⟨m, d, up⟩]) := by
  unfold WL.putN
  rw [dcY_some hC hm, decide_eq_false h, if_neg Bool.false_ne_true]
  unfold dcY
  rw [List.map_append]; rfl
end
noncomputable def S_moves_to : WSp := fun ws G Q => ∃ (rs : List (List Nat)) (rooms : Nat) (apart : Bool) (p : Addr) (C : List Wy) (x : Wy), ws = [.ref p, hW rs.length x.m] ∧ ReadsOk rs ∧ G p = some (.nst (dcY rs.length C)) ∧ Wk rs rooms apart C ∧ x ∈ C ∧ x.d ≤ 2000 ∧ ∀ l G', Ext G G' → Q (.tup l) G'
theorem v_moves_to : ∀ ws G Q, S_moves_to ws G Q → rd_moves_to { nx := fun _ G' => Q .non G', rt := Q } (startW ["ways", "here", "found", "move"] ws) G := by
  rintro ws G Q ⟨rs, rooms, apart, p, C, x, rfl, ok, hp, wk, hx, hd, q⟩
  show rd_moves_to _ [some (.ref p), some (hW rs.length x.m), none, none] G
  have big : (20000 : Nat) < sizeLine := by decide
  have hC : ∀ x ∈ C, x.m < 2 ^ rs.length := fun x hx => (wk.rch x hx).lt ok
  unfold rd_moves_to
  simp only [WL.wSeq, WL.wSet, WL.wAsg, WL.wDrop, WL.wRet, WL.wRetN, WL.wIfS, WL.wBreak, WL.wCont, WL.wNext, WL.wV, WL.wC, WL.wOp, WL.wUn, WL.wNil, WL.wCons, WL.wApp, WL.wTest, WL.wChain, WL.wAndT, WL.wOrT, WL.wNotT, WL.wAnd, WL.wOr, WL.wNot, WL.wIf, WL.wTup, WL.wLst, WL.wCall, WL.wMake, WL.wFld, WL.wPutF, WL.wSl, WL.wPart, WL.wNoPart, WL.wRev, WL.wName, WL.wNames, WL.wSeqI, WL.wZip, WL.wRng3, WL.wRng1, WL.wRng2, WL.wEnum, WL.wLstRg, WL.wTupRg, WL.wR1, WL.wR2, WL.wCallD, WL.MdW, WL.wgSub, WL.one, WL.two, WL.lk, WL.isB_bl, WL.isI_int, WL.cmpI, WL.isNW, WL.notNW, WL.nonW, WL.wYes, WL.wLockE, WL.wLock, WL.wDNew, WL.wSortSet, WL.wNever, WL.addW_int, WL.addW_tup, WL.addW_str, WL.subW_int, WL.mulW_int, WL.modW_int, WL.fdivW_int, WL.powW_int, WL.negW_int, WL.intW_int, WL.intW_bl, WL.absW, WL.CTg.on, WL.wipeW, WL.setsW, WL.optW_some, WL.wDisp, WL.wPairs, WL.eqW_str, WL.neW_str, WL.eqW_int, WL.neW_int, WL.eqW_bl, WL.neW_bl, WL.ixW_tupE, WL.slW_tupE, WL.sortTW_ref, WL.lenW_tupE, WL.tupW_tupE, WL.listW_tupE, WL.atI_0, WL.atI_1, WL.atI_2, WL.atI_3, WL.atI_4, WL.seqOn_tup, WL.enumOn_tup, List.set, if_true, if_false, Bool.false_eq_true, if_pos, List.length_nil, List.length_cons, Bool.not_true, Bool.not_false]
  refine ⟨by decide, fun pf hpf => ?_⟩
  have npp : p ≠ pf := ne_of_at hp hpf
  refine wWhile_of (fun me ρ G' => ∃ (y : Wy) (fd : List W) (w3 : Option W), ρ = [some (.ref p), some (hW rs.length y.m), some (.ref pf), w3] ∧ Ext G G' ∧ G' p = some (.nst (dcY rs.length C)) ∧ G' pf = some (.lst fd) ∧ y ∈ C ∧ y.d ≤ 2000 ∧ fd.length + y.d ≤ 2000 ∧ me = y.d)
    (m := x.d) ⟨x, [], none, rfl, .new hpf, by rw [updG_ne npp]; exact hp, updG_same, hx, hd, by simpa using hd, rfl⟩ ?_
  rintro me ρ G1 ⟨y, fd, w3, rfl, e1, h1, h2, hy, hyd, hfd, rfl⟩
  have hv := dcY_at hC wk.nd hy
  unfold wTest wOp
  simp only [WL.wSeq, WL.wSet, WL.wAsg, WL.wDrop, WL.wRet, WL.wRetN, WL.wIfS, WL.wBreak, WL.wCont, WL.wNext, WL.wV, WL.wC, WL.wOp, WL.wUn, WL.wNil, WL.wCons, WL.wApp, WL.wTest, WL.wChain, WL.wAndT, WL.wOrT, WL.wNotT, WL.wAnd, WL.wOr, WL.wNot, WL.wIf, WL.wTup, WL.wLst, WL.wCall, WL.wMake, WL.wFld, WL.wPutF, WL.wSl, WL.wPart, WL.wNoPart, WL.wRev, WL.wName, WL.wNames, WL.wSeqI, WL.wZip, WL.wRng3, WL.wRng1, WL.wRng2, WL.wEnum, WL.wLstRg, WL.wTupRg, WL.wR1, WL.wR2, WL.wCallD, WL.MdW, WL.wgSub, WL.one, WL.two, WL.lk, WL.isB_bl, WL.isI_int, WL.cmpI, WL.isNW, WL.notNW, WL.nonW, WL.wYes, WL.wLockE, WL.wLock, WL.wDNew, WL.wSortSet, WL.wNever, WL.addW_int, WL.addW_tup, WL.addW_str, WL.subW_int, WL.mulW_int, WL.modW_int, WL.fdivW_int, WL.powW_int, WL.negW_int, WL.intW_int, WL.intW_bl, WL.absW, WL.CTg.on, WL.wipeW, WL.setsW, WL.optW_some, WL.wDisp, WL.wPairs, WL.eqW_str, WL.neW_str, WL.eqW_int, WL.neW_int, WL.eqW_bl, WL.neW_bl, WL.ixW_tupE, WL.slW_tupE, WL.sortTW_ref, WL.lenW_tupE, WL.tupW_tupE, WL.listW_tupE, WL.atI_0, WL.atI_1, WL.atI_2, WL.atI_3, WL.atI_4, WL.seqOn_tup, WL.enumOn_tup, List.set, if_true, if_false, Bool.false_eq_true, if_pos, List.length_nil, List.length_cons, Bool.not_true, Bool.not_false]
  refine ⟨p, rfl, is_kM (nsAt_of h1 (optW_of hv ?_))⟩
  rcases wk.ch y hy with h | ⟨mv, z, hz, h, hlt⟩
  · rw [h]
    unfold wyW
    simp only [WL.wSeq, WL.wSet, WL.wAsg, WL.wDrop, WL.wRet, WL.wRetN, WL.wIfS, WL.wBreak, WL.wCont, WL.wNext, WL.wV, WL.wC, WL.wOp, WL.wUn, WL.wNil, WL.wCons, WL.wApp, WL.wTest, WL.wChain, WL.wAndT, WL.wOrT, WL.wNotT, WL.wAnd, WL.wOr, WL.wNot, WL.wIf, WL.wTup, WL.wLst, WL.wCall, WL.wMake, WL.wFld, WL.wPutF, WL.wSl, WL.wPart, WL.wNoPart, WL.wRev, WL.wName, WL.wNames, WL.wSeqI, WL.wZip, WL.wRng3, WL.wRng1, WL.wRng2, WL.wEnum, WL.wLstRg, WL.wTupRg, WL.wR1, WL.wR2, WL.wCallD, WL.MdW, WL.wgSub, WL.one, WL.two, WL.lk, WL.isB_bl, WL.isI_int, WL.cmpI, WL.isNW, WL.notNW, WL.nonW, WL.wYes, WL.wLockE, WL.wLock, WL.wDNew, WL.wSortSet, WL.wNever, WL.addW_int, WL.addW_tup, WL.addW_str, WL.subW_int, WL.mulW_int, WL.modW_int, WL.fdivW_int, WL.powW_int, WL.negW_int, WL.intW_int, WL.intW_bl, WL.absW, WL.CTg.on, WL.wipeW, WL.setsW, WL.optW_some, WL.wDisp, WL.wPairs, WL.eqW_str, WL.neW_str, WL.eqW_int, WL.neW_int, WL.eqW_bl, WL.neW_bl, WL.ixW_tupE, WL.slW_tupE, WL.sortTW_ref, WL.lenW_tupE, WL.tupW_tupE, WL.listW_tupE, WL.atI_0, WL.atI_1, WL.atI_2, WL.atI_3, WL.atI_4, WL.seqOn_tup, WL.enumOn_tup, List.set, if_true, if_false, Bool.false_eq_true, if_pos, List.length_nil, List.length_cons, Bool.not_true, Bool.not_false]
    refine ⟨trivial, ?_⟩
    refine lsAt_of h2 fun r hr => ?_
    refine tup_lst updG_same ?_
    exact q _ _ (e1.trans (.new hr))
  · rw [h]
    unfold wyW
    simp only [WL.wSeq, WL.wSet, WL.wAsg, WL.wDrop, WL.wRet, WL.wRetN, WL.wIfS, WL.wBreak, WL.wCont, WL.wNext, WL.wV, WL.wC, WL.wOp, WL.wUn, WL.wNil, WL.wCons, WL.wApp, WL.wTest, WL.wChain, WL.wAndT, WL.wOrT, WL.wNotT, WL.wAnd, WL.wOr, WL.wNot, WL.wIf, WL.wTup, WL.wLst, WL.wCall, WL.wMake, WL.wFld, WL.wPutF, WL.wSl, WL.wPart, WL.wNoPart, WL.wRev, WL.wName, WL.wNames, WL.wSeqI, WL.wZip, WL.wRng3, WL.wRng1, WL.wRng2, WL.wEnum, WL.wLstRg, WL.wTupRg, WL.wR1, WL.wR2, WL.wCallD, WL.MdW, WL.wgSub, WL.one, WL.two, WL.lk, WL.isB_bl, WL.isI_int, WL.cmpI, WL.isNW, WL.notNW, WL.nonW, WL.wYes, WL.wLockE, WL.wLock, WL.wDNew, WL.wSortSet, WL.wNever, WL.addW_int, WL.addW_tup, WL.addW_str, WL.subW_int, WL.mulW_int, WL.modW_int, WL.fdivW_int, WL.powW_int, WL.negW_int, WL.intW_int, WL.intW_bl, WL.absW, WL.CTg.on, WL.wipeW, WL.setsW, WL.optW_some, WL.wDisp, WL.wPairs, WL.eqW_str, WL.neW_str, WL.eqW_int, WL.neW_int, WL.eqW_bl, WL.neW_bl, WL.ixW_tupE, WL.slW_tupE, WL.sortTW_ref, WL.lenW_tupE, WL.tupW_tupE, WL.listW_tupE, WL.atI_0, WL.atI_1, WL.atI_2, WL.atI_3, WL.atI_4, WL.seqOn_tup, WL.enumOn_tup, List.set, if_true, if_false, Bool.false_eq_true, if_pos, List.length_nil, List.length_cons, Bool.not_true, Bool.not_false]
    refine ⟨trivial, p, rfl, is_kM (nsAt_of h1 (optW_of hv ?_))⟩
    rw [h]
    unfold wyW
    simp only [WL.wSeq, WL.wSet, WL.wAsg, WL.wDrop, WL.wRet, WL.wRetN, WL.wIfS, WL.wBreak, WL.wCont, WL.wNext, WL.wV, WL.wC, WL.wOp, WL.wUn, WL.wNil, WL.wCons, WL.wApp, WL.wTest, WL.wChain, WL.wAndT, WL.wOrT, WL.wNotT, WL.wAnd, WL.wOr, WL.wNot, WL.wIf, WL.wTup, WL.wLst, WL.wCall, WL.wMake, WL.wFld, WL.wPutF, WL.wSl, WL.wPart, WL.wNoPart, WL.wRev, WL.wName, WL.wNames, WL.wSeqI, WL.wZip, WL.wRng3, WL.wRng1, WL.wRng2, WL.wEnum, WL.wLstRg, WL.wTupRg, WL.wR1, WL.wR2, WL.wCallD, WL.MdW, WL.wgSub, WL.one, WL.two, WL.lk, WL.isB_bl, WL.isI_int, WL.cmpI, WL.isNW, WL.notNW, WL.nonW, WL.wYes, WL.wLockE, WL.wLock, WL.wDNew, WL.wSortSet, WL.wNever, WL.addW_int, WL.addW_tup, WL.addW_str, WL.subW_int, WL.mulW_int, WL.modW_int, WL.fdivW_int, WL.powW_int, WL.negW_int, WL.intW_int, WL.intW_bl, WL.absW, WL.CTg.on, WL.wipeW, WL.setsW, WL.optW_some, WL.wDisp, WL.wPairs, WL.eqW_str, WL.neW_str, WL.eqW_int, WL.neW_int, WL.eqW_bl, WL.neW_bl, WL.ixW_tupE, WL.slW_tupE, WL.sortTW_ref, WL.lenW_tupE, WL.tupW_tupE, WL.listW_tupE, WL.atI_0, WL.atI_1, WL.atI_2, WL.atI_3, WL.atI_4, WL.seqOn_tup, WL.enumOn_tup, List.set, if_true, if_false, Bool.false_eq_true, if_pos, List.length_nil, List.length_cons, Bool.not_true, Bool.not_false]
    refine ⟨trivial, isLs_of h2, app_lst h2 (by omega) ?_⟩
    refine ⟨z.d, hlt, z, fd ++ [mvW mv], _, rfl, fun r u hu => ?_, by rw [updG_ne npp]; exact h1, updG_same, hz, by omega, by rw [List.length_append]; show fd.length + 1 + z.d ≤ 2000; omega, rfl⟩
    have : r ≠ pf := fun e => by rw [e, hpf] at hu; cases hu
    rw [updG_ne this]; exact e1 _ _ hu
end K54
set_option Elab.async false
set_option linter.all false
set_option maxRecDepth 100000
set_option maxHeartbeats 1000000
set_option pp.maxSteps 400
namespace K54
open PySem PySem.Spec PyProof.Rows L2 WL PR PySem.W
/-! ### the program's search -/
noncomputable def S_shortest_making (C : Addr) : WSp := fun ws G Q => ∃ (x : Addr) (rs : List (List Nat)) (rooms : Nat) (apart : Bool), ws = [.ref x, nI rooms, .bl apart] ∧ isWeb C G x rs ∧ ReadsOk rs ∧ ∀ w G', Ext G G' → ((Win rs rooms apart ∧ ∃ l, w = .tup l) ∨ (¬ Win rs rooms apart ∧ w = .non)) → Q w G'
noncomputable def tl_sm2 (C : Addr) : WTS := (wSeq (wSet 9 (wCall (S_behind_move C) (wCons (wV 0) (wCons (wV 7) (wCons (wV 8) wNil)))))
 (wIfS (wTest (wOp (inN true) (wV 9) (wV 4)))
 (wSeq (wAsg (wTup (wCons (wV 7) (wCons (wV 8) wNil))) (wgSubN (wV 4) (wV 9)))
 (wDrop (MdW appendW isLs (wV 5) (wCons (wV 9) wNil))))
 wNext))
noncomputable def tl_sm1 (C : Addr) : WTS := (wFor (wSeqI (wCall (S_moves_from C) (wCons (wV 0) (wCons (wV 7) (wCons (wV 1) (wCons (wV 2) wNil)))))) (wName 8) (tl_sm2 C))
noncomputable def tl_sm0 (T : WTS) : WTS := (wSeq (wSet 7 (wOp ixW (wV 5) (wV 6)))
 (wSeq (wAug 6 (wC (.int 1)) (fun a b => a + b))
 (wSeq (wIfS (wTest (wOp (inW false) (wV 3) (wV 7)))
 (wRet (wCall S_moves_to (wCons (wV 4) (wCons (wV 7) wNil))))
 wNext) T)))
noncomputable def stk (rs : List (List Nat)) (K : List Wy) : List W := K.map fun y => hW rs.length y.m
section
variable {C x pd pw : Addr} {rs : List (List Nat)} {rooms : Nat} {apart : Bool} {K : List Wy} {at_ : Nat} {G : WHp} {E : WEnds} {T : WTS} {w7 w8 w9 : Option W} {y : Wy}
noncomputable def smE (x : Addr) (rs : List (List Nat)) (rooms : Nat) (apart : Bool) (pd pw : Addr) (at_ : Nat) (w7 w8 w9 : Option W) : WEnv := [some (.ref x), some (nI rooms), some (.bl apart), some (nI (rs.length - 1)), some (.ref pd), some (.ref pw), some (nI at_), w7, w8, w9]
theorem sm2 {mv : Mv} (ok : ReadsOk rs) (hx : isWeb C G x rs) (wk : Wk rs rooms apart K) (hy : y ∈ K) (hmv : mv ∈ pmL rs rooms apart y.m) (hd : G pd = some (.nst (dcY rs.length K))) (hw : G pw = some (.lst (stk rs K))) (nd : pd ≠ pw) (hyd : ∀ y ∈ K, y.d < K.length)
    (q : ∀ K' w9 G', Wk rs rooms apart K' → (∃ more, K' = K ++ more) → (∀ y ∈ K', y.d < K'.length) → toM y.m mv ∈ K'.map (·.m) → (∀ r u, r ≠ pd → r ≠ pw → G r = some u → G' r = some u) → G' pd = some (.nst (dcY rs.length K')) → G' pw = some (.lst (stk rs K')) → E.nx (smE x rs rooms apart pd pw at_ (some (hW rs.length y.m)) (some (mvW mv)) w9) G') :
    tl_sm2 C E (smE x rs rooms apart pd pw at_ (some (hW rs.length y.m)) (some (mvW mv)) w9) G := by
  have hr := wk.rch y hy
  have hC : ∀ x ∈ K, x.m < 2 ^ rs.length := fun x hx => (wk.rch x hx).lt ok
  obtain ⟨hok, hnx, hpc⟩ := pmL_ok ok hmv hr.le
  have hlt := hnx.lt ok (hr.lt ok)
  have h10 := wk.k10 ok
  unfold tl_sm2
  unfold smE at q ⊢
  simp only [WL.wSeq, WL.wSet, WL.wAsg, WL.wDrop, WL.wRet, WL.wRetN, WL.wIfS, WL.wBreak, WL.wCont, WL.wNext, WL.wV, WL.wC, WL.wOp, WL.wUn, WL.wNil, WL.wCons, WL.wApp, WL.wTest, WL.wChain, WL.wAndT, WL.wOrT, WL.wNotT, WL.wAnd, WL.wOr, WL.wNot, WL.wIf, WL.wTup, WL.wLst, WL.wCall, WL.wMake, WL.wFld, WL.wPutF, WL.wSl, WL.wPart, WL.wNoPart, WL.wRev, WL.wName, WL.wNames, WL.wSeqI, WL.wZip, WL.wRng3, WL.wRng1, WL.wRng2, WL.wEnum, WL.wLstRg, WL.wTupRg, WL.wR1, WL.wR2, WL.wCallD, WL.MdW, WL.wgSub, WL.one, WL.two, WL.lk, WL.isB_bl, WL.isI_int, WL.cmpI, WL.isNW, WL.notNW, WL.nonW, WL.wYes, WL.wLockE, WL.wLock, WL.wDNew, WL.wSortSet, WL.wNever, WL.addW_int, WL.addW_tup, WL.addW_str, WL.subW_int, WL.mulW_int, WL.modW_int, WL.fdivW_int, WL.powW_int, WL.negW_int, WL.intW_int, WL.intW_bl, WL.absW, WL.CTg.on, WL.wipeW, WL.setsW, WL.optW_some, WL.wDisp, WL.wPairs, WL.eqW_str, WL.neW_str, WL.eqW_int, WL.neW_int, WL.eqW_bl, WL.neW_bl, WL.ixW_tupE, WL.slW_tupE, WL.sortTW_ref, WL.lenW_tupE, WL.tupW_tupE, WL.listW_tupE, WL.atI_0, WL.atI_1, WL.atI_2, WL.atI_3, WL.atI_4, WL.seqOn_tup, WL.enumOn_tup, List.set, if_true, if_false, Bool.false_eq_true, if_pos, List.length_nil, List.length_cons, Bool.not_true, Bool.not_false]
  refine ⟨x, rs, y.m, mv, rfl, hx, ok, hr.lt ok, hok, fun G1 e1 => ?_⟩
  simp only [WL.wSeq, WL.wSet, WL.wAsg, WL.wDrop, WL.wRet, WL.wRetN, WL.wIfS, WL.wBreak, WL.wCont, WL.wNext, WL.wV, WL.wC, WL.wOp, WL.wUn, WL.wNil, WL.wCons, WL.wApp, WL.wTest, WL.wChain, WL.wAndT, WL.wOrT, WL.wNotT, WL.wAnd, WL.wOr, WL.wNot, WL.wIf, WL.wTup, WL.wLst, WL.wCall, WL.wMake, WL.wFld, WL.wPutF, WL.wSl, WL.wPart, WL.wNoPart, WL.wRev, WL.wName, WL.wNames, WL.wSeqI, WL.wZip, WL.wRng3, WL.wRng1, WL.wRng2, WL.wEnum, WL.wLstRg, WL.wTupRg, WL.wR1, WL.wR2, WL.wCallD, WL.MdW, WL.wgSub, WL.one, WL.two, WL.lk, WL.isB_bl, WL.isI_int, WL.cmpI, WL.isNW, WL.notNW, WL.nonW, WL.wYes, WL.wLockE, WL.wLock, WL.wDNew, WL.wSortSet, WL.wNever, WL.addW_int, WL.addW_tup, WL.addW_str, WL.subW_int, WL.mulW_int, WL.modW_int, WL.fdivW_int, WL.powW_int, WL.negW_int, WL.intW_int, WL.intW_bl, WL.absW, WL.CTg.on, WL.wipeW, WL.setsW, WL.optW_some, WL.wDisp, WL.wPairs, WL.eqW_str, WL.neW_str, WL.eqW_int, WL.neW_int, WL.eqW_bl, WL.neW_bl, WL.ixW_tupE, WL.slW_tupE, WL.sortTW_ref, WL.lenW_tupE, WL.tupW_tupE, WL.listW_tupE, WL.atI_0, WL.atI_1, WL.atI_2, WL.atI_3, WL.atI_4, WL.seqOn_tup, WL.enumOn_tup, List.set, if_true, if_false, Bool.false_eq_true, if_pos, List.length_nil, List.length_cons, Bool.not_true, Bool.not_false]
  refine ⟨pd, rfl, is_kM (nsAt_of (e1 _ _ hd) ?_)⟩
  rw [dcY_some hC hlt]
  by_cases hk : toM y.m mv ∈ K.map (·.m)
  · rw [decide_eq_true hk]
    simp only [WL.wSeq, WL.wSet, WL.wAsg, WL.wDrop, WL.wRet, WL.wRetN, WL.wIfS, WL.wBreak, WL.wCont, WL.wNext, WL.wV, WL.wC, WL.wOp, WL.wUn, WL.wNil, WL.wCons, WL.wApp, WL.wTest, WL.wChain, WL.wAndT, WL.wOrT, WL.wNotT, WL.wAnd, WL.wOr, WL.wNot, WL.wIf, WL.wTup, WL.wLst, WL.wCall, WL.wMake, WL.wFld, WL.wPutF, WL.wSl, WL.wPart, WL.wNoPart, WL.wRev, WL.wName, WL.wNames, WL.wSeqI, WL.wZip, WL.wRng3, WL.wRng1, WL.wRng2, WL.wEnum, WL.wLstRg, WL.wTupRg, WL.wR1, WL.wR2, WL.wCallD, WL.MdW, WL.wgSub, WL.one, WL.two, WL.lk, WL.isB_bl, WL.isI_int, WL.cmpI, WL.isNW, WL.notNW, WL.nonW, WL.wYes, WL.wLockE, WL.wLock, WL.wDNew, WL.wSortSet, WL.wNever, WL.addW_int, WL.addW_tup, WL.addW_str, WL.subW_int, WL.mulW_int, WL.modW_int, WL.fdivW_int, WL.powW_int, WL.negW_int, WL.intW_int, WL.intW_bl, WL.absW, WL.CTg.on, WL.wipeW, WL.setsW, WL.optW_some, WL.wDisp, WL.wPairs, WL.eqW_str, WL.neW_str, WL.eqW_int, WL.neW_int, WL.eqW_bl, WL.neW_bl, WL.ixW_tupE, WL.slW_tupE, WL.sortTW_ref, WL.lenW_tupE, WL.tupW_tupE, WL.listW_tupE, WL.atI_0, WL.atI_1, WL.atI_2, WL.atI_3, WL.atI_4, WL.seqOn_tup, WL.enumOn_tup, List.set, if_true, if_false, Bool.false_eq_true, if_pos, List.length_nil, List.length_cons, Bool.not_true, Bool.not_false]
    exact q K _ G1 wk ⟨[], by simp⟩ hyd hk (fun r u _ _ h => e1 _ _ h) (e1 _ _ hd) (e1 _ _ hw)
  · rw [decide_eq_false hk]
    simp only [WL.wSeq, WL.wSet, WL.wAsg, WL.wDrop, WL.wRet, WL.wRetN, WL.wIfS, WL.wBreak, WL.wCont, WL.wNext, WL.wV, WL.wC, WL.wOp, WL.wUn, WL.wNil, WL.wCons, WL.wApp, WL.wTest, WL.wChain, WL.wAndT, WL.wOrT, WL.wNotT, WL.wAnd, WL.wOr, WL.wNot, WL.wIf, WL.wTup, WL.wLst, WL.wCall, WL.wMake, WL.wFld, WL.wPutF, WL.wSl, WL.wPart, WL.wNoPart, WL.wRev, WL.wName, WL.wNames, WL.wSeqI, WL.wZip, WL.wRng3, WL.wRng1, WL.wRng2, WL.wEnum, WL.wLstRg, WL.wTupRg, WL.wR1, WL.wR2, WL.wCallD, WL.MdW, WL.wgSub, WL.one, WL.two, WL.lk, WL.isB_bl, WL.isI_int, WL.cmpI, WL.isNW, WL.notNW, WL.nonW, WL.wYes, WL.wLockE, WL.wLock, WL.wDNew, WL.wSortSet, WL.wNever, WL.addW_int, WL.addW_tup, WL.addW_str, WL.subW_int, WL.mulW_int, WL.modW_int, WL.fdivW_int, WL.powW_int, WL.negW_int, WL.intW_int, WL.intW_bl, WL.absW, WL.CTg.on, WL.wipeW, WL.setsW, WL.optW_some, WL.wDisp, WL.wPairs, WL.eqW_str, WL.neW_str, WL.eqW_int, WL.neW_int, WL.eqW_bl, WL.neW_bl, WL.ixW_tupE, WL.slW_tupE, WL.sortTW_ref, WL.lenW_tupE, WL.tupW_tupE, WL.listW_tupE, WL.atI_0, WL.atI_1, WL.atI_2, WL.atI_3, WL.atI_4, WL.seqOn_tup, WL.enumOn_tup, List.set, if_true, if_false, Bool.false_eq_true, if_pos, List.length_nil, List.length_cons, Bool.not_true, Bool.not_false]
    refine ⟨by decide, pd, rfl, is_kM (nsAt_of (e1 _ _ hd) ⟨by unfold dcY; rw [List.length_map]; exact Nat.lt_of_le_of_lt h10 (by decide), ?_⟩)⟩
    rw [show W.tup [hW rs.length y.m, mvW mv] = wyW rs.length (some (y.m, mv)) from rfl, dcY_put hC hlt (d := y.d + 1) hk]
    have hw1 : updG G1 pd (.nst (dcY rs.length (K ++ [⟨toM y.m mv, y.d + 1, some (y.m, mv)⟩]))) pw = some (.lst (stk rs K)) := by rw [updG_ne (Ne.symm nd)]; exact e1 _ _ hw
    refine ⟨isLs_of hw1, ?_⟩
    simp only [WL.wSeq, WL.wSet, WL.wAsg, WL.wDrop, WL.wRet, WL.wRetN, WL.wIfS, WL.wBreak, WL.wCont, WL.wNext, WL.wV, WL.wC, WL.wOp, WL.wUn, WL.wNil, WL.wCons, WL.wApp, WL.wTest, WL.wChain, WL.wAndT, WL.wOrT, WL.wNotT, WL.wAnd, WL.wOr, WL.wNot, WL.wIf, WL.wTup, WL.wLst, WL.wCall, WL.wMake, WL.wFld, WL.wPutF, WL.wSl, WL.wPart, WL.wNoPart, WL.wRev, WL.wName, WL.wNames, WL.wSeqI, WL.wZip, WL.wRng3, WL.wRng1, WL.wRng2, WL.wEnum, WL.wLstRg, WL.wTupRg, WL.wR1, WL.wR2, WL.wCallD, WL.MdW, WL.wgSub, WL.one, WL.two, WL.lk, WL.isB_bl, WL.isI_int, WL.cmpI, WL.isNW, WL.notNW, WL.nonW, WL.wYes, WL.wLockE, WL.wLock, WL.wDNew, WL.wSortSet, WL.wNever, WL.addW_int, WL.addW_tup, WL.addW_str, WL.subW_int, WL.mulW_int, WL.modW_int, WL.fdivW_int, WL.powW_int, WL.negW_int, WL.intW_int, WL.intW_bl, WL.absW, WL.CTg.on, WL.wipeW, WL.setsW, WL.optW_some, WL.wDisp, WL.wPairs, WL.eqW_str, WL.neW_str, WL.eqW_int, WL.neW_int, WL.eqW_bl, WL.neW_bl, WL.ixW_tupE, WL.slW_tupE, WL.sortTW_ref, WL.lenW_tupE, WL.tupW_tupE, WL.listW_tupE, WL.atI_0, WL.atI_1, WL.atI_2, WL.atI_3, WL.atI_4, WL.seqOn_tup, WL.enumOn_tup, List.set, if_true, if_false, Bool.false_eq_true, if_pos, List.length_nil, List.length_cons, Bool.not_true, Bool.not_false]
    refine app_lst hw1 (by unfold stk; rw [List.length_map]; exact Nat.lt_of_le_of_lt h10 (by decide)) ?_
    refine q (K ++ [⟨toM y.m mv, y.d + 1, some (y.m, mv)⟩]) _ _ ⟨?_, fun z hz => ?_, ?_, fun z hz => ?_⟩ ⟨_, rfl⟩ (fun z hz => ?_) (by rw [List.map_append]; exact List.mem_append_right _ (by simp)) (fun r u h1 h2 hu => by rw [updG_ne h2, updG_ne h1]; exact e1 _ _ hu) (by rw [updG_ne nd, updG_same]) (by rw [updG_same]; unfold stk; rw [List.map_append]; rfl)
    · rw [List.map_append]
      refine List.nodup_append.mpr ⟨wk.nd, by simp, fun a ha b hb => ?_⟩
      have : b = toM y.m mv := by simpa using hb
      rw [this]
      rintro rfl
      exact hk ha
    · rcases List.mem_append.mp hz with hz | hz
      · exact wk.rch z hz
      · rw [List.mem_singleton.mp hz]
        exact .step hr hnx hpc
    · rw [List.map_append]; exact List.mem_append_left _ wk.zero
    · rcases List.mem_append.mp hz with hz | hz
      · rcases wk.ch z hz with h | ⟨mv', u, hu, h1, h2⟩
        · exact .inl h
        · exact .inr ⟨mv', u, List.mem_append_left _ hu, h1, h2⟩
      · rw [List.mem_singleton.mp hz]
        exact .inr ⟨mv, y, List.mem_append_left _ hy, rfl, Nat.lt_succ_self _⟩
    · rw [List.length_append]
      rcases List.mem_append.mp hz with hz | hz
      · have := hyd z hz
        show _ < _ + 1
        omega
      · rw [List.mem_singleton.mp hz]
        have := hyd y hy
        show y.d + 1 < K.length + 1
        omega
theorem sm1 (ok : ReadsOk rs) (hx : isWeb C G x rs) (wk : Wk rs rooms apart K) (hy : y ∈ K) (hd : G pd = some (.nst (dcY rs.length K))) (hw : G pw = some (.lst (stk rs K))) (nd : pd ≠ pw) (nxd : x ≠ pd) (nxw : x ≠ pw) (hyd : ∀ y ∈ K, y.d < K.length)
    (q : ∀ K' w8 w9 G', Wk rs rooms apart K' → (∃ more, K' = K ++ more) → (∀ y ∈ K', y.d < K'.length) → Clo rs rooms apart (K'.map (·.m)) y.m → (∀ r u, r ≠ pd → r ≠ pw → G r = some u → G' r = some u) → G' pd = some (.nst (dcY rs.length K')) → G' pw = some (.lst (stk rs K')) → E.nx (smE x rs rooms apart pd pw at_ (some (hW rs.length y.m)) w8 w9) G') :
    tl_sm1 C E (smE x rs rooms apart pd pw at_ (some (hW rs.length y.m)) w8 w9) G := by
  have hr := wk.rch y hy
  unfold tl_sm1
  refine wFor_P (fun items stable G1 => ∃ r, items = (pmL rs rooms apart y.m).map mvW ∧ Ext G G1 ∧ G r = none ∧ G1 r = some (.lst ((pmL rs rooms apart y.m).map mvW)) ∧ ∀ G2, G2 r = some (.lst ((pmL rs rooms apart y.m).map mvW)) → stable G2) (fun R hR => ?_) ?_
  · unfold smE
    simp only [WL.wSeq, WL.wSet, WL.wAsg, WL.wDrop, WL.wRet, WL.wRetN, WL.wIfS, WL.wBreak, WL.wCont, WL.wNext, WL.wV, WL.wC, WL.wOp, WL.wUn, WL.wNil, WL.wCons, WL.wApp, WL.wTest, WL.wChain, WL.wAndT, WL.wOrT, WL.wNotT, WL.wAnd, WL.wOr, WL.wNot, WL.wIf, WL.wTup, WL.wLst, WL.wCall, WL.wMake, WL.wFld, WL.wPutF, WL.wSl, WL.wPart, WL.wNoPart, WL.wRev, WL.wName, WL.wNames, WL.wSeqI, WL.wZip, WL.wRng3, WL.wRng1, WL.wRng2, WL.wEnum, WL.wLstRg, WL.wTupRg, WL.wR1, WL.wR2, WL.wCallD, WL.MdW, WL.wgSub, WL.one, WL.two, WL.lk, WL.isB_bl, WL.isI_int, WL.cmpI, WL.isNW, WL.notNW, WL.nonW, WL.wYes, WL.wLockE, WL.wLock, WL.wDNew, WL.wSortSet, WL.wNever, WL.addW_int, WL.addW_tup, WL.addW_str, WL.subW_int, WL.mulW_int, WL.modW_int, WL.fdivW_int, WL.powW_int, WL.negW_int, WL.intW_int, WL.intW_bl, WL.absW, WL.CTg.on, WL.wipeW, WL.setsW, WL.optW_some, WL.wDisp, WL.wPairs, WL.eqW_str, WL.neW_str, WL.eqW_int, WL.neW_int, WL.eqW_bl, WL.neW_bl, WL.ixW_tupE, WL.slW_tupE, WL.sortTW_ref, WL.lenW_tupE, WL.tupW_tupE, WL.listW_tupE, WL.atI_0, WL.atI_1, WL.atI_2, WL.atI_3, WL.atI_4, WL.seqOn_tup, WL.enumOn_tup, List.set, if_true, if_false, Bool.false_eq_true, if_pos, List.length_nil, List.length_cons, Bool.not_true, Bool.not_false]
    refine ⟨x, rs, y.m, rooms, apart, rfl, hx, ok, hr.lt ok, fun r G1 e1 hrn h1 => ?_⟩
    unfold seqOn
    simp only [h1]
    exact hR _ _ _ ⟨r, rfl, e1, hrn, h1, fun G2 h => .inl h⟩
  · rintro items stable G1 ⟨r, rfl, e1, hrn, h1, hs⟩
    have nrd : r ≠ pd := fun e => by rw [e, hd] at hrn; cases hrn
    have nrw : r ≠ pw := fun e => by rw [e, hw] at hrn; cases hrn
    refine ⟨fun i ρ G' => ∃ K' w8 w9, ρ = smE x rs rooms apart pd pw at_ (some (hW rs.length y.m)) w8 w9 ∧ Wk rs rooms apart K' ∧ (∃ more, K' = K ++ more) ∧ (∀ y ∈ K', y.d < K'.length) ∧ (∀ mv ∈ (pmL rs rooms apart y.m).take i, toM y.m mv ∈ K'.map (·.m)) ∧ (∀ r u, r ≠ pd → r ≠ pw → G1 r = some u → G' r = some u) ∧ G' pd = some (.nst (dcY rs.length K')) ∧ G' pw = some (.lst (stk rs K')),
      ⟨K, _, _, rfl, wk, ⟨[], by simp⟩, hyd, fun x hx => (by simp at hx), fun r u _ _ h => h, e1 _ _ hd, e1 _ _ hw⟩, fun i ρ G' _ ⟨_, _, _, _, _, _, _, _, k, _⟩ => hs G' (k r _ nrd nrw h1), ?_, ?_⟩
    · rintro i w ρ G2 hw' ⟨K', w8, w9, rfl, wk', ⟨more, em⟩, hyd', hk, k2, hd2, hw2⟩
      rw [List.getElem?_map] at hw'
      cases hmx : (pmL rs rooms apart y.m)[i]? with
      | none => rw [hmx] at hw'; cases hw'
      | some mv =>
        rw [hmx] at hw'
        have hw' := (Option.some.inj hw').symm
        subst hw'
        show tl_sm2 C _ (smE x rs rooms apart pd pw at_ (some (hW rs.length y.m)) (some (mvW mv)) w9) G2
        refine sm2 ok (k2 _ _ nxd nxw (e1 _ _ hx)) wk' (by rw [em]; exact List.mem_append_left _ hy) (List.mem_of_getElem? hmx) hd2 hw2 nd hyd' fun K2 w9 G3 wk2 ⟨more2, em2⟩ hyd2 hin k3 hd3 hw3 => ?_
        refine ⟨K2, _, _, rfl, wk2, ⟨more ++ more2, by rw [em2, em, List.append_assoc]⟩, hyd2, fun z hz => ?_, fun r u h1 h2 hu => k3 r u h1 h2 (k2 r u h1 h2 hu), hd3, hw3⟩
        rw [List.take_add_one, hmx] at hz
        rcases List.mem_append.mp hz with hz | hz
        · rw [em2, List.map_append]; exact List.mem_append_left _ (hk z hz)
        · have : z = mv := by simpa using hz
          rw [this]; exact hin
    · rintro ρ G2 ⟨K', w8, w9, rfl, wk', em, hyd', hk, k2, hd2, hw2⟩
      rw [List.length_map, List.take_length] at hk
      refine q K' _ _ G2 wk' em hyd' (fun k s hr' => ?_) (fun r u h1 h2 hu => k2 r u h1 h2 (e1 _ _ hu)) hd2 hw2
      obtain ⟨mv, hmv, rfl⟩ := pmL_all s hr'
      exact hk mv hmv
theorem sm0 (ok : ReadsOk rs) (wk : Wk rs rooms apart K) (hy : K[at_]? = some y) (hd : G pd = some (.nst (dcY rs.length K))) (hw : G pw = some (.lst (stk rs K))) (hyd : ∀ y ∈ K, y.d < K.length)
    (r : Win rs rooms apart → ∀ l G', Ext G G' → E.rt (.tup l) G') (q : PR.goalB rs y.m = false → T E (smE x rs rooms apart pd pw (at_ + 1) (some (hW rs.length y.m)) w8 w9) G) :
    tl_sm0 T E (smE x rs rooms apart pd pw at_ w7 w8 w9) G := by
  have hym := List.mem_of_getElem? hy
  have hps := ok.pos
  have h10 := wk.k10 ok
  unfold tl_sm0
  unfold smE at q ⊢
  simp only [WL.wSeq, WL.wSet, WL.wAsg, WL.wDrop, WL.wRet, WL.wRetN, WL.wIfS, WL.wBreak, WL.wCont, WL.wNext, WL.wV, WL.wC, WL.wOp, WL.wUn, WL.wNil, WL.wCons, WL.wApp, WL.wTest, WL.wChain, WL.wAndT, WL.wOrT, WL.wNotT, WL.wAnd, WL.wOr, WL.wNot, WL.wIf, WL.wTup, WL.wLst, WL.wCall, WL.wMake, WL.wFld, WL.wPutF, WL.wSl, WL.wPart, WL.wNoPart, WL.wRev, WL.wName, WL.wNames, WL.wSeqI, WL.wZip, WL.wRng3, WL.wRng1, WL.wRng2, WL.wEnum, WL.wLstRg, WL.wTupRg, WL.wR1, WL.wR2, WL.wCallD, WL.MdW, WL.wgSub, WL.one, WL.two, WL.lk, WL.isB_bl, WL.isI_int, WL.cmpI, WL.isNW, WL.notNW, WL.nonW, WL.wYes, WL.wLockE, WL.wLock, WL.wDNew, WL.wSortSet, WL.wNever, WL.addW_int, WL.addW_tup, WL.addW_str, WL.subW_int, WL.mulW_int, WL.modW_int, WL.fdivW_int, WL.powW_int, WL.negW_int, WL.intW_int, WL.intW_bl, WL.absW, WL.CTg.on, WL.wipeW, WL.setsW, WL.optW_some, WL.wDisp, WL.wPairs, WL.eqW_str, WL.neW_str, WL.eqW_int, WL.neW_int, WL.eqW_bl, WL.neW_bl, WL.ixW_tupE, WL.slW_tupE, WL.sortTW_ref, WL.lenW_tupE, WL.tupW_tupE, WL.listW_tupE, WL.atI_0, WL.atI_1, WL.atI_2, WL.atI_3, WL.atI_4, WL.seqOn_tup, WL.enumOn_tup, List.set, if_true, if_false, Bool.false_eq_true, if_pos, List.length_nil, List.length_cons, Bool.not_true, Bool.not_false]
  refine ixW_lst (i := at_) hw (w := hW rs.length y.m) (by unfold stk; rw [List.getElem?_map, hy]; rfl) ?_
  unfold wAug nI at *
  simp only [WL.wSeq, WL.wSet, WL.wAsg, WL.wDrop, WL.wRet, WL.wRetN, WL.wIfS, WL.wBreak, WL.wCont, WL.wNext, WL.wV, WL.wC, WL.wOp, WL.wUn, WL.wNil, WL.wCons, WL.wApp, WL.wTest, WL.wChain, WL.wAndT, WL.wOrT, WL.wNotT, WL.wAnd, WL.wOr, WL.wNot, WL.wIf, WL.wTup, WL.wLst, WL.wCall, WL.wMake, WL.wFld, WL.wPutF, WL.wSl, WL.wPart, WL.wNoPart, WL.wRev, WL.wName, WL.wNames, WL.wSeqI, WL.wZip, WL.wRng3, WL.wRng1, WL.wRng2, WL.wEnum, WL.wLstRg, WL.wTupRg, WL.wR1, WL.wR2, WL.wCallD, WL.MdW, WL.wgSub, WL.one, WL.two, WL.lk, WL.isB_bl, WL.isI_int, WL.cmpI, WL.isNW, WL.notNW, WL.nonW, WL.wYes, WL.wLockE, WL.wLock, WL.wDNew, WL.wSortSet, WL.wNever, WL.addW_int, WL.addW_tup, WL.addW_str, WL.subW_int, WL.mulW_int, WL.modW_int, WL.fdivW_int, WL.powW_int, WL.negW_int, WL.intW_int, WL.intW_bl, WL.absW, WL.CTg.on, WL.wipeW, WL.setsW, WL.optW_some, WL.wDisp, WL.wPairs, WL.eqW_str, WL.neW_str, WL.eqW_int, WL.neW_int, WL.eqW_bl, WL.neW_bl, WL.ixW_tupE, WL.slW_tupE, WL.sortTW_ref, WL.lenW_tupE, WL.tupW_tupE, WL.listW_tupE, WL.atI_0, WL.atI_1, WL.atI_2, WL.atI_3, WL.atI_4, WL.seqOn_tup, WL.enumOn_tup, List.set, if_true, if_false, Bool.false_eq_true, if_pos, List.length_nil, List.length_cons, Bool.not_true, Bool.not_false]
  rw [show ((at_ : Nat) : Int) + 1 = ((at_ + 1 : Nat) : Int) by omega]
  refine in_held (t := rs.length - 1) ?_
  have e : decide (rs.length - 1 < rs.length ∧ y.m.testBit (rs.length - 1) = true) = PR.goalB rs y.m := by
    unfold PR.goalB
    cases y.m.testBit (rs.length - 1) <;> simp <;> omega
  rw [e]
  cases hg : PR.goalB rs y.m with
  | true =>
    simp only [WL.wSeq, WL.wSet, WL.wAsg, WL.wDrop, WL.wRet, WL.wRetN, WL.wIfS, WL.wBreak, WL.wCont, WL.wNext, WL.wV, WL.wC, WL.wOp, WL.wUn, WL.wNil, WL.wCons, WL.wApp, WL.wTest, WL.wChain, WL.wAndT, WL.wOrT, WL.wNotT, WL.wAnd, WL.wOr, WL.wNot, WL.wIf, WL.wTup, WL.wLst, WL.wCall, WL.wMake, WL.wFld, WL.wPutF, WL.wSl, WL.wPart, WL.wNoPart, WL.wRev, WL.wName, WL.wNames, WL.wSeqI, WL.wZip, WL.wRng3, WL.wRng1, WL.wRng2, WL.wEnum, WL.wLstRg, WL.wTupRg, WL.wR1, WL.wR2, WL.wCallD, WL.MdW, WL.wgSub, WL.one, WL.two, WL.lk, WL.isB_bl, WL.isI_int, WL.cmpI, WL.isNW, WL.notNW, WL.nonW, WL.wYes, WL.wLockE, WL.wLock, WL.wDNew, WL.wSortSet, WL.wNever, WL.addW_int, WL.addW_tup, WL.addW_str, WL.subW_int, WL.mulW_int, WL.modW_int, WL.fdivW_int, WL.powW_int, WL.negW_int, WL.intW_int, WL.intW_bl, WL.absW, WL.CTg.on, WL.wipeW, WL.setsW, WL.optW_some, WL.wDisp, WL.wPairs, WL.eqW_str, WL.neW_str, WL.eqW_int, WL.neW_int, WL.eqW_bl, WL.neW_bl, WL.ixW_tupE, WL.slW_tupE, WL.sortTW_ref, WL.lenW_tupE, WL.tupW_tupE, WL.listW_tupE, WL.atI_0, WL.atI_1, WL.atI_2, WL.atI_3, WL.atI_4, WL.seqOn_tup, WL.enumOn_tup, List.set, if_true, if_false, Bool.false_eq_true, if_pos, List.length_nil, List.length_cons, Bool.not_true, Bool.not_false]
    have := hyd y hym
    exact ⟨rs, rooms, apart, pd, K, y, rfl, ok, hd, wk, hym, by omega, fun l G' e' => r ⟨y.m, wk.rch y hym, hg⟩ l G' e'⟩
  | false =>
    simp only [WL.wSeq, WL.wSet, WL.wAsg, WL.wDrop, WL.wRet, WL.wRetN, WL.wIfS, WL.wBreak, WL.wCont, WL.wNext, WL.wV, WL.wC, WL.wOp, WL.wUn, WL.wNil, WL.wCons, WL.wApp, WL.wTest, WL.wChain, WL.wAndT, WL.wOrT, WL.wNotT, WL.wAnd, WL.wOr, WL.wNot, WL.wIf, WL.wTup, WL.wLst, WL.wCall, WL.wMake, WL.wFld, WL.wPutF, WL.wSl, WL.wPart, WL.wNoPart, WL.wRev, WL.wName, WL.wNames, WL.wSeqI, WL.wZip, WL.wRng3, WL.wRng1, WL.wRng2, WL.wEnum, WL.wLstRg, WL.wTupRg, WL.wR1, WL.wR2, WL.wCallD, WL.MdW, WL.wgSub, WL.one, WL.two, WL.lk, WL.isB_bl, WL.isI_int, WL.cmpI, WL.isNW, WL.notNW, WL.nonW, WL.wYes, WL.wLockE, WL.wLock, WL.wDNew, WL.wSortSet, WL.wNever, WL.addW_int, WL.addW_tup, WL.addW_str, WL.subW_int, WL.mulW_int, WL.modW_int, WL.fdivW_int, WL.powW_int, WL.negW_int, WL.intW_int, WL.intW_bl, WL.absW, WL.CTg.on, WL.wipeW, WL.setsW, WL.optW_some, WL.wDisp, WL.wPairs, WL.eqW_str, WL.neW_str, WL.eqW_int, WL.neW_int, WL.eqW_bl, WL.neW_bl, WL.ixW_tupE, WL.slW_tupE, WL.sortTW_ref, WL.lenW_tupE, WL.tupW_tupE, WL.listW_tupE, WL.atI_0, WL.atI_1, WL.atI_2, WL.atI_3, WL.atI_4, WL.seqOn_tup, WL.enumOn_tup, List.set, if_true, if_false, Bool.false_eq_true, if_pos, List.length_nil, List.length_cons, Bool.not_true, Bool.not_false]
    exact q hg
end
end K54
set_option Elab.async false
set_option linter.all false
set_option maxRecDepth 100000
set_option maxHeartbeats 1000000
set_option pp.maxSteps 400
namespace K54
open PySem PySem.Spec PyProof.Rows L2 WL PR PySem.W
noncomputable def tl_smW (C : Addr) : WTS := (wSeq (wWhile (wTest (wOp ltW (wV 6) (wApp (one lenW) (wCons (wV 5) wNil)))) (tl_sm0 (tl_sm1 C)))
 (wRet (wC .non)))
section
variable {C x pd pw : Addr} {rs : List (List Nat)} {rooms : Nat} {apart : Bool} {G0 G : WHp} {Q : WK}
theorem smW (ok : ReadsOk rs) (e0 : Ext G0 G) (hx : isWeb C G0 x rs) (hd : G pd = some (.nst (dcY rs.length [⟨0, 0, none⟩]))) (hw : G pw = some (.lst (stk rs [⟨0, 0, none⟩]))) (nd : pd ≠ pw) (n1 : G0 pd = none) (n2 : G0 pw = none)
    (q : ∀ w G', Ext G0 G' → ((Win rs rooms apart ∧ ∃ l, w = .tup l) ∨ (¬ Win rs rooms apart ∧ w = .non)) → Q w G') :
    tl_smW C { nx := fun _ G' => Q .non G', rt := Q } (smE x rs rooms apart pd pw 0 none none none) G := by
  have nxd : x ≠ pd := fun e => by
    have hx : G0 x = _ := hx
    rw [e, n1] at hx; cases hx
  have nxw : x ≠ pw := fun e => by
    have hx : G0 x = _ := hx
    rw [e, n2] at hx; cases hx
  unfold tl_smW
  refine wWhile_of (fun me ρ G' => ∃ K at_ w7 w8 w9, ρ = smE x rs rooms apart pd pw at_ w7 w8 w9 ∧ Wk rs rooms apart K ∧ (∀ y ∈ K, y.d < K.length) ∧ at_ ≤ K.length ∧ (∀ i y, i < at_ → K[i]? = some y → PR.goalB rs y.m = false ∧ Clo rs rooms apart (K.map (·.m)) y.m) ∧ Ext G0 G' ∧ G' pd = some (.nst (dcY rs.length K)) ∧ G' pw = some (.lst (stk rs K)) ∧ me = 1024 - at_)
    (m := 1024) ⟨[⟨0, 0, none⟩], 0, none, none, none, rfl, ⟨by simp, fun y hy => by rw [List.mem_singleton.mp hy]; exact .zero, by simp, fun y hy => by rw [List.mem_singleton.mp hy]; exact .inl rfl⟩, fun y hy => by rw [List.mem_singleton.mp hy]; exact Nat.one_pos, Nat.zero_le _, fun i y h => absurd h (Nat.not_lt_zero _), e0, hd, hw, rfl⟩ ?_
  rintro me ρ G1 ⟨K, at_, w7, w8, w9, rfl, wk, hyd, hat, hcl, e1, hd, hw, rfl⟩
  have h10 := wk.k10 ok
  have ht : ∀ (P : Bool → WHp → Prop), P (decide (at_ < K.length)) G1 → (wTest (wOp ltW (wV 6) (wApp (one lenW) (wCons (wV 5) wNil)))) (smE x rs rooms apart pd pw at_ w7 w8 w9) G1 P := fun P hP => by
    unfold smE nI
    simp only [WL.wSeq, WL.wSet, WL.wAsg, WL.wDrop, WL.wRet, WL.wRetN, WL.wIfS, WL.wBreak, WL.wCont, WL.wNext, WL.wV, WL.wC, WL.wOp, WL.wUn, WL.wNil, WL.wCons, WL.wApp, WL.wTest, WL.wChain, WL.wAndT, WL.wOrT, WL.wNotT, WL.wAnd, WL.wOr, WL.wNot, WL.wIf, WL.wTup, WL.wLst, WL.wCall, WL.wMake, WL.wFld, WL.wPutF, WL.wSl, WL.wPart, WL.wNoPart, WL.wRev, WL.wName, WL.wNames, WL.wSeqI, WL.wZip, WL.wRng3, WL.wRng1, WL.wRng2, WL.wEnum, WL.wLstRg, WL.wTupRg, WL.wR1, WL.wR2, WL.wCallD, WL.MdW, WL.wgSub, WL.one, WL.two, WL.lk, WL.isB_bl, WL.isI_int, WL.cmpI, WL.isNW, WL.notNW, WL.nonW, WL.wYes, WL.wLockE, WL.wLock, WL.wDNew, WL.wSortSet, WL.wNever, WL.addW_int, WL.addW_tup, WL.addW_str, WL.subW_int, WL.mulW_int, WL.modW_int, WL.fdivW_int, WL.powW_int, WL.negW_int, WL.intW_int, WL.intW_bl, WL.absW, WL.CTg.on, WL.wipeW, WL.setsW, WL.optW_some, WL.wDisp, WL.wPairs, WL.eqW_str, WL.neW_str, WL.eqW_int, WL.neW_int, WL.eqW_bl, WL.neW_bl, WL.ixW_tupE, WL.slW_tupE, WL.sortTW_ref, WL.lenW_tupE, WL.tupW_tupE, WL.listW_tupE, WL.atI_0, WL.atI_1, WL.atI_2, WL.atI_3, WL.atI_4, WL.seqOn_tup, WL.enumOn_tup, List.set, if_true, if_false, Bool.false_eq_true, if_pos, List.length_nil, List.length_cons, Bool.not_true, Bool.not_false]
    refine len_lst hw ?_
    simp only [WL.wSeq, WL.wSet, WL.wAsg, WL.wDrop, WL.wRet, WL.wRetN, WL.wIfS, WL.wBreak, WL.wCont, WL.wNext, WL.wV, WL.wC, WL.wOp, WL.wUn, WL.wNil, WL.wCons, WL.wApp, WL.wTest, WL.wChain, WL.wAndT, WL.wOrT, WL.wNotT, WL.wAnd, WL.wOr, WL.wNot, WL.wIf, WL.wTup, WL.wLst, WL.wCall, WL.wMake, WL.wFld, WL.wPutF, WL.wSl, WL.wPart, WL.wNoPart, WL.wRev, WL.wName, WL.wNames, WL.wSeqI, WL.wZip, WL.wRng3, WL.wRng1, WL.wRng2, WL.wEnum, WL.wLstRg, WL.wTupRg, WL.wR1, WL.wR2, WL.wCallD, WL.MdW, WL.wgSub, WL.one, WL.two, WL.lk, WL.isB_bl, WL.isI_int, WL.cmpI, WL.isNW, WL.notNW, WL.nonW, WL.wYes, WL.wLockE, WL.wLock, WL.wDNew, WL.wSortSet, WL.wNever, WL.addW_int, WL.addW_tup, WL.addW_str, WL.subW_int, WL.mulW_int, WL.modW_int, WL.fdivW_int, WL.powW_int, WL.negW_int, WL.intW_int, WL.intW_bl, WL.absW, WL.CTg.on, WL.wipeW, WL.setsW, WL.optW_some, WL.wDisp, WL.wPairs, WL.eqW_str, WL.neW_str, WL.eqW_int, WL.neW_int, WL.eqW_bl, WL.neW_bl, WL.ixW_tupE, WL.slW_tupE, WL.sortTW_ref, WL.lenW_tupE, WL.tupW_tupE, WL.listW_tupE, WL.atI_0, WL.atI_1, WL.atI_2, WL.atI_3, WL.atI_4, WL.seqOn_tup, WL.enumOn_tup, List.set, if_true, if_false, Bool.false_eq_true, if_pos, List.length_nil, List.length_cons, Bool.not_true, Bool.not_false]
    unfold stk
    rw [List.length_map]
    have : decide (((at_ : Nat) : Int) < ((K.length : Nat) : Int)) = decide (at_ < K.length) := by
      rw [Bool.eq_iff_iff, decide_eq_true_iff, decide_eq_true_iff]; omega
    rw [this]
    exact hP
  refine ht _ ?_
  by_cases h : at_ < K.length
  · rw [decide_eq_true h, if_pos rfl]
    have hy : K[at_]? = some K[at_] := List.getElem?_eq_getElem h
    refine sm0 ok wk hy hd hw hyd (fun hwin l G' e' => q _ _ (e1.trans e') (.inl ⟨hwin, l, rfl⟩)) fun hg => ?_
    refine sm1 ok (e1 _ _ hx) wk (List.getElem_mem h) hd hw nd nxd nxw hyd fun K' w8 w9 G2 wk' ⟨more, em⟩ hyd' hcl' k2 hd2 hw2 => ?_
    have hkk : K'.length = K.length + more.length := by rw [em, List.length_append]
    refine ⟨1024 - (at_ + 1), by omega, K', at_ + 1, _, _, _, rfl, wk', hyd', by omega, fun i y hi hyi => ?_, fun r u hu => k2 r u (fun e => by rw [e, n1] at hu; cases hu) (fun e => by rw [e, n2] at hu; cases hu) (e1 _ _ hu), hd2, hw2, rfl⟩
    rw [em, List.getElem?_append_left (by omega)] at hyi
    by_cases hia : i = at_
    · subst hia
      rw [hy] at hyi
      have := Option.some.inj hyi
      subst this
      exact ⟨hg, hcl'⟩
    · obtain ⟨a, b⟩ := hcl i y (by omega) hyi
      exact ⟨a, b.mono fun k hk => by rw [em, List.map_append]; exact List.mem_append_left _ hk⟩
  · rw [decide_eq_false h, if_neg Bool.false_ne_true]
    refine q _ _ e1 (.inr ⟨no_win wk.zero fun m hm => ?_, rfl⟩)
    obtain ⟨y, hy, rfl⟩ := List.mem_map.mp hm
    obtain ⟨i, hi⟩ := List.mem_iff_getElem?.mp hy
    have := (List.getElem?_eq_some_iff.mp hi).1
    exact hcl i y (by omega) hi
end
theorem v_shortest_making {C : Addr} : ∀ ws G Q, S_shortest_making C ws G Q → rd_shortest_making C S_moves_to (S_moves_from C) (S_behind_move C) { nx := fun _ G' => Q .non G', rt := Q } (startW ["web", "rooms", "apart", "goal", "ways", "waiting", "at", "here", "move", "there"] ws) G := by
  rintro ws G Q ⟨x, rs, rooms, apart, rfl, hx, ok, q⟩
  show (wSeq (wSet 3 (wOp subW (wApp (one lenW) (wCons (wFld C (wV 0) "reads") wNil)) (wC (.int 1))))
   (wSeq (wSet 4 (wDispN (wTup wNil) (wC .non)))
   (wSeq (wSet 5 (wLst (wCons (wTup wNil) wNil)))
   (wSeq (wSet 6 (wC (.int 0))) (tl_smW C))))) _ [some (.ref x), some (nI rooms), some (.bl apart), none, none, none, none, none, none, none] G
  have hps := ok.pos
  have e0 : hW rs.length 0 = .tup [] := by
    unfold hW ones
    simp
  have loop : ∀ pd pw G1, Ext G G1 → G1 pd = some (.nst (dcY rs.length [⟨0, 0, none⟩])) → G1 pw = some (.lst (stk rs [⟨0, 0, none⟩])) → pd ≠ pw → G pd = none → G pw = none → tl_smW C { nx := fun _ G' => Q .non G', rt := Q } (smE x rs rooms apart pd pw 0 none none none) G1 := fun pd pw G1 e1 h1 h2 nd n1 n2 => smW ok e1 hx h1 h2 nd n1 n2 q
  unfold smE at loop
  generalize tl_smW C = T at loop ⊢
  simp only [WL.wSeq, WL.wSet, WL.wAsg, WL.wDrop, WL.wRet, WL.wRetN, WL.wIfS, WL.wBreak, WL.wCont, WL.wNext, WL.wV, WL.wC, WL.wOp, WL.wUn, WL.wNil, WL.wCons, WL.wApp, WL.wTest, WL.wChain, WL.wAndT, WL.wOrT, WL.wNotT, WL.wAnd, WL.wOr, WL.wNot, WL.wIf, WL.wTup, WL.wLst, WL.wCall, WL.wMake, WL.wFld, WL.wPutF, WL.wSl, WL.wPart, WL.wNoPart, WL.wRev, WL.wName, WL.wNames, WL.wSeqI, WL.wZip, WL.wRng3, WL.wRng1, WL.wRng2, WL.wEnum, WL.wLstRg, WL.wTupRg, WL.wR1, WL.wR2, WL.wCallD, WL.MdW, WL.wgSub, WL.one, WL.two, WL.lk, WL.isB_bl, WL.isI_int, WL.cmpI, WL.isNW, WL.notNW, WL.nonW, WL.wYes, WL.wLockE, WL.wLock, WL.wDNew, WL.wSortSet, WL.wNever, WL.addW_int, WL.addW_tup, WL.addW_str, WL.subW_int, WL.mulW_int, WL.modW_int, WL.fdivW_int, WL.powW_int, WL.negW_int, WL.intW_int, WL.intW_bl, WL.absW, WL.CTg.on, WL.wipeW, WL.setsW, WL.optW_some, WL.wDisp, WL.wPairs, WL.eqW_str, WL.neW_str, WL.eqW_int, WL.neW_int, WL.eqW_bl, WL.neW_bl, WL.ixW_tupE, WL.slW_tupE, WL.sortTW_ref, WL.lenW_tupE, WL.tupW_tupE, WL.listW_tupE, WL.atI_0, WL.atI_1, WL.atI_2, WL.atI_3, WL.atI_4, WL.seqOn_tup, WL.enumOn_tup, List.set, if_true, if_false, Bool.false_eq_true, if_pos, List.length_nil, List.length_cons, Bool.not_true, Bool.not_false]
  refine insAt_of hx (optW_of rfl ?_)
  unfold rdsW nI
  simp only [WL.wSeq, WL.wSet, WL.wAsg, WL.wDrop, WL.wRet, WL.wRetN, WL.wIfS, WL.wBreak, WL.wCont, WL.wNext, WL.wV, WL.wC, WL.wOp, WL.wUn, WL.wNil, WL.wCons, WL.wApp, WL.wTest, WL.wChain, WL.wAndT, WL.wOrT, WL.wNotT, WL.wAnd, WL.wOr, WL.wNot, WL.wIf, WL.wTup, WL.wLst, WL.wCall, WL.wMake, WL.wFld, WL.wPutF, WL.wSl, WL.wPart, WL.wNoPart, WL.wRev, WL.wName, WL.wNames, WL.wSeqI, WL.wZip, WL.wRng3, WL.wRng1, WL.wRng2, WL.wEnum, WL.wLstRg, WL.wTupRg, WL.wR1, WL.wR2, WL.wCallD, WL.MdW, WL.wgSub, WL.one, WL.two, WL.lk, WL.isB_bl, WL.isI_int, WL.cmpI, WL.isNW, WL.notNW, WL.nonW, WL.wYes, WL.wLockE, WL.wLock, WL.wDNew, WL.wSortSet, WL.wNever, WL.addW_int, WL.addW_tup, WL.addW_str, WL.subW_int, WL.mulW_int, WL.modW_int, WL.fdivW_int, WL.powW_int, WL.negW_int, WL.intW_int, WL.intW_bl, WL.absW, WL.CTg.on, WL.wipeW, WL.setsW, WL.optW_some, WL.wDisp, WL.wPairs, WL.eqW_str, WL.neW_str, WL.eqW_int, WL.neW_int, WL.eqW_bl, WL.neW_bl, WL.ixW_tupE, WL.slW_tupE, WL.sortTW_ref, WL.lenW_tupE, WL.tupW_tupE, WL.listW_tupE, WL.atI_0, WL.atI_1, WL.atI_2, WL.atI_3, WL.atI_4, WL.seqOn_tup, WL.enumOn_tup, List.set, if_true, if_false, Bool.false_eq_true, if_pos, List.length_nil, List.length_cons, Bool.not_true, Bool.not_false]
  rw [List.length_map, show ((rs.length : Nat) : Int) - 1 = ((rs.length - 1 : Nat) : Int) by omega]
  unfold wDispN
  simp only [WL.wSeq, WL.wSet, WL.wAsg, WL.wDrop, WL.wRet, WL.wRetN, WL.wIfS, WL.wBreak, WL.wCont, WL.wNext, WL.wV, WL.wC, WL.wOp, WL.wUn, WL.wNil, WL.wCons, WL.wApp, WL.wTest, WL.wChain, WL.wAndT, WL.wOrT, WL.wNotT, WL.wAnd, WL.wOr, WL.wNot, WL.wIf, WL.wTup, WL.wLst, WL.wCall, WL.wMake, WL.wFld, WL.wPutF, WL.wSl, WL.wPart, WL.wNoPart, WL.wRev, WL.wName, WL.wNames, WL.wSeqI, WL.wZip, WL.wRng3, WL.wRng1, WL.wRng2, WL.wEnum, WL.wLstRg, WL.wTupRg, WL.wR1, WL.wR2, WL.wCallD, WL.MdW, WL.wgSub, WL.one, WL.two, WL.lk, WL.isB_bl, WL.isI_int, WL.cmpI, WL.isNW, WL.notNW, WL.nonW, WL.wYes, WL.wLockE, WL.wLock, WL.wDNew, WL.wSortSet, WL.wNever, WL.addW_int, WL.addW_tup, WL.addW_str, WL.subW_int, WL.mulW_int, WL.modW_int, WL.fdivW_int, WL.powW_int, WL.negW_int, WL.intW_int, WL.intW_bl, WL.absW, WL.CTg.on, WL.wipeW, WL.setsW, WL.optW_some, WL.wDisp, WL.wPairs, WL.eqW_str, WL.neW_str, WL.eqW_int, WL.neW_int, WL.eqW_bl, WL.neW_bl, WL.ixW_tupE, WL.slW_tupE, WL.sortTW_ref, WL.lenW_tupE, WL.tupW_tupE, WL.listW_tupE, WL.atI_0, WL.atI_1, WL.atI_2, WL.atI_3, WL.atI_4, WL.seqOn_tup, WL.enumOn_tup, List.set, if_true, if_false, Bool.false_eq_true, if_pos, List.length_nil, List.length_cons, Bool.not_true, Bool.not_false]
  refine ⟨by decide, [], kM rs.length 0, rfl, by rw [← e0]; exact nk_kM _ _, dep_kM _ _, fun pd hpd => ⟨by decide, by decide, fun pw hpw => ?_⟩⟩
  have nd : pd ≠ pw := fun e => by rw [← e, updG_same] at hpw; cases hpw
  refine loop pd pw _ (Ext.trans (.new hpd) (.new hpw)) (by rw [updG_ne nd, updG_same]; rfl) (by rw [updG_same]; unfold stk; rw [List.map_cons, List.map_nil]; show _ = some (WO.lst [hW rs.length 0]); rw [e0]) nd hpd (none_of_ext (.new hpd) hpw)
noncomputable def S_least_rooms (C : Addr) : WSp := fun ws G Q => ∃ (x : Addr) (rs : List (List Nat)) (apart : Bool), ws = [.ref x, .bl apart] ∧ isWeb C G x rs ∧ ReadsOk rs ∧ ∀ (r : Nat) G', Ext G G' → Least rs apart r → Q (nI r) G'
theorem v_least_rooms {C : Addr} : ∀ ws G Q, S_least_rooms C ws G Q → rd_least_rooms (S_shortest_making C) { nx := fun _ G' => Q .non G', rt := Q } (startW ["web", "apart", "rooms"] ws) G := by
  rintro ws G Q ⟨x, rs, apart, rfl, hx, ok, q⟩
  show rd_least_rooms _ _ [some (.ref x), some (.bl apart), none] G
  unfold rd_least_rooms
  simp only [WL.wSeq, WL.wSet, WL.wAsg, WL.wDrop, WL.wRet, WL.wRetN, WL.wIfS, WL.wBreak, WL.wCont, WL.wNext, WL.wV, WL.wC, WL.wOp, WL.wUn, WL.wNil, WL.wCons, WL.wApp, WL.wTest, WL.wChain, WL.wAndT, WL.wOrT, WL.wNotT, WL.wAnd, WL.wOr, WL.wNot, WL.wIf, WL.wTup, WL.wLst, WL.wCall, WL.wMake, WL.wFld, WL.wPutF, WL.wSl, WL.wPart, WL.wNoPart, WL.wRev, WL.wName, WL.wNames, WL.wSeqI, WL.wZip, WL.wRng3, WL.wRng1, WL.wRng2, WL.wEnum, WL.wLstRg, WL.wTupRg, WL.wR1, WL.wR2, WL.wCallD, WL.MdW, WL.wgSub, WL.one, WL.two, WL.lk, WL.isB_bl, WL.isI_int, WL.cmpI, WL.isNW, WL.notNW, WL.nonW, WL.wYes, WL.wLockE, WL.wLock, WL.wDNew, WL.wSortSet, WL.wNever, WL.addW_int, WL.addW_tup, WL.addW_str, WL.subW_int, WL.mulW_int, WL.modW_int, WL.fdivW_int, WL.powW_int, WL.negW_int, WL.intW_int, WL.intW_bl, WL.absW, WL.CTg.on, WL.wipeW, WL.setsW, WL.optW_some, WL.wDisp, WL.wPairs, WL.eqW_str, WL.neW_str, WL.eqW_int, WL.neW_int, WL.eqW_bl, WL.neW_bl, WL.ixW_tupE, WL.slW_tupE, WL.sortTW_ref, WL.lenW_tupE, WL.tupW_tupE, WL.listW_tupE, WL.atI_0, WL.atI_1, WL.atI_2, WL.atI_3, WL.atI_4, WL.seqOn_tup, WL.enumOn_tup, List.set, if_true, if_false, Bool.false_eq_true, if_pos, List.length_nil, List.length_cons, Bool.not_true, Bool.not_false]
  refine wWhile_of (fun me ρ G' => ∃ r : Nat, ρ = [some (.ref x), some (.bl apart), some (nI r)] ∧ Ext G G' ∧ 1 ≤ r ∧ r ≤ rs.length ∧ (∀ k, 1 ≤ k → k < r → ¬ Win rs k apart) ∧ me = rs.length - r)
    (m := rs.length - 1) ⟨1, rfl, .refl, Nat.le_refl _, ok.pos, fun k h1 h2 => by omega, rfl⟩ ?_
  rintro me ρ G1 ⟨r, rfl, e1, h1, h2, hno, rfl⟩
  simp only [WL.wSeq, WL.wSet, WL.wAsg, WL.wDrop, WL.wRet, WL.wRetN, WL.wIfS, WL.wBreak, WL.wCont, WL.wNext, WL.wV, WL.wC, WL.wOp, WL.wUn, WL.wNil, WL.wCons, WL.wApp, WL.wTest, WL.wChain, WL.wAndT, WL.wOrT, WL.wNotT, WL.wAnd, WL.wOr, WL.wNot, WL.wIf, WL.wTup, WL.wLst, WL.wCall, WL.wMake, WL.wFld, WL.wPutF, WL.wSl, WL.wPart, WL.wNoPart, WL.wRev, WL.wName, WL.wNames, WL.wSeqI, WL.wZip, WL.wRng3, WL.wRng1, WL.wRng2, WL.wEnum, WL.wLstRg, WL.wTupRg, WL.wR1, WL.wR2, WL.wCallD, WL.MdW, WL.wgSub, WL.one, WL.two, WL.lk, WL.isB_bl, WL.isI_int, WL.cmpI, WL.isNW, WL.notNW, WL.nonW, WL.wYes, WL.wLockE, WL.wLock, WL.wDNew, WL.wSortSet, WL.wNever, WL.addW_int, WL.addW_tup, WL.addW_str, WL.subW_int, WL.mulW_int, WL.modW_int, WL.fdivW_int, WL.powW_int, WL.negW_int, WL.intW_int, WL.intW_bl, WL.absW, WL.CTg.on, WL.wipeW, WL.setsW, WL.optW_some, WL.wDisp, WL.wPairs, WL.eqW_str, WL.neW_str, WL.eqW_int, WL.neW_int, WL.eqW_bl, WL.neW_bl, WL.ixW_tupE, WL.slW_tupE, WL.sortTW_ref, WL.lenW_tupE, WL.tupW_tupE, WL.listW_tupE, WL.atI_0, WL.atI_1, WL.atI_2, WL.atI_3, WL.atI_4, WL.seqOn_tup, WL.enumOn_tup, List.set, if_true, if_false, Bool.false_eq_true, if_pos, List.length_nil, List.length_cons, Bool.not_true, Bool.not_false]
  refine ⟨x, rs, r, apart, rfl, e1 _ _ hx, ok, fun w G2 e2 hw => ?_⟩
  rcases hw with ⟨hwin, l, rfl⟩ | ⟨hwin, rfl⟩
  · simp only [WL.wSeq, WL.wSet, WL.wAsg, WL.wDrop, WL.wRet, WL.wRetN, WL.wIfS, WL.wBreak, WL.wCont, WL.wNext, WL.wV, WL.wC, WL.wOp, WL.wUn, WL.wNil, WL.wCons, WL.wApp, WL.wTest, WL.wChain, WL.wAndT, WL.wOrT, WL.wNotT, WL.wAnd, WL.wOr, WL.wNot, WL.wIf, WL.wTup, WL.wLst, WL.wCall, WL.wMake, WL.wFld, WL.wPutF, WL.wSl, WL.wPart, WL.wNoPart, WL.wRev, WL.wName, WL.wNames, WL.wSeqI, WL.wZip, WL.wRng3, WL.wRng1, WL.wRng2, WL.wEnum, WL.wLstRg, WL.wTupRg, WL.wR1, WL.wR2, WL.wCallD, WL.MdW, WL.wgSub, WL.one, WL.two, WL.lk, WL.isB_bl, WL.isI_int, WL.cmpI, WL.isNW, WL.notNW, WL.nonW, WL.wYes, WL.wLockE, WL.wLock, WL.wDNew, WL.wSortSet, WL.wNever, WL.addW_int, WL.addW_tup, WL.addW_str, WL.subW_int, WL.mulW_int, WL.modW_int, WL.fdivW_int, WL.powW_int, WL.negW_int, WL.intW_int, WL.intW_bl, WL.absW, WL.CTg.on, WL.wipeW, WL.setsW, WL.optW_some, WL.wDisp, WL.wPairs, WL.eqW_str, WL.neW_str, WL.eqW_int, WL.neW_int, WL.eqW_bl, WL.neW_bl, WL.ixW_tupE, WL.slW_tupE, WL.sortTW_ref, WL.lenW_tupE, WL.tupW_tupE, WL.listW_tupE, WL.atI_0, WL.atI_1, WL.atI_2, WL.atI_3, WL.atI_4, WL.seqOn_tup, WL.enumOn_tup, List.set, if_true, if_false, Bool.false_eq_true, if_pos, List.length_nil, List.length_cons, Bool.not_true, Bool.not_false]
    exact ⟨trivial, q r G2 (e1.trans e2) ⟨h1, hwin, hno⟩⟩
  · simp only [WL.wSeq, WL.wSet, WL.wAsg, WL.wDrop, WL.wRet, WL.wRetN, WL.wIfS, WL.wBreak, WL.wCont, WL.wNext, WL.wV, WL.wC, WL.wOp, WL.wUn, WL.wNil, WL.wCons, WL.wApp, WL.wTest, WL.wChain, WL.wAndT, WL.wOrT, WL.wNotT, WL.wAnd, WL.wOr, WL.wNot, WL.wIf, WL.wTup, WL.wLst, WL.wCall, WL.wMake, WL.wFld, WL.wPutF, WL.wSl, WL.wPart, WL.wNoPart, WL.wRev, WL.wName, WL.wNames, WL.wSeqI, WL.wZip, WL.wRng3, WL.wRng1, WL.wRng2, WL.wEnum, WL.wLstRg, WL.wTupRg, WL.wR1, WL.wR2, WL.wCallD, WL.MdW, WL.wgSub, WL.one, WL.two, WL.lk, WL.isB_bl, WL.isI_int, WL.cmpI, WL.isNW, WL.notNW, WL.nonW, WL.wYes, WL.wLockE, WL.wLock, WL.wDNew, WL.wSortSet, WL.wNever, WL.addW_int, WL.addW_tup, WL.addW_str, WL.subW_int, WL.mulW_int, WL.modW_int, WL.fdivW_int, WL.powW_int, WL.negW_int, WL.intW_int, WL.intW_bl, WL.absW, WL.CTg.on, WL.wipeW, WL.setsW, WL.optW_some, WL.wDisp, WL.wPairs, WL.eqW_str, WL.neW_str, WL.eqW_int, WL.neW_int, WL.eqW_bl, WL.neW_bl, WL.ixW_tupE, WL.slW_tupE, WL.sortTW_ref, WL.lenW_tupE, WL.tupW_tupE, WL.listW_tupE, WL.atI_0, WL.atI_1, WL.atI_2, WL.atI_3, WL.atI_4, WL.seqOn_tup, WL.enumOn_tup, List.set, if_true, if_false, Bool.false_eq_true, if_pos, List.length_nil, List.length_cons, Bool.not_true, Bool.not_false]
    refine ⟨trivial, ?_⟩
    have hlt : r < rs.length := by
      by_cases h : r = rs.length
      · rw [h] at hwin; exact absurd (win_all ok) hwin
      · omega
    unfold wAug nI
    simp only [WL.wSeq, WL.wSet, WL.wAsg, WL.wDrop, WL.wRet, WL.wRetN, WL.wIfS, WL.wBreak, WL.wCont, WL.wNext, WL.wV, WL.wC, WL.wOp, WL.wUn, WL.wNil, WL.wCons, WL.wApp, WL.wTest, WL.wChain, WL.wAndT, WL.wOrT, WL.wNotT, WL.wAnd, WL.wOr, WL.wNot, WL.wIf, WL.wTup, WL.wLst, WL.wCall, WL.wMake, WL.wFld, WL.wPutF, WL.wSl, WL.wPart, WL.wNoPart, WL.wRev, WL.wName, WL.wNames, WL.wSeqI, WL.wZip, WL.wRng3, WL.wRng1, WL.wRng2, WL.wEnum, WL.wLstRg, WL.wTupRg, WL.wR1, WL.wR2, WL.wCallD, WL.MdW, WL.wgSub, WL.one, WL.two, WL.lk, WL.isB_bl, WL.isI_int, WL.cmpI, WL.isNW, WL.notNW, WL.nonW, WL.wYes, WL.wLockE, WL.wLock, WL.wDNew, WL.wSortSet, WL.wNever, WL.addW_int, WL.addW_tup, WL.addW_str, WL.subW_int, WL.mulW_int, WL.modW_int, WL.fdivW_int, WL.powW_int, WL.negW_int, WL.intW_int, WL.intW_bl, WL.absW, WL.CTg.on, WL.wipeW, WL.setsW, WL.optW_some, WL.wDisp, WL.wPairs, WL.eqW_str, WL.neW_str, WL.eqW_int, WL.neW_int, WL.eqW_bl, WL.neW_bl, WL.ixW_tupE, WL.slW_tupE, WL.sortTW_ref, WL.lenW_tupE, WL.tupW_tupE, WL.listW_tupE, WL.atI_0, WL.atI_1, WL.atI_2, WL.atI_3, WL.atI_4, WL.seqOn_tup, WL.enumOn_tup, List.set, if_true, if_false, Bool.false_eq_true, if_pos, List.length_nil, List.length_cons, Bool.not_true, Bool.not_false]
    refine ⟨rs.length - (r + 1), by omega, r + 1, by rw [Int.natCast_add]; rfl, e1.trans e2, by omega, by omega, fun k hk1 hk2 => ?_, rfl⟩
    by_cases h : k = r
    · rw [h]; exact hwin
    · exact hno k hk1 (by omega)
noncomputable def S_least_any (C : Addr) : WSp := fun ws G Q => ∃ (x : Addr) (rs : List (List Nat)), ws = [.ref x] ∧ isWeb C G x rs ∧ ReadsOk rs ∧ ∀ (r : Nat) G', Ext G G' → Least rs false r → Q (nI r) G'
theorem v_least_any {C : Addr} : ∀ ws G Q, S_least_any C ws G Q → rd_least_any (S_least_rooms C) { nx := fun _ G' => Q .non G', rt := Q } (startW ["web"] ws) G := by
  rintro ws G Q ⟨x, rs, rfl, hx, ok, q⟩
  exact ⟨x, rs, false, rfl, hx, ok, q⟩
end K54
set_option Elab.async false
set_option linter.all false
set_option maxRecDepth 100000
set_option maxHeartbeats 1000000
set_option pp.maxSteps 400
namespace K54
open PySem PySem.Spec PyProof.Rows L2 WL PR PySem.W
/-! ### webs compared -/
theorem pure_rds {rs : List (List Nat)} : pureW 2 (rdsW rs) = true := by
  show (rs.map fun l => W.tup (l.map nI)).all (pureW 1) = true
  rw [List.all_map, List.all_eq_true]
  intro l _
  show (l.map nI).all (pureW 0) = true
  rw [List.all_map, List.all_eq_true]
  exact fun _ _ => rfl
noncomputable def S_Web_eq (C : Addr) : WSp := fun ws G Q => ∃ (x : Addr) (rs : List (List Nat)) (y : W), ws = [.ref x, y] ∧ isWeb C G x rs ∧ ((∃ x2 rs2, y = .ref x2 ∧ isWeb C G x2 rs2 ∧ ∀ b, (b = true ↔ rdsW rs = rdsW rs2) → Q (.bl b) G) ∨ ∃ l, y = .tup l ∧ Q (.bl false) G)
theorem v_Web_eq {C : Addr} : ∀ ws G Q, S_Web_eq C ws G Q → rd_Web_eq C { nx := fun _ G' => Q .non G', rt := Q } (startW ["self", "other"] ws) G := by
  rintro ws G Q ⟨x, rs, y, rfl, hx, h⟩
  show rd_Web_eq _ _ [some (.ref x), some y] G
  unfold rd_Web_eq
  rcases h with ⟨x2, rs2, rfl, hy, q⟩ | ⟨l, rfl, q⟩
  · simp only [WL.wSeq, WL.wSet, WL.wAsg, WL.wDrop, WL.wRet, WL.wRetN, WL.wIfS, WL.wBreak, WL.wCont, WL.wNext, WL.wV, WL.wC, WL.wOp, WL.wUn, WL.wNil, WL.wCons, WL.wApp, WL.wTest, WL.wChain, WL.wAndT, WL.wOrT, WL.wNotT, WL.wAnd, WL.wOr, WL.wNot, WL.wIf, WL.wTup, WL.wLst, WL.wCall, WL.wMake, WL.wFld, WL.wPutF, WL.wSl, WL.wPart, WL.wNoPart, WL.wRev, WL.wName, WL.wNames, WL.wSeqI, WL.wZip, WL.wRng3, WL.wRng1, WL.wRng2, WL.wEnum, WL.wLstRg, WL.wTupRg, WL.wR1, WL.wR2, WL.wCallD, WL.MdW, WL.wgSub, WL.one, WL.two, WL.lk, WL.isB_bl, WL.isI_int, WL.cmpI, WL.isNW, WL.notNW, WL.nonW, WL.wYes, WL.wLockE, WL.wLock, WL.wDNew, WL.wSortSet, WL.wNever, WL.addW_int, WL.addW_tup, WL.addW_str, WL.subW_int, WL.mulW_int, WL.modW_int, WL.fdivW_int, WL.powW_int, WL.negW_int, WL.intW_int, WL.intW_bl, WL.absW, WL.CTg.on, WL.wipeW, WL.setsW, WL.optW_some, WL.wDisp, WL.wPairs, WL.eqW_str, WL.neW_str, WL.eqW_int, WL.neW_int, WL.eqW_bl, WL.neW_bl, WL.ixW_tupE, WL.slW_tupE, WL.sortTW_ref, WL.lenW_tupE, WL.tupW_tupE, WL.listW_tupE, WL.atI_0, WL.atI_1, WL.atI_2, WL.atI_3, WL.atI_4, WL.seqOn_tup, WL.enumOn_tup, List.set, if_true, if_false, Bool.false_eq_true, if_pos, List.length_nil, List.length_cons, Bool.not_true, Bool.not_false]
    refine isC_of (kdC_ins hy) ?_
    simp only [WL.wSeq, WL.wSet, WL.wAsg, WL.wDrop, WL.wRet, WL.wRetN, WL.wIfS, WL.wBreak, WL.wCont, WL.wNext, WL.wV, WL.wC, WL.wOp, WL.wUn, WL.wNil, WL.wCons, WL.wApp, WL.wTest, WL.wChain, WL.wAndT, WL.wOrT, WL.wNotT, WL.wAnd, WL.wOr, WL.wNot, WL.wIf, WL.wTup, WL.wLst, WL.wCall, WL.wMake, WL.wFld, WL.wPutF, WL.wSl, WL.wPart, WL.wNoPart, WL.wRev, WL.wName, WL.wNames, WL.wSeqI, WL.wZip, WL.wRng3, WL.wRng1, WL.wRng2, WL.wEnum, WL.wLstRg, WL.wTupRg, WL.wR1, WL.wR2, WL.wCallD, WL.MdW, WL.wgSub, WL.one, WL.two, WL.lk, WL.isB_bl, WL.isI_int, WL.cmpI, WL.isNW, WL.notNW, WL.nonW, WL.wYes, WL.wLockE, WL.wLock, WL.wDNew, WL.wSortSet, WL.wNever, WL.addW_int, WL.addW_tup, WL.addW_str, WL.subW_int, WL.mulW_int, WL.modW_int, WL.fdivW_int, WL.powW_int, WL.negW_int, WL.intW_int, WL.intW_bl, WL.absW, WL.CTg.on, WL.wipeW, WL.setsW, WL.optW_some, WL.wDisp, WL.wPairs, WL.eqW_str, WL.neW_str, WL.eqW_int, WL.neW_int, WL.eqW_bl, WL.neW_bl, WL.ixW_tupE, WL.slW_tupE, WL.sortTW_ref, WL.lenW_tupE, WL.tupW_tupE, WL.listW_tupE, WL.atI_0, WL.atI_1, WL.atI_2, WL.atI_3, WL.atI_4, WL.seqOn_tup, WL.enumOn_tup, List.set, if_true, if_false, Bool.false_eq_true, if_pos, List.length_nil, List.length_cons, Bool.not_true, Bool.not_false]
    refine insAt_of hx (optW_of rfl ?_)
    refine insAt_of hy (optW_of rfl ?_)
    exact eqW_pure (n := 2) (by decide) pure_rds pure_rds q
  · simp only [WL.wSeq, WL.wSet, WL.wAsg, WL.wDrop, WL.wRet, WL.wRetN, WL.wIfS, WL.wBreak, WL.wCont, WL.wNext, WL.wV, WL.wC, WL.wOp, WL.wUn, WL.wNil, WL.wCons, WL.wApp, WL.wTest, WL.wChain, WL.wAndT, WL.wOrT, WL.wNotT, WL.wAnd, WL.wOr, WL.wNot, WL.wIf, WL.wTup, WL.wLst, WL.wCall, WL.wMake, WL.wFld, WL.wPutF, WL.wSl, WL.wPart, WL.wNoPart, WL.wRev, WL.wName, WL.wNames, WL.wSeqI, WL.wZip, WL.wRng3, WL.wRng1, WL.wRng2, WL.wEnum, WL.wLstRg, WL.wTupRg, WL.wR1, WL.wR2, WL.wCallD, WL.MdW, WL.wgSub, WL.one, WL.two, WL.lk, WL.isB_bl, WL.isI_int, WL.cmpI, WL.isNW, WL.notNW, WL.nonW, WL.wYes, WL.wLockE, WL.wLock, WL.wDNew, WL.wSortSet, WL.wNever, WL.addW_int, WL.addW_tup, WL.addW_str, WL.subW_int, WL.mulW_int, WL.modW_int, WL.fdivW_int, WL.powW_int, WL.negW_int, WL.intW_int, WL.intW_bl, WL.absW, WL.CTg.on, WL.wipeW, WL.setsW, WL.optW_some, WL.wDisp, WL.wPairs, WL.eqW_str, WL.neW_str, WL.eqW_int, WL.neW_int, WL.eqW_bl, WL.neW_bl, WL.ixW_tupE, WL.slW_tupE, WL.sortTW_ref, WL.lenW_tupE, WL.tupW_tupE, WL.listW_tupE, WL.atI_0, WL.atI_1, WL.atI_2, WL.atI_3, WL.atI_4, WL.seqOn_tup, WL.enumOn_tup, List.set, if_true, if_false, Bool.false_eq_true, if_pos, List.length_nil, List.length_cons, Bool.not_true, Bool.not_false]
    refine isC_of (show kdC C [] G false (.tup l) from rfl) ?_
    simp only [WL.wSeq, WL.wSet, WL.wAsg, WL.wDrop, WL.wRet, WL.wRetN, WL.wIfS, WL.wBreak, WL.wCont, WL.wNext, WL.wV, WL.wC, WL.wOp, WL.wUn, WL.wNil, WL.wCons, WL.wApp, WL.wTest, WL.wChain, WL.wAndT, WL.wOrT, WL.wNotT, WL.wAnd, WL.wOr, WL.wNot, WL.wIf, WL.wTup, WL.wLst, WL.wCall, WL.wMake, WL.wFld, WL.wPutF, WL.wSl, WL.wPart, WL.wNoPart, WL.wRev, WL.wName, WL.wNames, WL.wSeqI, WL.wZip, WL.wRng3, WL.wRng1, WL.wRng2, WL.wEnum, WL.wLstRg, WL.wTupRg, WL.wR1, WL.wR2, WL.wCallD, WL.MdW, WL.wgSub, WL.one, WL.two, WL.lk, WL.isB_bl, WL.isI_int, WL.cmpI, WL.isNW, WL.notNW, WL.nonW, WL.wYes, WL.wLockE, WL.wLock, WL.wDNew, WL.wSortSet, WL.wNever, WL.addW_int, WL.addW_tup, WL.addW_str, WL.subW_int, WL.mulW_int, WL.modW_int, WL.fdivW_int, WL.powW_int, WL.negW_int, WL.intW_int, WL.intW_bl, WL.absW, WL.CTg.on, WL.wipeW, WL.setsW, WL.optW_some, WL.wDisp, WL.wPairs, WL.eqW_str, WL.neW_str, WL.eqW_int, WL.neW_int, WL.eqW_bl, WL.neW_bl, WL.ixW_tupE, WL.slW_tupE, WL.sortTW_ref, WL.lenW_tupE, WL.tupW_tupE, WL.listW_tupE, WL.atI_0, WL.atI_1, WL.atI_2, WL.atI_3, WL.atI_4, WL.seqOn_tup, WL.enumOn_tup, List.set, if_true, if_false, Bool.false_eq_true, if_pos, List.length_nil, List.length_cons, Bool.not_true, Bool.not_false]
    exact q
/-- what is read, as data -/
noncomputable def dRds (rs : List (List Nat)) : PyData := .tuple (rs.map fun l => .tuple (l.map fun (n : Nat) => .int (n : Int)))
theorem dw_rds {rs : List (List Nat)} {G : WHp} : Dw G (rdsW rs) (dRds rs) := .tup (dws_map fun l _ => .tup (dws_map fun n _ => .int _))
theorem sh_rds {rs : List (List Nat)} (ok : ReadsOk rs) : ShOk (dRds rs) := by
  have htn := ok.ten
  have h : ShB 2 ((rs.map fun l => PyData.tuple (l.map fun (n : Nat) => PyData.int (n : Int))).length * (10 * 65 + 1)) (dRds rs) := .tup (dep := 1) (w := 10 * 65) fun d hd => by
    obtain ⟨l, hl, rfl⟩ := List.mem_map.mp hd
    obtain ⟨j, hj⟩ := List.mem_iff_getElem?.mp hl
    have hjn : j < rs.length := (List.getElem?_eq_some_iff.mp hj).1
    have hlt := ok.lt j l hj
    have hll : l.length ≤ 10 := by
      have e : l = rdOf rs j := by unfold rdOf; rw [List.getD_eq_getElem?_getD, hj]; rfl
      rw [e]
      have := rd_len ok hjn
      omega
    exact (ShB.nats fun n hn => by have := hlt n hn; omega).mono (Nat.le_refl _) (Nat.mul_le_mul_right _ hll)
  refine h.ok (by decide) ?_
  rw [List.length_map]
  omega
/-! ### law -/
theorem least_le {rs : List (List Nat)} {apart : Bool} {r : Nat} (ok : ReadsOk rs) (h : Least rs apart r) : r ≤ rs.length := by
  by_cases hr : r ≤ rs.length
  · exact hr
  · exact absurd (win_all ok) (h.2.2 rs.length ok.pos (by omega))
noncomputable def tl_lw2 (C : Addr) : WTS := (wSeq (wSet 6 (wCall S_law_web_reads (wCons (wV 1) (wCons (wC (.int 4)) wNil))))
 (wIfS (wOrT (wTest (wOp (neMx C (S_Web_eq C)) (wOp (eqMx C (S_Web_eq C)) (wMake C (S_Web_init C) (wCons (wV 6) wNil)) (wV 4)) (wOp (eqMx C (S_Web_eq C)) (wV 6) (wV 3)))) (wOrT (wTest (wOp (neMx C (S_Web_eq C)) (wMake C (S_Web_init C) (wCons (wV 3) wNil)) (wV 4))) (wTest (wOp (eqMx C (S_Web_eq C)) (wV 4) (wV 3)))))
 (wRet (wC (.bl false)))
 wNext))
noncomputable def tl_lw (C : Addr) : WTS := (wSeq (wSet 5 (wCall S_law_least (wCons (wV 3) (wCons (wC (.bl false)) wNil))))
 (wSeq (wIfS (wOrT (wNotT (wTest (wCall S_law_is (wCons (wCall (S_least_any C) (wCons (wV 4) wNil)) (wCons (wV 5) wNil))))) (wOrT (wTest (wOp (neMx C (S_Web_eq C)) (wCall (S_least_any C) (wCons (wV 4) wNil)) (wV 5))) (wNotT (wTest (wCall S_law_is (wCons (wFld C (wV 4) "reads") (wCons (wV 3) wNil)))))))
 (wRet (wC (.bl false)))
 wNext)
 (tl_lw2 C)))
section
variable {C x p : Addr} {rs : List (List Nat)} {G : WHp} {E : WEnds} {w0 w2 w5 w6 : Option W}
theorem mx_int {i j : Int} {sp : WSp} {Q : WK} (q : Q (.bl (decide (i = j))) G) : eqMx C sp (.int i) (.int j) G Q := q
theorem mx_rds {ot : List (List Nat)} {sp : WSp} {Q : WK} (q : eqW (rdsW ot) (rdsW rs) G Q) : eqMx C sp (rdsW ot) (rdsW rs) G Q := q
theorem nmx_int {i j : Int} {sp : WSp} {Q : WK} (q : Q (.bl (!decide (i = j))) G) : neMx C sp (.int i) (.int j) G Q := q
theorem nmx_bl {i j : Bool} {sp : WSp} {Q : WK} (q : Q (.bl (!decide (i = j))) G) : neMx C sp (.bl i) (.bl j) G Q := q
theorem make_web {R : Addr → WHp → Prop} (ok : ReadsOk rs) (q : ∀ xx G', Ext G G' → isWeb C G' xx rs → R xx G') : ∀ xx, G xx = none → S_Web_init C [.ref xx, rdsW rs] (updG G xx (.ins C [])) fun v G2 => v = .non ∧ R xx G2 := by
  intro xx hxx
  refine ⟨xx, rs, rfl, updG_same, ok, fun G4 e4 hx4 => ⟨rfl, q xx G4 (fun r u hu => ?_) hx4⟩⟩
  have : r ≠ xx := ne_of_at hu hxx
  exact e4 _ _ this (by rw [updG_ne this]; exact hu)
theorem lw2 (ok : ReadsOk rs) (hp : PoolAt [] G p) (hx : isWeb C G x rs) (q : ∀ w6 G', PoolAt [] G' p → E.nx [w0, some (.ref p), w2, some (rdsW rs), some (.ref x), w5, w6] G') : tl_lw2 C E [w0, some (.ref p), w2, some (rdsW rs), some (.ref x), w5, w6] G := by
  unfold tl_lw2
  simp only [WL.wSeq, WL.wSet, WL.wAsg, WL.wDrop, WL.wRet, WL.wRetN, WL.wIfS, WL.wBreak, WL.wCont, WL.wNext, WL.wV, WL.wC, WL.wOp, WL.wUn, WL.wNil, WL.wCons, WL.wApp, WL.wTest, WL.wChain, WL.wAndT, WL.wOrT, WL.wNotT, WL.wAnd, WL.wOr, WL.wNot, WL.wIf, WL.wTup, WL.wLst, WL.wCall, WL.wMake, WL.wFld, WL.wPutF, WL.wSl, WL.wPart, WL.wNoPart, WL.wRev, WL.wName, WL.wNames, WL.wSeqI, WL.wZip, WL.wRng3, WL.wRng1, WL.wRng2, WL.wEnum, WL.wLstRg, WL.wTupRg, WL.wR1, WL.wR2, WL.wCallD, WL.MdW, WL.wgSub, WL.one, WL.two, WL.lk, WL.isB_bl, WL.isI_int, WL.cmpI, WL.isNW, WL.notNW, WL.nonW, WL.wYes, WL.wLockE, WL.wLock, WL.wDNew, WL.wSortSet, WL.wNever, WL.addW_int, WL.addW_tup, WL.addW_str, WL.subW_int, WL.mulW_int, WL.modW_int, WL.fdivW_int, WL.powW_int, WL.negW_int, WL.intW_int, WL.intW_bl, WL.absW, WL.CTg.on, WL.wipeW, WL.setsW, WL.optW_some, WL.wDisp, WL.wPairs, WL.eqW_str, WL.neW_str, WL.eqW_int, WL.neW_int, WL.eqW_bl, WL.neW_bl, WL.ixW_tupE, WL.slW_tupE, WL.sortTW_ref, WL.lenW_tupE, WL.tupW_tupE, WL.listW_tupE, WL.atI_0, WL.atI_1, WL.atI_2, WL.atI_3, WL.atI_4, WL.seqOn_tup, WL.enumOn_tup, List.set, if_true, if_false, Bool.false_eq_true, if_pos, List.length_nil, List.length_cons, Bool.not_true, Bool.not_false]
  refine ⟨[], p, 4, rfl, hp, by decide, by decide, fun ot G1 oko hol e1 hp1 => ?_⟩
  have hx1 : isWeb C G1 x rs := e1 _ _ (fun e => by subst e; obtain ⟨⟨a, b, gs, sm, c, d, h, _⟩, _⟩ := hp; have h1 := h.at_; rw [show G x = _ from hx] at h1; cases h1) hx
  simp only [WL.wSeq, WL.wSet, WL.wAsg, WL.wDrop, WL.wRet, WL.wRetN, WL.wIfS, WL.wBreak, WL.wCont, WL.wNext, WL.wV, WL.wC, WL.wOp, WL.wUn, WL.wNil, WL.wCons, WL.wApp, WL.wTest, WL.wChain, WL.wAndT, WL.wOrT, WL.wNotT, WL.wAnd, WL.wOr, WL.wNot, WL.wIf, WL.wTup, WL.wLst, WL.wCall, WL.wMake, WL.wFld, WL.wPutF, WL.wSl, WL.wPart, WL.wNoPart, WL.wRev, WL.wName, WL.wNames, WL.wSeqI, WL.wZip, WL.wRng3, WL.wRng1, WL.wRng2, WL.wEnum, WL.wLstRg, WL.wTupRg, WL.wR1, WL.wR2, WL.wCallD, WL.MdW, WL.wgSub, WL.one, WL.two, WL.lk, WL.isB_bl, WL.isI_int, WL.cmpI, WL.isNW, WL.notNW, WL.nonW, WL.wYes, WL.wLockE, WL.wLock, WL.wDNew, WL.wSortSet, WL.wNever, WL.addW_int, WL.addW_tup, WL.addW_str, WL.subW_int, WL.mulW_int, WL.modW_int, WL.fdivW_int, WL.powW_int, WL.negW_int, WL.intW_int, WL.intW_bl, WL.absW, WL.CTg.on, WL.wipeW, WL.setsW, WL.optW_some, WL.wDisp, WL.wPairs, WL.eqW_str, WL.neW_str, WL.eqW_int, WL.neW_int, WL.eqW_bl, WL.neW_bl, WL.ixW_tupE, WL.slW_tupE, WL.sortTW_ref, WL.lenW_tupE, WL.tupW_tupE, WL.listW_tupE, WL.atI_0, WL.atI_1, WL.atI_2, WL.atI_3, WL.atI_4, WL.seqOn_tup, WL.enumOn_tup, List.set, if_true, if_false, Bool.false_eq_true, if_pos, List.length_nil, List.length_cons, Bool.not_true, Bool.not_false]
  refine make_web oko fun xx G2 e2 hxx => ?_
  refine own2_of hxx (.inl ⟨_, _, rfl, e2 _ _ hx1⟩) ⟨xx, ot, _, rfl, hxx, .inl ⟨x, rs, rfl, e2 _ _ hx1, fun b hb => ⟨b, rfl, ?_⟩⟩⟩
  rw [Bool.bne_false]
  refine mx_rds (eqW_pure (n := 2) (by decide) pure_rds pure_rds fun b' hb' => ?_)
  have eb : b = b' := by rw [Bool.eq_iff_iff, hb, hb']
  subst eb
  refine nmx_bl ?_
  rw [decide_eq_true rfl]
  simp only [WL.wSeq, WL.wSet, WL.wAsg, WL.wDrop, WL.wRet, WL.wRetN, WL.wIfS, WL.wBreak, WL.wCont, WL.wNext, WL.wV, WL.wC, WL.wOp, WL.wUn, WL.wNil, WL.wCons, WL.wApp, WL.wTest, WL.wChain, WL.wAndT, WL.wOrT, WL.wNotT, WL.wAnd, WL.wOr, WL.wNot, WL.wIf, WL.wTup, WL.wLst, WL.wCall, WL.wMake, WL.wFld, WL.wPutF, WL.wSl, WL.wPart, WL.wNoPart, WL.wRev, WL.wName, WL.wNames, WL.wSeqI, WL.wZip, WL.wRng3, WL.wRng1, WL.wRng2, WL.wEnum, WL.wLstRg, WL.wTupRg, WL.wR1, WL.wR2, WL.wCallD, WL.MdW, WL.wgSub, WL.one, WL.two, WL.lk, WL.isB_bl, WL.isI_int, WL.cmpI, WL.isNW, WL.notNW, WL.nonW, WL.wYes, WL.wLockE, WL.wLock, WL.wDNew, WL.wSortSet, WL.wNever, WL.addW_int, WL.addW_tup, WL.addW_str, WL.subW_int, WL.mulW_int, WL.modW_int, WL.fdivW_int, WL.powW_int, WL.negW_int, WL.intW_int, WL.intW_bl, WL.absW, WL.CTg.on, WL.wipeW, WL.setsW, WL.optW_some, WL.wDisp, WL.wPairs, WL.eqW_str, WL.neW_str, WL.eqW_int, WL.neW_int, WL.eqW_bl, WL.neW_bl, WL.ixW_tupE, WL.slW_tupE, WL.sortTW_ref, WL.lenW_tupE, WL.tupW_tupE, WL.listW_tupE, WL.atI_0, WL.atI_1, WL.atI_2, WL.atI_3, WL.atI_4, WL.seqOn_tup, WL.enumOn_tup, List.set, if_true, if_false, Bool.false_eq_true, if_pos, List.length_nil, List.length_cons, Bool.not_true, Bool.not_false]
  refine make_web ok fun yy G3 e3 hyy => ?_
  have hx3 := e3 _ _ (e2 _ _ hx1)
  refine own2_of hyy (.inl ⟨_, _, rfl, hx3⟩) ⟨yy, rs, _, rfl, hyy, .inl ⟨x, rs, rfl, hx3, fun b2 hb2 => ⟨b2, rfl, ?_⟩⟩⟩
  have : b2 = true := hb2.mpr rfl
  subst this
  simp only [WL.wSeq, WL.wSet, WL.wAsg, WL.wDrop, WL.wRet, WL.wRetN, WL.wIfS, WL.wBreak, WL.wCont, WL.wNext, WL.wV, WL.wC, WL.wOp, WL.wUn, WL.wNil, WL.wCons, WL.wApp, WL.wTest, WL.wChain, WL.wAndT, WL.wOrT, WL.wNotT, WL.wAnd, WL.wOr, WL.wNot, WL.wIf, WL.wTup, WL.wLst, WL.wCall, WL.wMake, WL.wFld, WL.wPutF, WL.wSl, WL.wPart, WL.wNoPart, WL.wRev, WL.wName, WL.wNames, WL.wSeqI, WL.wZip, WL.wRng3, WL.wRng1, WL.wRng2, WL.wEnum, WL.wLstRg, WL.wTupRg, WL.wR1, WL.wR2, WL.wCallD, WL.MdW, WL.wgSub, WL.one, WL.two, WL.lk, WL.isB_bl, WL.isI_int, WL.cmpI, WL.isNW, WL.notNW, WL.nonW, WL.wYes, WL.wLockE, WL.wLock, WL.wDNew, WL.wSortSet, WL.wNever, WL.addW_int, WL.addW_tup, WL.addW_str, WL.subW_int, WL.mulW_int, WL.modW_int, WL.fdivW_int, WL.powW_int, WL.negW_int, WL.intW_int, WL.intW_bl, WL.absW, WL.CTg.on, WL.wipeW, WL.setsW, WL.optW_some, WL.wDisp, WL.wPairs, WL.eqW_str, WL.neW_str, WL.eqW_int, WL.neW_int, WL.eqW_bl, WL.neW_bl, WL.ixW_tupE, WL.slW_tupE, WL.sortTW_ref, WL.lenW_tupE, WL.tupW_tupE, WL.listW_tupE, WL.atI_0, WL.atI_1, WL.atI_2, WL.atI_3, WL.atI_4, WL.seqOn_tup, WL.enumOn_tup, List.set, if_true, if_false, Bool.false_eq_true, if_pos, List.length_nil, List.length_cons, Bool.not_true, Bool.not_false]
  show eqMx C (S_Web_eq C) (.ref x) (.tup _) G3 _
  refine own2_of hx3 (.inr ⟨_, rfl⟩) ⟨x, rs, .tup _, rfl, hx3, .inr ⟨_, rfl, ⟨false, rfl, ?_⟩⟩⟩
  simp only [WL.wSeq, WL.wSet, WL.wAsg, WL.wDrop, WL.wRet, WL.wRetN, WL.wIfS, WL.wBreak, WL.wCont, WL.wNext, WL.wV, WL.wC, WL.wOp, WL.wUn, WL.wNil, WL.wCons, WL.wApp, WL.wTest, WL.wChain, WL.wAndT, WL.wOrT, WL.wNotT, WL.wAnd, WL.wOr, WL.wNot, WL.wIf, WL.wTup, WL.wLst, WL.wCall, WL.wMake, WL.wFld, WL.wPutF, WL.wSl, WL.wPart, WL.wNoPart, WL.wRev, WL.wName, WL.wNames, WL.wSeqI, WL.wZip, WL.wRng3, WL.wRng1, WL.wRng2, WL.wEnum, WL.wLstRg, WL.wTupRg, WL.wR1, WL.wR2, WL.wCallD, WL.MdW, WL.wgSub, WL.one, WL.two, WL.lk, WL.isB_bl, WL.isI_int, WL.cmpI, WL.isNW, WL.notNW, WL.nonW, WL.wYes, WL.wLockE, WL.wLock, WL.wDNew, WL.wSortSet, WL.wNever, WL.addW_int, WL.addW_tup, WL.addW_str, WL.subW_int, WL.mulW_int, WL.modW_int, WL.fdivW_int, WL.powW_int, WL.negW_int, WL.intW_int, WL.intW_bl, WL.absW, WL.CTg.on, WL.wipeW, WL.setsW, WL.optW_some, WL.wDisp, WL.wPairs, WL.eqW_str, WL.neW_str, WL.eqW_int, WL.neW_int, WL.eqW_bl, WL.neW_bl, WL.ixW_tupE, WL.slW_tupE, WL.sortTW_ref, WL.lenW_tupE, WL.tupW_tupE, WL.listW_tupE, WL.atI_0, WL.atI_1, WL.atI_2, WL.atI_3, WL.atI_4, WL.seqOn_tup, WL.enumOn_tup, List.set, if_true, if_false, Bool.false_eq_true, if_pos, List.length_nil, List.length_cons, Bool.not_true, Bool.not_false]
  exact q _ G3 ((hp1.ext e2).ext e3)
theorem lw (ok : ReadsOk rs) (hp : PoolAt [] G p) (hx : isWeb C G x rs) (q : ∀ w5 w6 G', PoolAt [] G' p → E.nx [w0, some (.ref p), w2, some (rdsW rs), some (.ref x), w5, w6] G') : tl_lw C E [w0, some (.ref p), w2, some (rdsW rs), some (.ref x), w5, w6] G := by
  have tail : ∀ w5 G', PoolAt [] G' p → isWeb C G' x rs → tl_lw2 C E [w0, some (.ref p), w2, some (rdsW rs), some (.ref x), w5, w6] G' := fun w5 G' hp' hx' => lw2 ok hp' hx' fun w6 G'' h => q w5 w6 G'' h
  unfold tl_lw
  generalize tl_lw2 C = T at tail ⊢
  simp only [WL.wSeq, WL.wSet, WL.wAsg, WL.wDrop, WL.wRet, WL.wRetN, WL.wIfS, WL.wBreak, WL.wCont, WL.wNext, WL.wV, WL.wC, WL.wOp, WL.wUn, WL.wNil, WL.wCons, WL.wApp, WL.wTest, WL.wChain, WL.wAndT, WL.wOrT, WL.wNotT, WL.wAnd, WL.wOr, WL.wNot, WL.wIf, WL.wTup, WL.wLst, WL.wCall, WL.wMake, WL.wFld, WL.wPutF, WL.wSl, WL.wPart, WL.wNoPart, WL.wRev, WL.wName, WL.wNames, WL.wSeqI, WL.wZip, WL.wRng3, WL.wRng1, WL.wRng2, WL.wEnum, WL.wLstRg, WL.wTupRg, WL.wR1, WL.wR2, WL.wCallD, WL.MdW, WL.wgSub, WL.one, WL.two, WL.lk, WL.isB_bl, WL.isI_int, WL.cmpI, WL.isNW, WL.notNW, WL.nonW, WL.wYes, WL.wLockE, WL.wLock, WL.wDNew, WL.wSortSet, WL.wNever, WL.addW_int, WL.addW_tup, WL.addW_str, WL.subW_int, WL.mulW_int, WL.modW_int, WL.fdivW_int, WL.powW_int, WL.negW_int, WL.intW_int, WL.intW_bl, WL.absW, WL.CTg.on, WL.wipeW, WL.setsW, WL.optW_some, WL.wDisp, WL.wPairs, WL.eqW_str, WL.neW_str, WL.eqW_int, WL.neW_int, WL.eqW_bl, WL.neW_bl, WL.ixW_tupE, WL.slW_tupE, WL.sortTW_ref, WL.lenW_tupE, WL.tupW_tupE, WL.listW_tupE, WL.atI_0, WL.atI_1, WL.atI_2, WL.atI_3, WL.atI_4, WL.seqOn_tup, WL.enumOn_tup, List.set, if_true, if_false, Bool.false_eq_true, if_pos, List.length_nil, List.length_cons, Bool.not_true, Bool.not_false]
  refine ⟨rs, false, rfl, ok, fun b G1 e1 hb => ?_⟩
  have hbl := least_le ok hb
  have htn := ok.ten
  refine ⟨x, rs, rfl, e1 _ _ hx, ok, fun b' G2 e2 hb' => ?_⟩
  obtain rfl := hb.uniq hb'
  refine is_nat (by omega) ?_
  simp only [WL.wSeq, WL.wSet, WL.wAsg, WL.wDrop, WL.wRet, WL.wRetN, WL.wIfS, WL.wBreak, WL.wCont, WL.wNext, WL.wV, WL.wC, WL.wOp, WL.wUn, WL.wNil, WL.wCons, WL.wApp, WL.wTest, WL.wChain, WL.wAndT, WL.wOrT, WL.wNotT, WL.wAnd, WL.wOr, WL.wNot, WL.wIf, WL.wTup, WL.wLst, WL.wCall, WL.wMake, WL.wFld, WL.wPutF, WL.wSl, WL.wPart, WL.wNoPart, WL.wRev, WL.wName, WL.wNames, WL.wSeqI, WL.wZip, WL.wRng3, WL.wRng1, WL.wRng2, WL.wEnum, WL.wLstRg, WL.wTupRg, WL.wR1, WL.wR2, WL.wCallD, WL.MdW, WL.wgSub, WL.one, WL.two, WL.lk, WL.isB_bl, WL.isI_int, WL.cmpI, WL.isNW, WL.notNW, WL.nonW, WL.wYes, WL.wLockE, WL.wLock, WL.wDNew, WL.wSortSet, WL.wNever, WL.addW_int, WL.addW_tup, WL.addW_str, WL.subW_int, WL.mulW_int, WL.modW_int, WL.fdivW_int, WL.powW_int, WL.negW_int, WL.intW_int, WL.intW_bl, WL.absW, WL.CTg.on, WL.wipeW, WL.setsW, WL.optW_some, WL.wDisp, WL.wPairs, WL.eqW_str, WL.neW_str, WL.eqW_int, WL.neW_int, WL.eqW_bl, WL.neW_bl, WL.ixW_tupE, WL.slW_tupE, WL.sortTW_ref, WL.lenW_tupE, WL.tupW_tupE, WL.listW_tupE, WL.atI_0, WL.atI_1, WL.atI_2, WL.atI_3, WL.atI_4, WL.seqOn_tup, WL.enumOn_tup, List.set, if_true, if_false, Bool.false_eq_true, if_pos, List.length_nil, List.length_cons, Bool.not_true, Bool.not_false]
  refine ⟨x, rs, rfl, e2 _ _ (e1 _ _ hx), ok, fun b' G3 e3 hb' => ?_⟩
  obtain rfl := hb.uniq hb'
  unfold nI at *
  refine nmx_int ?_
  rw [decide_eq_true rfl]
  simp only [WL.wSeq, WL.wSet, WL.wAsg, WL.wDrop, WL.wRet, WL.wRetN, WL.wIfS, WL.wBreak, WL.wCont, WL.wNext, WL.wV, WL.wC, WL.wOp, WL.wUn, WL.wNil, WL.wCons, WL.wApp, WL.wTest, WL.wChain, WL.wAndT, WL.wOrT, WL.wNotT, WL.wAnd, WL.wOr, WL.wNot, WL.wIf, WL.wTup, WL.wLst, WL.wCall, WL.wMake, WL.wFld, WL.wPutF, WL.wSl, WL.wPart, WL.wNoPart, WL.wRev, WL.wName, WL.wNames, WL.wSeqI, WL.wZip, WL.wRng3, WL.wRng1, WL.wRng2, WL.wEnum, WL.wLstRg, WL.wTupRg, WL.wR1, WL.wR2, WL.wCallD, WL.MdW, WL.wgSub, WL.one, WL.two, WL.lk, WL.isB_bl, WL.isI_int, WL.cmpI, WL.isNW, WL.notNW, WL.nonW, WL.wYes, WL.wLockE, WL.wLock, WL.wDNew, WL.wSortSet, WL.wNever, WL.addW_int, WL.addW_tup, WL.addW_str, WL.subW_int, WL.mulW_int, WL.modW_int, WL.fdivW_int, WL.powW_int, WL.negW_int, WL.intW_int, WL.intW_bl, WL.absW, WL.CTg.on, WL.wipeW, WL.setsW, WL.optW_some, WL.wDisp, WL.wPairs, WL.eqW_str, WL.neW_str, WL.eqW_int, WL.neW_int, WL.eqW_bl, WL.neW_bl, WL.ixW_tupE, WL.slW_tupE, WL.sortTW_ref, WL.lenW_tupE, WL.tupW_tupE, WL.listW_tupE, WL.atI_0, WL.atI_1, WL.atI_2, WL.atI_3, WL.atI_4, WL.seqOn_tup, WL.enumOn_tup, List.set, if_true, if_false, Bool.false_eq_true, if_pos, List.length_nil, List.length_cons, Bool.not_true, Bool.not_false]
  have hx3 := e3 _ _ (e2 _ _ (e1 _ _ hx))
  refine insAt_of hx3 (optW_of rfl ?_)
  refine is_same_data dw_rds (sh_rds ok) ?_
  simp only [WL.wSeq, WL.wSet, WL.wAsg, WL.wDrop, WL.wRet, WL.wRetN, WL.wIfS, WL.wBreak, WL.wCont, WL.wNext, WL.wV, WL.wC, WL.wOp, WL.wUn, WL.wNil, WL.wCons, WL.wApp, WL.wTest, WL.wChain, WL.wAndT, WL.wOrT, WL.wNotT, WL.wAnd, WL.wOr, WL.wNot, WL.wIf, WL.wTup, WL.wLst, WL.wCall, WL.wMake, WL.wFld, WL.wPutF, WL.wSl, WL.wPart, WL.wNoPart, WL.wRev, WL.wName, WL.wNames, WL.wSeqI, WL.wZip, WL.wRng3, WL.wRng1, WL.wRng2, WL.wEnum, WL.wLstRg, WL.wTupRg, WL.wR1, WL.wR2, WL.wCallD, WL.MdW, WL.wgSub, WL.one, WL.two, WL.lk, WL.isB_bl, WL.isI_int, WL.cmpI, WL.isNW, WL.notNW, WL.nonW, WL.wYes, WL.wLockE, WL.wLock, WL.wDNew, WL.wSortSet, WL.wNever, WL.addW_int, WL.addW_tup, WL.addW_str, WL.subW_int, WL.mulW_int, WL.modW_int, WL.fdivW_int, WL.powW_int, WL.negW_int, WL.intW_int, WL.intW_bl, WL.absW, WL.CTg.on, WL.wipeW, WL.setsW, WL.optW_some, WL.wDisp, WL.wPairs, WL.eqW_str, WL.neW_str, WL.eqW_int, WL.neW_int, WL.eqW_bl, WL.neW_bl, WL.ixW_tupE, WL.slW_tupE, WL.sortTW_ref, WL.lenW_tupE, WL.tupW_tupE, WL.listW_tupE, WL.atI_0, WL.atI_1, WL.atI_2, WL.atI_3, WL.atI_4, WL.seqOn_tup, WL.enumOn_tup, List.set, if_true, if_false, Bool.false_eq_true, if_pos, List.length_nil, List.length_cons, Bool.not_true, Bool.not_false]
  exact tail _ G3 (((hp.ext e1).ext e2).ext e3) hx3
end
theorem v_law {C : Addr} : ∀ ws G Q, spL ws G Q → rd_law C S_law_pool S_law_web_reads S_law_draw S_law_least S_law_is (S_least_any C) (S_Web_init C) (S_Web_eq C) { nx := fun _ G' => Q .non G', rt := Q } (startW ["_law_script", "_law_pool_here", "_law_turn", "_law_reads", "_law_web", "_law_due", "_law_other"] ws) G := by
  rintro ws G Q ⟨w, ns, rfl, hl, hs, q⟩
  show (wSeq (wSet 1 (wCall S_law_pool (wCons (wV 0) wNil)))
   (wSeq (wFor (wRng1 (wCons (wC (.int 3)) wNil)) (wName 2)
   (wSeq (wSet 3 (wCall S_law_web_reads (wCons (wV 1) (wCons (wIf (wTest (wOp (eqMx C (S_Web_eq C)) (wCall S_law_draw (wCons (wV 1) (wCons (wC (.int 40)) wNil))) (wC (.int 0)))) (wC (.int 10)) (wC (.int 7))) wNil))))
   (wSeq (wSet 4 (wMake C (S_Web_init C) (wCons (wV 3) wNil))) (tl_lw C))))
   (wRet (wC (.bl true))))) _ [some w, none, none, none, none, none, none] G
  have turn : ∀ (E : WEnds) p G1 w0 w2 w3 w4 w5 w6, PoolAt [] G1 p → (∀ w3 w4 w5 w6 G', PoolAt [] G' p → E.nx [w0, some (.ref p), w2, w3, w4, w5, w6] G') → (wSeq (wSet 3 (wCall S_law_web_reads (wCons (wV 1) (wCons (wIf (wTest (wOp (eqMx C (S_Web_eq C)) (wCall S_law_draw (wCons (wV 1) (wCons (wC (.int 40)) wNil))) (wC (.int 0)))) (wC (.int 10)) (wC (.int 7))) wNil)))) (wSeq (wSet 4 (wMake C (S_Web_init C) (wCons (wV 3) wNil))) (tl_lw C))) E [w0, some (.ref p), w2, w3, w4, w5, w6] G1 := fun E p G1 w0 w2 w3 w4 w5 w6 h1 hq => by
    have tail : ∀ rs x G2 w5, ReadsOk rs → PoolAt [] G2 p → isWeb C G2 x rs → tl_lw C E [w0, some (.ref p), w2, some (rdsW rs), some (.ref x), w5, w6] G2 := fun rs x G2 w5 ok h2 hx => lw ok h2 hx fun w5 w6 G3 h3 => hq _ _ _ _ G3 h3
    generalize tl_lw C = T at tail ⊢
    simp only [WL.wSeq, WL.wSet, WL.wAsg, WL.wDrop, WL.wRet, WL.wRetN, WL.wIfS, WL.wBreak, WL.wCont, WL.wNext, WL.wV, WL.wC, WL.wOp, WL.wUn, WL.wNil, WL.wCons, WL.wApp, WL.wTest, WL.wChain, WL.wAndT, WL.wOrT, WL.wNotT, WL.wAnd, WL.wOr, WL.wNot, WL.wIf, WL.wTup, WL.wLst, WL.wCall, WL.wMake, WL.wFld, WL.wPutF, WL.wSl, WL.wPart, WL.wNoPart, WL.wRev, WL.wName, WL.wNames, WL.wSeqI, WL.wZip, WL.wRng3, WL.wRng1, WL.wRng2, WL.wEnum, WL.wLstRg, WL.wTupRg, WL.wR1, WL.wR2, WL.wCallD, WL.MdW, WL.wgSub, WL.one, WL.two, WL.lk, WL.isB_bl, WL.isI_int, WL.cmpI, WL.isNW, WL.notNW, WL.nonW, WL.wYes, WL.wLockE, WL.wLock, WL.wDNew, WL.wSortSet, WL.wNever, WL.addW_int, WL.addW_tup, WL.addW_str, WL.subW_int, WL.mulW_int, WL.modW_int, WL.fdivW_int, WL.powW_int, WL.negW_int, WL.intW_int, WL.intW_bl, WL.absW, WL.CTg.on, WL.wipeW, WL.setsW, WL.optW_some, WL.wDisp, WL.wPairs, WL.eqW_str, WL.neW_str, WL.eqW_int, WL.neW_int, WL.eqW_bl, WL.neW_bl, WL.ixW_tupE, WL.slW_tupE, WL.sortTW_ref, WL.lenW_tupE, WL.tupW_tupE, WL.listW_tupE, WL.atI_0, WL.atI_1, WL.atI_2, WL.atI_3, WL.atI_4, WL.seqOn_tup, WL.enumOn_tup, List.set, if_true, if_false, Bool.false_eq_true, if_pos, List.length_nil, List.length_cons, Bool.not_true, Bool.not_false]
    refine ⟨[], p, 40, rfl, by omega, by omega, h1, fun d G2 hd e2 h2 => ?_⟩
    have made : ∀ rs G3, ReadsOk rs → PoolAt [] G3 p → ∀ xx, G3 xx = none → S_Web_init C [.ref xx, rdsW rs] (updG G3 xx (.ins C [])) (fun w G' => w = .non ∧ T E [w0, some (.ref p), w2, some (rdsW rs), some (.ref xx), w5, w6] G') := fun rs G3 ok h3 xx hxx => by
      refine ⟨xx, rs, rfl, updG_same, ok, fun G4 e4 hx4 => ⟨rfl, tail rs xx G4 w5 ok (h3.ext fun r u hu => ?_) hx4⟩⟩
      have : r ≠ xx := ne_of_at hu hxx
      exact e4 _ _ this (by rw [updG_ne this]; exact hu)
    unfold nI
    refine mx_int ?_
    simp only [WL.wSeq, WL.wSet, WL.wAsg, WL.wDrop, WL.wRet, WL.wRetN, WL.wIfS, WL.wBreak, WL.wCont, WL.wNext, WL.wV, WL.wC, WL.wOp, WL.wUn, WL.wNil, WL.wCons, WL.wApp, WL.wTest, WL.wChain, WL.wAndT, WL.wOrT, WL.wNotT, WL.wAnd, WL.wOr, WL.wNot, WL.wIf, WL.wTup, WL.wLst, WL.wCall, WL.wMake, WL.wFld, WL.wPutF, WL.wSl, WL.wPart, WL.wNoPart, WL.wRev, WL.wName, WL.wNames, WL.wSeqI, WL.wZip, WL.wRng3, WL.wRng1, WL.wRng2, WL.wEnum, WL.wLstRg, WL.wTupRg, WL.wR1, WL.wR2, WL.wCallD, WL.MdW, WL.wgSub, WL.one, WL.two, WL.lk, WL.isB_bl, WL.isI_int, WL.cmpI, WL.isNW, WL.notNW, WL.nonW, WL.wYes, WL.wLockE, WL.wLock, WL.wDNew, WL.wSortSet, WL.wNever, WL.addW_int, WL.addW_tup, WL.addW_str, WL.subW_int, WL.mulW_int, WL.modW_int, WL.fdivW_int, WL.powW_int, WL.negW_int, WL.intW_int, WL.intW_bl, WL.absW, WL.CTg.on, WL.wipeW, WL.setsW, WL.optW_some, WL.wDisp, WL.wPairs, WL.eqW_str, WL.neW_str, WL.eqW_int, WL.neW_int, WL.eqW_bl, WL.neW_bl, WL.ixW_tupE, WL.slW_tupE, WL.sortTW_ref, WL.lenW_tupE, WL.tupW_tupE, WL.listW_tupE, WL.atI_0, WL.atI_1, WL.atI_2, WL.atI_3, WL.atI_4, WL.seqOn_tup, WL.enumOn_tup, List.set, if_true, if_false, Bool.false_eq_true, if_pos, List.length_nil, List.length_cons, Bool.not_true, Bool.not_false]
    by_cases hd0 : d = 0
    · rw [decide_eq_true (show (d : Int) = 0 by omega)]
      simp only [WL.wSeq, WL.wSet, WL.wAsg, WL.wDrop, WL.wRet, WL.wRetN, WL.wIfS, WL.wBreak, WL.wCont, WL.wNext, WL.wV, WL.wC, WL.wOp, WL.wUn, WL.wNil, WL.wCons, WL.wApp, WL.wTest, WL.wChain, WL.wAndT, WL.wOrT, WL.wNotT, WL.wAnd, WL.wOr, WL.wNot, WL.wIf, WL.wTup, WL.wLst, WL.wCall, WL.wMake, WL.wFld, WL.wPutF, WL.wSl, WL.wPart, WL.wNoPart, WL.wRev, WL.wName, WL.wNames, WL.wSeqI, WL.wZip, WL.wRng3, WL.wRng1, WL.wRng2, WL.wEnum, WL.wLstRg, WL.wTupRg, WL.wR1, WL.wR2, WL.wCallD, WL.MdW, WL.wgSub, WL.one, WL.two, WL.lk, WL.isB_bl, WL.isI_int, WL.cmpI, WL.isNW, WL.notNW, WL.nonW, WL.wYes, WL.wLockE, WL.wLock, WL.wDNew, WL.wSortSet, WL.wNever, WL.addW_int, WL.addW_tup, WL.addW_str, WL.subW_int, WL.mulW_int, WL.modW_int, WL.fdivW_int, WL.powW_int, WL.negW_int, WL.intW_int, WL.intW_bl, WL.absW, WL.CTg.on, WL.wipeW, WL.setsW, WL.optW_some, WL.wDisp, WL.wPairs, WL.eqW_str, WL.neW_str, WL.eqW_int, WL.neW_int, WL.eqW_bl, WL.neW_bl, WL.ixW_tupE, WL.slW_tupE, WL.sortTW_ref, WL.lenW_tupE, WL.tupW_tupE, WL.listW_tupE, WL.atI_0, WL.atI_1, WL.atI_2, WL.atI_3, WL.atI_4, WL.seqOn_tup, WL.enumOn_tup, List.set, if_true, if_false, Bool.false_eq_true, if_pos, List.length_nil, List.length_cons, Bool.not_true, Bool.not_false]
      refine ⟨[], p, 10, rfl, h2, by omega, by omega, fun rs G3 ok hl3 e3 h3 => ?_⟩
      simp only [WL.wSeq, WL.wSet, WL.wAsg, WL.wDrop, WL.wRet, WL.wRetN, WL.wIfS, WL.wBreak, WL.wCont, WL.wNext, WL.wV, WL.wC, WL.wOp, WL.wUn, WL.wNil, WL.wCons, WL.wApp, WL.wTest, WL.wChain, WL.wAndT, WL.wOrT, WL.wNotT, WL.wAnd, WL.wOr, WL.wNot, WL.wIf, WL.wTup, WL.wLst, WL.wCall, WL.wMake, WL.wFld, WL.wPutF, WL.wSl, WL.wPart, WL.wNoPart, WL.wRev, WL.wName, WL.wNames, WL.wSeqI, WL.wZip, WL.wRng3, WL.wRng1, WL.wRng2, WL.wEnum, WL.wLstRg, WL.wTupRg, WL.wR1, WL.wR2, WL.wCallD, WL.MdW, WL.wgSub, WL.one, WL.two, WL.lk, WL.isB_bl, WL.isI_int, WL.cmpI, WL.isNW, WL.notNW, WL.nonW, WL.wYes, WL.wLockE, WL.wLock, WL.wDNew, WL.wSortSet, WL.wNever, WL.addW_int, WL.addW_tup, WL.addW_str, WL.subW_int, WL.mulW_int, WL.modW_int, WL.fdivW_int, WL.powW_int, WL.negW_int, WL.intW_int, WL.intW_bl, WL.absW, WL.CTg.on, WL.wipeW, WL.setsW, WL.optW_some, WL.wDisp, WL.wPairs, WL.eqW_str, WL.neW_str, WL.eqW_int, WL.neW_int, WL.eqW_bl, WL.neW_bl, WL.ixW_tupE, WL.slW_tupE, WL.sortTW_ref, WL.lenW_tupE, WL.tupW_tupE, WL.listW_tupE, WL.atI_0, WL.atI_1, WL.atI_2, WL.atI_3, WL.atI_4, WL.seqOn_tup, WL.enumOn_tup, List.set, if_true, if_false, Bool.false_eq_true, if_pos, List.length_nil, List.length_cons, Bool.not_true, Bool.not_false]
      exact fun xx hxx => made rs G3 ok h3 xx hxx
    · rw [decide_eq_false (show ¬ (d : Int) = 0 by omega)]
      simp only [WL.wSeq, WL.wSet, WL.wAsg, WL.wDrop, WL.wRet, WL.wRetN, WL.wIfS, WL.wBreak, WL.wCont, WL.wNext, WL.wV, WL.wC, WL.wOp, WL.wUn, WL.wNil, WL.wCons, WL.wApp, WL.wTest, WL.wChain, WL.wAndT, WL.wOrT, WL.wNotT, WL.wAnd, WL.wOr, WL.wNot, WL.wIf, WL.wTup, WL.wLst, WL.wCall, WL.wMake, WL.wFld, WL.wPutF, WL.wSl, WL.wPart, WL.wNoPart, WL.wRev, WL.wName, WL.wNames, WL.wSeqI, WL.wZip, WL.wRng3, WL.wRng1, WL.wRng2, WL.wEnum, WL.wLstRg, WL.wTupRg, WL.wR1, WL.wR2, WL.wCallD, WL.MdW, WL.wgSub, WL.one, WL.two, WL.lk, WL.isB_bl, WL.isI_int, WL.cmpI, WL.isNW, WL.notNW, WL.nonW, WL.wYes, WL.wLockE, WL.wLock, WL.wDNew, WL.wSortSet, WL.wNever, WL.addW_int, WL.addW_tup, WL.addW_str, WL.subW_int, WL.mulW_int, WL.modW_int, WL.fdivW_int, WL.powW_int, WL.negW_int, WL.intW_int, WL.intW_bl, WL.absW, WL.CTg.on, WL.wipeW, WL.setsW, WL.optW_some, WL.wDisp, WL.wPairs, WL.eqW_str, WL.neW_str, WL.eqW_int, WL.neW_int, WL.eqW_bl, WL.neW_bl, WL.ixW_tupE, WL.slW_tupE, WL.sortTW_ref, WL.lenW_tupE, WL.tupW_tupE, WL.listW_tupE, WL.atI_0, WL.atI_1, WL.atI_2, WL.atI_3, WL.atI_4, WL.seqOn_tup, WL.enumOn_tup, List.set, if_true, if_false, Bool.false_eq_true, if_pos, List.length_nil, List.length_cons, Bool.not_true, Bool.not_false]
      refine ⟨[], p, 7, rfl, h2, by omega, by omega, fun rs G3 ok hl3 e3 h3 => ?_⟩
      simp only [WL.wSeq, WL.wSet, WL.wAsg, WL.wDrop, WL.wRet, WL.wRetN, WL.wIfS, WL.wBreak, WL.wCont, WL.wNext, WL.wV, WL.wC, WL.wOp, WL.wUn, WL.wNil, WL.wCons, WL.wApp, WL.wTest, WL.wChain, WL.wAndT, WL.wOrT, WL.wNotT, WL.wAnd, WL.wOr, WL.wNot, WL.wIf, WL.wTup, WL.wLst, WL.wCall, WL.wMake, WL.wFld, WL.wPutF, WL.wSl, WL.wPart, WL.wNoPart, WL.wRev, WL.wName, WL.wNames, WL.wSeqI, WL.wZip, WL.wRng3, WL.wRng1, WL.wRng2, WL.wEnum, WL.wLstRg, WL.wTupRg, WL.wR1, WL.wR2, WL.wCallD, WL.MdW, WL.wgSub, WL.one, WL.two, WL.lk, WL.isB_bl, WL.isI_int, WL.cmpI, WL.isNW, WL.notNW, WL.nonW, WL.wYes, WL.wLockE, WL.wLock, WL.wDNew, WL.wSortSet, WL.wNever, WL.addW_int, WL.addW_tup, WL.addW_str, WL.subW_int, WL.mulW_int, WL.modW_int, WL.fdivW_int, WL.powW_int, WL.negW_int, WL.intW_int, WL.intW_bl, WL.absW, WL.CTg.on, WL.wipeW, WL.setsW, WL.optW_some, WL.wDisp, WL.wPairs, WL.eqW_str, WL.neW_str, WL.eqW_int, WL.neW_int, WL.eqW_bl, WL.neW_bl, WL.ixW_tupE, WL.slW_tupE, WL.sortTW_ref, WL.lenW_tupE, WL.tupW_tupE, WL.listW_tupE, WL.atI_0, WL.atI_1, WL.atI_2, WL.atI_3, WL.atI_4, WL.seqOn_tup, WL.enumOn_tup, List.set, if_true, if_false, Bool.false_eq_true, if_pos, List.length_nil, List.length_cons, Bool.not_true, Bool.not_false]
      exact fun xx hxx => made rs G3 ok h3 xx hxx
  generalize (wSeq (wSet 3 (wCall S_law_web_reads (wCons (wV 1) (wCons (wIf (wTest (wOp (eqMx C (S_Web_eq C)) (wCall S_law_draw (wCons (wV 1) (wCons (wC (.int 40)) wNil))) (wC (.int 0)))) (wC (.int 10)) (wC (.int 7))) wNil)))) (wSeq (wSet 4 (wMake C (S_Web_init C) (wCons (wV 3) wNil))) (tl_lw C))) = B at turn ⊢
  have loop : ∀ p G1, PoolAt [] G1 p → (wSeq (wFor (wRng1 (wCons (wC (.int 3)) wNil)) (wName 2) B) (wRet (wC (.bl true)))) { nx := fun _ G' => Q .non G', rt := Q } [some w, some (.ref p), none, none, none, none, none] G1 := fun p G1 h1 => by
    refine wFor_of (G1 := G1) (items := rngW 0 3) (stable := fun _ => True) (fun K hK => ?_)
      (fun i ρ G' => ∃ w2 w3 w4 w5 w6, ρ = [some w, some (.ref p), w2, w3, w4, w5, w6] ∧ PoolAt [] G' p) ⟨_, _, _, _, _, rfl, h1⟩ (fun _ _ _ _ _ => trivial) ?_ ?_
    · simp only [WL.wSeq, WL.wSet, WL.wAsg, WL.wDrop, WL.wRet, WL.wRetN, WL.wIfS, WL.wBreak, WL.wCont, WL.wNext, WL.wV, WL.wC, WL.wOp, WL.wUn, WL.wNil, WL.wCons, WL.wApp, WL.wTest, WL.wChain, WL.wAndT, WL.wOrT, WL.wNotT, WL.wAnd, WL.wOr, WL.wNot, WL.wIf, WL.wTup, WL.wLst, WL.wCall, WL.wMake, WL.wFld, WL.wPutF, WL.wSl, WL.wPart, WL.wNoPart, WL.wRev, WL.wName, WL.wNames, WL.wSeqI, WL.wZip, WL.wRng3, WL.wRng1, WL.wRng2, WL.wEnum, WL.wLstRg, WL.wTupRg, WL.wR1, WL.wR2, WL.wCallD, WL.MdW, WL.wgSub, WL.one, WL.two, WL.lk, WL.isB_bl, WL.isI_int, WL.cmpI, WL.isNW, WL.notNW, WL.nonW, WL.wYes, WL.wLockE, WL.wLock, WL.wDNew, WL.wSortSet, WL.wNever, WL.addW_int, WL.addW_tup, WL.addW_str, WL.subW_int, WL.mulW_int, WL.modW_int, WL.fdivW_int, WL.powW_int, WL.negW_int, WL.intW_int, WL.intW_bl, WL.absW, WL.CTg.on, WL.wipeW, WL.setsW, WL.optW_some, WL.wDisp, WL.wPairs, WL.eqW_str, WL.neW_str, WL.eqW_int, WL.neW_int, WL.eqW_bl, WL.neW_bl, WL.ixW_tupE, WL.slW_tupE, WL.sortTW_ref, WL.lenW_tupE, WL.tupW_tupE, WL.listW_tupE, WL.atI_0, WL.atI_1, WL.atI_2, WL.atI_3, WL.atI_4, WL.seqOn_tup, WL.enumOn_tup, List.set, if_true, if_false, Bool.false_eq_true, if_pos, List.length_nil, List.length_cons, Bool.not_true, Bool.not_false]
      exact ⟨by decide, by decide, hK⟩
    · rintro i x ρ G2 hw ⟨w2, w3, w4, w5, w6, rfl, h2⟩
      show B _ [some w, some (.ref p), some x, w3, w4, w5, w6] G2
      exact turn _ p G2 _ _ _ _ _ _ h2 fun w3 w4 w5 w6 G3 h3 => ⟨_, _, _, _, _, rfl, h3⟩
    · rintro ρ G2 ⟨w2, w3, w4, w5, w6, rfl, h2⟩
      exact q _
  generalize (wSeq (wFor (wRng1 (wCons (wC (.int 3)) wNil)) (wName 2) B) (wRet (wC (.bl true)))) = T at loop ⊢
  simp only [WL.wSeq, WL.wSet, WL.wAsg, WL.wDrop, WL.wRet, WL.wRetN, WL.wIfS, WL.wBreak, WL.wCont, WL.wNext, WL.wV, WL.wC, WL.wOp, WL.wUn, WL.wNil, WL.wCons, WL.wApp, WL.wTest, WL.wChain, WL.wAndT, WL.wOrT, WL.wNotT, WL.wAnd, WL.wOr, WL.wNot, WL.wIf, WL.wTup, WL.wLst, WL.wCall, WL.wMake, WL.wFld, WL.wPutF, WL.wSl, WL.wPart, WL.wNoPart, WL.wRev, WL.wName, WL.wNames, WL.wSeqI, WL.wZip, WL.wRng3, WL.wRng1, WL.wRng2, WL.wEnum, WL.wLstRg, WL.wTupRg, WL.wR1, WL.wR2, WL.wCallD, WL.MdW, WL.wgSub, WL.one, WL.two, WL.lk, WL.isB_bl, WL.isI_int, WL.cmpI, WL.isNW, WL.notNW, WL.nonW, WL.wYes, WL.wLockE, WL.wLock, WL.wDNew, WL.wSortSet, WL.wNever, WL.addW_int, WL.addW_tup, WL.addW_str, WL.subW_int, WL.mulW_int, WL.modW_int, WL.fdivW_int, WL.powW_int, WL.negW_int, WL.intW_int, WL.intW_bl, WL.absW, WL.CTg.on, WL.wipeW, WL.setsW, WL.optW_some, WL.wDisp, WL.wPairs, WL.eqW_str, WL.neW_str, WL.eqW_int, WL.neW_int, WL.eqW_bl, WL.neW_bl, WL.ixW_tupE, WL.slW_tupE, WL.sortTW_ref, WL.lenW_tupE, WL.tupW_tupE, WL.listW_tupE, WL.atI_0, WL.atI_1, WL.atI_2, WL.atI_3, WL.atI_4, WL.seqOn_tup, WL.enumOn_tup, List.set, if_true, if_false, Bool.false_eq_true, if_pos, List.length_nil, List.length_cons, Bool.not_true, Bool.not_false]
  exact ⟨w, ns, rfl, hs, hl, fun p G1 e1 hn h1 => loop p G1 h1⟩
end K54
set_option Elab.async false
set_option linter.all false
set_option maxRecDepth 100000
set_option maxHeartbeats 4000000
set_option pp.maxSteps 300
namespace K54
open PySem PySem.Spec PyProof.Rows L2 WL PR
section
variable {P : Program} {w : World} {K : PySem.W.Frag} {mg : Str → Option Value} {base : Heap} {k : Nat} {C_Web : Addr}
theorem ok_is_integer {f : Addr} {fd : FuncData} (F : Fun K "is_integer" "is_integer" st_is_integer f fd) (T : Tx K mg C_Web)  : FnOk P w K mg base CX0 (k + 2) f fd ["thing"] (toSp K S_is_integer) :=
  fun_ok (k := k + 1) F sc_is_integer (fun ws G Q h => by first | (repeat (first | (obtain ⟨rfl, _⟩ := h; rfl) | obtain ⟨_, h⟩ := h))) (fun cdv A outer s H E hr => wk_is_integer T  f cdv A outer s H E hr) v_is_integer
theorem ok_is_within {f : Addr} {fd : FuncData} (F : Fun K "is_within" "is_within" st_is_within f fd) (T : Tx K mg C_Web) (F_is_integer : Cal P w K mg base (k + 1) "is_integer" S_is_integer) : FnOk P w K mg base CX0 (k + 2) f fd ["thing", "least", "most"] (toSp K S_is_within) :=
  fun_ok (k := k + 1) F sc_is_within (fun ws G Q h => by first | (repeat (first | (obtain ⟨rfl, _⟩ := h; rfl) | obtain ⟨_, h⟩ := h))) (fun cdv A outer s H E hr => wk_is_within T F_is_integer f cdv A outer s H E hr) v_is_within
theorem ok_are_within {f : Addr} {fd : FuncData} (F : Fun K "are_within" "are_within" st_are_within f fd) (T : Tx K mg C_Web) (F_is_within : Cal P w K mg base (k + 1) "is_within" S_is_within) : FnOk P w K mg base CX0 (k + 2) f fd ["thing", "least", "most"] (toSp K S_are_within) :=
  fun_ok (k := k + 1) F sc_are_within (fun ws G Q h => by first | (repeat (first | (obtain ⟨rfl, _⟩ := h; rfl) | obtain ⟨_, h⟩ := h))) (fun cdv A outer s H E hr => wk_are_within T F_is_within f cdv A outer s H E hr) v_are_within
theorem ok_is_lot {f : Addr} {fd : FuncData} (F : Fun K "is_lot" "is_lot" st_is_lot f fd) (T : Tx K mg C_Web) (F_are_within : Cal P w K mg base (k + 1) "are_within" S_are_within) : FnOk P w K mg base CX0 (k + 2) f fd ["thing", "below"] (toSp K S_is_lot) :=
  fun_ok (k := k + 1) F sc_is_lot (fun ws G Q h => by first | (repeat (first | (obtain ⟨rfl, _⟩ := h; rfl) | obtain ⟨_, h⟩ := h))) (fun cdv A outer s H E hr => wk_is_lot T F_are_within f cdv A outer s H E hr) v_is_lot
theorem ok_is_sized {f : Addr} {fd : FuncData} (F : Fun K "is_sized" "is_sized" st_is_sized f fd) (T : Tx K mg C_Web)  : FnOk P w K mg base CX0 (k + 2) f fd ["thing", "least", "most"] (toSp K S_is_sized) :=
  fun_ok (k := k + 1) F sc_is_sized (fun ws G Q h => by first | (repeat (first | (obtain ⟨rfl, _⟩ := h; rfl) | obtain ⟨_, h⟩ := h))) (fun cdv A outer s H E hr => wk_is_sized T  f cdv A outer s H E hr) v_is_sized
theorem ok_may_be_made {f : Addr} {fd : FuncData} (F : Fun K "may_be_made" "may_be_made" st_may_be_made f fd) (T : Tx K mg C_Web)  : FnOk P w K mg base CX0 (k + 2) f fd ["web", "here", "thing"] (toSp K (S_may_be_made C_Web)) :=
  fun_ok (k := k + 1) F sc_may_be_made (fun ws G Q h => by first | (repeat (first | (obtain ⟨rfl, _⟩ := h; rfl) | obtain ⟨_, h⟩ := h))) (fun cdv A outer s H E hr => wk_may_be_made T  f cdv A outer s H E hr) v_may_be_made
theorem ok_behind_move {f : Addr} {fd : FuncData} (F : Fun K "behind_move" "behind_move" st_behind_move f fd) (T : Tx K mg C_Web) (F_may_be_made : Cal P w K mg base (k + 1) "may_be_made" (S_may_be_made C_Web)) : FnOk P w K mg base CX0 (k + 2) f fd ["web", "here", "move"] (toSp K (S_behind_move C_Web)) :=
  fun_ok (k := k + 1) F sc_behind_move (fun ws G Q h => by first | (repeat (first | (obtain ⟨rfl, _⟩ := h; rfl) | obtain ⟨_, h⟩ := h))) (fun cdv A outer s H E hr => wk_behind_move T F_may_be_made f cdv A outer s H E hr) v_behind_move
theorem ok_moves_from {f : Addr} {fd : FuncData} (F : Fun K "moves_from" "moves_from" st_moves_from f fd) (T : Tx K mg C_Web) (F_may_be_made : Cal P w K mg base (k + 1) "may_be_made" (S_may_be_made C_Web)) : FnOk P w K mg base CX0 (k + 2) f fd ["web", "here", "rooms", "apart"] (toSp K (S_moves_from C_Web)) :=
  fun_ok (k := k + 1) F sc_moves_from (fun ws G Q h => by first | (repeat (first | (obtain ⟨rfl, _⟩ := h; rfl) | obtain ⟨_, h⟩ := h))) (fun cdv A outer s H E hr => wk_moves_from T F_may_be_made f cdv A outer s H E hr) v_moves_from
theorem ok_shortest_making {f : Addr} {fd : FuncData} (F : Fun K "shortest_making" "shortest_making" st_shortest_making f fd) (T : Tx K mg C_Web) (F_moves_to : Cal P w K mg base (k + 1) "moves_to" S_moves_to) (F_moves_from : Cal P w K mg base (k + 1) "moves_from" (S_moves_from C_Web)) (F_behind_move : Cal P w K mg base (k + 1) "behind_move" (S_behind_move C_Web)) : FnOk P w K mg base CX0 (k + 2) f fd ["web", "rooms", "apart"] (toSp K (S_shortest_making C_Web)) :=
  fun_ok (k := k + 1) F sc_shortest_making (fun ws G Q h => by first | (repeat (first | (obtain ⟨rfl, _⟩ := h; rfl) | obtain ⟨_, h⟩ := h))) (fun cdv A outer s H E hr => wk_shortest_making T F_moves_to F_moves_from F_behind_move f cdv A outer s H E hr) v_shortest_making
theorem ok_moves_to {f : Addr} {fd : FuncData} (F : Fun K "moves_to" "moves_to" st_moves_to f fd) (T : Tx K mg C_Web)  : FnOk P w K mg base CX0 (k + 2) f fd ["ways", "here"] (toSp K S_moves_to) :=
  fun_ok (k := k + 1) F sc_moves_to (fun ws G Q h => by first | (repeat (first | (obtain ⟨rfl, _⟩ := h; rfl) | obtain ⟨_, h⟩ := h))) (fun cdv A outer s H E hr => wk_moves_to T  f cdv A outer s H E hr) v_moves_to
theorem ok_least_rooms {f : Addr} {fd : FuncData} (F : Fun K "least_rooms" "least_rooms" st_least_rooms f fd) (T : Tx K mg C_Web) (F_shortest_making : Cal P w K mg base (k + 1) "shortest_making" (S_shortest_making C_Web)) : FnOk P w K mg base CX0 (k + 2) f fd ["web", "apart"] (toSp K (S_least_rooms C_Web)) :=
  fun_ok (k := k + 1) F sc_least_rooms (fun ws G Q h => by first | (repeat (first | (obtain ⟨rfl, _⟩ := h; rfl) | obtain ⟨_, h⟩ := h))) (fun cdv A outer s H E hr => wk_least_rooms T F_shortest_making f cdv A outer s H E hr) v_least_rooms
theorem ok_least_any {f : Addr} {fd : FuncData} (F : Fun K "least_any" "least_any" st_least_any f fd) (T : Tx K mg C_Web) (F_least_rooms : Cal P w K mg base (k + 1) "least_rooms" (S_least_rooms C_Web)) : FnOk P w K mg base CX0 (k + 2) f fd ["web"] (toSp K (S_least_any C_Web)) :=
  fun_ok (k := k + 1) F sc_least_any (fun ws G Q h => by first | (repeat (first | (obtain ⟨rfl, _⟩ := h; rfl) | obtain ⟨_, h⟩ := h))) (fun cdv A outer s H E hr => wk_least_any T F_least_rooms f cdv A outer s H E hr) v_least_any
theorem ok_law_pool {f : Addr} {fd : FuncData} (F : Fun K "_law_pool" "_law_pool" st_law_pool f fd) (T : Tx K mg C_Web)  : FnOk P w K mg base CX0 (k + 2) f fd ["_law_script"] (toSp K S_law_pool) :=
  fun_ok (k := k + 1) F sc_law_pool (fun ws G Q h => by first | (repeat (first | (obtain ⟨rfl, _⟩ := h; rfl) | obtain ⟨_, h⟩ := h))) (fun cdv A outer s H E hr => wk_law_pool T  f cdv A outer s H E hr) v_law_pool
theorem ok_law_draw {f : Addr} {fd : FuncData} (F : Fun K "_law_draw" "_law_draw" st_law_draw f fd) (T : Tx K mg C_Web)  : FnOk P w K mg base CX0 (k + 2) f fd ["_law_pool_here", "_law_many"] (toSp K S_law_draw) :=
  fun_ok (k := k + 1) F sc_law_draw (fun ws G Q h => by first | (repeat (first | (obtain ⟨rfl, _⟩ := h; rfl) | obtain ⟨_, h⟩ := h))) (fun cdv A outer s H E hr => wk_law_draw T  f cdv A outer s H E hr) v_law_draw
theorem ok_law_is {f : Addr} {fd : FuncData} (F : Fun K "_law_is" "_law_is" st_law_is f fd) (T : Tx K mg C_Web)  : FnOkG P w K mg base (k + 2) f fd ["_law_told", "_law_due"] (toSp K S_law_is) :=
  fun_okG (k := k + 1) F sc_law_is (fun ws G Q h => by first | (repeat (first | (obtain ⟨rfl, _⟩ := h; rfl) | obtain ⟨_, h⟩ := h))) (fun cdv A outer s H E hgd hr => wk_law_is T  f cdv A outer s H E hgd hr) v_law_is
theorem ok_law_web_reads {f : Addr} {fd : FuncData} (F : Fun K "_law_web_reads" "_law_web_reads" st_law_web_reads f fd) (T : Tx K mg C_Web) (F_law_draw : Cal P w K mg base (k + 1) "_law_draw" S_law_draw) : FnOk P w K mg base CX0 (k + 2) f fd ["_law_pool_here", "_law_most"] (toSp K S_law_web_reads) :=
  fun_ok (k := k + 1) F sc_law_web_reads (fun ws G Q h => by first | (repeat (first | (obtain ⟨rfl, _⟩ := h; rfl) | obtain ⟨_, h⟩ := h))) (fun cdv A outer s H E hr => wk_law_web_reads T F_law_draw f cdv A outer s H E hr) v_law_web_reads
theorem ok_law_counts {f : Addr} {fd : FuncData} (F : Fun K "_law_counts" "_law_counts" st_law_counts f fd) (T : Tx K mg C_Web)  : FnOk P w K mg base CX0 (k + 2) f fd ["_law_many"] (toSp K S_law_counts) :=
  fun_ok (k := k + 1) F sc_law_counts (fun ws G Q h => by first | (repeat (first | (obtain ⟨rfl, _⟩ := h; rfl) | obtain ⟨_, h⟩ := h))) (fun cdv A outer s H E hr => wk_law_counts T  f cdv A outer s H E hr) v_law_counts
theorem ok_law_masks_of {f : Addr} {fd : FuncData} (F : Fun K "_law_masks_of" "_law_masks_of" st_law_masks_of f fd) (T : Tx K mg C_Web)  : FnOk P w K mg base CX0 (k + 2) f fd ["_law_reads"] (toSp K S_law_masks_of) :=
  fun_ok (k := k + 1) F sc_law_masks_of (fun ws G Q h => by first | (repeat (first | (obtain ⟨rfl, _⟩ := h; rfl) | obtain ⟨_, h⟩ := h))) (fun cdv A outer s H E hr => wk_law_masks_of T  f cdv A outer s H E hr) v_law_masks_of
theorem ok_law_moves_from {f : Addr} {fd : FuncData} (F : Fun K "_law_moves_from" "_law_moves_from" st_law_moves_from f fd) (T : Tx K mg C_Web)  : FnOk P w K mg base CX0 (k + 2) f fd ["_law_reads", "_law_masks", "_law_held", "_law_apart"] (toSp K S_law_moves_from) :=
  fun_ok (k := k + 1) F sc_law_moves_from (fun ws G Q h => by first | (repeat (first | (obtain ⟨rfl, _⟩ := h; rfl) | obtain ⟨_, h⟩ := h))) (fun cdv A outer s H E hr => wk_law_moves_from T  f cdv A outer s H E hr) v_law_moves_from
theorem ok_law_fewest {f : Addr} {fd : FuncData} (F : Fun K "_law_fewest" "_law_fewest" st_law_fewest f fd) (T : Tx K mg C_Web) (F_law_masks_of : Cal P w K mg base (k + 1) "_law_masks_of" S_law_masks_of) (F_law_counts : Cal P w K mg base (k + 1) "_law_counts" S_law_counts) (F_law_moves_from : Cal P w K mg base (k + 1) "_law_moves_from" S_law_moves_from) : FnOk P w K mg base CX0 (k + 2) f fd ["_law_reads", "_law_rooms", "_law_apart", "_law_begun"] (toSp K S_law_fewest) :=
  fun_ok (k := k + 1) F sc_law_fewest (fun ws G Q h => by first | (repeat (first | (obtain ⟨rfl, _⟩ := h; rfl) | obtain ⟨_, h⟩ := h))) (fun cdv A outer s H E hr => wk_law_fewest T F_law_masks_of F_law_counts F_law_moves_from f cdv A outer s H E hr) v_law_fewest
theorem ok_law_least {f : Addr} {fd : FuncData} (F : Fun K "_law_least" "_law_least" st_law_least f fd) (T : Tx K mg C_Web) (F_law_fewest : Cal P w K mg base (k + 1) "_law_fewest" S_law_fewest) : FnOk P w K mg base CX0 (k + 2) f fd ["_law_reads", "_law_apart"] (toSp K S_law_least) :=
  fun_ok (k := k + 1) F sc_law_least (fun ws G Q h => by first | (repeat (first | (obtain ⟨rfl, _⟩ := h; rfl) | obtain ⟨_, h⟩ := h))) (fun cdv A outer s H E hr => wk_law_least T F_law_fewest f cdv A outer s H E hr) v_law_least
theorem ok_law {f : Addr} {fd : FuncData} (F : Fun K "law" "law" st_law f fd) (T : Tx K mg C_Web) (F_law_pool : Cal P w K mg base (k + 1) "_law_pool" S_law_pool) (F_law_web_reads : Cal P w K mg base (k + 1) "_law_web_reads" S_law_web_reads) (F_law_draw : Cal P w K mg base (k + 1) "_law_draw" S_law_draw) (F_law_least : Cal P w K mg base (k + 1) "_law_least" S_law_least) (F_law_is : CalG P w K mg base (k + 1) "_law_is" S_law_is) (F_least_any : Cal P w K mg base (k + 1) "least_any" (S_least_any C_Web)) (M_Web : Mak P w K mg base k "Web" C_Web (S_Web_init C_Web)) (N_Web_eq : Met P w K mg base k C_Web "__eq__" (S_Web_eq C_Web)) : FnOkG P w K mg base (k + 2) f fd ["_law_script"] (toSp K spL) :=
  fun_okG (k := k + 1) F sc_law (fun ws G Q h => by first | (repeat (first | (obtain ⟨rfl, _⟩ := h; rfl) | obtain ⟨_, h⟩ := h))) (fun cdv A outer s H E hgd hr => wk_law T F_law_pool F_law_web_reads F_law_draw F_law_least F_law_is F_least_any M_Web N_Web_eq f cdv A outer s H E hgd hr) v_law
theorem ok_Web_init {f : Addr} {fd : FuncData} (F : Fun K "__init__" "Web.__init__" st_Web_init f fd) (T : Tx K mg C_Web) (F_is_sized : Cal P w K mg base (k + 1) "is_sized" S_is_sized) (F_is_lot : Cal P w K mg base (k + 1) "is_lot" S_is_lot) : FnOk P w K mg base CX0 (k + 2) f fd ["self", "reads"] (toSp K (S_Web_init C_Web)) :=
  fun_ok (k := k + 1) F sc_Web_init (fun ws G Q h => by first | (repeat (first | (obtain ⟨rfl, _⟩ := h; rfl) | obtain ⟨_, h⟩ := h))) (fun cdv A outer s H E hr => wk_Web_init T F_is_sized F_is_lot f cdv A outer s H E hr) v_Web_init
theorem ok_Web_eq {f : Addr} {fd : FuncData} (F : Fun K "__eq__" "Web.__eq__" st_Web_eq f fd) (T : Tx K mg C_Web)  : FnOk P w K mg base CX0 (k + 2) f fd ["self", "other"] (toSp K (S_Web_eq C_Web)) :=
  fun_ok (k := k + 1) F sc_Web_eq (fun ws G Q h => by first | (repeat (first | (obtain ⟨rfl, _⟩ := h; rfl) | obtain ⟨_, h⟩ := h))) (fun cdv A outer s H E hr => wk_Web_eq T  f cdv A outer s H E hr) v_Web_eq
end
/-- what the top has written, and what follows of it -/
theorem all_mk {l : PySem.W.OpenLaw} {w : World} {K : PySem.W.Frag} {h : Heap} {mg : Str → Option Value} {fa C_Web f_is_integer f_is_within f_are_within f_is_lot f_is_sized f_may_be_made f_behind_move f_moves_from f_shortest_making f_moves_to f_least_rooms f_least_any f_law_pool f_law_draw f_law_is f_law_web_reads f_law_counts f_law_masks_of f_law_moves_from f_law_fewest f_law_least f_law f_Web_init f_Web_eq : Addr} (X : K.In h) (G : h.Ns mainGlobals mg) (hfa : mg "law" = some (.ref fa))
    {od0 an0 : Option Addr} {sl0 : Array (Option Value)} {oc0 kV0 dc0 pm0 cd0 ct0 : Value} {od1 an1 : Option Addr} {sl1 : Array (Option Value)} {oc1 kV1 dc1 pm1 cd1 ct1 : Value} {od2 an2 : Option Addr} {sl2 : Array (Option Value)} {oc2 kV2 dc2 pm2 cd2 ct2 : Value} {od3 an3 : Option Addr} {sl3 : Array (Option Value)} {oc3 kV3 dc3 pm3 cd3 ct3 : Value} {od4 an4 : Option Addr} {sl4 : Array (Option Value)} {oc4 kV4 dc4 pm4 cd4 ct4 : Value} {od5 an5 : Option Addr} {sl5 : Array (Option Value)} {oc5 kV5 dc5 pm5 cd5 ct5 : Value} {od6 an6 : Option Addr} {sl6 : Array (Option Value)} {oc6 kV6 dc6 pm6 cd6 ct6 : Value} {od7 an7 : Option Addr} {sl7 : Array (Option Value)} {oc7 kV7 dc7 pm7 cd7 ct7 : Value} {od8 an8 : Option Addr} {sl8 : Array (Option Value)} {oc8 kV8 dc8 pm8 cd8 ct8 : Value} {od9 an9 : Option Addr} {sl9 : Array (Option Value)} {oc9 kV9 dc9 pm9 cd9 ct9 : Value} {od10 an10 : Option Addr} {sl10 : Array (Option Value)} {oc10 kV10 dc10 pm10 cd10 ct10 : Value} {od11 an11 : Option Addr} {sl11 : Array (Option Value)} {oc11 kV11 dc11 pm11 cd11 ct11 : Value} {od12 an12 : Option Addr} {sl12 : Array (Option Value)} {oc12 kV12 dc12 pm12 cd12 ct12 : Value} {od13 an13 : Option Addr} {sl13 : Array (Option Value)} {oc13 kV13 dc13 pm13 cd13 ct13 : Value} {od14 an14 : Option Addr} {sl14 : Array (Option Value)} {oc14 kV14 dc14 pm14 cd14 ct14 : Value} {od15 an15 : Option Addr} {sl15 : Array (Option Value)} {oc15 kV15 dc15 pm15 cd15 ct15 : Value} {od16 an16 : Option Addr} {sl16 : Array (Option Value)} {oc16 kV16 dc16 pm16 cd16 ct16 : Value} {od17 an17 : Option Addr} {sl17 : Array (Option Value)} {oc17 kV17 dc17 pm17 cd17 ct17 : Value} {od18 an18 : Option Addr} {sl18 : Array (Option Value)} {oc18 kV18 dc18 pm18 cd18 ct18 : Value} {od19 an19 : Option Addr} {sl19 : Array (Option Value)} {oc19 kV19 dc19 pm19 cd19 ct19 : Value} {od20 an20 : Option Addr} {sl20 : Array (Option Value)} {oc20 kV20 dc20 pm20 cd20 ct20 : Value} {od21 an21 : Option Addr} {sl21 : Array (Option Value)} {oc21 kV21 dc21 pm21 cd21 ct21 : Value} {od22 an22 : Option Addr} {sl22 : Array (Option Value)} {oc22 kV22 dc22 pm22 cd22 ct22 : Value} {od23 an23 : Option Addr} {sl23 : Array (Option Value)} {oc23 kV23 dc23 pm23 cd23 ct23 : Value} {tc_MOST_THINGS : Nat}
    (aC_Web : PySem.W.nsIn K mainGlobals "Web" = some (some (.ref C_Web)))
    (pg_Web : PySem.W.plainGet K C_Web Str.empty = true)
    (hd_Web : PySem.W.hasDictIn K C_Web = true)
    (po_Web : PySem.W.plainOver K C_Web = true)
    (sa_Web : PySem.W.findIn K (.ref C_Web) "__setattr__" = some (some (.builtin "object.__setattr__")))
    (mk_Web : PySem.W.makesIn K C_Web = true)
    (kc_Web : PySem.W.keepIn K (.ref C_Web) = true)
    (a_is_integer : PySem.W.nsIn K mainGlobals "is_integer" = some (some (.ref f_is_integer)))
    (l_is_integer : K.lookup f_is_integer = some ⟨oc0, od0, .func (PySem.W.fnOf "is_integer" "is_integer" (defArgs st_is_integer) (defBody st_is_integer) (defScope st_is_integer) .none kV0 dc0 pm0 an0 cd0 ct0), sl0⟩)
    (c_is_integer : PySem.W.codeIn K cd0 "is_integer" = true)
    (k_is_integer : PySem.W.keepIn K (.ref f_is_integer) = true)
    (a_is_within : PySem.W.nsIn K mainGlobals "is_within" = some (some (.ref f_is_within)))
    (l_is_within : K.lookup f_is_within = some ⟨oc1, od1, .func (PySem.W.fnOf "is_within" "is_within" (defArgs st_is_within) (defBody st_is_within) (defScope st_is_within) .none kV1 dc1 pm1 an1 cd1 ct1), sl1⟩)
    (c_is_within : PySem.W.codeIn K cd1 "is_within" = true)
    (k_is_within : PySem.W.keepIn K (.ref f_is_within) = true)
    (a_are_within : PySem.W.nsIn K mainGlobals "are_within" = some (some (.ref f_are_within)))
    (l_are_within : K.lookup f_are_within = some ⟨oc2, od2, .func (PySem.W.fnOf "are_within" "are_within" (defArgs st_are_within) (defBody st_are_within) (defScope st_are_within) .none kV2 dc2 pm2 an2 cd2 ct2), sl2⟩)
    (c_are_within : PySem.W.codeIn K cd2 "are_within" = true)
    (k_are_within : PySem.W.keepIn K (.ref f_are_within) = true)
    (a_is_lot : PySem.W.nsIn K mainGlobals "is_lot" = some (some (.ref f_is_lot)))
    (l_is_lot : K.lookup f_is_lot = some ⟨oc3, od3, .func (PySem.W.fnOf "is_lot" "is_lot" (defArgs st_is_lot) (defBody st_is_lot) (defScope st_is_lot) .none kV3 dc3 pm3 an3 cd3 ct3), sl3⟩)
    (c_is_lot : PySem.W.codeIn K cd3 "is_lot" = true)
    (k_is_lot : PySem.W.keepIn K (.ref f_is_lot) = true)
    (a_is_sized : PySem.W.nsIn K mainGlobals "is_sized" = some (some (.ref f_is_sized)))
    (l_is_sized : K.lookup f_is_sized = some ⟨oc4, od4, .func (PySem.W.fnOf "is_sized" "is_sized" (defArgs st_is_sized) (defBody st_is_sized) (defScope st_is_sized) .none kV4 dc4 pm4 an4 cd4 ct4), sl4⟩)
    (c_is_sized : PySem.W.codeIn K cd4 "is_sized" = true)
    (k_is_sized : PySem.W.keepIn K (.ref f_is_sized) = true)
    (a_may_be_made : PySem.W.nsIn K mainGlobals "may_be_made" = some (some (.ref f_may_be_made)))
    (l_may_be_made : K.lookup f_may_be_made = some ⟨oc5, od5, .func (PySem.W.fnOf "may_be_made" "may_be_made" (defArgs st_may_be_made) (defBody st_may_be_made) (defScope st_may_be_made) .none kV5 dc5 pm5 an5 cd5 ct5), sl5⟩)
    (c_may_be_made : PySem.W.codeIn K cd5 "may_be_made" = true)
    (k_may_be_made : PySem.W.keepIn K (.ref f_may_be_made) = true)
    (a_behind_move : PySem.W.nsIn K mainGlobals "behind_move" = some (some (.ref f_behind_move)))
    (l_behind_move : K.lookup f_behind_move = some ⟨oc6, od6, .func (PySem.W.fnOf "behind_move" "behind_move" (defArgs st_behind_move) (defBody st_behind_move) (defScope st_behind_move) .none kV6 dc6 pm6 an6 cd6 ct6), sl6⟩)
    (c_behind_move : PySem.W.codeIn K cd6 "behind_move" = true)
    (k_behind_move : PySem.W.keepIn K (.ref f_behind_move) = true)
    (a_moves_from : PySem.W.nsIn K mainGlobals "moves_from" = some (some (.ref f_moves_from)))
    (l_moves_from : K.lookup f_moves_from = some ⟨oc7, od7, .func (PySem.W.fnOf "moves_from" "moves_from" (defArgs st_moves_from) (defBody st_moves_from) (defScope st_moves_from) .none kV7 dc7 pm7 an7 cd7 ct7), sl7⟩)
    (c_moves_from : PySem.W.codeIn K cd7 "moves_from" = true)
    (k_moves_from : PySem.W.keepIn K (.ref f_moves_from) = true)
    (a_shortest_making : PySem.W.nsIn K mainGlobals "shortest_making" = some (some (.ref f_shortest_making)))
    (l_shortest_making : K.lookup f_shortest_making = some ⟨oc8, od8, .func (PySem.W.fnOf "shortest_making" "shortest_making" (defArgs st_shortest_making) (defBody st_shortest_making) (defScope st_shortest_making) .none kV8 dc8 pm8 an8 cd8 ct8), sl8⟩)
    (c_shortest_making : PySem.W.codeIn K cd8 "shortest_making" = true)
    (k_shortest_making : PySem.W.keepIn K (.ref f_shortest_making) = true)
    (a_moves_to : PySem.W.nsIn K mainGlobals "moves_to" = some (some (.ref f_moves_to)))
    (l_moves_to : K.lookup f_moves_to = some ⟨oc9, od9, .func (PySem.W.fnOf "moves_to" "moves_to" (defArgs st_moves_to) (defBody st_moves_to) (defScope st_moves_to) .none kV9 dc9 pm9 an9 cd9 ct9), sl9⟩)
    (c_moves_to : PySem.W.codeIn K cd9 "moves_to" = true)
    (k_moves_to : PySem.W.keepIn K (.ref f_moves_to) = true)
    (a_least_rooms : PySem.W.nsIn K mainGlobals "least_rooms" = some (some (.ref f_least_rooms)))
    (l_least_rooms : K.lookup f_least_rooms = some ⟨oc10, od10, .func (PySem.W.fnOf "least_rooms" "least_rooms" (defArgs st_least_rooms) (defBody st_least_rooms) (defScope st_least_rooms) .none kV10 dc10 pm10 an10 cd10 ct10), sl10⟩)
    (c_least_rooms : PySem.W.codeIn K cd10 "least_rooms" = true)
    (k_least_rooms : PySem.W.keepIn K (.ref f_least_rooms) = true)
    (a_least_any : PySem.W.nsIn K mainGlobals "least_any" = some (some (.ref f_least_any)))
    (l_least_any : K.lookup f_least_any = some ⟨oc11, od11, .func (PySem.W.fnOf "least_any" "least_any" (defArgs st_least_any) (defBody st_least_any) (defScope st_least_any) .none kV11 dc11 pm11 an11 cd11 ct11), sl11⟩)
    (c_least_any : PySem.W.codeIn K cd11 "least_any" = true)
    (k_least_any : PySem.W.keepIn K (.ref f_least_any) = true)
    (a_law_pool : PySem.W.nsIn K mainGlobals "_law_pool" = some (some (.ref f_law_pool)))
    (l_law_pool : K.lookup f_law_pool = some ⟨oc12, od12, .func (PySem.W.fnOf "_law_pool" "_law_pool" (defArgs st_law_pool) (defBody st_law_pool) (defScope st_law_pool) .none kV12 dc12 pm12 an12 cd12 ct12), sl12⟩)
    (c_law_pool : PySem.W.codeIn K cd12 "_law_pool" = true)
    (k_law_pool : PySem.W.keepIn K (.ref f_law_pool) = true)
    (a_law_draw : PySem.W.nsIn K mainGlobals "_law_draw" = some (some (.ref f_law_draw)))
    (l_law_draw : K.lookup f_law_draw = some ⟨oc13, od13, .func (PySem.W.fnOf "_law_draw" "_law_draw" (defArgs st_law_draw) (defBody st_law_draw) (defScope st_law_draw) .none kV13 dc13 pm13 an13 cd13 ct13), sl13⟩)
    (c_law_draw : PySem.W.codeIn K cd13 "_law_draw" = true)
    (k_law_draw : PySem.W.keepIn K (.ref f_law_draw) = true)
    (a_law_is : PySem.W.nsIn K mainGlobals "_law_is" = some (some (.ref f_law_is)))
    (l_law_is : K.lookup f_law_is = some ⟨oc14, od14, .func (PySem.W.fnOf "_law_is" "_law_is" (defArgs st_law_is) (defBody st_law_is) (defScope st_law_is) .none kV14 dc14 pm14 an14 cd14 ct14), sl14⟩)
    (c_law_is : PySem.W.codeIn K cd14 "_law_is" = true)
    (k_law_is : PySem.W.keepIn K (.ref f_law_is) = true)
    (a_law_web_reads : PySem.W.nsIn K mainGlobals "_law_web_reads" = some (some (.ref f_law_web_reads)))
    (l_law_web_reads : K.lookup f_law_web_reads = some ⟨oc15, od15, .func (PySem.W.fnOf "_law_web_reads" "_law_web_reads" (defArgs st_law_web_reads) (defBody st_law_web_reads) (defScope st_law_web_reads) .none kV15 dc15 pm15 an15 cd15 ct15), sl15⟩)
    (c_law_web_reads : PySem.W.codeIn K cd15 "_law_web_reads" = true)
    (k_law_web_reads : PySem.W.keepIn K (.ref f_law_web_reads) = true)
    (a_law_counts : PySem.W.nsIn K mainGlobals "_law_counts" = some (some (.ref f_law_counts)))
    (l_law_counts : K.lookup f_law_counts = some ⟨oc16, od16, .func (PySem.W.fnOf "_law_counts" "_law_counts" (defArgs st_law_counts) (defBody st_law_counts) (defScope st_law_counts) .none kV16 dc16 pm16 an16 cd16 ct16), sl16⟩)
    (c_law_counts : PySem.W.codeIn K cd16 "_law_counts" = true)
    (k_law_counts : PySem.W.keepIn K (.ref f_law_counts) = true)
    (a_law_masks_of : PySem.W.nsIn K mainGlobals "_law_masks_of" = some (some (.ref f_law_masks_of)))
    (l_law_masks_of : K.lookup f_law_masks_of = some ⟨oc17, od17, .func (PySem.W.fnOf "_law_masks_of" "_law_masks_of" (defArgs st_law_masks_of) (defBody st_law_masks_of) (defScope st_law_masks_of) .none kV17 dc17 pm17 an17 cd17 ct17), sl17⟩)
    (c_law_masks_of : PySem.W.codeIn K cd17 "_law_masks_of" = true)
    (k_law_masks_of : PySem.W.keepIn K (.ref f_law_masks_of) = true)
    (a_law_moves_from : PySem.W.nsIn K mainGlobals "_law_moves_from" = some (some (.ref f_law_moves_from)))
    (l_law_moves_from : K.lookup f_law_moves_from = some ⟨oc18, od18, .func (PySem.W.fnOf "_law_moves_from" "_law_moves_from" (defArgs st_law_moves_from) (defBody st_law_moves_from) (defScope st_law_moves_from) .none kV18 dc18 pm18 an18 cd18 ct18), sl18⟩)
    (c_law_moves_from : PySem.W.codeIn K cd18 "_law_moves_from" = true)
    (k_law_moves_from : PySem.W.keepIn K (.ref f_law_moves_from) = true)
    (a_law_fewest : PySem.W.nsIn K mainGlobals "_law_fewest" = some (some (.ref f_law_fewest)))
    (l_law_fewest : K.lookup f_law_fewest = some ⟨oc19, od19, .func (PySem.W.fnOf "_law_fewest" "_law_fewest" (defArgs st_law_fewest) (defBody st_law_fewest) (defScope st_law_fewest) .none kV19 dc19 pm19 an19 cd19 ct19), sl19⟩)
    (c_law_fewest : PySem.W.codeIn K cd19 "_law_fewest" = true)
    (k_law_fewest : PySem.W.keepIn K (.ref f_law_fewest) = true)
    (a_law_least : PySem.W.nsIn K mainGlobals "_law_least" = some (some (.ref f_law_least)))
    (l_law_least : K.lookup f_law_least = some ⟨oc20, od20, .func (PySem.W.fnOf "_law_least" "_law_least" (defArgs st_law_least) (defBody st_law_least) (defScope st_law_least) .none kV20 dc20 pm20 an20 cd20 ct20), sl20⟩)
    (c_law_least : PySem.W.codeIn K cd20 "_law_least" = true)
    (k_law_least : PySem.W.keepIn K (.ref f_law_least) = true)
    (a_law : PySem.W.nsIn K mainGlobals "law" = some (some (.ref f_law)))
    (l_law : K.lookup f_law = some ⟨oc21, od21, .func (PySem.W.fnOf "law" "law" (defArgs st_law) (defBody st_law) (defScope st_law) .none kV21 dc21 pm21 an21 cd21 ct21), sl21⟩)
    (c_law : PySem.W.codeIn K cd21 "law" = true)
    (k_law : PySem.W.keepIn K (.ref f_law) = true)
    (a_Web_init : PySem.W.findIn K (.ref C_Web) "__init__" = some (some (.ref f_Web_init)))
    (i_Web_init : PySem.W.isFn K (.ref f_Web_init) = true)
    (l_Web_init : K.lookup f_Web_init = some ⟨oc22, od22, .func (PySem.W.fnOf "__init__" "Web.__init__" (defArgs st_Web_init) (defBody st_Web_init) (defScope st_Web_init) .none kV22 dc22 pm22 an22 cd22 ct22), sl22⟩)
    (c_Web_init : PySem.W.codeIn K cd22 "Web.__init__" = true)
    (k_Web_init : PySem.W.keepIn K (.ref f_Web_init) = true)
    (a_Web_eq : PySem.W.findIn K (.ref C_Web) "__eq__" = some (some (.ref f_Web_eq)))
    (i_Web_eq : PySem.W.isFn K (.ref f_Web_eq) = true)
    (l_Web_eq : K.lookup f_Web_eq = some ⟨oc23, od23, .func (PySem.W.fnOf "__eq__" "Web.__eq__" (defArgs st_Web_eq) (defBody st_Web_eq) (defScope st_Web_eq) .none kV23 dc23 pm23 an23 cd23 ct23), sl23⟩)
    (c_Web_eq : PySem.W.codeIn K cd23 "Web.__eq__" = true)
    (k_Web_eq : PySem.W.keepIn K (.ref f_Web_eq) = true)
    (zn_abs : PySem.W.nsIn K mainGlobals "abs" = some none)
    (zn_all : PySem.W.nsIn K mainGlobals "all" = some none)
    (zn_bool : PySem.W.nsIn K mainGlobals "bool" = some none)
    (zn_enumerate : PySem.W.nsIn K mainGlobals "enumerate" = some none)
    (zn_int : PySem.W.nsIn K mainGlobals "int" = some none)
    (zn_isinstance : PySem.W.nsIn K mainGlobals "isinstance" = some none)
    (zn_len : PySem.W.nsIn K mainGlobals "len" = some none)
    (zn_list : PySem.W.nsIn K mainGlobals "list" = some none)
    (zn_range : PySem.W.nsIn K mainGlobals "range" = some none)
    (zn_repr : PySem.W.nsIn K mainGlobals "repr" = some none)
    (zn_set : PySem.W.nsIn K mainGlobals "set" = some none)
    (zn_sorted : PySem.W.nsIn K mainGlobals "sorted" = some none)
    (zn_sum : PySem.W.nsIn K mainGlobals "sum" = some none)
    (zn_tuple : PySem.W.nsIn K mainGlobals "tuple" = some none)
    (zc_MOST_THINGS : PySem.W.nsIn K mainGlobals "MOST_THINGS" = some (some (.int 10 tc_MOST_THINGS)))
    (za_Web_reads : PySem.W.findIn K (.ref C_Web) "reads" = some none)
    (zne_Web : PySem.W.findIn K (.ref C_Web) "__ne__" = some (some (.builtin "object.__ne__")))
    (znb_Web : PySem.W.mroIn K C_Web (.type "object") = some true)
    (zb_Web_NoneType : PySem.W.kitOne K (.type "NoneType") (.ref C_Web) = some false)
    (zb_Web_bool : PySem.W.kitOne K (.type "bool") (.ref C_Web) = some false)
    (zb_Web_int : PySem.W.kitOne K (.type "int") (.ref C_Web) = some false)
    (zb_Web_str : PySem.W.kitOne K (.type "str") (.ref C_Web) = some false)
    (zb_Web_tuple : PySem.W.kitOne K (.type "tuple") (.ref C_Web) = some false)
    (zb_Web_list : PySem.W.kitOne K (.type "list") (.ref C_Web) = some false)
    (zb_Web_dict : PySem.W.kitOne K (.type "dict") (.ref C_Web) = some false)
    (zca_Web : PySem.W.findIn K (.ref C_Web) "__class__" = some (some (.builtin "object.__class__")))
    (zcm_Web : PySem.W.mroIn K C_Web (.type "object") = some true)
    (zco_Web : PySem.W.kitOne K (.ref C_Web) (.ref C_Web) = some true)
    (zhn : PySem.W.specialIn K (.builtin "object.__class__") "__get__" = some (some (.builtin "getset_descriptor.__get__")))
    (zhtk : PySem.W.takesIn K (.builtin "object.__class__") = some true)
    : ∃ fd : FuncData, (∀ (s : Shared) (v : Value), BindsTo s fd ⟨[v], []⟩ [("_law_script", v)]) ∧ ∀ base : Heap, K.In base → base.Ns mainGlobals mg → FnOkG l.prog w K mg base 8 fa fd ["_law_script"] (toSp K spL) := by
  have e := hfa.symm.trans (PySem.W.mg_of X G a_law)
  cases e
  have ic_Web : C8.InsC K C_Web := ⟨⟨pg_Web, hd_Web, po_Web, sa_Web⟩, zca_Web, zhn, zhtk, zcm_Web, zco_Web⟩
  have T : Tx K mg C_Web := { n_abs := PySem.W.mg_none_of X G zn_abs, n_all := PySem.W.mg_none_of X G zn_all, n_bool := PySem.W.mg_none_of X G zn_bool, n_enumerate := PySem.W.mg_none_of X G zn_enumerate, n_int := PySem.W.mg_none_of X G zn_int, n_isinstance := PySem.W.mg_none_of X G zn_isinstance, n_len := PySem.W.mg_none_of X G zn_len, n_list := PySem.W.mg_none_of X G zn_list, n_range := PySem.W.mg_none_of X G zn_range, n_repr := PySem.W.mg_none_of X G zn_repr, n_set := PySem.W.mg_none_of X G zn_set, n_sorted := PySem.W.mg_none_of X G zn_sorted, n_sum := PySem.W.mg_none_of X G zn_sum, n_tuple := PySem.W.mg_none_of X G zn_tuple, c_MOST_THINGS := ⟨_, PySem.W.mg_of X G zc_MOST_THINGS⟩, k_Web := ⟨pg_Web, hd_Web, po_Web, sa_Web⟩, a_Web_reads := za_Web_reads, ne_Web := ⟨zne_Web, znb_Web⟩, i_Web := ⟨ic_Web, blt_of zb_Web_NoneType zb_Web_bool zb_Web_int zb_Web_str zb_Web_tuple zb_Web_list zb_Web_dict⟩, m_Web := PySem.W.mg_of X G aC_Web }
  have U_is_integer := fun_mk (st := st_is_integer) l_is_integer c_is_integer k_is_integer
  have b_is_integer := U_is_integer.binds (ps := ["thing"]) fun _ _ _ _ _ _ us hl => match us, hl with | [_], _ => rfl
  have U_is_within := fun_mk (st := st_is_within) l_is_within c_is_within k_is_within
  have b_is_within := U_is_within.binds (ps := ["thing", "least", "most"]) fun _ _ _ _ _ _ us hl => match us, hl with | [_, _, _], _ => rfl
  have U_are_within := fun_mk (st := st_are_within) l_are_within c_are_within k_are_within
  have b_are_within := U_are_within.binds (ps := ["thing", "least", "most"]) fun _ _ _ _ _ _ us hl => match us, hl with | [_, _, _], _ => rfl
  have U_is_lot := fun_mk (st := st_is_lot) l_is_lot c_is_lot k_is_lot
  have b_is_lot := U_is_lot.binds (ps := ["thing", "below"]) fun _ _ _ _ _ _ us hl => match us, hl with | [_, _], _ => rfl
  have U_is_sized := fun_mk (st := st_is_sized) l_is_sized c_is_sized k_is_sized
  have b_is_sized := U_is_sized.binds (ps := ["thing", "least", "most"]) fun _ _ _ _ _ _ us hl => match us, hl with | [_, _, _], _ => rfl
  have U_may_be_made := fun_mk (st := st_may_be_made) l_may_be_made c_may_be_made k_may_be_made
  have b_may_be_made := U_may_be_made.binds (ps := ["web", "here", "thing"]) fun _ _ _ _ _ _ us hl => match us, hl with | [_, _, _], _ => rfl
  have U_behind_move := fun_mk (st := st_behind_move) l_behind_move c_behind_move k_behind_move
  have b_behind_move := U_behind_move.binds (ps := ["web", "here", "move"]) fun _ _ _ _ _ _ us hl => match us, hl with | [_, _, _], _ => rfl
  have U_moves_from := fun_mk (st := st_moves_from) l_moves_from c_moves_from k_moves_from
  have b_moves_from := U_moves_from.binds (ps := ["web", "here", "rooms", "apart"]) fun _ _ _ _ _ _ us hl => match us, hl with | [_, _, _, _], _ => rfl
  have U_shortest_making := fun_mk (st := st_shortest_making) l_shortest_making c_shortest_making k_shortest_making
  have b_shortest_making := U_shortest_making.binds (ps := ["web", "rooms", "apart"]) fun _ _ _ _ _ _ us hl => match us, hl with | [_, _, _], _ => rfl
  have U_moves_to := fun_mk (st := st_moves_to) l_moves_to c_moves_to k_moves_to
  have b_moves_to := U_moves_to.binds (ps := ["ways", "here"]) fun _ _ _ _ _ _ us hl => match us, hl with | [_, _], _ => rfl
  have U_least_rooms := fun_mk (st := st_least_rooms) l_least_rooms c_least_rooms k_least_rooms
  have b_least_rooms := U_least_rooms.binds (ps := ["web", "apart"]) fun _ _ _ _ _ _ us hl => match us, hl with | [_, _], _ => rfl
  have U_least_any := fun_mk (st := st_least_any) l_least_any c_least_any k_least_any
  have b_least_any := U_least_any.binds (ps := ["web"]) fun _ _ _ _ _ _ us hl => match us, hl with | [_], _ => rfl
  have U_law_pool := fun_mk (st := st_law_pool) l_law_pool c_law_pool k_law_pool
  have b_law_pool := U_law_pool.binds (ps := ["_law_script"]) fun _ _ _ _ _ _ us hl => match us, hl with | [_], _ => rfl
  have U_law_draw := fun_mk (st := st_law_draw) l_law_draw c_law_draw k_law_draw
  have b_law_draw := U_law_draw.binds (ps := ["_law_pool_here", "_law_many"]) fun _ _ _ _ _ _ us hl => match us, hl with | [_, _], _ => rfl
  have U_law_is := fun_mk (st := st_law_is) l_law_is c_law_is k_law_is
  have b_law_is := U_law_is.binds (ps := ["_law_told", "_law_due"]) fun _ _ _ _ _ _ us hl => match us, hl with | [_, _], _ => rfl
  have U_law_web_reads := fun_mk (st := st_law_web_reads) l_law_web_reads c_law_web_reads k_law_web_reads
  have b_law_web_reads := U_law_web_reads.binds (ps := ["_law_pool_here", "_law_most"]) fun _ _ _ _ _ _ us hl => match us, hl with | [_, _], _ => rfl
  have U_law_counts := fun_mk (st := st_law_counts) l_law_counts c_law_counts k_law_counts
  have b_law_counts := U_law_counts.binds (ps := ["_law_many"]) fun _ _ _ _ _ _ us hl => match us, hl with | [_], _ => rfl
  have U_law_masks_of := fun_mk (st := st_law_masks_of) l_law_masks_of c_law_masks_of k_law_masks_of
  have b_law_masks_of := U_law_masks_of.binds (ps := ["_law_reads"]) fun _ _ _ _ _ _ us hl => match us, hl with | [_], _ => rfl
  have U_law_moves_from := fun_mk (st := st_law_moves_from) l_law_moves_from c_law_moves_from k_law_moves_from
  have b_law_moves_from := U_law_moves_from.binds (ps := ["_law_reads", "_law_masks", "_law_held", "_law_apart"]) fun _ _ _ _ _ _ us hl => match us, hl with | [_, _, _, _], _ => rfl
  have U_law_fewest := fun_mk (st := st_law_fewest) l_law_fewest c_law_fewest k_law_fewest
  have b_law_fewest := U_law_fewest.binds (ps := ["_law_reads", "_law_rooms", "_law_apart", "_law_begun"]) fun _ _ _ _ _ _ us hl => match us, hl with | [_, _, _, _], _ => rfl
  have U_law_least := fun_mk (st := st_law_least) l_law_least c_law_least k_law_least
  have b_law_least := U_law_least.binds (ps := ["_law_reads", "_law_apart"]) fun _ _ _ _ _ _ us hl => match us, hl with | [_, _], _ => rfl
  have U_law := fun_mk (st := st_law) l_law c_law k_law
  have b_law := U_law.binds (ps := ["_law_script"]) fun _ _ _ _ _ _ us hl => match us, hl with | [_], _ => rfl
  have U_Web_init := fun_mk (st := st_Web_init) l_Web_init c_Web_init k_Web_init
  have b_Web_init := U_Web_init.binds (ps := ["self", "reads"]) fun _ _ _ _ _ _ us hl => match us, hl with | [_, _], _ => rfl
  have U_Web_eq := fun_mk (st := st_Web_eq) l_Web_eq c_Web_eq k_Web_eq
  have b_Web_eq := U_Web_eq.binds (ps := ["self", "other"]) fun _ _ _ _ _ _ us hl => match us, hl with | [_, _], _ => rfl
  refine ⟨PySem.W.fnOf "law" "law" (defArgs st_law) (defBody st_law) (defScope st_law) .none kV21 dc21 pm21 an21 cd21 ct21, fun s v => .of_eq rfl, fun base _ _ => ?_⟩
  have O_law_pool : FnOk l.prog w K mg base CX0 2 f_law_pool _ ["_law_script"] (toSp K S_law_pool) := ok_law_pool (k := 0) U_law_pool T 
  have K_law_pool : ∀ j, 2 ≤ j → Cal l.prog w K mg base j "_law_pool" S_law_pool := fun j hj => ⟨_, _, _, PySem.W.mg_of X G a_law_pool, k_law_pool, b_law_pool, O_law_pool.mono hj⟩
  have O_law_draw : FnOk l.prog w K mg base CX0 2 f_law_draw _ ["_law_pool_here", "_law_many"] (toSp K S_law_draw) := ok_law_draw (k := 0) U_law_draw T 
  have K_law_draw : ∀ j, 2 ≤ j → Cal l.prog w K mg base j "_law_draw" S_law_draw := fun j hj => ⟨_, _, _, PySem.W.mg_of X G a_law_draw, k_law_draw, b_law_draw, O_law_draw.mono hj⟩
  have O_law_web_reads : FnOk l.prog w K mg base CX0 3 f_law_web_reads _ ["_law_pool_here", "_law_most"] (toSp K S_law_web_reads) := ok_law_web_reads (k := 1) U_law_web_reads T (K_law_draw _ (by decide))
  have K_law_web_reads : ∀ j, 3 ≤ j → Cal l.prog w K mg base j "_law_web_reads" S_law_web_reads := fun j hj => ⟨_, _, _, PySem.W.mg_of X G a_law_web_reads, k_law_web_reads, b_law_web_reads, O_law_web_reads.mono hj⟩
  have O_law_masks_of : FnOk l.prog w K mg base CX0 2 f_law_masks_of _ ["_law_reads"] (toSp K S_law_masks_of) := ok_law_masks_of (k := 0) U_law_masks_of T 
  have K_law_masks_of : ∀ j, 2 ≤ j → Cal l.prog w K mg base j "_law_masks_of" S_law_masks_of := fun j hj => ⟨_, _, _, PySem.W.mg_of X G a_law_masks_of, k_law_masks_of, b_law_masks_of, O_law_masks_of.mono hj⟩
  have O_law_counts : FnOk l.prog w K mg base CX0 2 f_law_counts _ ["_law_many"] (toSp K S_law_counts) := ok_law_counts (k := 0) U_law_counts T 
  have K_law_counts : ∀ j, 2 ≤ j → Cal l.prog w K mg base j "_law_counts" S_law_counts := fun j hj => ⟨_, _, _, PySem.W.mg_of X G a_law_counts, k_law_counts, b_law_counts, O_law_counts.mono hj⟩
  have O_law_moves_from : FnOk l.prog w K mg base CX0 2 f_law_moves_from _ ["_law_reads", "_law_masks", "_law_held", "_law_apart"] (toSp K S_law_moves_from) := ok_law_moves_from (k := 0) U_law_moves_from T 
  have K_law_moves_from : ∀ j, 2 ≤ j → Cal l.prog w K mg base j "_law_moves_from" S_law_moves_from := fun j hj => ⟨_, _, _, PySem.W.mg_of X G a_law_moves_from, k_law_moves_from, b_law_moves_from, O_law_moves_from.mono hj⟩
  have O_law_fewest : FnOk l.prog w K mg base CX0 3 f_law_fewest _ ["_law_reads", "_law_rooms", "_law_apart", "_law_begun"] (toSp K S_law_fewest) := ok_law_fewest (k := 1) U_law_fewest T (K_law_masks_of _ (by decide)) (K_law_counts _ (by decide)) (K_law_moves_from _ (by decide))
  have K_law_fewest : ∀ j, 3 ≤ j → Cal l.prog w K mg base j "_law_fewest" S_law_fewest := fun j hj => ⟨_, _, _, PySem.W.mg_of X G a_law_fewest, k_law_fewest, b_law_fewest, O_law_fewest.mono hj⟩
  have O_law_least : FnOk l.prog w K mg base CX0 4 f_law_least _ ["_law_reads", "_law_apart"] (toSp K S_law_least) := ok_law_least (k := 2) U_law_least T (K_law_fewest _ (by decide))
  have K_law_least : ∀ j, 4 ≤ j → Cal l.prog w K mg base j "_law_least" S_law_least := fun j hj => ⟨_, _, _, PySem.W.mg_of X G a_law_least, k_law_least, b_law_least, O_law_least.mono hj⟩
  have O_law_is : FnOkG l.prog w K mg base 2 f_law_is _ ["_law_told", "_law_due"] (toSp K S_law_is) := ok_law_is (k := 0) U_law_is T 
  have K_law_is : ∀ j, 2 ≤ j → CalG l.prog w K mg base j "_law_is" S_law_is := fun j hj => ⟨_, _, _, PySem.W.mg_of X G a_law_is, k_law_is, b_law_is, O_law_is.mono hj⟩
  have O_moves_to : FnOk l.prog w K mg base CX0 2 f_moves_to _ ["ways", "here"] (toSp K S_moves_to) := ok_moves_to (k := 0) U_moves_to T 
  have K_moves_to : ∀ j, 2 ≤ j → Cal l.prog w K mg base j "moves_to" S_moves_to := fun j hj => ⟨_, _, _, PySem.W.mg_of X G a_moves_to, k_moves_to, b_moves_to, O_moves_to.mono hj⟩
  have O_may_be_made : FnOk l.prog w K mg base CX0 2 f_may_be_made _ ["web", "here", "thing"] (toSp K (S_may_be_made C_Web)) := ok_may_be_made (k := 0) U_may_be_made T 
  have K_may_be_made : ∀ j, 2 ≤ j → Cal l.prog w K mg base j "may_be_made" (S_may_be_made C_Web) := fun j hj => ⟨_, _, _, PySem.W.mg_of X G a_may_be_made, k_may_be_made, b_may_be_made, O_may_be_made.mono hj⟩
  have O_moves_from : FnOk l.prog w K mg base CX0 3 f_moves_from _ ["web", "here", "rooms", "apart"] (toSp K (S_moves_from C_Web)) := ok_moves_from (k := 1) U_moves_from T (K_may_be_made _ (by decide))
  have K_moves_from : ∀ j, 3 ≤ j → Cal l.prog w K mg base j "moves_from" (S_moves_from C_Web) := fun j hj => ⟨_, _, _, PySem.W.mg_of X G a_moves_from, k_moves_from, b_moves_from, O_moves_from.mono hj⟩
  have O_behind_move : FnOk l.prog w K mg base CX0 3 f_behind_move _ ["web", "here", "move"] (toSp K (S_behind_move C_Web)) := ok_behind_move (k := 1) U_behind_move T (K_may_be_made _ (by decide))
  have K_behind_move : ∀ j, 3 ≤ j → Cal l.prog w K mg base j "behind_move" (S_behind_move C_Web) := fun j hj => ⟨_, _, _, PySem.W.mg_of X G a_behind_move, k_behind_move, b_behind_move, O_behind_move.mono hj⟩
  have O_shortest_making : FnOk l.prog w K mg base CX0 4 f_shortest_making _ ["web", "rooms", "apart"] (toSp K (S_shortest_making C_Web)) := ok_shortest_making (k := 2) U_shortest_making T (K_moves_to _ (by decide)) (K_moves_from _ (by decide)) (K_behind_move _ (by decide))
  have K_shortest_making : ∀ j, 4 ≤ j → Cal l.prog w K mg base j "shortest_making" (S_shortest_making C_Web) := fun j hj => ⟨_, _, _, PySem.W.mg_of X G a_shortest_making, k_shortest_making, b_shortest_making, O_shortest_making.mono hj⟩
  have O_least_rooms : FnOk l.prog w K mg base CX0 5 f_least_rooms _ ["web", "apart"] (toSp K (S_least_rooms C_Web)) := ok_least_rooms (k := 3) U_least_rooms T (K_shortest_making _ (by decide))
  have K_least_rooms : ∀ j, 5 ≤ j → Cal l.prog w K mg base j "least_rooms" (S_least_rooms C_Web) := fun j hj => ⟨_, _, _, PySem.W.mg_of X G a_least_rooms, k_least_rooms, b_least_rooms, O_least_rooms.mono hj⟩
  have O_least_any : FnOk l.prog w K mg base CX0 6 f_least_any _ ["web"] (toSp K (S_least_any C_Web)) := ok_least_any (k := 4) U_least_any T (K_least_rooms _ (by decide))
  have K_least_any : ∀ j, 6 ≤ j → Cal l.prog w K mg base j "least_any" (S_least_any C_Web) := fun j hj => ⟨_, _, _, PySem.W.mg_of X G a_least_any, k_least_any, b_least_any, O_least_any.mono hj⟩
  have O_is_sized : FnOk l.prog w K mg base CX0 2 f_is_sized _ ["thing", "least", "most"] (toSp K S_is_sized) := ok_is_sized (k := 0) U_is_sized T 
  have K_is_sized : ∀ j, 2 ≤ j → Cal l.prog w K mg base j "is_sized" S_is_sized := fun j hj => ⟨_, _, _, PySem.W.mg_of X G a_is_sized, k_is_sized, b_is_sized, O_is_sized.mono hj⟩
  have O_is_integer : FnOk l.prog w K mg base CX0 2 f_is_integer _ ["thing"] (toSp K S_is_integer) := ok_is_integer (k := 0) U_is_integer T 
  have K_is_integer : ∀ j, 2 ≤ j → Cal l.prog w K mg base j "is_integer" S_is_integer := fun j hj => ⟨_, _, _, PySem.W.mg_of X G a_is_integer, k_is_integer, b_is_integer, O_is_integer.mono hj⟩
  have O_is_within : FnOk l.prog w K mg base CX0 3 f_is_within _ ["thing", "least", "most"] (toSp K S_is_within) := ok_is_within (k := 1) U_is_within T (K_is_integer _ (by decide))
  have K_is_within : ∀ j, 3 ≤ j → Cal l.prog w K mg base j "is_within" S_is_within := fun j hj => ⟨_, _, _, PySem.W.mg_of X G a_is_within, k_is_within, b_is_within, O_is_within.mono hj⟩
  have O_are_within : FnOk l.prog w K mg base CX0 4 f_are_within _ ["thing", "least", "most"] (toSp K S_are_within) := ok_are_within (k := 2) U_are_within T (K_is_within _ (by decide))
  have K_are_within : ∀ j, 4 ≤ j → Cal l.prog w K mg base j "are_within" S_are_within := fun j hj => ⟨_, _, _, PySem.W.mg_of X G a_are_within, k_are_within, b_are_within, O_are_within.mono hj⟩
  have O_is_lot : FnOk l.prog w K mg base CX0 5 f_is_lot _ ["thing", "below"] (toSp K S_is_lot) := ok_is_lot (k := 3) U_is_lot T (K_are_within _ (by decide))
  have K_is_lot : ∀ j, 5 ≤ j → Cal l.prog w K mg base j "is_lot" S_is_lot := fun j hj => ⟨_, _, _, PySem.W.mg_of X G a_is_lot, k_is_lot, b_is_lot, O_is_lot.mono hj⟩
  have O_Web_init : FnOk l.prog w K mg base CX0 6 f_Web_init _ ["self", "reads"] (toSp K (S_Web_init C_Web)) := ok_Web_init (k := 4) U_Web_init T (K_is_sized _ (by decide)) (K_is_lot _ (by decide))
  have M_Web : ∀ j, 6 ≤ j → Mak l.prog w K mg base j "Web" C_Web (S_Web_init C_Web) := fun j hj => ⟨_, _, _, ⟨mk_Web, a_Web_init, i_Web_init, kc_Web⟩, PySem.W.mg_of X G aC_Web, b_Web_init, O_Web_init.mono hj⟩
  have O_Web_eq : FnOk l.prog w K mg base CX0 2 f_Web_eq _ ["self", "other"] (toSp K (S_Web_eq C_Web)) := ok_Web_eq (k := 0) U_Web_eq T 
  have N_Web_eq : ∀ j, 2 ≤ j → Met l.prog w K mg base j C_Web "__eq__" (S_Web_eq C_Web) := fun j hj => ⟨_, _, _, ⟨pg_Web, hd_Web, po_Web, sa_Web⟩, ⟨a_Web_eq, i_Web_eq, k_Web_eq⟩, b_Web_eq, O_Web_eq.mono hj⟩
  have O_law : FnOkG l.prog w K mg base 8 fa _ ["_law_script"] (toSp K spL) := ok_law (k := 6) U_law T (K_law_pool _ (by decide)) (K_law_web_reads _ (by decide)) (K_law_draw _ (by decide)) (K_law_least _ (by decide)) (K_law_is _ (by decide)) (K_least_any _ (by decide)) (M_Web _ (by decide)) (N_Web_eq _ (by decide))
  exact O_law
end K54
open PySem PySem.W PyProof.Rows
set_option maxRecDepth 100000 in
set_option maxHeartbeats 0 in
theorem PySem.Challenge.cw_oneroommore_k54_whole_least_rooms_of_web_holds : PySem.Challenge.rw_oneroommore_k54_whole_least_rooms_of_web.Holds := by
  w_on; o_law; k_head; (case hw => w_witness2)
  k_fill
  refine WL.walk_ofG (l := PySem.Challenge.rw_oneroommore_k54_whole_least_rooms_of_web) (k := 8) (x := "_law_script") rfl rfl ⟨rfl, by decide, by decide⟩ (fun w h Y => by first | exact PySem.W.kIn_of Y | exact PySem.W.km_in_of Y) ?F
  case F =>
    intro w mg fa h KX G hmg
    refine' K54.all_mk KX G hmg ?aC_Web ?pg_Web ?hd_Web ?po_Web ?sa_Web ?mk_Web ?kc_Web ?a_is_integer ?l_is_integer ?c_is_integer ?k_is_integer ?a_is_within ?l_is_within ?c_is_within ?k_is_within ?a_are_within ?l_are_within ?c_are_within ?k_are_within ?a_is_lot ?l_is_lot ?c_is_lot ?k_is_lot ?a_is_sized ?l_is_sized ?c_is_sized ?k_is_sized ?a_may_be_made ?l_may_be_made ?c_may_be_made ?k_may_be_made ?a_behind_move ?l_behind_move ?c_behind_move ?k_behind_move ?a_moves_from ?l_moves_from ?c_moves_from ?k_moves_from ?a_shortest_making ?l_shortest_making ?c_shortest_making ?k_shortest_making ?a_moves_to ?l_moves_to ?c_moves_to ?k_moves_to ?a_least_rooms ?l_least_rooms ?c_least_rooms ?k_least_rooms ?a_least_any ?l_least_any ?c_least_any ?k_least_any ?a_law_pool ?l_law_pool ?c_law_pool ?k_law_pool ?a_law_draw ?l_law_draw ?c_law_draw ?k_law_draw ?a_law_is ?l_law_is ?c_law_is ?k_law_is ?a_law_web_reads ?l_law_web_reads ?c_law_web_reads ?k_law_web_reads ?a_law_counts ?l_law_counts ?c_law_counts ?k_law_counts ?a_law_masks_of ?l_law_masks_of ?c_law_masks_of ?k_law_masks_of ?a_law_moves_from ?l_law_moves_from ?c_law_moves_from ?k_law_moves_from ?a_law_fewest ?l_law_fewest ?c_law_fewest ?k_law_fewest ?a_law_least ?l_law_least ?c_law_least ?k_law_least ?a_law ?l_law ?c_law ?k_law ?a_Web_init ?i_Web_init ?l_Web_init ?c_Web_init ?k_Web_init ?a_Web_eq ?i_Web_eq ?l_Web_eq ?c_Web_eq ?k_Web_eq ?zn_abs ?zn_all ?zn_bool ?zn_enumerate ?zn_int ?zn_isinstance ?zn_len ?zn_list ?zn_range ?zn_repr ?zn_set ?zn_sorted ?zn_sum ?zn_tuple ?zc_MOST_THINGS ?za_Web_reads ?zne_Web ?znb_Web ?zb_Web_NoneType ?zb_Web_bool ?zb_Web_int ?zb_Web_str ?zb_Web_tuple ?zb_Web_list ?zb_Web_dict ?zca_Web ?zcm_Web ?zco_Web ?zhn ?zhtk
    (case aC_Web => k_is); (case pg_Web => k_is); (case hd_Web => k_is); (case po_Web => k_is); (case sa_Web => k_is); (case mk_Web => k_is); (case kc_Web => k_is); (case a_is_integer => k_is)
    (case l_is_integer => k_is); (case c_is_integer => k_is); (case k_is_integer => k_is); (case a_is_within => k_is); (case l_is_within => k_is); (case c_is_within => k_is); (case k_is_within => k_is); (case a_are_within => k_is)
    (case l_are_within => k_is); (case c_are_within => k_is); (case k_are_within => k_is); (case a_is_lot => k_is); (case l_is_lot => k_is); (case c_is_lot => k_is); (case k_is_lot => k_is); (case a_is_sized => k_is)
    (case l_is_sized => k_is); (case c_is_sized => k_is); (case k_is_sized => k_is); (case a_may_be_made => k_is); (case l_may_be_made => k_is); (case c_may_be_made => k_is); (case k_may_be_made => k_is); (case a_behind_move => k_is)
    (case l_behind_move => k_is); (case c_behind_move => k_is); (case k_behind_move => k_is); (case a_moves_from => k_is); (case l_moves_from => k_is); (case c_moves_from => k_is); (case k_moves_from => k_is); (case a_shortest_making => k_is)
    (case l_shortest_making => k_is); (case c_shortest_making => k_is); (case k_shortest_making => k_is); (case a_moves_to => k_is); (case l_moves_to => k_is); (case c_moves_to => k_is); (case k_moves_to => k_is); (case a_least_rooms => k_is)
    (case l_least_rooms => k_is); (case c_least_rooms => k_is); (case k_least_rooms => k_is); (case a_least_any => k_is); (case l_least_any => k_is); (case c_least_any => k_is); (case k_least_any => k_is); (case a_law_pool => k_is)
    (case l_law_pool => k_is); (case c_law_pool => k_is); (case k_law_pool => k_is); (case a_law_draw => k_is); (case l_law_draw => k_is); (case c_law_draw => k_is); (case k_law_draw => k_is); (case a_law_is => k_is)
    (case l_law_is => k_is); (case c_law_is => k_is); (case k_law_is => k_is); (case a_law_web_reads => k_is); (case l_law_web_reads => k_is); (case c_law_web_reads => k_is); (case k_law_web_reads => k_is); (case a_law_counts => k_is)
    (case l_law_counts => k_is); (case c_law_counts => k_is); (case k_law_counts => k_is); (case a_law_masks_of => k_is); (case l_law_masks_of => k_is); (case c_law_masks_of => k_is); (case k_law_masks_of => k_is); (case a_law_moves_from => k_is)
    (case l_law_moves_from => k_is); (case c_law_moves_from => k_is); (case k_law_moves_from => k_is); (case a_law_fewest => k_is); (case l_law_fewest => k_is); (case c_law_fewest => k_is); (case k_law_fewest => k_is); (case a_law_least => k_is)
    (case l_law_least => k_is); (case c_law_least => k_is); (case k_law_least => k_is); (case a_law => k_is); (case l_law => k_is); (case c_law => k_is); (case k_law => k_is); (case a_Web_init => k_is)
    (case i_Web_init => k_is); (case l_Web_init => k_is); (case c_Web_init => k_is); (case k_Web_init => k_is); (case a_Web_eq => k_is); (case i_Web_eq => k_is); (case l_Web_eq => k_is); (case c_Web_eq => k_is)
    (case k_Web_eq => k_is); (case zn_abs => k_is); (case zn_all => k_is); (case zn_bool => k_is); (case zn_enumerate => k_is); (case zn_int => k_is); (case zn_isinstance => k_is); (case zn_len => k_is)
    (case zn_list => k_is); (case zn_range => k_is); (case zn_repr => k_is); (case zn_set => k_is); (case zn_sorted => k_is); (case zn_sum => k_is); (case zn_tuple => k_is); (case zc_MOST_THINGS => k_is)
    (case za_Web_reads => k_is); (case zne_Web => k_is); (case znb_Web => k_is); (case zb_Web_NoneType => kit_is); (case zb_Web_bool => kit_is); (case zb_Web_int => kit_is); (case zb_Web_str => kit_is); (case zb_Web_tuple => kit_is)
    (case zb_Web_list => kit_is); (case zb_Web_dict => kit_is); (case zca_Web => k_is); (case zcm_Web => k_is); (case zco_Web => kit_is); (case zhn => k_is); (case zhtk => k_is)
