import PyProof.Rows.All
import Wide.All
import OpenK.AllK
import Wide.FinOn
import HandS.ForMost
import HandS.Walk
import HandS.Zip
import HandS.Deep
import HandS.TupAny
import HandS.TupLe
import HandS.Strs
import HandS.SetFor
import HandS.WideBits
import HandS.IsInst
import HandS.Exc
import HandS.Flow
import HandS.Style
import HandS.SortInts
import HandS.Conv
import KE.SortData
import KE.GoesEnum
import PyProof.ReprRoads
import PyProof.ReprLen
import KE.KDictZip
import PySem.Challenge.RW_wishways_k61_whole_kinds_of_pairs
set_option Elab.async false
set_option linter.all false
set_option maxRecDepth 100000
set_option maxHeartbeats 4000000
namespace Kd
open PySem PySem.Spec PyProof.Rows L2

/-! ## data in the heap -/
/-- every tuple that may be read stays -/
def Keeps (H H' : Hp) : Prop := ∀ b ys, Rd H b (.tup ys) → Rd H' b (.tup ys)
theorem Keeps.refl (H : Hp) : Keeps H H := fun _ _ h => h
theorem Keeps.trans {H H1 H2 : Hp} (a : Keeps H H1) (b : Keeps H1 H2) : Keeps H H2 := fun c ys h => b c ys (a c ys h)
theorem keeps_same {H H' : Hp} (s : Same H H') : Keeps H H' := fun b ys h => by
  rcases h with h | ⟨o, h⟩
  · exact .inl (s _ _ h)
  · exact .inr ⟨o, s _ _ h⟩
theorem keeps_upd_lst {H : Hp} {a : Addr} {xs : List V} {o : HO} (h : H a = some (.lst xs)) : Keeps H (upd H a o) := fun b ys r => by
  rcases r with r | ⟨u, r⟩
  · exact .inl (by rw [upd_ne (ne_of r h (fun q => nomatch q))]; exact r)
  · exact .inr ⟨u, by rw [upd_ne (ne_of r h (fun q => nomatch q))]; exact r⟩
theorem same_new {H : Hp} {p : Addr} {o : HO} (h : H p = none) : Same H (upd H p o) := fun b x e => by
  rw [upd_ne (ne_of_none e h)]
  exact e
theorem keeps_new {H : Hp} {p : Addr} {o : HO} (h : H p = none) : Keeps H (upd H p o) := keeps_same (same_new h)
/-- what is told of H stays when a thing that is none of H's is changed -/
theorem same_write {H0 H : Hp} {a : Addr} {o : HO} (s : Same H0 H) (n : H0 a = none) : Same H0 (upd H a o) := fun b x e => by
  rw [upd_ne (ne_of_none e n)]
  exact s _ _ e

mutual
/-- data without lists and dicts: no call changes it -/
def fixD : PyData → Bool
  | .list _ => false
  | .dict _ => false
  | .tuple ds => fixDs ds
  | _ => true
def fixDs : List PyData → Bool
  | [] => true
  | d :: ds => fixD d && fixDs ds
end
theorem fixDs_all : ∀ {ds : List PyData}, (∀ d ∈ ds, fixD d = true) → fixDs ds = true
  | [], _ => by simp [fixDs]
  | d :: ds, h => by
    rw [fixDs, h d List.mem_cons_self, fixDs_all fun e he => h e (List.mem_cons_of_mem _ he)]
    rfl
theorem fixDs_map {α : Type} {f : α → PyData} (h : ∀ a, fixD (f a) = true) (l : List α) : fixDs (l.map f) = true :=
  fixDs_all fun d hd => by
    obtain ⟨a, _, rfl⟩ := List.mem_map.mp hd
    exact h a
section
variable {K : PySem.W.Frag} {H H' : Hp}
mutual
theorem dp_keep (k : Keeps H H') : ∀ (d : PyData) (v : V), fixD d = true → Dp K H v d → Dp K H' v d
  | .none, _, _, h => by cases h; exact .non
  | .bool b, _, _, h => by cases h; exact .bl b
  | .int i, _, _, h => by cases h; exact .int i
  | .str x, _, _, h => by cases h; exact .str x
  | .list _, _, f, _ => by simp [fixD] at f
  | .dict _, _, f, _ => by simp [fixD] at f
  | .tuple ds, _, f, h => by
    cases h with
    | tup hs ha =>
      refine .tup ?_ (dps_keep k ds _ (by simpa [fixD] using f) ha)
      rcases hs with hs | hs
      · exact .inl (k _ _ hs)
      · exact .inr hs
theorem dps_keep (k : Keeps H H') : ∀ (ds : List PyData) (vs : List V), fixDs ds = true → DpAll K H vs ds → DpAll K H' vs ds
  | [], _, _, h => by cases h; exact .nil
  | d :: ds, _, f, h => by
    rw [fixDs, Bool.and_eq_true] at f
    cases h with
    | cons h1 h2 => exact .cons (dp_keep k d _ f.1 h1) (dps_keep k ds _ f.2 h2)
end
theorem dp_same {d : PyData} {v : V} (f : fixD d = true) (s : Same H H') (h : Dp K H v d) : Dp K H' v d := dp_keep (keeps_same s) d v f h
theorem dps_same {ds : List PyData} {vs : List V} (f : fixDs ds = true) (s : Same H H') (h : DpAll K H vs ds) : DpAll K H' vs ds := dps_keep (keeps_same s) ds vs f h
theorem dps_len : ∀ {vs : List V} {ds : List PyData}, DpAll K H vs ds → vs.length = ds.length
  | _, _, .nil => rfl
  | _, _, .cons _ t => by rw [List.length_cons, List.length_cons, dps_len t]
theorem dps_get : ∀ {vs : List V} {ds : List PyData} {i : Nat} {v : V}, DpAll K H vs ds → vs[i]? = some v → ∃ d, ds[i]? = some d ∧ Dp K H v d
  | _, _, _, _, .nil, e => by simp at e
  | _, _, 0, _, .cons h _, e => by
    have e' := Option.some.inj e
    subst e'
    exact ⟨_, rfl, h⟩
  | _, _, i + 1, v, .cons _ t, e => by
    obtain ⟨d, e1, h1⟩ := dps_get (i := i) (v := v) t (by simpa using e)
    exact ⟨d, by simpa using e1, h1⟩
theorem dps_at : ∀ {vs : List V} {ds : List PyData} {i : Nat} {d : PyData}, DpAll K H vs ds → ds[i]? = some d → ∃ v, vs[i]? = some v ∧ Dp K H v d
  | _, _, _, _, .nil, e => by simp at e
  | _, _, 0, _, .cons h _, e => by
    have e' := Option.some.inj e
    subst e'
    exact ⟨_, rfl, h⟩
  | _, _, i + 1, d, .cons _ t, e => by
    obtain ⟨v, e1, h1⟩ := dps_at (i := i) (d := d) t (by simpa using e)
    exact ⟨v, by simpa using e1, h1⟩
theorem dps_app : ∀ {vs ws : List V} {ds es : List PyData}, DpAll K H vs ds → DpAll K H ws es → DpAll K H (vs ++ ws) (ds ++ es)
  | _, _, _, _, .nil, h => h
  | _, _, _, _, .cons h t, h2 => .cons h (dps_app t h2)
theorem dps_one {v : V} {d : PyData} (h : Dp K H v d) : DpAll K H [v] [d] := .cons h .nil
theorem dps_drop : ∀ {vs : List V} {ds : List PyData} (n : Nat), DpAll K H vs ds → DpAll K H (vs.drop n) (ds.drop n)
  | _, _, 0, h => h
  | _, _, _ + 1, .nil => .nil
  | _, _, n + 1, .cons _ t => dps_drop n t
theorem dps_take : ∀ {vs : List V} {ds : List PyData} (n : Nat), DpAll K H vs ds → DpAll K H (vs.take n) (ds.take n)
  | _, _, 0, _ => .nil
  | _, _, _ + 1, .nil => .nil
  | _, _, n + 1, .cons h t => .cons h (dps_take n t)
theorem dps_ints : ∀ l : List Int, DpAll K H (l.map V.int) (l.map PyData.int)
  | [] => .nil
  | i :: l => .cons (.int i) (dps_ints l)
/-- data of ints are ints -/
theorem ints_of_dps : ∀ {l : List Int} {vs : List V}, DpAll K H vs (l.map PyData.int) → vs = l.map V.int
  | [], _, h => by
    have h' : DpAll K H _ [] := h
    cases h'
    rfl
  | i :: l, _, h => by
    have h' : DpAll K H _ (PyData.int i :: l.map PyData.int) := h
    cases h' with
    | cons h1 h2 =>
      cases h1
      rw [ints_of_dps h2]
      rfl
theorem tup_of {v : V} {ds : List PyData} (h : Dp K H v (.tuple ds)) : ∃ (a : Addr) (xs : List V), v = .ref a ∧ SqT K H a xs ∧ DpAll K H xs ds := by
  cases h with
  | tup h1 h2 => exact ⟨_, _, rfl, h1, h2⟩
theorem seqT_same {a : Addr} {xs : List V} (s : Same H H') (h : SqT K H a xs) : SqT K H' a xs := by
  rcases h with h | h
  · exact .inl (keeps_same s _ _ h)
  · exact .inr h
theorem seqT_keep {a : Addr} {xs : List V} (s : Keeps H H') (h : SqT K H a xs) : SqT K H' a xs := by
  rcases h with h | h
  · exact .inl (s _ _ h)
  · exact .inr h
end

/-! ## what a call hands back -/
/-- a value that reads as d, all that stood stands -/
def ResI (K : PySem.W.Frag) (H : Hp) (Q : VK) (d : PyData) : Prop := ∀ v H', Same H H' → Dp K H' v d → Q v H'
/-- a new list of data -/
def ResL (K : PySem.W.Frag) (H : Hp) (Q : VK) (ds : List PyData) : Prop := ∀ p vs H', Same H H' → H p = none → H' p = some (.lst vs) → DpAll K H' vs ds → Q (.ref p) H'
end Kd

set_option Elab.async false
set_option linter.all false
set_option maxRecDepth 100000
set_option maxHeartbeats 4000000
namespace Kd
open PySem PySem.Spec PyProof.Rows L2
/-! ## repr of data -/
def rRepr (K : PySem.W.Frag) : List V → Hp → VK → Prop := fun xs H Q => ∃ (a : Addr) (d : PyData), xs = [.ref a] ∧ Dp K H (.ref a) d ∧ d.showable = true ∧ d.hasDict = false ∧ d.depth ≤ 100 ∧ d.shown.length ≤ sizeLine ∧ Q (.str d.shown) H
section
variable {X : Cx}
theorem cr_repr (hg : X.A.guards = some []) (hu : X.A.units + 110 < cLine) : CallR X (.builtin "repr") (rRepr X.K) := by
  intro pins s σ H xs us Q I r h
  obtain ⟨a, d, rfl, hd, hs, hn, hp, hz, q⟩ := h
  rw [Vals.ref1 r]
  obtain ⟨as, rd⟩ := Dp.reads I d (.ref a) (.ref a) hd rfl
  refine repr_of_reads' (h₀ := s.heap) rd hs (fun e => by rw [hn] at e; cases e) hg (by omega) (fun _ _ e => e) (fun h' u tk k => ?_) hz
  exact ⟨.str d.shown, H, I.kept (t' := tk) k, ⟨u, rfl⟩, q⟩

/-! ## x in t, x not in t: t a tuple of data -/
def rInT (K : PySem.W.Frag) : R2 := fun x y H Q => ∃ d ds, Dp K H x d ∧ Dp K H y (.tuple ds) ∧ SeqAt.shaped d = true ∧ SeqAt.shaped (.tuple ds) = true ∧ Q (.bl (ds.any fun z => PyData.eqv z d)) H
def rNotInT (K : PySem.W.Frag) : R2 := fun x y H Q => ∃ d ds, Dp K H x d ∧ Dp K H y (.tuple ds) ∧ SeqAt.shaped d = true ∧ SeqAt.shaped (.tuple ds) = true ∧ Q (.bl (!ds.any fun z => PyData.eqv z d)) H
theorem op_inT (hu : X.A.units + 65 < cLine) : OpR X (compareOp .In) (rInT X.K) := by
  intro pins s σ H x y v u Q I rx ry ⟨d, ds, hd, hds, sd, sds, q⟩
  have ⟨as, r1⟩ := Dp.reads I d x v hd rx
  have ⟨bs, r2⟩ := Dp.reads I (.tuple ds) y u hds ry
  refine SeqAt.in_tuple_reads r2 r1 (SeqAt.canLay_of_shaped sds) (SeqAt.canLay_of_shaped sd) (room_in_shaped sd hu) ?_
  exact ⟨.bl _, H, I, rfl, q⟩
theorem op_notInT (hu : X.A.units + 65 < cLine) : OpR X (compareOp .NotIn) (rNotInT X.K) := by
  intro pins s σ H x y v u Q I rx ry ⟨d, ds, hd, hds, sd, sds, q⟩
  have ⟨as, r1⟩ := Dp.reads I d x v hd rx
  have ⟨bs, r2⟩ := Dp.reads I (.tuple ds) y u hds ry
  refine SeqAt.notIn_tuple_reads r2 r1 (SeqAt.canLay_of_shaped sds) (SeqAt.canLay_of_shaped sd) (room_in_shaped sd hu) ?_
  exact ⟨.bl _, H, I, rfl, q⟩

/-! ## sorted of a list of data -/
theorem each_of {K : PySem.W.Frag} {β : Type} (enc : β → PyData) {pins : List (Addr × Obj)} {σ : L2.St} {H : Hp} {s : Shared} (I : Inv X pins σ H s) (hK : K = X.K) :
    ∀ (bs : List β) (vs : List V) (us : List Value), DpAll K H vs (bs.map enc) → Vals vs us →
      PySem.W.EachIs (fun u b => ∃ v, RelV v u ∧ Dp K H v (enc b)) us bs ∧ PySem.W.EachIs (fun u b => ∃ as, Reads s.heap u (enc b) as) us bs
  | [], _, _, h, r => by
    have h' : DpAll K H _ [] := h
    cases h'
    cases r
    exact ⟨.nil, .nil⟩
  | b :: bs, _, _, h, r => by
    have h' : DpAll K H _ (enc b :: bs.map enc) := h
    cases h' with
    | cons h1 h2 =>
      cases r with
      | cons r1 r2 =>
        have ⟨e1, e2⟩ := each_of enc I hK bs _ _ h2 r2
        subst hK
        exact ⟨.cons ⟨_, r1, h1⟩ e1, .cons (Dp.reads I _ _ _ h1 r1) e2⟩
theorem of_each {K : PySem.W.Frag} {β : Type} (enc : β → PyData) {H : Hp} : ∀ {bs : List β} {us : List Value},
    PySem.W.EachIs (fun u b => ∃ v, RelV v u ∧ Dp K H v (enc b)) us bs → ∃ vs, Vals vs us ∧ DpAll K H vs (bs.map enc)
  | _, _, .nil => ⟨[], .nil, .nil⟩
  | _, _, .cons ⟨v, r, h⟩ t => by
    obtain ⟨vs, r2, h2⟩ := of_each enc t
    exact ⟨v :: vs, .cons r r2, .cons h h2⟩
/-- sorted(xs), xs a list that reads as the items bs -/
def rSortD (K : PySem.W.Frag) {β : Type} (enc : β → PyData) : List V → Hp → VK → Prop := fun xs H Q => ∃ (a : Addr) (vs : List V) (bs : List β), xs = [.ref a] ∧ SqL K H a vs ∧ DpAll K H vs (bs.map enc) ∧ PySem.W.AllAlike (bs.map enc) ∧ PySem.W.Sortable (bs.map enc) ∧ (∀ b, b ∈ bs → (enc b).depth ≤ 64) ∧
  ∀ p ws, H p = none → DpAll K H ws ((bs.mergeSort (PySem.W.dataLe false enc)).map enc) → Q (.ref p) (upd H p (.lst ws))
theorem cr_sortD {β : Type} (enc : β → PyData) (hu : X.A.units + 70 < cLine) : CallR X (.builtin "sorted") (rSortD X.K enc) := by
  intro pins s σ H xs us Q I r h
  obtain ⟨a, vs, bs, rfl, hl, hd, hal, hso, hdp, q⟩ := h
  rw [Vals.ref1 r]
  obtain ⟨its, rv, pl, hz⟩ := I.list hl
  have ⟨e1, e2⟩ := each_of enc I rfl bs vs its hd rv
  have hlen : bs.length ≤ sizeLine := by
    have q1 := dps_len hd
    rw [List.length_map] at q1
    omega
  refine PySem.W.sorted_data pl.isList e1 e2 hal hso hlen (fun b hb => by have := hdp b hb; omega) fun out ho eo => ?_
  obtain ⟨ws, rw_, dw⟩ := of_each enc eo
  obtain ⟨c, hc⟩ := PyProof.Rows.sortedAll_at s.heap its out.toArray
  have hp : s.heap.objs.size ≤ s.heap.objs.size + 1 := Nat.le_succ _
  have hn : H (s.heap.objs.size + 1) = none := I.hok.fresh hp
  have hwl : ws.length ≤ sizeLine := by rw [rw_.length, ho]; exact hlen
  have J : Inv X pins σ (upd H (s.heap.objs.size + 1) (.lst ws)) { s with heap := sortedAll s.heap its out.toArray, toks := s.toks } :=
    I.laid (fun b o e => PyProof.Rows.sortedAll_old e) hp ⟨hwl, out, c, rw_, hc⟩
  exact ⟨.ref _, _, J, rfl, q _ ws hn dw⟩
end
end Kd

set_option Elab.async false
set_option linter.all false
set_option maxRecDepth 100000
set_option maxHeartbeats 4000000
namespace Kd
open PySem PySem.Spec PyProof.Rows L2
/-! ## set(xs) of a list of ints -/
/-- the empty set as it is made -/
abbrev noSet (w : World) : Obj := { cls := .type "set", dict := none, data := .set #[] 0 (.fresh 0 0 (!w.params.followText "set-order")) }
section
variable {P : Program} {w : World} {A : Around} {E : Value → Shared → Prop} {s : Shared}
set_option maxHeartbeats 6400000 in
theorem set_of_list {l : Addr} {its : Array Value} (ks : List Int) {Q : Value → Shared → Prop} (h0 : A.handled = none) (hl : s.heap.IsList l its) (hk : IntsAre its.toList ks) (hb : ks.length + 1 < scanBound)
    (fin : ∀ (h' : Heap) (tk c : Nat), SetR w h' s.heap.objs.size (fun j => decide (j ∈ ks)) c → c ≤ ks.length → (∀ b o, s.heap.get? b = some o → h'.get? b = some o) → Q (.ref s.heap.objs.size) { s with heap := h', toks := tk }) :
    wpAny (model P w) A (call (.type "set") [.ref l]) Q E s := by
  have nz : its.size = ks.length := by have q := IntsAre.length hk; rwa [Array.length_toList] at q
  have ⟨_, _, m1⟩ := F.called_set.mro
  have m2 := F.called_set.made
  have m3 := F.called_set.sub
  have m4 := F.called_set.notType
  have m5 := F.called_set.canCreate
  have m6 := F.typeCall_set_1 (.ref l)
  refine wpAny_call (codeAny_of_tree ?_); show wpAny _ _ (callAny (.type "set") _) _ _ _
  refine wpAny_pure ⟨Code.quiet_builtin _ (by decide +kernel), codeAny_builtin F.entry_type_call ?_⟩; rw [Around.under_plain (weight_type_call_type "set" [.ref l] []) rfl]
  repeat (any_goals (first | assumption | wp_step))
  have made : codeAny (model P w) _ _ (wants (fun ob s1 => ob = .ref s.heap.objs.size ∧ s1 = { s with heap := s.heap.push (noSet w) }) E) s := L2.code_set_led1 (A := A.in1) (w := w) (P := P) (s := s) (.ref l) ⟨rfl, rfl⟩
  refine codeAny_mono made fun r s1 hr => ?_
  cases r with
  | error e => exact hr
  | ok fl =>
    cases fl with
    | ret ob =>
      obtain ⟨rfl, rfl⟩ := hr
      have at0 : (s.heap.push (noSet w)).get? s.heap.objs.size = some (noSet w) := Heap.get?_push_size _ rfl
      have ty0 : Shared.TypeIs { s with heap := s.heap.push (noSet w) } (.ref s.heap.objs.size) "set" := ⟨_, at0, rfl⟩
      have m7 := F.called_set.init.lookup
      have m8 := F.called_set.init.bind (.ref s.heap.objs.size)
      repeat (any_goals (first | assumption | wp_step))
      refine codeAny_mono (codeAny_call_builtin (R := wants (fun r s2 => r = .none ∧ ∃ h' tk c, s2 = { s with heap := h', toks := tk } ∧ SetR w h' s.heap.objs.size (fun j => decide (j ∈ ks)) c ∧ c ≤ ks.length ∧ (∀ b o, s.heap.get? b = some o → h'.get? b = some o)) E)
        F.called_set.init.plain F.entry_set_init (check_set_init_1 ty0 ?_)) fun r2 s2 hr2 => ?_
      · obtain ⟨⟨oc, od, oda, osl⟩, ho, hc, nn, hd⟩ := hl
        simp only at hc hd
        subst hc
        subst hd
        have at1 : (s.heap.push (noSet w)).get? l = some { cls := .type "list", dict := od, data := .seq its nn, slots := osl } := Heap.get?_push_of_some _ ho
        have m9 := PySem.F.sub_list_set
        have m10 := PySem.F.sub_list_frozenset
        have m11 : (Value.type "list" == Value.type "dict") = false := by decide
        have li : (s.heap.push (noSet w)).IsList l its := ⟨_, at1, rfl, nn, rfl⟩
        unfold Builtin.«set.__init__» noKeywords Builtin.Frozenset.updateFrom; generalize hit : pyIter = itr
        wp_walk
        subst hit
        refine wpAny_pyIter_list li ?_
        refine wpAny_bind (wpAny_runValue ?_)
        have lt1 : l < s.heap.objs.size := Heap.lt_size ho
        have hh3 : A.in1.in1.in1.handled = none := by simp [h0]
        have apart1 : l ≠ (s.heap.push (noSet w)).objs.size := by rw [Heap.size_push]; exact Nat.ne_of_lt (Nat.lt_succ_of_lt lt1)
        have apart2 : s.heap.objs.size ∉ [(s.heap.push (noSet w)).objs.size, l] := by
          rw [Heap.size_push]
          intro q
          rcases List.mem_cons.mp q with q | q
          · exact absurd q (Nat.ne_of_lt (Nat.lt_succ_self _))
          · exact absurd (List.mem_singleton.mp q) (Nat.ne_of_gt lt1)
        have vals : ∀ (i : Nat) (v : Value), its[i]? = some v → ∃ k t, ks[i]? = some k ∧ v = .int k t := fun i v hv => by
          have hi : i < ks.length := by rw [← nz]; exact (Array.getElem?_eq_some_iff.mp hv).1
          obtain ⟨t, e⟩ := PyProof.Rows.IntsAre.int_at hk i v (by rw [Array.getElem?_toList]; exact hv)
          exact ⟨ks[i], t, List.getElem?_eq_getElem hi, by rw [e, List.getD_eq_getElem?_getD, List.getElem?_eq_getElem hi]; rfl⟩
        refine L2.set_update_ints ((Walks.list hh3 _ l apart1 its).toS) s.heap.objs.size apart2 ks nz hb vals (its.size - 0) 0 _ (by omega) (Nat.zero_le _) ⟨⟨_, Heap.get?_push_size _ rfl, rfl, rfl⟩, (li.push _)⟩ ?first ?last
        case first => exact ⟨0, Nat.le_refl 0, L2.setR_new_at (Heap.get?_push_of_some _ at0)⟩
        case last =>
          intro s3 c mv hc3 hS3
          obtain ⟨h3, g3, d3, t3, o3⟩ := s3
          obtain rfl : g3 = s.gens := mv.gens
          obtain rfl : d3 = s.drawn := mv.drawn
          obtain rfl : o3 = s.os := mv.os
          refine wpAny_pure ?_
          show wpAny _ _ (ret Value.none) _ _ _
          refine wpAny_pure ⟨rfl, h3, t3, c, rfl, hS3, by omega, fun b o e => ?_⟩
          have lb : b < s.heap.objs.size := Heap.lt_size e
          refine mv.heap b o (fun q => ?_) (Heap.get?_push_of_some _ (Heap.get?_push_of_some _ e))
          rcases List.mem_cons.mp q with q | q
          · exact absurd q (Nat.ne_of_lt lb)
          · have q2 := List.mem_singleton.mp q
            rw [Heap.size_push] at q2
            exact absurd q2 (Nat.ne_of_lt (Nat.lt_succ_of_lt lb))
      · cases r2 with
        | error e => exact hr2
        | ok fl2 =>
          cases fl2 with
          | ret r =>
            obtain ⟨rfl, h3, t3, c, rfl, hS3, hc3, hk3⟩ := hr2
            repeat (any_goals (first | assumption | wp_step))
            exact fin _ _ _ hS3 hc3 hk3
          | _ => exact hr2.elim
    | _ => exact hr.elim
end
section
variable {X : Cx}
def rSetL (K : PySem.W.Frag) (w : World) : List V → Hp → VK → Prop := fun xs H Q => ∃ (a : Addr) (ks : List Int), xs = [.ref a] ∧ SqL K H a (ks.map V.int) ∧ ks.length ≤ 1000 ∧
  ∀ p c, H p = none → c ≤ ks.length → Q (.ref p) (upd H p (SetO w p (fun j => decide (j ∈ ks)) c))
theorem cr_setL (hc : X.calm = true) : CallR X (.type "set") (rSetL X.K X.w) := by
  intro pins s σ H xs us Q I r h
  obtain ⟨a, ks, rfl, hl, hn, q⟩ := h
  rw [Vals.ref1 r]
  obtain ⟨its, rv, pl, hz⟩ := I.list hl
  refine set_of_list ks (I.ok.hd hc) pl.isList (by simpa using RZ.intsAre_vals rv) (by unfold scanBound; omega) fun h' tk c R hcn k => ?_
  have hp : H s.heap.objs.size = none := I.hok.fresh (Nat.le_refl _)
  exact ⟨.ref _, upd H s.heap.objs.size (SetO X.w s.heap.objs.size (fun j => decide (j ∈ ks)) c), I.laid k (Nat.le_refl _) (setO_new R), rfl, q _ c hp hcn⟩
end
end Kd

set_option Elab.async false
set_option linter.all false
set_option maxRecDepth 100000
set_option maxHeartbeats 4000000
namespace Kd
open PySem PySem.Spec PyProof.Rows L2
/-! ## enumerate(t), t a tuple -/
set_option maxHeartbeats 1000000 in
theorem enum_new_of {v : Value} {o : Obj} {Hc : Heap → Prop} (B : Begins v o Hc) :
    Meets (Builtin.«enumerate.__new__» ⟨[.type "enumerate", v], []⟩) (fun _ R s => Hc s.heap ∧
      R (.ok (.ret (.ref (s.heap.push o).objs.size))) { s with heap := (s.heap.push o).push { cls := .type "enumerate", data := .fields #[.none, .bool false, .ref s.heap.objs.size, rawInt 0, .none, .none] } }) :=
  .of_wp fun prog w A R s hx => by
    obtain ⟨hp, g, d, tk, os⟩ := s
    obtain ⟨hv, hx⟩ := hx
    have m1 := sub_enumerate
    have it : ∀ {A2 : Around} {E2 : Value → Shared → Prop} {Q2 : Value → Shared → Prop}, Q2 (.ref hp.objs.size) ⟨hp.push o, g, d, tk, os⟩ → wpAny (model prog w) A2 (pyIter v) Q2 E2 ⟨hp, g, d, tk, os⟩ :=
      fun q => B.iter prog w _ _ ⟨hp, g, d, tk, os⟩ _ hv q
    wp_walk using it
    refine wpAny_stack_any fun st => wpAny_pure ?_
    split
    · rename_i c _ _ _ _ _
      cases (c == Value.type "enumerate")
      all_goals (wp_walk using it; exact ⟨_, rfl, hx⟩)
    · wp_walk using it
      exact ⟨_, rfl, hx⟩
section
variable {prog : Program} {w : World} {A : Around} {E : Value → Shared → Prop} {s : Shared}
theorem enum_made {v : Value} {o : Obj} {Hc : Heap → Prop} {Q : Value → Shared → Prop} (B : Begins v o Hc) (hv : Hc s.heap)
    (fin : ∀ h', IsEnum h' (s.heap.objs.size + 1) s.heap.objs.size 0 .none → h'.get? s.heap.objs.size = some o → (∀ b o, s.heap.get? b = some o → h'.get? b = some o) → Q (.ref (s.heap.objs.size + 1)) { s with heap := h' }) :
    wpAny (model prog w) A (call (.type "enumerate") [v]) Q E s := by
  refine callType_new F.called_enumerate (by decide) (F.typeCall_enumerate_1 _) (F.newCall_enumerate_1 _) (fun obj => F.args_object_init_2 obj _) F.entry_enumerate_new (enum_new_of B) ⟨hv, ?_⟩
  have sz : (s.heap.push o).objs.size = s.heap.objs.size + 1 := Heap.size_push ..
  have e0 := Heap.get?_push_size (s.heap.push o) (o := { cls := .type "enumerate", data := .fields #[.none, .bool false, .ref s.heap.objs.size, rawInt 0, .none, .none] }) rfl
  rw [sz] at e0
  show _ ∧ _
  rw [sz]
  exact ⟨⟨_, e0, rfl⟩, fin _ e0 (Heap.get?_push_of_some _ (Heap.get?_push_size _ B.free)) fun b o x => Heap.get?_push_of_some _ (Heap.get?_push_of_some _ x)⟩
end
/-- the tuple at a: each item in a new pair with its place -/
def IteT (K : PySem.W.Frag) (a : Addr) : It :=
  ⟨fun i H => ∃ (xs : List V) (x : V), SqT K H a xs ∧ xs[i]? = some x, fun i H v H' => ∃ T x, v = .ref T ∧ H T = none ∧ H' = upd H T (.tup [.int (i : Nat), x]) ∧ ∀ xs, SqT K H a xs → xs[i]? = some x, fun i H => ∃ xs : List V, SqT K H a xs ∧ i = xs.length⟩
/-- the enumerate at e over the tuple's iterator at it -/
def EnT (a e it : Addr) (i : Nat) (h : Heap) : Prop := (∃ old, IsEnum h e it (0 + (i : Int)) old) ∧ h.IsTupleIter it a i ∧ e ≠ it
theorem turn_enumT {P : Program} {w : World} {K : PySem.W.Frag} {elts : List Expr} {kk : Nat} {tpos : Pos} (a e it : Addr) (hne : a ≠ it) (hea : e ≠ a) :
    Turn P w K (.Tuple elts kk tpos) (IteT K a) [e, it] e (EnT a e it) where
  mem := List.mem_cons_self
  obj := by
    intro i h ⟨⟨old, he⟩, ⟨o, ho, hc, hd⟩, _⟩ b hb
    rcases List.mem_cons.mp hb with rfl | hb
    · exact ⟨_, he, fun v q => nomatch q⟩
    · obtain rfl := List.mem_singleton.mp hb
      exact ⟨o, ho, fun v q => by rw [hd] at q; cases q⟩
  keep := by
    intro i h h2 ⟨⟨old, he⟩, hi, hx⟩ k
    exact ⟨⟨old, k e (by simp) _ he⟩, hi.at fun o q => k it (by simp) o q, hx⟩
  item := by
    rintro X rfl rfl rfl hc i pins s σ H E I hf ⟨⟨old, he⟩, hit, hx⟩ ⟨xs, x, hq, hxi⟩
    obtain ⟨its, rv, pt, hz⟩ := I.tuple hq
    have ⟨u, hu, ru⟩ := rv.get hxi
    have lte : e < s.heap.objs.size := Heap.lt_size he
    have lti : it < s.heap.objs.size := by obtain ⟨_, q, _⟩ := hit; exact Heap.lt_size q
    have lta : a < s.heap.objs.size := by obtain ⟨_, q, _⟩ := id pt; exact Heap.lt_size q
    have hi : i < its.toArray.size := by
      have q := (List.getElem?_eq_some_iff.mp hxi).1
      have q2 := rv.length
      rw [List.size_toArray]
      omega
    refine wpAny_pyNext_enum_itemC (Draws.tuple (A := X.A.in1) (by exact I.ok.hd hc) it a hne its.toArray) he ⟨hit, pt⟩ hi hx (by simp [hx, hea]) fun y h2 tk hy eo ⟨hit2, pt2⟩ hT hsz hk => ?_
    have ey : y = u := by
      have q : its[i]? = some y := by simpa using hy
      rw [hu] at q
      exact (Option.some.inj q).symm
    subst ey
    refine ⟨_, rfl, wpAny_letOwnedTupleGo_enum (s := { s with heap := h2, toks := tk + 1 }) eo fun h3 he3 sb => ?_⟩
    have hT3 := (sb.2 _ (Nat.ne_of_gt lte)).trans hT
    have new : ObjOk X.prog X.w (upd H s.heap.objs.size (.tup [.int (i : Nat), x])) h3 s.heap.objs.size (.tup [.int (i : Nat), x]) :=
      ⟨by show 2 ≤ sizeLine; decide, [.int (0 + (i : Int)) tk, y], .cons ⟨tk, by rw [Int.zero_add]⟩ (.cons ru .nil), ⟨_, hT3, rfl, _, rfl⟩⟩
    have J : Inv X pins σ (upd H s.heap.objs.size (.tup [.int (i : Nat), x])) { s with heap := h3, toks := tk + 1 } := by
      refine I.turnedNew (ch := [e, it]) (fun b ob hb q => ?_) hf (Nat.le_refl _) new
      have be : b ≠ e := fun z => hb (by simp [z])
      exact (sb.2 b be).trans (hk b ob be (fun z => hb (by simp [z])) q)
    refine ⟨.ref s.heap.objs.size, _, J, rfl, ⟨_, x, rfl, I.hok.fresh (Nat.le_refl _), rfl, fun ys hy2 => ?_⟩, ⟨⟨y, ?_⟩, hit2.at fun o q => (sb.2 it (Ne.symm hx)).trans q, hx⟩, fun b hb => ?_⟩
    · rw [I.tuple_inj hy2 hq]
      exact hxi
    · rw [show (0 + ((i + 1 : Nat) : Int)) = 0 + (i : Int) + 1 by omega]
      exact he3
    · have lb : b < s.heap.objs.size := by
        rcases List.mem_cons.mp hb with z | z
        · rw [z]; exact lte
        · rw [List.mem_singleton.mp z]; exact lti
      rw [upd_ne (Nat.ne_of_lt lb)]
      exact (hf b hb).1
  done := by
    rintro X rfl rfl rfl hc i pins s σ H E I hf ⟨⟨old, he⟩, hit, hx⟩ ⟨xs, hq, hl⟩
    obtain ⟨its, rv, pt, hz⟩ := I.tuple hq
    have sz : i = its.toArray.size := by rw [hl, rv.length, List.size_toArray]
    subst sz
    obtain ⟨f0, f1, f2, f3, f4, f5⟩ := hf it (by simp)
    refine wpAny_pyNext_enum_endD (Draws.tuple (A := X.A.in1) (by exact I.ok.hd hc) it a hne its.toArray) he ⟨hit, pt⟩ fun h2 eb => ⟨rfl, ?_⟩
    exact I.turned (t' := s.toks) (fun b o hb q => eb b o hb q) f0 f1 f3 f4 f5
  self := fun A i s Q E ⟨⟨_, he⟩, _⟩ h => wpAny_pyIter_enum he h
def iEnumT (K : PySem.W.Frag) (ta : TA) : TI := fun σ H R => ta σ H fun vs H1 => ∃ a xs, vs = [.ref a] ∧ SqT K H1 a xs ∧ R (IteT K a) H1
theorem pi_enumT {X : Cx} {e : Expr} {ta : TA} {p pos tpos : Pos} {elts : List Expr} {kk : Nat} (hg : Gl X "enumerate") (hm : X.mg "enumerate" = none) (ha : PA X [e] ta) (hs : starEach [e] X.env = [(false, eval e X.env)] := by rfl) :
    PI X (.Tuple elts kk tpos) (.Call (.Name "enumerate" p) [e] [] pos) (iEnumT X.K ta) := by
  refine ⟨fun pins s σ H R I hw => ?_⟩
  refine Call_ (ld_blt I hg hm boot_enumerate (PyProof.Rows.callWith_type1 (thn (ha.run pos pins s σ H _ I hw) fun us s1 ⟨vs, H1, I1, r1, a, xs, ex, hq, q⟩ => ?_) hs rfl))
  subst ex
  rw [Vals.ref1 r1]
  obtain ⟨its, rv, pt, hz⟩ := I1.tuple hq
  have lta : a < s1.heap.objs.size := by obtain ⟨_, q, _⟩ := id pt; exact Heap.lt_size q
  refine enum_made (begins_tuple a its.toArray) pt fun h2 he hit hk => wpAny_pyIter_enum he ?_
  have I2 : Inv X pins σ H1 { s1 with heap := h2 } := I1.kept (t' := s1.toks) hk
  refine ⟨s1.heap.objs.size + 1, [s1.heap.objs.size + 1, s1.heap.objs.size], _, _, H1, rfl, I2, turn_enumT a (s1.heap.objs.size + 1) s1.heap.objs.size (Nat.ne_of_lt lta) (Nat.ne_of_gt (Nat.lt_succ_of_lt lta)), ⟨⟨.none, by simpa using he⟩, ⟨_, hit, rfl, rfl⟩, Nat.succ_ne_self _⟩, fun b hb => ?_, q⟩
  have lb : s1.heap.objs.size ≤ b := by
    rcases List.mem_cons.mp hb with z | z
    · rw [z]; exact Nat.le_succ _
    · rw [List.mem_singleton.mp z]; exact Nat.le_refl _
  exact I1.fpOk lb (I1.hok.fresh lb)
theorem walk_enumT {K : PySem.W.Frag} {a : Addr} {xs : List V} : Walk (IteT K a) xs.length (fun H => SqT K H a xs) (YPair (fun i => some (.int (i : Nat))) (fun i => xs[i]?)) := by
  refine ⟨fun i _ hi q => ⟨xs, xs[i], q, List.getElem?_eq_getElem hi⟩, fun _ q => ⟨xs, q, rfl⟩, fun i H v H2 _ q y => ?_⟩
  obtain ⟨T, x, h1, h2, h3, h4⟩ := y
  exact ⟨T, .int (i : Nat), x, h1, h2, h3, rfl, h4 xs q⟩
end Kd

set_option Elab.async false
set_option linter.all false
set_option maxRecDepth 100000
set_option maxHeartbeats 4000000
namespace Kd
open PySem PySem.Spec PyProof.Rows L2
/-! ## list(zip(t, u)), two tuples -/
section
variable {prog : Program} {w : World} {A : Around} {E : Value → Shared → Prop} {s : Shared}
/-- next of a zip over tuples whose last tuple is still held -/
theorem zipH_item {z TI TO T i1 i2 l1 l2 : Addr} {f : Bool} {oT : Obj} {k1 k2 : Nat} {xs ys : Array Value} {x y : Value} {Q : Option Value → Shared → Prop} (D : ZipApart z TI TO i1 i2 l1 l2)
    (hz : IsZipHeld s.heap z TI TO T f) (hT : s.heap.get? T = some oT) (hTI : IsPair s.heap TI (.ref i1) (.ref i2)) (h1 : s.heap.IsTupleIter i1 l1 k1) (h2 : s.heap.IsTupleIter i2 l2 k2)
    (hl1 : s.heap.IsTuple l1 xs) (hl2 : s.heap.IsTuple l2 ys) (hx : xs[k1]? = some x) (hy : ys[k2]? = some y)
    (fin : ∀ h', IsZipHeld h' z TI TO T true → h'.IsTupleIter i1 l1 (k1 + 1) → h'.IsTupleIter i2 l2 (k2 + 1) → IsPair h' s.heap.objs.size x y → h'.objs.size = s.heap.objs.size + 1 →
      (∀ c o, c ≠ z → c ≠ i1 → c ≠ i2 → s.heap.get? c = some o → h'.get? c = some o) → Q (some (.ref s.heap.objs.size)) { s with heap := h' }) :
    wpAny (model prog w) A (pyNext (.ref z)) Q E s := by
  have ty : s.TypeIs (.ref z) "zip" := ⟨_, hz, rfl⟩
  unfold pyNext
  refine wpAny_bind (wpAny_attempt (wpAny_callSpecial?_slot (name := Str.ofString "__next__") ty F.slot_zip_next (wpAny_call_entry F.slot_zip_next ty F.entry_zip_next ?_ (F.args_zip_next_1 _))))
  show wpAny _ _ (field (.ref z) 2 >>= _) _ _ _
  refine wpAny_bind (wpAny_field hz rfl (x := .bool false) rfl ?_); show wpAny _ _ (field (.ref z) 3 >>= _) _ _ _
  refine wpAny_bind (wpAny_field hz rfl (x := .ref TI) rfl ?_); refine wpAny_bind (wpAny_seqItems hTI rfl ?_)
  show wpAny _ _ (Builtin.SmallTypes.ownedTupleIsFree (.ref z) >>= _) _ _ _; refine wpAny_bind (wpAny_tupleHeld_zip hz hT fun g1 zg1 sg1 => ?_)
  simp only [Bool.false_eq_true, if_false]
  refine wpAny_bind ?_
  rw [← Array.forIn_toList]
  simp only [List.forIn_cons, List.forIn_nil]
  refine wpAny_bind (wpAny_bind (wpAny_holding ?_)); show wpAny _ _ (Builtin.SmallTypes.nextOf (.ref i1) >>= _) _ _ _
  refine wpAny_bind (wpAny_nextOf_tuple_item (s := { s with heap := g1 }) (h1.extBut sg1.extBut D.i1z) (hl1.extBut sg1.extBut D.l1z) hx fun g2 i1g2 sg2 => wpAny_pure ?_)
  refine wpAny_pure ?_
  refine wpAny_bind (wpAny_bind (wpAny_holding ?_)); show wpAny _ _ (Builtin.SmallTypes.nextOf (.ref i2) >>= _) _ _ _
  refine wpAny_bind (wpAny_nextOf_tuple_item (s := { s with heap := g2 }) ((h2.extBut sg1.extBut D.i2z).extBut sg2.extBut D.i12.symm) ((hl2.extBut sg1.extBut D.l2z).extBut sg2.extBut D.l2i1) hy fun g3 i2g3 sg3 => wpAny_pure ?_)
  refine wpAny_pure (wpAny_pure ?_); show wpAny _ _ (newTuple [x, y] >>= _) _ _ _
  refine wpAny_bind (wpAny_newTuple ?_)
  have sz : g3.objs.size = s.heap.objs.size := by rw [sg3.1, sg2.1, sg1.1]
  have zg3 : IsZipHeld g3 z TI TO T true := sg3.extBut _ _ D.i2z.symm (sg2.extBut _ _ D.i1z.symm zg1)
  have kp : ∀ c o, c ≠ z → c ≠ i1 → c ≠ i2 → s.heap.get? c = some o → g3.get? c = some o := fun c o c1 c2 c3 e => sg3.extBut _ _ c3 (sg2.extBut _ _ c2 (sg1.extBut _ _ c1 e))
  have i1g3 : g3.IsTupleIter i1 l1 (k1 + 1) := i1g2.extBut sg3.extBut D.i12
  refine wpAny_pure ⟨_, rfl, wpAny_pure ?_⟩
  show Q (some (.ref g3.objs.size)) _
  have pr : IsPair (g3.push { cls := .type "tuple", data := .seq #[x, y] }) g3.objs.size x y := Heap.get?_push_size _ rfl
  have sz4 : (g3.push { cls := .type "tuple", data := .seq #[x, y] }).objs.size = g3.objs.size + 1 := Heap.size_push ..
  rw [sz] at pr sz4 ⊢
  exact fin _ (Heap.get?_push_of_some _ zg3) (i1g3.at fun o e => Heap.get?_push_of_some _ e) (i2g3.at fun o e => Heap.get?_push_of_some _ e) pr sz4 fun c o c1 c2 c3 e => Heap.get?_push_of_some _ (kp c o c1 c2 c3 e)
theorem zipH_end {z TI TO T i1 i2 l1 l2 : Addr} {f : Bool} {oT : Obj} {k1 k2 : Nat} {xs ys : Array Value} {Q : Option Value → Shared → Prop} (hh : A.handled = none) (D : ZipApart z TI TO i1 i2 l1 l2)
    (hz : IsZipHeld s.heap z TI TO T f) (hT : s.heap.get? T = some oT) (hTI : IsPair s.heap TI (.ref i1) (.ref i2)) (h1 : s.heap.IsTupleIter i1 l1 k1) (h2 : s.heap.IsTupleIter i2 l2 k2)
    (hl1 : s.heap.IsTuple l1 xs) (hl2 : s.heap.IsTuple l2 ys) (hx : xs[k1]? = none)
    (fin : ∀ h', (∀ c o, c ≠ z → c ≠ i1 → c ≠ i2 → s.heap.get? c = some o → h'.get? c = some o) → Q none { s with heap := h' }) : wpAny (model prog w) A (pyNext (.ref z)) Q E s := by
  have ty : s.TypeIs (.ref z) "zip" := ⟨_, hz, rfl⟩
  unfold pyNext
  refine wpAny_bind (wpAny_attempt (wpAny_callSpecial?_slot (name := Str.ofString "__next__") ty F.slot_zip_next (wpAny_call_entry F.slot_zip_next ty F.entry_zip_next ?_ (F.args_zip_next_1 _))))
  show wpAny _ _ (field (.ref z) 2 >>= _) _ _ _
  refine wpAny_bind (wpAny_field hz rfl (x := .bool false) rfl ?_); show wpAny _ _ (field (.ref z) 3 >>= _) _ _ _
  refine wpAny_bind (wpAny_field hz rfl (x := .ref TI) rfl ?_); refine wpAny_bind (wpAny_seqItems hTI rfl ?_)
  show wpAny _ _ (Builtin.SmallTypes.ownedTupleIsFree (.ref z) >>= _) _ _ _; refine wpAny_bind (wpAny_tupleHeld_zip hz hT fun g1 zg1 sg1 => ?_)
  simp only [Bool.false_eq_true, if_false]
  refine wpAny_bind ?_
  rw [← Array.forIn_toList]
  simp only [List.forIn_cons, List.forIn_nil]
  refine wpAny_bind (wpAny_bind (wpAny_holding ?_)); show wpAny _ _ (Builtin.SmallTypes.nextOf (.ref i1) >>= _) _ _ _
  refine wpAny_bind (wpAny_nextOf_tuple_end (s := { s with heap := g1 }) hh (h1.extBut sg1.extBut D.i1z) (hl1.extBut sg1.extBut D.l1z) hx fun g2 e sg2 he => ?_)
  obtain ⟨o, ho, hc⟩ := he
  refine wpAny_bind (wpAny_isInstance (T := "StopIteration") (b := true) ⟨o, ho, hc⟩ isSubtype_stop ?_)
  exact wpAny_pure (fin _ fun c o c1 c2 _ x => sg2 _ _ c2 (sg1.extBut _ _ c1 x))

/-- the zip as it stands at turn k: nothing is out yet, or the last tuple is held -/
structure ZSt (h : Heap) (z TI TO i1 i2 l1 l2 S : Addr) (k : Nat) : Prop where
  ti : IsPair h TI (.ref i1) (.ref i2)
  a1 : h.IsTupleIter i1 l1 k
  a2 : h.IsTupleIter i2 l2 k
  zz : (IsZip h z TI TO .none ∧ ∃ a b, IsPair h TO a b) ∨ ∃ T f oT, IsZipHeld h z TI TO T f ∧ h.get? T = some oT ∧ T ≠ z ∧ T ≠ i1 ∧ T ≠ i2 ∧ T ≠ S
/-- what was made: the pairs of the items, new, one above the other -/
structure ZMade (xs ys : Array Value) (lo : Addr) (h : Heap) (ts : List Addr) : Prop where
  rise : ts.Pairwise (· < ·)
  above : ∀ a ∈ ts, lo ≤ a
  prs : ∀ (j : Nat) (a : Addr), ts[j]? = some a → ∃ x y, xs[j]? = some x ∧ ys[j]? = some y ∧ IsPair h a x y
theorem ZMade.lt {xs ys : Array Value} {lo : Addr} {h : Heap} {ts : List Addr} (g : ZMade xs ys lo h ts) {a : Addr} (ha : a ∈ ts) : a < h.objs.size := by
  obtain ⟨j, hj⟩ := List.mem_iff_getElem?.mp ha
  obtain ⟨_, _, _, _, e⟩ := g.prs j a hj
  exact Heap.lt_size e
theorem zstep {z TI TO i1 i2 l1 l2 S : Addr} {k : Nat} {xs ys : Array Value} {x y : Value} {Q : Option Value → Shared → Prop} (D : ZipApart z TI TO i1 i2 l1 l2) (st : ZSt s.heap z TI TO i1 i2 l1 l2 S k) (hS : S < s.heap.objs.size)
    (hl1 : s.heap.IsTuple l1 xs) (hl2 : s.heap.IsTuple l2 ys) (hx : xs[k]? = some x) (hy : ys[k]? = some y)
    (fin : ∀ h', ZSt h' z TI TO i1 i2 l1 l2 S (k + 1) → IsPair h' s.heap.objs.size x y → h'.objs.size = s.heap.objs.size + 1 → (∀ c o, c ≠ z → c ≠ TO → c ≠ i1 → c ≠ i2 → s.heap.get? c = some o → h'.get? c = some o) → Q (some (.ref s.heap.objs.size)) { s with heap := h' }) :
    wpAny (model prog w) A (pyNext (.ref z)) Q E s := by
  have n1 : i1 < s.heap.objs.size := by obtain ⟨_, q, _⟩ := st.a1; exact Heap.lt_size q
  have n2 : i2 < s.heap.objs.size := by obtain ⟨_, q, _⟩ := st.a2; exact Heap.lt_size q
  rcases st.zz with ⟨hz, a, b, ho⟩ | ⟨T, f, oT, hz, hT, t1, t2, t3, t4⟩
  · have n3 : z < s.heap.objs.size := Heap.lt_size hz
    refine RZ.pyNext_zipT_item D hz st.ti ho st.a1 st.a2 hl1 hl2 hx hy fun h' q1 q2 q3 q4 q5 q6 q7 => fin h' ⟨q7 TI _ D.TIz D.TITO D.TIi1 D.TIi2 st.ti, q3, q4, .inr ⟨_, false, _, q1, q5, Nat.ne_of_gt n3, Nat.ne_of_gt n1, Nat.ne_of_gt n2, Nat.ne_of_gt hS⟩⟩ q5 q6 q7
  · refine zipH_item D hz hT st.ti st.a1 st.a2 hl1 hl2 hx hy fun h' q1 q3 q4 q5 q6 q7 => fin h' ⟨q7 TI _ D.TIz D.TIi1 D.TIi2 st.ti, q3, q4, .inr ⟨T, true, _, q1, q7 T _ t1 t2 t3 hT, t1, t2, t3, t4⟩⟩ q5 q6 fun c o c1 _ c3 c4 e => q7 c o c1 c3 c4 e
theorem zdone {z TI TO i1 i2 l1 l2 S : Addr} {k : Nat} {xs ys : Array Value} {Q : Option Value → Shared → Prop} (hh : A.handled = none) (D : ZipApart z TI TO i1 i2 l1 l2) (st : ZSt s.heap z TI TO i1 i2 l1 l2 S k)
    (hl1 : s.heap.IsTuple l1 xs) (hl2 : s.heap.IsTuple l2 ys) (hx : xs[k]? = none)
    (fin : ∀ h', (∀ c o, c ≠ z → c ≠ TO → c ≠ i1 → c ≠ i2 → s.heap.get? c = some o → h'.get? c = some o) → Q none { s with heap := h' }) : wpAny (model prog w) A (pyNext (.ref z)) Q E s := by
  rcases st.zz with ⟨hz, a, b, ho⟩ | ⟨T, f, oT, hz, hT, t1, t2, t3, t4⟩
  · exact RZ.pyNext_zipT_end hh D hz st.ti ho st.a1 st.a2 hl1 hl2 (.inl hx) fin
  · exact zipH_end hh D hz hT st.ti st.a1 st.a2 hl1 hl2 hx fun h' q => fin h' fun c o c1 _ c3 c4 e => q c o c1 c3 c4 e
end
/-- S a list of the acc -/
abbrev lstAt (h : Heap) (S : Addr) (acc : Array Value) (c : Nat) : Prop := h.get? S = some { cls := .type "list", dict := none, data := .seq acc c, slots := #[] }
section
variable {prog : Program} {w : World} {A : Around} {s : Shared} {R : Result → Shared → Prop}
theorem zloop {z TI TO i1 i2 l1 l2 S lo : Addr} {xs ys : Array Value} (hh : A.handled = none) (D : ZipApart z TI TO i1 i2 l1 l2) (hlen : xs.size = ys.size) (hn : xs.size ≤ sizeLine) (res : Value)
    (hSz : S ≠ z) (hS1 : S ≠ i1) (hS2 : S ≠ i2) (hSO : S ≠ TO) (hSI : S ≠ TI) (hSl1 : S ≠ l1) (hSl2 : S ≠ l2) (hlo : S < lo ∧ z < lo ∧ TO < lo ∧ i1 < lo ∧ i2 < lo) {h0 : Heap}
    (fin : ∀ h' acc c ts, (∀ b o, b ≠ S → b ≠ z → b ≠ TO → b ≠ i1 → b ≠ i2 → h0.get? b = some o → h'.get? b = some o) → lstAt h' S acc c → ts.length = xs.size → ZMade xs ys lo h' ts → acc.toList = ts.map Value.ref → R (.ok (.ret res)) { s with heap := h' }) :
    ∀ (k i : Nat) (h : Heap) (c : Nat) (acc : Array Value) (ts : List Addr), xs.size - i = k → i ≤ xs.size → ZSt h z TI TO i1 i2 l1 l2 S i → h.IsTuple l1 xs → h.IsTuple l2 ys → (∀ b o, b ≠ S → b ≠ z → b ≠ TO → b ≠ i1 → b ≠ i2 → h0.get? b = some o → h.get? b = some o) →
      lstAt h S acc c → acc.toList = ts.map Value.ref → ts.length = i → ZMade xs ys lo h ts → lo ≤ h.objs.size → codeAny (model prog w) A (.builtin "list.extend.loop" ⟨[.ref S, .ref z, res], []⟩) R { s with heap := h } := by
  have up : ∀ (h : Heap) (f : Obj → Obj) b o, b ≠ S → h.get? b = some o → (h.update S f).get? b = some o := fun h f b o hb e => (Heap.get?_update_other _ _ (Ne.symm hb)).trans e
  intro k
  induction k with
  | zero =>
    intro i h c acc ts hk hi st t1 t2 kp hS ha hl G hz
    have ei : i = xs.size := by omega
    refine codeAny_builtin PySem.F.entry_extend_loop ?_; rw [Around.under_plainId PySem.F.plain_extend_loop _]
    show wpAny _ A.in1 (pyNext (.ref z) >>= _) _ _ _
    refine wpAny_bind (zdone (s := { s with heap := h }) (A := A.in1) hh D st t1 t2 (by simp [ei]) fun h' q => ?_)
    have off : ∀ a ∈ ts, a ≠ z ∧ a ≠ TO ∧ a ≠ i1 ∧ a ≠ i2 := fun a hm => by
      have g := G.above a hm
      exact ⟨Nat.ne_of_gt (Nat.lt_of_lt_of_le hlo.2.1 g), Nat.ne_of_gt (Nat.lt_of_lt_of_le hlo.2.2.1 g), Nat.ne_of_gt (Nat.lt_of_lt_of_le hlo.2.2.2.1 g), Nat.ne_of_gt (Nat.lt_of_lt_of_le hlo.2.2.2.2 g)⟩
    refine wpAny_pure (fin h' acc c ts (fun b o b0 b1 b2 b3 b4 e => q b o b1 b2 b3 b4 (kp b o b0 b1 b2 b3 b4 e)) (q S _ hSz hSO hS1 hS2 hS) (by omega) ⟨G.rise, G.above, fun j a hj => ?_⟩ ha)
    obtain ⟨x, y, e1, e2, e3⟩ := G.prs j a hj
    obtain ⟨o1, o2, o3, o4⟩ := off a (List.mem_of_getElem? hj)
    exact ⟨x, y, e1, e2, q a _ o1 o2 o3 o4 e3⟩
  | succ k ih =>
    intro i h c acc ts hk hi st t1 t2 kp hS ha hl G hz
    have lt : i < xs.size := by omega
    have lt2 : i < ys.size := by omega
    have sz : acc.size = i := by rw [← Array.length_toList, ha, List.length_map, hl]
    have hSl : S < h.objs.size := Heap.lt_size hS
    refine codeAny_builtin PySem.F.entry_extend_loop ?_; rw [Around.under_plainId PySem.F.plain_extend_loop _]
    show wpAny _ A.in1 (pyNext (.ref z) >>= _) _ _ _
    refine wpAny_bind (zstep (s := { s with heap := h }) (A := A.in1) (S := S) D st hSl t1 t2 (Array.getElem?_eq_getElem lt) (Array.getElem?_eq_getElem lt2) fun h' st2 pr sz2 q => ?_)
    dsimp only at pr sz2 q ⊢
    have hS2' : lstAt h' S acc c := q S _ hSz hSO hS1 hS2 hS
    show wpAny _ A.in1 (updateSeq S (·.push (Value.ref h.objs.size)) >>= _) _ _ _
    refine wpAny_bind ?_
    refine wpAny_updateSeq hS2' rfl (wpAny_pure ⟨plainId_quiet PySem.F.plain_extend_loop _, ih (i + 1) _ _ (acc.push (Value.ref h.objs.size)) (ts ++ [h.objs.size]) (by omega) lt ?st ?t1 ?t2 ?kp (Heap.get?_update_self _ hS2' rfl) ?ha ?hl ?G ?hz⟩) (by rw [sz]; omega) (by show (acc.push (Value.ref h.objs.size)).size ≤ sizeLine + 1; rw [Array.size_push, sz]; omega)
    case st =>
      refine ⟨up _ _ _ _ hSI.symm st2.ti, st2.a1.at fun o e => up _ _ _ _ hS1.symm e, st2.a2.at fun o e => up _ _ _ _ hS2.symm e, ?_⟩
      rcases st2.zz with ⟨b1, a, b, b2⟩ | ⟨T, f, oT, b1, b2, b3, b4, b5, b6⟩
      · exact .inl ⟨up _ _ _ _ hSz.symm b1, a, b, up _ _ _ _ hSO.symm b2⟩
      · exact .inr ⟨T, f, oT, up _ _ _ _ hSz.symm b1, up _ _ _ _ b6 b2, b3, b4, b5, b6⟩
    case t1 =>
      obtain ⟨o, ho, r⟩ := t1
      exact ⟨o, up _ _ _ _ hSl1.symm (q l1 o D.l1z D.l1TO D.l1i1 D.l1i2 ho), r⟩
    case t2 =>
      obtain ⟨o, ho, r⟩ := t2
      exact ⟨o, up _ _ _ _ hSl2.symm (q l2 o D.l2z D.l2TO D.l2i1 D.l2i2 ho), r⟩
    case kp => exact fun b o b0 b1 b2 b3 b4 e => up _ _ b o b0 (q b o b1 b2 b3 b4 (kp b o b0 b1 b2 b3 b4 e))
    case ha => rw [Array.toList_push, ha, List.map_append]; rfl
    case hl => rw [List.length_append, hl]; rfl
    case hz =>
      show lo ≤ (h'.update S _).objs.size
      rw [Heap.size_update, sz2]
      exact Nat.le_succ_of_le hz
    case G =>
      refine ⟨?_, ?_, ?_⟩
      · refine List.pairwise_append.mpr ⟨G.rise, List.pairwise_singleton _ _, fun a hm b hb => ?_⟩
        rw [List.mem_singleton.mp hb]
        exact G.lt hm
      · intro a hm
        rcases List.mem_append.mp hm with hm | hm
        · exact G.above a hm
        · rw [List.mem_singleton.mp hm]; exact hz
      · intro j a hj
        rcases Nat.lt_trichotomy j ts.length with q1 | q1 | q1
        · rw [List.getElem?_append_left q1] at hj
          obtain ⟨x, y, e1, e2, e3⟩ := G.prs j a hj
          have g := G.above a (List.mem_of_getElem? hj)
          refine ⟨x, y, e1, e2, up _ _ a _ (Nat.ne_of_gt (Nat.lt_of_lt_of_le hlo.1 g)) (q a _ ?_ ?_ ?_ ?_ e3)⟩
          · exact Nat.ne_of_gt (Nat.lt_of_lt_of_le hlo.2.1 g)
          · exact Nat.ne_of_gt (Nat.lt_of_lt_of_le hlo.2.2.1 g)
          · exact Nat.ne_of_gt (Nat.lt_of_lt_of_le hlo.2.2.2.1 g)
          · exact Nat.ne_of_gt (Nat.lt_of_lt_of_le hlo.2.2.2.2 g)
        · subst q1
          have e : h.objs.size = a := by simpa using hj
          subst e
          rw [hl]
          exact ⟨_, _, Array.getElem?_eq_getElem lt, Array.getElem?_eq_getElem lt2, up _ _ _ _ (Nat.ne_of_gt hSl) pr⟩
        · rw [List.getElem?_eq_none (by rw [List.length_append, List.length_singleton]; omega)] at hj
          cases hj
end
theorem zip_no_len : typeLookup (.type "zip") "__len__" = pure none := by rw [typeLookup_type, builtinLookup_eq_fast]; kernel_rfl
theorem zip_no_hint : typeLookup (.type "zip") "__length_hint__" = pure none := by rw [typeLookup_type, builtinLookup_eq_fast]; kernel_rfl
section
variable {prog : Program} {w : World} {A : Around} {E : Value → Shared → Prop} {s : Shared}
/-- list(z) of a zip over two tuples that nobody has drawn from -/
theorem list_of_zip {z TI TO i1 i2 l1 l2 : Addr} {xs ys : Array Value} {Q : Value → Shared → Prop} (hh : A.handled = none) (D : ZipApart z TI TO i1 i2 l1 l2) (hlen : xs.size = ys.size) (hn : xs.size ≤ sizeLine)
    (hz : IsZip s.heap z TI TO .none) (hTI : IsPair s.heap TI (.ref i1) (.ref i2)) (hTO : ∃ a b, IsPair s.heap TO a b) (h1 : s.heap.IsTupleIter i1 l1 0) (h2 : s.heap.IsTupleIter i2 l2 0) (t1 : s.heap.IsTuple l1 xs) (t2 : s.heap.IsTuple l2 ys)
    (fin : ∀ h' acc c ts, (∀ b o, b ≠ z → b ≠ TO → b ≠ i1 → b ≠ i2 → s.heap.get? b = some o → h'.get? b = some o) → lstAt h' s.heap.objs.size acc c → ts.length = xs.size → ZMade xs ys (s.heap.objs.size + 1) h' ts → acc.toList = ts.map Value.ref → Q (.ref s.heap.objs.size) { s with heap := h' }) :
    wpAny (model prog w) A (call (.type "list") [.ref z]) Q E s := by
  have lz : z < s.heap.objs.size := Heap.lt_size hz
  have lI : TI < s.heap.objs.size := Heap.lt_size hTI
  have lO : TO < s.heap.objs.size := by obtain ⟨_, _, q⟩ := hTO; exact Heap.lt_size q
  have n1 : i1 < s.heap.objs.size := by obtain ⟨_, q, _⟩ := h1; exact Heap.lt_size q
  have n2 : i2 < s.heap.objs.size := by obtain ⟨_, q, _⟩ := h2; exact Heap.lt_size q
  have n3 : l1 < s.heap.objs.size := by obtain ⟨_, q, _⟩ := t1; exact Heap.lt_size q
  have n4 : l2 < s.heap.objs.size := by obtain ⟨_, q, _⟩ := t2; exact Heap.lt_size q
  refine callType_codes (Q₁ := fun ob s1 => ob = .ref s.heap.objs.size ∧ s1 = { s with heap := s.heap.push { cls := .type "list", data := .seq #[] } }) PySem.F.called_list (PySem.F.typeCall_list_1 _) PySem.F.entry_list_init (code_list_new _ ⟨rfl, rfl⟩) fun ob s1 hs1 => ?_
  obtain ⟨rfl, rfl⟩ := hs1
  have e0 : (s.heap.push { cls := .type "list", data := .seq #[] }).get? s.heap.objs.size = some { cls := .type "list", data := .seq #[] } := Heap.get?_push_size _ rfl
  refine ⟨⟨_, e0, rfl⟩, PySem.F.args_list_init_2 _ _, ?_⟩
  show wpAny _ A.in1.in1 (do let old ← Builtin.List.listItems (.ref s.heap.objs.size); Builtin.List.listUpdate (.ref s.heap.objs.size) (fun _ => #[]); letGo old.toList.reverse; Builtin.List.listExtendWith (.ref s.heap.objs.size) (.ref z) .none) _ _ _
  refine wpAny_bind ?_; unfold Builtin.List.listItems
  refine wpAny_bind (wpAny_seqItems e0 rfl (wpAny_pure ?_))
  show wpAny _ A.in1.in1 (updateSeq s.heap.objs.size (fun _ => #[]) >>= fun _ => letGo (#[] : Array Value).toList.reverse >>= fun _ => Builtin.List.listExtendWith (.ref s.heap.objs.size) (.ref z) .none) _ _ _
  refine wpAny_bind (wpAny_updateSeq e0 rfl ?_)
  have e1 := Heap.get?_update_self (Obj.mapSeq (fun _ => (#[] : Array Value))) e0 rfl
  refine wpAny_bind (wpAny_letGo ?_)
  have upk : ∀ (h : Heap) (f : Obj → Obj), (∀ b o, s.heap.get? b = some o → h.get? b = some o) → ∀ b o, s.heap.get? b = some o → (h.update s.heap.objs.size f).get? b = some o := fun h f q b o e =>
    (Heap.get?_update_other _ _ (Ne.symm (Nat.ne_of_lt (Heap.lt_size e)))).trans (q b o e)
  have k0 : ∀ b o, s.heap.get? b = some o → (s.heap.push { cls := .type "list", data := .seq #[] }).get? b = some o := fun b o e => Heap.get?_push_of_some _ e
  have k1 := upk _ (Obj.mapSeq (fun _ => (#[] : Array Value))) k0
  unfold Builtin.List.listExtendWith
  have ty : ∀ {h : Heap}, (∀ b o, s.heap.get? b = some o → h.get? b = some o) → Shared.TypeIs { s with heap := h } (.ref z) "zip" := fun q => ⟨_, q _ _ hz, rfl⟩
  refine wpAny_bind (wpAny_typeOf (ty k1) ?_)
  have f1 : Builtin.List.listSameRef (.ref s.heap.objs.size) (.ref z) = false := by simp [Builtin.List.listSameRef, Nat.ne_of_gt lz]
  have f2 : (Value.type "zip" == Value.type "list") = false := by decide
  have f3 : (Value.type "zip" == Value.type "tuple") = false := by decide
  simp only [f1, f2, f3, Bool.or_false, Bool.false_eq_true, if_false]
  refine wpAny_bind (wpAny_pyIter_zip (s := { s with heap := _ }) (k1 _ _ hz) ?_)
  refine wpAny_bind (wpAny_holding ?_)
  unfold Builtin.List.listLengthHint
  refine wpAny_bind (wpAny_specialOf (ty k1) zip_no_len ?_)
  show wpAny _ A.in1.in1 (specialOf (Value.ref z) (Str.ofString "__length_hint__") >>= _) _ _ _
  refine wpAny_bind (wpAny_specialOf (ty k1) zip_no_hint ?_)
  refine wpAny_pure ?_
  show wpAny _ A.in1.in1 (rule "list.extend.makes-room" >>= fun _ => Builtin.List.listTouch (.ref s.heap.objs.size) >>= fun _ => again (.builtin "list.extend.loop" ⟨[.ref s.heap.objs.size, .ref z, .none], []⟩)) _ _ _
  refine wpAny_bind (wpAny_rule ?_); refine wpAny_bind ?_
  show wpAny _ A.in1.in1 (updateSeq s.heap.objs.size (·.push .none) >>= fun _ => updateSeq s.heap.objs.size (·.pop)) _ _ _
  refine wpAny_bind (wpAny_updateSeq e1 rfl ?_)
  have e2 := Heap.get?_update_self (Obj.mapSeq (·.push Value.none)) e1 rfl
  refine wpAny_updateSeq (hz := by seq_fits) e2 rfl ?_
  have e3 := Heap.get?_update_self (Obj.mapSeq (·.pop)) e2 rfl
  have k3 := upk _ (Obj.mapSeq (·.pop)) (upk _ (Obj.mapSeq (·.push Value.none)) k1)
  refine wpAny_pure ⟨plainId_quiet PySem.F.plain_extend_loop _, ?_⟩
  have T1 := t1.at fun o e => k3 l1 o e
  have T2 := t2.at fun o e => k3 l2 o e
  have lt1 : ∀ {b : Addr}, b < s.heap.objs.size → b < s.heap.objs.size + 1 := fun h => Nat.lt_succ_of_lt h
  refine zloop (s := s) (A := A.in1) (S := s.heap.objs.size) (lo := s.heap.objs.size + 1) (h0 := s.heap) (by exact hh) D hlen hn .none (Nat.ne_of_gt lz) (Nat.ne_of_gt n1) (Nat.ne_of_gt n2) (Nat.ne_of_gt lO) (Nat.ne_of_gt lI) (Nat.ne_of_gt n3) (Nat.ne_of_gt n4)
    ⟨Nat.lt_succ_self _, lt1 lz, lt1 lO, lt1 n1, lt1 n2⟩ ?last
    xs.size 0 _ _ #[] [] (Nat.sub_zero _) (Nat.zero_le _) ⟨k3 _ _ hTI, h1.at fun o e => k3 _ o e, h2.at fun o e => k3 _ o e, .inl ⟨k3 _ _ hz, ?_⟩⟩ T1 T2 (fun b o _ _ _ _ _ e => k3 b o e) e3 rfl rfl ⟨List.Pairwise.nil, fun _ h => (nomatch h), fun j a h => by simp at h⟩ ?_
  case last => exact fun h' acc c ts q1 q2 q3 q4 q5 => ⟨rfl, fin h' acc c ts (fun b o b1 b2 b3 b4 e => q1 b o (Nat.ne_of_lt (Heap.lt_size e)) b1 b2 b3 b4 e) q2 q3 q4 q5⟩
  · obtain ⟨a, b, q⟩ := hTO
    exact ⟨a, b, k3 _ _ q⟩
  · simp only [Heap.size_update, Heap.size_push]
    exact Nat.le_refl _
end
/-- the pairs tracked at their addresses -/
def layT : List Addr → List (V × V) → Hp → Hp
  | a :: as, p :: ps, H => layT as ps (upd H a (.tup [p.1, p.2]))
  | _, _, H => H
theorem layT_off {b : Addr} : ∀ (as : List Addr) (ps : List (V × V)) (H : Hp), b ∉ as → layT as ps H b = H b
  | [], _, _, _ => rfl
  | _ :: _, [], _, _ => rfl
  | a :: as, p :: ps, H, h => by
    have e : layT (a :: as) (p :: ps) H b = layT as ps (upd H a (.tup [p.1, p.2])) b := rfl
    rw [e, layT_off as ps _ fun z => h (List.mem_cons_of_mem _ z), upd_ne fun z => h (by rw [z]; exact List.mem_cons_self)]
theorem layT_at : ∀ (as : List Addr) (ps : List (V × V)) (H : Hp), as.Nodup → ∀ (j : Nat) (a : Addr) (p : V × V), as[j]? = some a → ps[j]? = some p → layT as ps H a = some (.tup [p.1, p.2])
  | [], _, _, _, j, _, _, h, _ => by simp at h
  | _ :: _, [], _, _, j, _, _, _, h => by simp at h
  | a :: as, p :: ps, H, n, 0, b, q, h1, h2 => by
    have e1 : a = b := Option.some.inj h1
    have e2 : p = q := Option.some.inj h2
    subst e1
    subst e2
    have e : layT (a :: as) (p :: ps) H a = layT as ps (upd H a (.tup [p.1, p.2])) a := rfl
    rw [e, layT_off as ps _ (List.nodup_cons.mp n).1, upd_same]
  | a :: as, p :: ps, H, n, j + 1, b, q, h1, h2 => layT_at as ps _ (List.nodup_cons.mp n).2 j b q (by simpa using h1) (by simpa using h2)
theorem refs_vals : ∀ as : List Addr, Vals (as.map V.ref) (as.map Value.ref)
  | [] => .nil
  | _ :: as => .cons rfl (refs_vals as)
def tListZip (K : PySem.W.Frag) (ta : TA) : TE := fun σ H Q => ta σ H fun vs H1 => ∃ a b xs ys, vs = [.ref a, .ref b] ∧ SqT K H1 a xs ∧ SqT K H1 b ys ∧ xs.length = ys.length ∧
  ∀ (H' : Hp) (p : Addr) (ts : List Addr), Same H1 H' → H1 p = none → H' p = some (.lst (ts.map V.ref)) → ts.length = xs.length → (∀ (j : Nat) (t : Addr), ts[j]? = some t → ∃ x y, xs[j]? = some x ∧ ys[j]? = some y ∧ H' t = some (.tup [x, y])) → Q (.ref p) H'
section
variable {X : Cx} {e e2 : Expr} {ta : TA} {p p2 pos pos2 : Pos}
theorem zip_laid {pins : List (Addr × Obj)} {σ : L2.St} {H : Hp} {s : Shared} {h' : Heap} {S : Addr} {its its2 : List Value} {xs ys : List V} {acc : Array Value} {c : Nat} {ts : List Addr} (I : Inv X pins σ H s) (r1 : Vals xs its) (r2 : Vals ys its2) (hz : xs.length ≤ sizeLine)
    (hk : ∀ b o, s.heap.get? b = some o → h'.get? b = some o) (hS : s.heap.objs.size ≤ S) (hL : lstAt h' S acc c) (hl : ts.length = xs.length) (G : ZMade its.toArray its2.toArray (S + 1) h' ts) (ha : acc.toList = ts.map Value.ref) :
    ∃ H' : Hp, Same H H' ∧ H S = none ∧ H' S = some (.lst (ts.map V.ref)) ∧ (∀ (j : Nat) (t : Addr), ts[j]? = some t → ∃ x y, xs[j]? = some x ∧ ys[j]? = some y ∧ H' t = some (.tup [x, y])) ∧ Inv X pins σ H' { s with heap := h' } := by
  have nS : H S = none := I.hok.fresh hS
  have nT : ∀ t ∈ ts, H t = none := fun t ht => I.hok.fresh (Nat.le_trans hS (Nat.le_of_lt (G.above t ht)))
  have nST : S ∉ ts := fun h => Nat.lt_irrefl _ (G.above S h)
  have nd : ts.Nodup := G.rise.imp fun {a b} (h : a < b) => Nat.ne_of_lt h
  let H1 : Hp := upd H S (.lst (ts.map V.ref))
  let H' : Hp := layT ts (xs.zip ys) H1
  have off : ∀ b, b ∉ ts → b ≠ S → H' b = H b := fun b h1 h2 => by
    show layT ts (xs.zip ys) (upd H S _) b = H b
    rw [layT_off _ _ _ h1, upd_ne h2]
  have eS : H' S = some (.lst (ts.map V.ref)) := by
    show layT ts (xs.zip ys) (upd H S _) S = _
    rw [layT_off _ _ _ nST, upd_same]
  have sm : Same H H' := fun b o q => by
    rw [off b (fun z => by rw [nT b z] at q; cases q) (fun z => by rw [z, nS] at q; cases q)]
    exact q
  have at_ : ∀ (j : Nat) (t : Addr), ts[j]? = some t → ∃ x y u v, xs[j]? = some x ∧ ys[j]? = some y ∧ RelV x u ∧ RelV y v ∧ IsPair h' t u v ∧ H' t = some (.tup [x, y]) := fun j t hj => by
    obtain ⟨u, v, e1, e2, e3⟩ := G.prs j t hj
    have e1' : its[j]? = some u := by simpa using e1
    have e2' : its2[j]? = some v := by simpa using e2
    have b1 : j < xs.length := by rw [r1.length]; exact (List.getElem?_eq_some_iff.mp e1').1
    have b2 : j < ys.length := by rw [r2.length]; exact (List.getElem?_eq_some_iff.mp e2').1
    obtain ⟨u', q1, q2⟩ := r1.get (List.getElem?_eq_getElem b1)
    obtain ⟨v', q3, q4⟩ := r2.get (List.getElem?_eq_getElem b2)
    rw [e1'] at q1
    rw [e2'] at q3
    cases q1
    cases q3
    refine ⟨xs[j], ys[j], u, v, List.getElem?_eq_getElem b1, List.getElem?_eq_getElem b2, q2, q4, e3, ?_⟩
    exact layT_at ts (xs.zip ys) _ nd j t (xs[j], ys[j]) hj (by rw [List.getElem?_zip_eq_some]; exact ⟨List.getElem?_eq_getElem b1, List.getElem?_eq_getElem b2⟩)
  have low : ∀ b o, s.heap.get? b = some o → b ∉ ts ∧ b ≠ S := fun b o q => ⟨fun z => absurd (Heap.lt_size q) (Nat.not_lt.mpr (Nat.le_trans hS (Nat.le_of_lt (G.above b z)))), Nat.ne_of_lt (Nat.lt_of_lt_of_le (Heap.lt_size q) hS)⟩
  refine ⟨H', sm, nS, eS, fun j t hj => ?_, ?_⟩
  · obtain ⟨x, y, _, _, q1, q2, _, _, _, q3⟩ := at_ j t hj
    exact ⟨x, y, q1, q2, q3⟩
  refine I.call' (ch := []) rfl ⟨fun b o q _ _ _ => hk b o q, fun b o q _ _ _ => ⟨o.slots, hk b o q⟩, fun b o q n _ => ?_, fun b o q _ => ⟨o, hk b o q⟩, fun b ys q => sm b _ q, fun b o u q => sm b _ q, fun b ps q => ⟨#[], by rw [sm b _ q]; simp⟩⟩ (fun b u q => ?_) I.bare fun b z => by simp at z
  · obtain ⟨z1, z2⟩ := low b o q
    rw [off b z1 z2]
    exact n
  · by_cases hb : b ∈ ts
    · obtain ⟨j, hj⟩ := List.mem_iff_getElem?.mp hb
      obtain ⟨x, y, u1, v1, _, _, q2, q3, q4, q5⟩ := at_ j b hj
      rw [q5] at q
      cases q
      exact ⟨by show 2 ≤ sizeLine; decide, [u1, v1], .cons q2 (.cons q3 .nil), ⟨_, q4, rfl, _, rfl⟩⟩
    · by_cases hb2 : b = S
      · subst hb2
        rw [eS] at q
        cases q
        exact ⟨by rw [List.length_map, hl]; exact hz, acc.toList, c, by rw [ha]; exact refs_vals ts, by rw [Array.toArray_toList]; exact hL⟩
      · rw [off b hb hb2] at q
        exact (I.hok b u q).stay (fun d v _ y => hk d v y) (fun d y => sm d _ y) fun d xs y => sm d _ y
theorem pe_listZip (hc : X.calm = true) (ha : PA X [e, e2] ta) (hg : Gl X "list") (hm : X.mg "list" = none) (hg2 : Gl X "zip") (hm2 : X.mg "zip" = none)
    (hs : starEach [e, e2] X.env = (false, eval e X.env) :: starEach [e2] X.env := by rfl) (hpl : (backTo pos2 (starEach [e2] X.env)).any (·.1) = false := by rfl)
    (hs2 : starEach [.Call (.Name "zip" p2) [e, e2] [] pos2] X.env = (false, eval (.Call (.Name "zip" p2) [e, e2] [] pos2) X.env) :: starEach [] X.env := by rfl) :
    PE X (.Call (.Name "list" p) [.Call (.Name "zip" p2) [e, e2] [] pos2] [] pos) (tListZip X.K ta) := by
  refine ⟨fun pins s σ H Q I h => ?_⟩
  refine Call_ (ld_blt I hg hm (u := .type "list") (by decide +kernel) ?_)
  refine PyProof.Rows.callWith_type1 (PyProof.Rows.args_cons ?_ hs2) hs2 rfl
  refine Call_ (ld_blt I hg2 hm2 PyProof.Rows.boot_zip ?_)
  refine PyProof.Rows.callWith_type1 (thn (ha.run pos2 pins s σ H _ I h) fun us s1 ⟨vs, H1, I1, r, a, b, xs, ys, ev, ta1, tb1, hl, q⟩ => ?_) hs hpl
  subst ev
  cases r with
  | cons ra rr =>
    cases rr with
    | cons rb rr =>
      cases rr
      cases ra
      cases rb
      obtain ⟨its, rv, p1, z1⟩ := I1.tuple ta1
      obtain ⟨its2, rv2, p2, _⟩ := I1.tuple tb1
      have la : a < s1.heap.objs.size := by obtain ⟨_, q, _⟩ := id p1; exact Heap.lt_size q
      have lb : b < s1.heap.objs.size := by obtain ⟨_, q, _⟩ := id p2; exact Heap.lt_size q
      have l1 := rv.length
      have l2 := rv2.length
      refine RZ.call_zipT (show s1.heap.IsTuple a its.toArray from p1) (show s1.heap.IsTuple b its2.toArray from p2) fun g hz hTI hTO h1 h2 hsz hk => PyProof.Rows.args_nil ?_
      refine list_of_zip (s := { s1 with heap := g }) (by exact I1.ok.hd hc) (PySem.W.ktu_apart s1.heap.objs.size a b la lb) (by simp; omega) (by simp; omega) hz hTI ⟨_, _, hTO⟩ h1 h2 ((show s1.heap.IsTuple a its.toArray from p1).at fun o e => hk a o e) ((show s1.heap.IsTuple b its2.toArray from p2).at fun o e => hk b o e) fun g2 acc c ts q1 q2 q3 q4 q5 => ?_
      have old : ∀ b o, s1.heap.get? b = some o → g2.get? b = some o := fun b o e => by
        have lt := Heap.lt_size e
        refine q1 b o ?_ ?_ ?_ ?_ (hk b o e) <;> exact Nat.ne_of_lt (Nat.lt_of_lt_of_le lt (by first | exact Nat.le_refl _ | exact Nat.le_add_right _ _))
      obtain ⟨H', k1, k2, k3, k4, J⟩ := zip_laid (S := g.objs.size) I1 rv rv2 z1 old (by rw [hsz]; exact Nat.le_add_right _ _) q2 (by rw [q3]; simp; omega) q4 q5
      exact ⟨.ref _, H', J, rfl, q H' _ ts k1 k2 k3 (by rw [q3]; simp; omega) k4⟩
end
end Kd

set_option Elab.async false
set_option linter.all false
set_option maxRecDepth 100000
set_option maxHeartbeats 4000000
namespace Kd
open PySem PySem.Spec PyProof.Rows L2
/-! ## defs that ask for a repr: a promise where no repr is under way -/
structure FnOkG (P : Program) (w : World) (K : PySem.W.Frag) (mg : Str → Option Value) (base : Heap) (k : Nat) (f : Addr) (fd : FuncData) (ps : List Str) (sp : Sp) : Prop where
  len : ∀ vs H Q E, sp vs H Q E → vs.length = ps.length
  go : ∀ (A : Around) (outer : List Env) (s : Shared) (H : Hp) (args : Args) (us : List Value) (vs : List V) (Q : VK) (E : XK), A.guards = some [] → Room k A → Env0 P w K mg base A outer s H → BindsTo s fd args (ps.zip us) → Vals vs us → sp vs H Q E →
    codeAny (model P w) A (.call (.ref f) args) (CR CX0 outer P w H s Q E) s
section
variable {P : Program} {w : World} {K : PySem.W.Frag} {mg : Str → Option Value} {base : Heap}
theorem Fun_okG {x qual : Str} {st : Stmt} {f : Addr} {fd : FuncData} {N ps : List Str} {k : Nat} {sp : Sp} (F : Fun K x qual st f fd) (S : FnScope N ps (defScope st)) (len : ∀ vs H Q E, sp vs H Q E → vs.length = ps.length)
    (body : ∀ (cdv : Value) (A : Around) (outer : List Env) (s : Shared) (H : Hp) (vs : List V) (Q : VK) (E : XK), A.guards = some [] → Room k (A.deeper (envOfC qual (defScope st) s.heap.objs.size f cdv)) → sp vs H Q E →
      ∃ t, PSs (cxOf CX0 P w K mg base N qual (defScope st) f cdv A outer s H E).nox (defBody st) t ∧ t { nx := fun _ H' => Q .non H', rt := Q } (start N vs) H) : FnOkG P w K mg base (k + 1) f fd ps sp := by
  obtain ⟨oc, od, kV, doc, pm, an, cdv, ct, osl, rfl, lk, hcd⟩ := F.ex
  refine ⟨len, fun A outer s H args us vs Q E hg hr e0 hb r hsp => ?_⟩
  have kin : K.In s.heap := e0.mod.kin.keeps fun b o e => (e0.bs b o e).1
  have lim : s.heap.NoLimit := e0.mod.nolimit.keeps fun b o e => (e0.bs b o e).1
  refine codeAny_call_function hr.depth (kin _ _ lk) rfl S.co S.gen rfl (PySem.W.codeRec_of kin hcd) (hb _ _ _ _ ?_)
  refine wpAny_newFunctionEnv_cells S.kind (fun ⟨n, v⟩ hy => ?_) fun env he s1 ic => ?_
  · rcases S.par n (List.of_mem_zip hy).1 with q | q
    · exact .inl q
    · exact .inr ⟨q, PySem.W.cellsFrom_some _ _ _ (.inl q)⟩
  subst he
  refine ⟨lim.keeps ic.toInCall.keep, codeAny_func ?_⟩
  obtain ⟨t, ht, hq⟩ := body cdv A outer s H vs Q E hg (hr.deeper _) hsp
  have I := inv_start (CX := CX0) (mg := mg) (E := E) S hr.hd e0 (len _ _ _ _ hsp) r ic
  refine wpAny_mono (ht.nox.run [] s1 (start N vs) H _ I hq) (fun fl s2 hs => ?_) fun e s2 hs => hs
  cases fl with
  | next =>
    obtain ⟨σ2, H2, J, q⟩ := hs
    exact ⟨.non, H2, J.os, J.bare, J.base, J.hok, rfl, q⟩
  | ret u =>
    obtain ⟨v, σ2, H2, J, rv, q⟩ := hs
    exact ⟨v, H2, J.os, J.bare, J.base, J.hok, rv, q⟩
  | brk =>
    obtain ⟨_, _, _, q⟩ := hs
    exact q.elim
  | cont =>
    obtain ⟨_, _, _, q⟩ := hs
    exact q.elim
end
section
variable {X : Cx} {k : Nat} {f : Addr} {fd : FuncData} {ps : List Str} {sp : Sp} {E : XK} {x : Str} {p pos : Pos} {e : Expr} {es : List Expr} {t : TA}
theorem pe_callG (F : FnOkG X.prog X.w X.K X.mg X.base k f fd ps sp) (hgu : X.A.guards = some []) (hr : Room k X.A) (hg : Gl X x) (hm : X.mg x = some (.ref f)) (hk : PySem.W.keepIn X.K (.ref f) = true) (hb : Binds X.K fd ps []) (hx : Passes CX0 X E)
    (ha : PA X (e :: es) t) (hdb : (x == ("__debug__" : Str)) = false := by decide) (he : starEach (e :: es) X.env = (false, eval e X.env) :: starEach es X.env := by rfl) (hpl : (backTo pos (starEach es X.env)).any (·.1) = false := by rfl) :
    PE X (.Call (.Name x p) (e :: es) [] pos) (tCall sp [] E t) := by
  refine ⟨fun pins s σ H Q I h => ?_⟩
  refine wpAny_Call_Name_kw (ld_glob I hg hm ?_ hdb)
  refine PySem.W.callWith_K (h₀ := X.base) I.ok.mod.kin hk (thn (ha.run pos pins s σ H _ I h) fun us s1 ⟨vs, H1, I1, r, q⟩ => ⟨I1.kIn, ?_⟩) he hpl
  have q' : sp vs H1 Q E := by
    have q2 : sp (vs ++ []) H1 Q E := q
    rwa [List.append_nil] at q2
  have hl : (us ++ []).length = ps.length := by rw [List.append_nil, ← r.length]; exact F.len _ _ _ _ q'
  have hb' := hb s1 us I1.kIn hl
  rw [List.append_nil] at hb'
  refine wpAny_call (codeAny_mono (F.go X.A X.stack s1 H1 ⟨us, []⟩ us vs Q E hgu hr I1.env0 hb' r q') fun res s2 hq => ?_)
  match res, hq with
  | .error e, hq => exact hx pins σ H1 s1 e s2 I1 hq
  | .ok (.ret u), hq => exact I1.after hq
  | .ok .next, hq => exact hq.elim
  | .ok .brk, hq => exact hq.elim
  | .ok .cont, hq => exact hq.elim
end
/-! ## the head, of such a promise -/
theorem lawG_call {P : Program} {w : World} {K : PySem.W.Frag} {mg mb : Str → Option Value} {k : Nat} {fa a : Addr} {fd : FuncData} {x : Str} {sp : Sp} {s1 : Shared} {us : List Value} {ks : List Int}
    (kin : K.In s1.heap) (hns : s1.heap.Ns mainGlobals mg) (hb : s1.heap.Ns builtinsNs mb) (hbb : ∀ x : Str, x ≠ "__name__" → mb x = bootBuiltins x) (lim : s1.heap.NoLimit) (hg : s1.gens = #[])
    (ha : s1.heap.get? a = some { cls := .type "list", data := .seq us.toArray }) (hi : IntsAre us ks) (hl : ks.length ≤ sizeLine) (hr : Room k callerA)
    (F : ∀ base : Heap, K.In base → base.Ns mainGlobals mg → FnOkG P w K mg base k fa fd [x] sp) (bind : ∀ (s : Shared) (u : Value), BindsTo s fd ⟨[u], []⟩ [(x, u)])
    (hsp : ∀ H : Hp, Only H → SqL K H a (ks.map V.int) → sp [.ref a] H (fun v _ => v = .bl true) fun _ _ _ => False) :
    codeAny (model P w) callerA (.call (.ref fa) ⟨[.ref a], []⟩) (fun r s' => r = .ok (.ret (.bool true)) ∧ OldK s1.heap s'.heap ∧ s'.os = s1.os ∧ AllBare s'.gens) s1 := by
  have rv := vals_ints hi
  have core : ∀ H : Hp, Only H → SqL K H a (ks.map V.int) → HOk P w H s1.heap → (∀ b, H b ≠ none → b = a) → (H a ≠ none → K.lookup a = none) →
      codeAny (model P w) callerA (.call (.ref fa) ⟨[.ref a], []⟩) (fun r s' => r = .ok (.ret (.bool true)) ∧ OldK s1.heap s'.heap ∧ s'.os = s1.os ∧ AllBare s'.gens) s1 := by
    intro H hO hS hok hA hK
    have only : ∀ {b : Addr}, b ≠ a → H b = none := fun {b} hb => by
      cases q : H b with
      | none => rfl
      | some u => exact absurd (hA b (by rw [q]; exact fun z => nomatch z)) hb
    have dictN : ∀ {b : Addr} {o : Obj} {es : Array DictEntry} {ep : Nat}, s1.heap.get? b = some o → o.data = .dict es ep → H b = none := fun {b o es ep} e d => only fun z => by
      subst z
      rw [ha] at e
      cases e
      cases (show Data.seq us.toArray _ = Data.dict es ep from d)
    have nsH : ∀ {b : Addr} {m : Str → Option Value}, s1.heap.Ns b m → (hidT s1.heap H).Ns b m := fun {b m} ⟨o, es, ep, e, d, r⟩ => ⟨o, es, ep, hidT_get e (dictN e d), d, r⟩
    have kinH : K.In (hidT s1.heap H) := fun b o e => hidT_get (kin b o e) (by
      by_cases z : b = a
      · cases q : H b with
        | none => rfl
        | some u =>
          subst z
          rw [hK (by rw [q]; exact fun y => nomatch y)] at e
          cases e
      · exact only z)
    have md : Mod K mg (hidT s1.heap H) := ⟨kinH, nsH hns, ⟨mb, nsH hb, hbb⟩, let ⟨mc, h1, h2⟩ := lim; ⟨mc, nsH h1, h2⟩⟩
    have e0 : Env0 P w K mg (hidT s1.heap H) callerA [] s1 H := ⟨rfl, md, fun b o e => of_hidT e, Nat.le_of_eq (hidT_size _ _), trivial, fun b hb => absurd (show b ∈ ([] : List Addr) from hb) (by simp), hok, .of_eq hg⟩
    refine codeAny_mono ((F _ kinH (nsH hns)).go callerA [] s1 H ⟨[.ref a], []⟩ [.ref a] [.ref a] _ _ rfl hr e0 (bind s1 (.ref a)) (.cons rfl .nil) (hsp H hO hS)) fun r s' h => ?_
    match r, h with
    | .error e, h => exact h.elim
    | .ok .next, h => exact h.elim
    | .ok .brk, h => exact h.elim
    | .ok .cont, h => exact h.elim
    | .ok (.ret u), h =>
      obtain ⟨v, H2, os, bare, un, hok2, rr, q⟩ := h
      obtain rfl : v = .bl true := q
      obtain rfl : u = Value.bool true := rr
      refine ⟨rfl, OldK.of_keep fun b o e => ?_, os, bare⟩
      by_cases z : H b = none
      · exact un.keep b o e z (fun y => absurd (show b ∈ ([] : List Addr) from y) (by simp)) (by simp)
      · rcases hO b with y | ⟨ob, xs, y⟩
        · exact absurd y z
        · obtain ⟨e1, _⟩ := hok b _ y
          obtain ⟨e2, _⟩ := hok2 b _ (un.frzs b ob _ y)
          rw [e] at e1
          cases e1
          exact e2
  have len2 := hi.length
  cases hk : K.lookup a with
  | some o =>
    have e := kin a o hk
    rw [ha] at e
    cases e
    refine core (fun _ => none) (fun _ => .inl rfl) (.inr ⟨_, us.toArray, _, hk, rfl, rfl, rfl, ?_, by simpa using rv⟩) (fun b u z => nomatch (show (none : Option HO) = some u from z)) (fun b z => absurd rfl z) fun z => absurd rfl z
    rw [List.size_toArray, len2]
    exact hl
  | none =>
    let L : HO := .frz { cls := .type "list", data := .seq us.toArray } (.lst (ks.map V.int))
    have at_ : upd (fun _ => none) a L a = some L := upd_same
    refine core (upd (fun _ => none) a L) (fun b => ?_) (.inl (.inr ⟨_, at_⟩)) (fun b u z => ?_) (fun b z => ?_) fun _ => hk
    · by_cases hb : b = a
      · subst hb
        exact .inr ⟨_, _, at_⟩
      · exact .inl (upd_ne hb)
    · by_cases hb : b = a
      · subst hb
        rw [at_] at z
        cases z
        exact ⟨ha, by rw [List.length_map]; exact hl, us, _, rv, ha⟩
      · rw [upd_ne hb] at z
        cases z
    · by_cases hb : b = a
      · exact hb
      · exact absurd (upd_ne hb) z
theorem walkG_of {l : PySem.W.OpenLaw} {n k : Nat} {q : Program} {loose : List Str} {XP : (Str → Option Value) → Heap → Prop} {YP : World → Heap → Prop} {d : DefRec} {K : Params → PySem.W.Frag} {sp : World → Sp} {x : Str}
    (hn : l.most = some n) (hn2 : n ≤ sizeLine) (hdf : d.params.defaults = []) (hr : Room k callerA) (hY : ∀ (w : World) (h : Heap), YP w h → (K w.params).In h)
    (F : ∀ (w : World) (mg : Str → Option Value) (fa : Addr) (h : Heap), (K w.params).In h → h.Ns mainGlobals mg → mg d.name = some (.ref fa) →
      ∃ fd : FuncData, (∀ (s : Shared) (u : Value), BindsTo s fd ⟨[u], []⟩ [(x, u)]) ∧ ∀ base : Heap, (K w.params).In base → base.Ns mainGlobals mg → FnOkG l.prog w (K w.params) mg base k fa fd [x] (sp w))
    (hsp : ∀ (w : World) (H : Hp) (a : Addr) (ks : List Int), ks.length ≤ n → Only H → SqL (K w.params) H a (ks.map V.int) → sp w [.ref a] H (fun v _ => v = .bl true) fun _ _ _ => False) :
    PySem.W.WalkO q loose XP YP l.row.toRowW d [] (fun f vs => PySem.call f vs) := by
  refine Att.attach_call hn hdf fun w s0 s1 mg mb fa o pm cd doc a us ks G Y ho hd hcd hmg hobj hints hlen hg => ?_
  obtain ⟨fd, hb, hF⟩ := F w mg fa _ (hY w _ Y) G.T.g hmg
  exact lawG_call (hY w _ Y) G.T.g G.T.b G.T.builtins G.T.nolimit hg hobj hints (Nat.le_trans hlen hn2) hr hF hb fun H hO hS => hsp w H a ks hlen hO hS
end Kd

set_option linter.all false
namespace Kd
/-! ## pairs of places -/
abbrev Pr := Int × Int
def inP (x : Int) (p : Pr) : Bool := p.1 == x || p.2 == x
def apartB (p q : Pr) : Bool := !inP p.1 q && !inP p.2 q
def plt (p q : Pr) : Prop := p.1 < q.1 ∨ p.1 = q.1 ∧ p.2 < q.2
/-- one to six rising pairs of places -/
structure WF (ps : List Pr) : Prop where
  ne : ps ≠ []
  len : ps.length ≤ 6
  rng : ∀ p ∈ ps, 0 ≤ p.1 ∧ p.1 < p.2 ∧ p.2 < 8
  srt : ps.Pairwise plt
def places : List Int := [0, 1, 2, 3, 4, 5, 6, 7]
/-- the members -/
def mem (ps : List Pr) : List Int := places.filter fun k => ps.any (inP k)
/-- threes apart -/
def apart2 (p : Pr) : List Pr → List (Pr × Pr × Pr)
  | [] => []
  | q :: r => (if apartB p q then (r.filter fun l => apartB p l && apartB q l).map fun l => (p, q, l) else []) ++ apart2 p r
def apart3 : List Pr → List (Pr × Pr × Pr)
  | [] => []
  | p :: r => apart2 p r ++ apart3 r
abbrev R3 := Int × Int × Int
/-- rings of three -/
def ring3 (ps : List Pr) : List R3 := ps.flatMap fun p => ((mem ps).filter fun l => decide (p.2 < l) && (ps.contains (p.1, l) && ps.contains (p.2, l))).map fun l => (p.1, p.2, l)
def inR (x : Int) (r : R3) : Bool := r.1 == x || (r.2.1 == x || r.2.2 == x)
/-- rings with a pair beside -/
def beside (ps : List Pr) : List (R3 × Pr) := (ring3 ps).flatMap fun r => (ps.filter fun p => !inR p.1 r && !inR p.2 r).map fun p => (r, p)
def pairsOf : List Int → List Pr
  | [] => []
  | a :: r => (r.map fun b => (a, b)) ++ pairsOf r
def covers (ps : List Pr) (h : Pr) : Bool := ps.all fun p => inP h.1 p || inP h.2 p
def hubs (ps : List Pr) : Option Pr := (pairsOf (mem ps)).find? (covers ps)
def grow1 (ms : List Int) (r : List Int) : List (List Int) := (ms.filter fun m => !r.contains m).map fun m => r ++ [m]
def grow (ms : List Int) (rows : List (List Int)) : List (List Int) := rows.flatMap (grow1 ms)
def growN (ms : List Int) : Nat → List (List Int) → List (List Int)
  | 0, rows => rows
  | n + 1, rows => grow ms (growN ms n rows)
def rowsOf (ms : List Int) : List (List Int) := growN ms 4 [[ms.headD 0]]
def ties (r : List Int) : List Pr := r.zip (r.drop 1 ++ r.take 1)
def isRing (r : List Int) (ps : List Pr) : Bool := ps.all fun p => (ties r).contains p || (ties r).contains (p.2, p.1)
def goesOn (r : List Int) : Bool := decide (r.getD 1 0 < r.getD 4 0)
def ringOf (ps : List Pr) : Option (List Int) := if (mem ps).length = 5 then (rowsOf (mem ps)).find? fun r => goesOn r && isRing r ps else none

/-! ## lists -/
theorem len_sub : ∀ {l m : List Int}, l.Nodup → (∀ x ∈ l, x ∈ m) → l.length ≤ m.length
  | [], _, _, _ => Nat.zero_le _
  | x :: l, m, hn, h => by
    have hx : x ∈ m := h x List.mem_cons_self
    have hn' := List.nodup_cons.mp hn
    have ih : l.length ≤ (m.erase x).length := len_sub hn'.2 fun y hy => by
      have hne : y ≠ x := fun e => hn'.1 (e ▸ hy)
      exact (List.mem_erase_of_ne hne).mpr (h y (List.mem_cons_of_mem _ hy))
    rw [List.length_erase_of_mem hx] at ih
    have hp : 0 < m.length := List.length_pos_of_mem hx
    rw [List.length_cons]
    omega
theorem find_congr {α : Type} {p q : α → Bool} : ∀ {l : List α}, (∀ x ∈ l, p x = q x) → l.find? p = l.find? q
  | [], _ => rfl
  | x :: l, h => by
    rw [List.find?_cons, List.find?_cons, h x List.mem_cons_self, find_congr fun y hy => h y (List.mem_cons_of_mem _ hy)]
theorem inP_iff {x : Int} {p : Pr} : inP x p = true ↔ x = p.1 ∨ x = p.2 := by
  unfold inP
  simp only [Bool.or_eq_true, beq_iff_eq]
  constructor <;> (intro h; rcases h with h | h <;> simp [h])
theorem apart_iff {p q : Pr} : apartB p q = true ↔ p.1 ≠ q.1 ∧ p.1 ≠ q.2 ∧ p.2 ≠ q.1 ∧ p.2 ≠ q.2 := by
  have e : ∀ x, inP x q = false ↔ x ≠ q.1 ∧ x ≠ q.2 := fun x => by
    rw [← Bool.not_eq_true, inP_iff, not_or]
  unfold apartB
  rw [Bool.and_eq_true, Bool.not_eq_true', Bool.not_eq_true', e, e]
  constructor
  · rintro ⟨⟨a, b⟩, c, d⟩; exact ⟨a, b, c, d⟩
  · rintro ⟨a, b, c, d⟩; exact ⟨⟨a, b⟩, c, d⟩
theorem apart_symm {p q : Pr} (h : apartB p q = true) : apartB q p = true := by
  rw [apart_iff] at h ⊢
  obtain ⟨a, b, c, d⟩ := h
  exact ⟨a.symm, c.symm, b.symm, d.symm⟩
theorem apart_self (p : Pr) : apartB p p = false := by
  cases h : apartB p p with
  | false => rfl
  | true => exact absurd rfl (apart_iff.mp h).1

/-! ## members -/
theorem mem_places {x : Int} : x ∈ places ↔ 0 ≤ x ∧ x < 8 := by
  unfold places
  simp only [List.mem_cons, List.not_mem_nil, or_false]
  omega
theorem places_sorted : places.Pairwise (· < ·) := by unfold places; decide
theorem mem_sorted (ps : List Pr) : (mem ps).Pairwise (· < ·) := places_sorted.filter _
theorem mem_nodup (ps : List Pr) : (mem ps).Nodup := (mem_sorted ps).imp fun h => Int.ne_of_lt h
theorem mem_mem {ps : List Pr} (w : ∀ p ∈ ps, 0 ≤ p.1 ∧ p.1 < p.2 ∧ p.2 < 8) {x : Int} : x ∈ mem ps ↔ ∃ p ∈ ps, x = p.1 ∨ x = p.2 := by
  unfold mem
  rw [List.mem_filter, List.any_eq_true]
  constructor
  · rintro ⟨_, p, hp, h⟩
    exact ⟨p, hp, inP_iff.mp h⟩
  · rintro ⟨p, hp, h⟩
    refine ⟨mem_places.mpr ?_, p, hp, inP_iff.mpr h⟩
    have := w p hp
    rcases h with h | h <;> omega
theorem mem_len (ps : List Pr) : (mem ps).length ≤ 8 := List.length_filter_le _ _

/-! ## threes apart -/
theorem apart2_no {x : Pr} : ∀ {l : List Pr}, apart2 x l = [] → ∀ q ∈ l, ∀ r ∈ l, apartB x q = true → apartB x r = true → apartB q r = true → False
  | [], _, q, hq, _, _, _, _, _ => absurd hq List.not_mem_nil
  | y :: s, h, q, hq, r, hr, a, b, c => by
    obtain ⟨h1, h2⟩ := List.append_eq_nil_iff.mp (show _ ++ apart2 x s = [] from h)
    have one : ∀ z ∈ s, apartB x y = true → apartB x z = true → apartB y z = true → False := fun z hz e1 e2 e3 => by
      rw [if_pos e1, List.map_eq_nil_iff, List.filter_eq_nil_iff] at h1
      exact h1 z hz (by rw [e2, e3]; rfl)
    rcases List.mem_cons.mp hq with rfl | hq'
    · rcases List.mem_cons.mp hr with rfl | hr'
      · rw [apart_self] at c; cases c
      · exact one r hr' a b c
    · rcases List.mem_cons.mp hr with rfl | hr'
      · exact one q hq' b a (apart_symm c)
      · exact apart2_no h2 q hq' r hr' a b c
theorem apart3_no : ∀ {l : List Pr}, apart3 l = [] → ∀ p ∈ l, ∀ q ∈ l, ∀ r ∈ l, apartB p q = true → apartB p r = true → apartB q r = true → False
  | [], _, p, hp, _, _, _, _, _, _, _ => absurd hp List.not_mem_nil
  | x :: s, h, p, hp, q, hq, r, hr, a, b, c => by
    obtain ⟨h1, h2⟩ := List.append_eq_nil_iff.mp (show apart2 x s ++ apart3 s = [] from h)
    have two := fun q hq r hr a b c => apart2_no h1 q hq r hr a b c
    rcases List.mem_cons.mp hp with rfl | hp'
    · rcases List.mem_cons.mp hq with rfl | hq'
      · rw [apart_self] at a; cases a
      · rcases List.mem_cons.mp hr with rfl | hr'
        · rw [apart_self] at b; cases b
        · exact two q hq' r hr' a b c
    · rcases List.mem_cons.mp hq with rfl | hq'
      · rcases List.mem_cons.mp hr with rfl | hr'
        · rw [apart_self] at c; cases c
        · exact two p hp' r hr' (apart_symm a) c b
      · rcases List.mem_cons.mp hr with rfl | hr'
        · exact two p hp' q hq' (apart_symm b) (apart_symm c) a
        · exact apart3_no h2 p hp' q hq' r hr' a b c
theorem apart2_mem {x : Pr} {t : Pr × Pr × Pr} : ∀ {l : List Pr}, t ∈ apart2 x l → t.1 = x ∧ t.2.1 ∈ l ∧ t.2.2 ∈ l ∧ apartB x t.2.1 = true ∧ apartB x t.2.2 = true ∧ apartB t.2.1 t.2.2 = true
  | [], h => absurd h List.not_mem_nil
  | y :: s, h => by
    rcases List.mem_append.mp (show t ∈ _ ++ apart2 x s from h) with h | h
    · by_cases e : apartB x y = true
      · rw [if_pos e] at h
        obtain ⟨l, hl, rfl⟩ := List.mem_map.mp h
        obtain ⟨h1, h2⟩ := List.mem_filter.mp hl
        rw [Bool.and_eq_true] at h2
        exact ⟨rfl, List.mem_cons_self, List.mem_cons_of_mem _ h1, e, h2.1, h2.2⟩
      · rw [if_neg e] at h
        exact absurd h List.not_mem_nil
    · obtain ⟨a, b, c, d⟩ := apart2_mem h
      exact ⟨a, List.mem_cons_of_mem _ b, List.mem_cons_of_mem _ c, d⟩
theorem apart3_mem {t : Pr × Pr × Pr} : ∀ {l : List Pr}, t ∈ apart3 l → t.1 ∈ l ∧ t.2.1 ∈ l ∧ t.2.2 ∈ l ∧ apartB t.1 t.2.1 = true ∧ apartB t.1 t.2.2 = true ∧ apartB t.2.1 t.2.2 = true
  | [], h => absurd h List.not_mem_nil
  | x :: s, h => by
    rcases List.mem_append.mp (show t ∈ apart2 x s ++ apart3 s from h) with h | h
    · obtain ⟨a, b, c, d⟩ := apart2_mem h
      rw [← a] at d
      exact ⟨by rw [a]; exact List.mem_cons_self, List.mem_cons_of_mem _ b, List.mem_cons_of_mem _ c, d⟩
    · obtain ⟨a, b, c, d⟩ := apart3_mem h
      exact ⟨List.mem_cons_of_mem _ a, List.mem_cons_of_mem _ b, List.mem_cons_of_mem _ c, d⟩

/-! ## rings of three, beside -/
theorem mem_ring3 {ps : List Pr} (w : ∀ p ∈ ps, 0 ≤ p.1 ∧ p.1 < p.2 ∧ p.2 < 8) {r : R3} : r ∈ ring3 ps ↔ (r.1, r.2.1) ∈ ps ∧ (r.1, r.2.2) ∈ ps ∧ (r.2.1, r.2.2) ∈ ps ∧ r.2.1 < r.2.2 := by
  unfold ring3
  rw [List.mem_flatMap]
  constructor
  · rintro ⟨p, hp, h⟩
    obtain ⟨l, hl, rfl⟩ := List.mem_map.mp h
    obtain ⟨h1, h2⟩ := List.mem_filter.mp hl
    simp only [Bool.and_eq_true, decide_eq_true_eq, List.contains_iff_mem] at h2
    exact ⟨hp, h2.2.1, h2.2.2, h2.1⟩
  · rintro ⟨a, b, c, d⟩
    refine ⟨_, a, List.mem_map.mpr ⟨r.2.2, List.mem_filter.mpr ⟨(mem_mem w).mpr ⟨_, b, .inr rfl⟩, ?_⟩, rfl⟩⟩
    simp only [Bool.and_eq_true, decide_eq_true_eq, List.contains_iff_mem]
    exact ⟨d, b, c⟩
theorem inR_iff {x : Int} {r : R3} : inR x r = true ↔ x = r.1 ∨ x = r.2.1 ∨ x = r.2.2 := by
  unfold inR
  simp only [Bool.or_eq_true, beq_iff_eq]
  constructor
  · rintro (h | h | h) <;> simp [h]
  · rintro (h | h | h) <;> simp [h]
theorem mem_beside {ps : List Pr} {t : R3 × Pr} : t ∈ beside ps ↔ t.1 ∈ ring3 ps ∧ t.2 ∈ ps ∧ inR t.2.1 t.1 = false ∧ inR t.2.2 t.1 = false := by
  unfold beside
  rw [List.mem_flatMap]
  constructor
  · rintro ⟨r, hr, h⟩
    obtain ⟨p, hp, rfl⟩ := List.mem_map.mp h
    obtain ⟨h1, h2⟩ := List.mem_filter.mp hp
    rw [Bool.and_eq_true, Bool.not_eq_true', Bool.not_eq_true'] at h2
    exact ⟨hr, h1, h2⟩
  · rintro ⟨a, b, c, d⟩
    refine ⟨_, a, List.mem_map.mpr ⟨t.2, List.mem_filter.mpr ⟨b, ?_⟩, rfl⟩⟩
    rw [c, d]
    rfl
theorem mem_pairsOf {x y : Int} : ∀ {l : List Int}, l.Pairwise (· < ·) → ((x, y) ∈ pairsOf l ↔ x ∈ l ∧ y ∈ l ∧ x < y)
  | [], _ => by simp [pairsOf]
  | a :: r, h => by
    obtain ⟨h1, h2⟩ := List.pairwise_cons.mp h
    have ih := mem_pairsOf (x := x) (y := y) h2
    show (x, y) ∈ (r.map fun b => (a, b)) ++ pairsOf r ↔ _
    rw [List.mem_append, ih, List.mem_map]
    constructor
    · rintro (⟨b, hb, e⟩ | ⟨p, q, s⟩)
      · cases e
        exact ⟨List.mem_cons_self, List.mem_cons_of_mem _ hb, h1 _ hb⟩
      · exact ⟨List.mem_cons_of_mem _ p, List.mem_cons_of_mem _ q, s⟩
    · rintro ⟨p, q, s⟩
      rcases List.mem_cons.mp p with rfl | p'
      · rcases List.mem_cons.mp q with rfl | q'
        · omega
        · exact .inl ⟨y, q', rfl⟩
      · rcases List.mem_cons.mp q with rfl | q'
        · have := h1 x p'
          omega
        · exact .inr ⟨p', q', s⟩
end Kd

set_option linter.all false
namespace Kd
/-! ## graphs without three ties apart and without a ring of three with a tie beside it -/
structure Gr (A : Int → Int → Prop) : Prop where
  sym : ∀ {u v}, A u v → A v u
  irr : ∀ {u v}, A u v → u ≠ v
  no3 : ∀ {a b c d e f}, A a b → A c d → A e f → a ≠ c → a ≠ d → b ≠ c → b ≠ d → a ≠ e → a ≠ f → b ≠ e → b ≠ f → c ≠ e → c ≠ f → d ≠ e → d ≠ f → False
  noB : ∀ {a b c u v}, A a b → A b c → A a c → A u v → u ≠ a → u ≠ b → u ≠ c → v ≠ a → v ≠ b → v ≠ c → False
def IsHubs (A : Int → Int → Prop) : Prop := ∃ x y, x ≠ y ∧ (∃ z, A x z) ∧ (∃ z, A y z) ∧ ∀ u v, A u v → u = x ∨ u = y ∨ v = x ∨ v = y
def IsFour (A : Int → Int → Prop) : Prop := ∃ a b c d, ∀ u v, A u v → u = a ∨ u = b ∨ u = c ∨ u = d
/-- side by side in the ring c0 .. c4 -/
def Side (c0 c1 c2 c3 c4 u v : Int) : Prop := (u = c0 ∧ v = c1) ∨ (u = c1 ∧ v = c2) ∨ (u = c2 ∧ v = c3) ∨ (u = c3 ∧ v = c4) ∨ (u = c4 ∧ v = c0)
def IsRing (A : Int → Int → Prop) : Prop := ∃ c0 c1 c2 c3 c4, [c0, c1, c2, c3, c4].Nodup ∧ A c0 c1 ∧ A c1 c2 ∧ A c2 c3 ∧ A c3 c4 ∧ A c4 c0 ∧ ∀ u v, A u v → Side c0 c1 c2 c3 c4 u v ∨ Side c0 c1 c2 c3 c4 v u
section
variable {A : Int → Int → Prop}
/-- a, b tied, c, d tied, x outside tied to a: b has no neighbour outside -/
theorem Gr.inside (g : Gr A) {a b c d x : Int} (ab : A a b) (cd : A c d) (h1 : a ≠ c) (h2 : a ≠ d) (h3 : b ≠ c) (h4 : b ≠ d) (xa : A x a) (x2 : x ≠ b) (x3 : x ≠ c) (x4 : x ≠ d) :
    ∀ y, A b y → y = a ∨ y = c ∨ y = d := by
  intro y by_
  refine Classical.byContradiction fun n => ?_
  simp only [not_or] at n
  obtain ⟨n1, n2, n3⟩ := n
  have n4 := g.irr by_
  by_cases e : y = x
  · subst e
    exact g.noB ab by_ (g.sym xa) cd h1.symm h3.symm (Ne.symm n2) h2.symm h4.symm (Ne.symm n3)
  · exact g.no3 xa by_ cd x2 (Ne.symm e) (g.irr ab) (Ne.symm n1) x3 x4 h1 h2 h3 h4 n2 n3
theorem Gr.core (g : Gr A) {a b c d x : Int} (ab : A a b) (cd : A c d) (h1 : a ≠ c) (h2 : a ≠ d) (h3 : b ≠ c) (h4 : b ≠ d) (xa : A x a) (x2 : x ≠ b) (x3 : x ≠ c) (x4 : x ≠ d) : IsHubs A ∨ IsRing A := by
  have nab := g.irr ab
  have ncd := g.irr cd
  have nxa := g.irr xa
  have meet : ∀ {u v}, A u v → (u = a ∨ u = b ∨ u = c ∨ u = d) ∨ (v = a ∨ v = b ∨ v = c ∨ v = d) := fun {u v} uv => by
    refine Classical.byContradiction fun n => ?_
    simp only [not_or] at n
    obtain ⟨⟨p1, p2, p3, p4⟩, q1, q2, q3, q4⟩ := n
    exact g.no3 ab cd uv h1 h2 h3 h4 (Ne.symm p1) (Ne.symm q1) (Ne.symm p2) (Ne.symm q2) (Ne.symm p3) (Ne.symm q3) (Ne.symm p4) (Ne.symm q4)
  have B := g.inside ab cd h1 h2 h3 h4 xa x2 x3 x4
  have notBoth : ¬ (A b c ∧ A b d) := fun ⟨bc, bd⟩ => g.noB bc cd bd xa x2 x3 x4 nab h1 h2
  -- c (or d) has a neighbour y outside
  have two : ∀ {c d : Int}, A c d → a ≠ c → a ≠ d → b ≠ c → b ≠ d → x ≠ c → x ≠ d → (∀ {u v}, A u v → (u = a ∨ u = b ∨ u = c ∨ u = d) ∨ (v = a ∨ v = b ∨ v = c ∨ v = d)) → ¬ (A b c ∧ A b d) → (∀ y, A b y → y = a ∨ y = c ∨ y = d) →
      ∀ {y : Int}, A y c → y ≠ a → y ≠ b → y ≠ d → IsHubs A ∨ IsRing A := by
    intro c d cd h1 h2 h3 h4 x3 x4 meet notBoth B y yc y1 y2 y4
    have ncd := g.irr cd
    have y3 := g.irr yc
    have Dn := g.inside cd ab h1.symm h3.symm h2.symm h4.symm yc y4 y1 y2
    by_cases bd : A b d
    · have same : ∀ {p q : Int}, A p a → A q c → p ≠ b → p ≠ c → p ≠ d → q ≠ a → q ≠ b → q ≠ d → p = q := fun {p q} pa qc p2 p3 p4 q1 q2 q4 =>
        Classical.byContradiction fun e => g.no3 pa qc bd e p3 (Ne.symm q1) h1 p2 p4 nab h2 q2 q4 h3.symm ncd
      have xy : x = y := same xa yc x2 x3 x4 y1 y2 y4
      subst xy
      have nac : ¬ A a c := fun ac => g.noB ac (g.sym yc) (g.sym xa) bd nab.symm h3 (Ne.symm x2) h2.symm ncd.symm (Ne.symm x4)
      have nad : ¬ A a d := fun ad => g.noB ab bd ad (g.sym yc) h1.symm h3.symm ncd y1 y2 y4
      have nbc : ¬ A b c := fun bc => notBoth ⟨bc, bd⟩
      have eA : ∀ v, A a v → v = b ∨ v = x := fun v av => by
        by_cases e1 : v = b
        · exact .inl e1
        by_cases e2 : v = c
        · subst e2; exact absurd av nac
        by_cases e3 : v = d
        · subst e3; exact absurd av nad
        · exact .inr (same (g.sym av) yc e1 e2 e3 y1 y2 y4)
      have eB : ∀ v, A b v → v = a ∨ v = d := fun v bv => by
        rcases B v bv with e | e | e
        · exact .inl e
        · subst e; exact absurd bv nbc
        · exact .inr e
      have eC : ∀ v, A c v → v = d ∨ v = x := fun v cv => by
        by_cases e1 : v = d
        · exact .inl e1
        by_cases e2 : v = a
        · subst e2; exact absurd (g.sym cv) nac
        by_cases e3 : v = b
        · subst e3; exact absurd (g.sym cv) nbc
        · exact .inr (same xa (g.sym cv) x2 x3 x4 e2 e3 e1).symm
      have eD : ∀ v, A d v → v = b ∨ v = c := fun v dv => by
        rcases Dn v dv with e | e | e
        · exact .inr e
        · subst e; exact absurd (g.sym dv) nad
        · exact .inl e
      have side : ∀ u v, (u = a ∨ u = b ∨ u = c ∨ u = d) → A u v → Side x a b d c u v ∨ Side x a b d c v u := fun u v hu uv => by
        rcases hu with rfl | rfl | rfl | rfl
        · rcases eA v uv with rfl | rfl
          · exact .inl (.inr (.inl ⟨rfl, rfl⟩))
          · exact .inr (.inl ⟨rfl, rfl⟩)
        · rcases eB v uv with rfl | rfl
          · exact .inr (.inr (.inl ⟨rfl, rfl⟩))
          · exact .inl (.inr (.inr (.inl ⟨rfl, rfl⟩)))
        · rcases eC v uv with rfl | rfl
          · exact .inr (.inr (.inr (.inr (.inl ⟨rfl, rfl⟩))))
          · exact .inl (.inr (.inr (.inr (.inr ⟨rfl, rfl⟩))))
        · rcases eD v uv with rfl | rfl
          · exact .inr (.inr (.inr (.inl ⟨rfl, rfl⟩)))
          · exact .inl (.inr (.inr (.inr (.inl ⟨rfl, rfl⟩))))
      refine .inr ⟨x, a, b, d, c, ?_, xa, ab, bd, g.sym cd, g.sym yc, fun u v uv => ?_⟩
      · simp only [List.nodup_cons, List.mem_cons, List.not_mem_nil, or_false, not_or, not_false_eq_true, List.nodup_nil, and_true]
        exact ⟨⟨nxa, x2, x4, x3⟩, ⟨nab, h2, h1⟩, ⟨h4, h3⟩, ncd.symm⟩
      · rcases meet uv with hu | hv
        · exact side u v hu uv
        · exact (side v u hv (g.sym uv)).symm
    · have cov : ∀ u v, (u = a ∨ u = b ∨ u = c ∨ u = d) → A u v → u = a ∨ u = c ∨ v = a ∨ v = c := fun u v hu uv => by
        rcases hu with rfl | rfl | rfl | rfl
        · exact .inl rfl
        · rcases B v uv with e | e | e
          · exact .inr (.inr (.inl e))
          · exact .inr (.inr (.inr e))
          · subst e; exact absurd uv bd
        · exact .inr (.inl rfl)
        · rcases Dn v uv with e | e | e
          · exact .inr (.inr (.inr e))
          · exact .inr (.inr (.inl e))
          · subst e; exact absurd (g.sym uv) bd
      refine .inl ⟨a, c, h1, ⟨b, ab⟩, ⟨d, cd⟩, fun u v uv => ?_⟩
      rcases meet uv with hu | hv
      · exact cov u v hu uv
      · rcases cov v u hv (g.sym uv) with e | e | e | e
        · exact .inr (.inr (.inl e))
        · exact .inr (.inr (.inr e))
        · exact .inl e
        · exact .inr (.inl e)
  by_cases hc : ∃ y, A y c ∧ y ≠ a ∧ y ≠ b ∧ y ≠ d
  · obtain ⟨y, yc, y1, y2, y4⟩ := hc
    exact two cd h1 h2 h3 h4 x3 x4 meet notBoth B yc y1 y2 y4
  by_cases hd : ∃ y, A y d ∧ y ≠ a ∧ y ≠ b ∧ y ≠ c
  · obtain ⟨y, yd, y1, y2, y3⟩ := hd
    refine two (c := d) (d := c) (g.sym cd) h2 h1 h4 h3 x4 x3 (fun {u v} uv => ?_) (fun ⟨p, q⟩ => notBoth ⟨q, p⟩) (fun z bz => ?_) yd y1 y2 y3
    · rcases meet uv with (e | e | e | e) | (e | e | e | e) <;> simp [e]
    · rcases B z bz with e | e | e <;> simp [e]
  -- neither has
  have eC : ∀ v, A c v → v = a ∨ v = b ∨ v = d := fun v cv => Classical.byContradiction fun n => by
    simp only [not_or] at n
    exact hc ⟨v, g.sym cv, n⟩
  have eD : ∀ v, A d v → v = a ∨ v = b ∨ v = c := fun v dv => Classical.byContradiction fun n => by
    simp only [not_or] at n
    exact hd ⟨v, g.sym dv, n⟩
  by_cases bd : A b d
  · have bc : ¬ A b c := fun bc => notBoth ⟨bc, bd⟩
    have cov : ∀ u v, (u = a ∨ u = b ∨ u = c ∨ u = d) → A u v → u = a ∨ u = d ∨ v = a ∨ v = d := fun u v hu uv => by
      rcases hu with rfl | rfl | rfl | rfl
      · exact .inl rfl
      · rcases B v uv with e | e | e
        · exact .inr (.inr (.inl e))
        · subst e; exact absurd uv bc
        · exact .inr (.inr (.inr e))
      · rcases eC v uv with e | e | e
        · exact .inr (.inr (.inl e))
        · subst e; exact absurd (g.sym uv) bc
        · exact .inr (.inr (.inr e))
      · exact .inr (.inl rfl)
    refine .inl ⟨a, d, h2, ⟨b, ab⟩, ⟨c, g.sym cd⟩, fun u v uv => ?_⟩
    rcases meet uv with hu | hv
    · exact cov u v hu uv
    · rcases cov v u hv (g.sym uv) with e | e | e | e
      · exact .inr (.inr (.inl e))
      · exact .inr (.inr (.inr e))
      · exact .inl e
      · exact .inr (.inl e)
  · have cov : ∀ u v, (u = a ∨ u = b ∨ u = c ∨ u = d) → A u v → u = a ∨ u = c ∨ v = a ∨ v = c := fun u v hu uv => by
      rcases hu with rfl | rfl | rfl | rfl
      · exact .inl rfl
      · rcases B v uv with e | e | e
        · exact .inr (.inr (.inl e))
        · exact .inr (.inr (.inr e))
        · subst e; exact absurd uv bd
      · exact .inr (.inl rfl)
      · rcases eD v uv with e | e | e
        · exact .inr (.inr (.inl e))
        · subst e; exact absurd (g.sym uv) bd
        · exact .inr (.inr (.inr e))
    refine .inl ⟨a, c, h1, ⟨b, ab⟩, ⟨d, cd⟩, fun u v uv => ?_⟩
    rcases meet uv with hu | hv
    · exact cov u v hu uv
    · rcases cov v u hv (g.sym uv) with e | e | e | e
      · exact .inr (.inr (.inl e))
      · exact .inr (.inr (.inr e))
      · exact .inl e
      · exact .inr (.inl e)
/-- hubs, four places or a ring of five -/
theorem Gr.kinds (g : Gr A) {a b : Int} (ab : A a b) : IsHubs A ∨ IsFour A ∨ IsRing A := by
  by_cases hu : ∀ u v, A u v → u = a ∨ u = b ∨ v = a ∨ v = b
  · exact .inl ⟨a, b, g.irr ab, ⟨b, ab⟩, ⟨a, g.sym ab⟩, hu⟩
  have ⟨c, d, cd, c1, c2, d1, d2⟩ : ∃ c d, A c d ∧ c ≠ a ∧ c ≠ b ∧ d ≠ a ∧ d ≠ b := Classical.byContradiction fun n => hu fun u v uv => Classical.byContradiction fun m => by
    simp only [not_or] at m
    exact n ⟨u, v, uv, m.1, m.2.1, m.2.2.1, m.2.2.2⟩
  by_cases hf : ∀ u v, A u v → u = a ∨ u = b ∨ u = c ∨ u = d
  · exact .inr (.inl ⟨a, b, c, d, hf⟩)
  have ⟨x, v, xv, x1, x2, x3, x4⟩ : ∃ u v, A u v ∧ u ≠ a ∧ u ≠ b ∧ u ≠ c ∧ u ≠ d := Classical.byContradiction fun n => hf fun u v uv => Classical.byContradiction fun m => by
    simp only [not_or] at m
    exact n ⟨u, v, uv, m⟩
  have res : IsHubs A ∨ IsRing A := by
    by_cases e1 : v = a
    · subst e1; exact g.core ab cd (Ne.symm c1) (Ne.symm d1) (Ne.symm c2) (Ne.symm d2) xv x2 x3 x4
    by_cases e2 : v = b
    · subst e2; exact g.core (g.sym ab) cd (Ne.symm c2) (Ne.symm d2) (Ne.symm c1) (Ne.symm d1) xv x1 x3 x4
    by_cases e3 : v = c
    · subst e3; exact g.core cd ab c1 c2 d1 d2 xv x4 x1 x2
    by_cases e4 : v = d
    · subst e4; exact g.core (g.sym cd) ab d1 d2 c1 c2 xv x3 x1 x2
    · exact (g.no3 ab cd xv (Ne.symm c1) (Ne.symm d1) (Ne.symm c2) (Ne.symm d2) (Ne.symm x1) (Ne.symm e1) (Ne.symm x2) (Ne.symm e2) (Ne.symm x3) (Ne.symm e3) (Ne.symm x4) (Ne.symm e4)).elim
  rcases res with h | h
  · exact .inl h
  · exact .inr (.inr h)
end
end Kd

set_option linter.all false
namespace Kd
/-! ## good exactly by having no bad ones -/
def Tie (ps : List Pr) (u v : Int) : Prop := (u, v) ∈ ps ∨ (v, u) ∈ ps
section
variable {ps : List Pr}
theorem tie_pair {u v : Int} (h : Tie ps u v) : ∃ p ∈ ps, (p.1 = u ∧ p.2 = v) ∨ (p.1 = v ∧ p.2 = u) := by
  rcases h with h | h
  · exact ⟨_, h, .inl ⟨rfl, rfl⟩⟩
  · exact ⟨_, h, .inr ⟨rfl, rfl⟩⟩
theorem tie_of {p : Pr} (h : p ∈ ps) : Tie ps p.1 p.2 := .inl h
theorem tie_lt (w : WF ps) {u v : Int} (h : Tie ps u v) (l : u < v) : (u, v) ∈ ps := by
  rcases h with h | h
  · exact h
  · have q := w.rng _ h
    simp only at q
    omega
theorem tri (w : WF ps) {a b c : Int} (ab : Tie ps a b) (bc : Tie ps b c) (ac : Tie ps a c) : ∃ r ∈ ring3 ps, ∀ x, (x = r.1 ∨ x = r.2.1 ∨ x = r.2.2) → (x = a ∨ x = b ∨ x = c) := by
  have sy : ∀ {u v}, Tie ps u v → Tie ps v u := fun h => h.symm
  have ne : ∀ {u v}, Tie ps u v → u ≠ v := fun {u v} h e => by
    obtain ⟨p, hp, q⟩ := tie_pair h
    have := w.rng p hp
    omega
  have mk : ∀ {x y z : Int}, x < y → y < z → Tie ps x y → Tie ps y z → Tie ps x z → (x, y, z) ∈ ring3 ps := fun {x y z} l1 l2 t1 t2 t3 =>
    (mem_ring3 w.rng).mpr ⟨tie_lt w t1 l1, tie_lt w t3 (Int.lt_trans l1 l2), tie_lt w t2 l2, l2⟩
  have n1 := ne ab
  have n2 := ne bc
  have n3 := ne ac
  rcases Int.lt_or_gt_of_ne n1 with l1 | l1 <;> rcases Int.lt_or_gt_of_ne n2 with l2 | l2 <;> rcases Int.lt_or_gt_of_ne n3 with l3 | l3
  · exact ⟨_, mk l1 l2 ab bc ac, fun x h => by simp only at h; omega⟩
  · omega
  · exact ⟨_, mk l3 l2 ac (sy bc) ab, fun x h => by simp only at h; omega⟩
  · exact ⟨_, mk l3 l1 (sy ac) ab (sy bc), fun x h => by simp only at h; omega⟩
  · exact ⟨_, mk l1 l3 (sy ab) ac bc, fun x h => by simp only at h; omega⟩
  · exact ⟨_, mk l2 l3 bc (sy ac) (sy ab), fun x h => by simp only at h; omega⟩
  · omega
  · exact ⟨_, mk l2 l1 (sy bc) (sy ab) (sy ac), fun x h => by simp only at h; omega⟩
theorem ap_of {p q : Pr} {a b c d : Int} (ep : (p.1 = a ∧ p.2 = b) ∨ (p.1 = b ∧ p.2 = a)) (eq : (q.1 = c ∧ q.2 = d) ∨ (q.1 = d ∧ q.2 = c)) (h1 : a ≠ c) (h2 : a ≠ d) (h3 : b ≠ c) (h4 : b ≠ d) : apartB p q = true := by
  rcases ep with ⟨rfl, rfl⟩ | ⟨rfl, rfl⟩ <;> rcases eq with ⟨rfl, rfl⟩ | ⟨rfl, rfl⟩ <;> exact apart_iff.mpr ⟨by assumption, by assumption, by assumption, by assumption⟩
theorem graph (w : WF ps) (h1 : apart3 ps = []) (h2 : beside ps = []) : Gr (Tie ps) where
  sym := fun h => h.symm
  irr := fun {u v} h e => by
    obtain ⟨p, hp, q⟩ := tie_pair h
    have := w.rng p hp
    omega
  no3 := fun {a b c d e f} ab cd ef g1 g2 g3 g4 g5 g6 g7 g8 g9 g10 g11 g12 => by
    obtain ⟨p, hp, ep⟩ := tie_pair ab
    obtain ⟨q, hq, eq⟩ := tie_pair cd
    obtain ⟨r, hr, er⟩ := tie_pair ef
    exact apart3_no h1 p hp q hq r hr (ap_of ep eq g1 g2 g3 g4) (ap_of ep er g5 g6 g7 g8) (ap_of eq er g9 g10 g11 g12)
  noB := fun {a b c u v} ab bc ac uv u1 u2 u3 v1 v2 v3 => by
    obtain ⟨r, hr, er⟩ := tri w ab bc ac
    obtain ⟨p, hp, ep⟩ := tie_pair uv
    have off : ∀ x, x ≠ a → x ≠ b → x ≠ c → inR x r = false := fun x x1 x2 x3 => by
      rw [← Bool.not_eq_true, inR_iff]
      intro z
      rcases er x z with z | z | z
      · exact x1 z
      · exact x2 z
      · exact x3 z
    have m : (r, p) ∈ beside ps := mem_beside.mpr ⟨hr, hp, by
      rcases ep with ⟨e1, e2⟩ | ⟨e1, e2⟩
      · show inR p.1 r = false
        rw [e1]; exact off _ u1 u2 u3
      · show inR p.1 r = false
        rw [e1]; exact off _ v1 v2 v3, by
      rcases ep with ⟨e1, e2⟩ | ⟨e1, e2⟩
      · show inR p.2 r = false
        rw [e2]; exact off _ v1 v2 v3
      · show inR p.2 r = false
        rw [e2]; exact off _ u1 u2 u3⟩
    rw [h2] at m
    exact absurd m List.not_mem_nil
theorem mem_tie (w : WF ps) {x : Int} : x ∈ mem ps ↔ ∃ z, Tie ps x z := by
  rw [mem_mem w.rng]
  constructor
  · rintro ⟨p, hp, rfl | rfl⟩
    · exact ⟨p.2, .inl hp⟩
    · exact ⟨p.1, .inr hp⟩
  · rintro ⟨z, h | h⟩
    · exact ⟨_, h, .inl rfl⟩
    · exact ⟨_, h, .inr rfl⟩
theorem covers_iff {h : Pr} : covers ps h = true ↔ ∀ p ∈ ps, (h.1 = p.1 ∨ h.1 = p.2) ∨ (h.2 = p.1 ∨ h.2 = p.2) := by
  unfold covers
  rw [List.all_eq_true]
  constructor
  · intro q p hp
    have := q p hp
    rwa [Bool.or_eq_true, inP_iff, inP_iff] at this
  · intro q p hp
    rw [Bool.or_eq_true, inP_iff, inP_iff]
    exact q p hp
theorem hubs_of_graph (w : WF ps) (h : IsHubs (Tie ps)) : (hubs ps).isSome = true := by
  obtain ⟨x, y, ne, hx, hy, cov⟩ := h
  have mx := (mem_tie w).mpr hx
  have my := (mem_tie w).mpr hy
  unfold hubs
  rw [List.find?_isSome]
  rcases Int.lt_or_gt_of_ne ne with l | l
  · refine ⟨(x, y), (mem_pairsOf (mem_sorted ps)).mpr ⟨mx, my, l⟩, covers_iff.mpr fun p hp => ?_⟩
    have := cov p.1 p.2 (tie_of hp)
    omega
  · refine ⟨(y, x), (mem_pairsOf (mem_sorted ps)).mpr ⟨my, mx, l⟩, covers_iff.mpr fun p hp => ?_⟩
    have := cov p.1 p.2 (tie_of hp)
    omega
theorem four_of_graph (w : WF ps) (h : IsFour (Tie ps)) : (mem ps).length ≤ 4 := by
  obtain ⟨a, b, c, d, hf⟩ := h
  refine len_sub (m := [a, b, c, d]) (mem_nodup ps) fun x hx => ?_
  obtain ⟨z, hz⟩ := (mem_tie w).mp hx
  have := hf x z hz
  simp only [List.mem_cons, List.not_mem_nil, or_false]
  exact this
/-! ### rows -/
theorem mem_grow {ms : List Int} {rows : List (List Int)} {r : List Int} : r ∈ grow ms rows ↔ ∃ q ∈ rows, ∃ m ∈ ms, m ∉ q ∧ r = q ++ [m] := by
  unfold grow grow1
  rw [List.mem_flatMap]
  constructor
  · rintro ⟨q, hq, h⟩
    obtain ⟨m, hm, rfl⟩ := List.mem_map.mp h
    obtain ⟨h1, h2⟩ := List.mem_filter.mp hm
    exact ⟨q, hq, m, h1, by simpa using h2, rfl⟩
  · rintro ⟨q, hq, m, hm, h1, rfl⟩
    exact ⟨q, hq, List.mem_map.mpr ⟨m, List.mem_filter.mpr ⟨hm, by simpa using h1⟩, rfl⟩⟩
theorem mem_rows {ms : List Int} {a b c d : Int} (hb : a ∈ ms ∧ b ∈ ms ∧ c ∈ ms ∧ d ∈ ms) (hn : [ms.headD 0, a, b, c, d].Nodup) : [ms.headD 0, a, b, c, d] ∈ rowsOf ms := by
  obtain ⟨h1, h2, h3, h4⟩ := hb
  simp only [List.nodup_cons, List.mem_cons, List.not_mem_nil, or_false, not_or, not_false_eq_true, List.nodup_nil, and_true] at hn
  obtain ⟨⟨a1, a2, a3, a4⟩, ⟨b1, b2, b3⟩, ⟨c1, c2⟩, d1⟩ := hn
  show _ ∈ grow ms (grow ms (grow ms (grow ms [[ms.headD 0]])))
  refine mem_grow.mpr ⟨[ms.headD 0, a, b, c], mem_grow.mpr ⟨[ms.headD 0, a, b], mem_grow.mpr ⟨[ms.headD 0, a], mem_grow.mpr ⟨[ms.headD 0], List.mem_singleton.mpr rfl, a, h1, ?_, rfl⟩, b, h2, ?_, rfl⟩, c, h3, ?_, rfl⟩, d, h4, ?_, rfl⟩ <;>
    simp only [List.mem_cons, List.not_mem_nil, or_false, not_or]
  · exact fun e => a1 e.symm
  · exact ⟨fun e => a2 e.symm, fun e => b1 e.symm⟩
  · exact ⟨fun e => a3 e.symm, fun e => b2 e.symm, fun e => c1 e.symm⟩
  · exact ⟨fun e => a4 e.symm, fun e => b3 e.symm, fun e => c2 e.symm, fun e => d1 e.symm⟩
/-- what a row is: five unlike members, the first one ahead -/
theorem of_mem_rows {ms r : List Int} (h0 : ms.headD 0 ∈ ms) (h : r ∈ rowsOf ms) : ∃ a b c d, r = [ms.headD 0, a, b, c, d] ∧ r.Nodup ∧ ∀ x ∈ r, x ∈ ms := by
  obtain ⟨q3, h3, d, hd, nd, rfl⟩ := mem_grow.mp (show r ∈ grow ms (grow ms (grow ms (grow ms [[ms.headD 0]]))) from h)
  obtain ⟨q2, h2, c, hc, nc, rfl⟩ := mem_grow.mp h3
  obtain ⟨q1, h1, b, hb, nb, rfl⟩ := mem_grow.mp h2
  obtain ⟨q0, h0', a, ha, na, rfl⟩ := mem_grow.mp h1
  obtain rfl := List.mem_singleton.mp h0'
  simp only [List.cons_append, List.nil_append, List.mem_cons, List.not_mem_nil, or_false, not_or] at na nb nc nd
  refine ⟨a, b, c, d, rfl, ?_, ?_⟩
  · simp only [List.cons_append, List.nil_append, List.nodup_cons, List.mem_cons, List.not_mem_nil, or_false, not_or, not_false_eq_true, List.nodup_nil, and_true]
    exact ⟨⟨fun e => na e.symm, fun e => nb.1 e.symm, fun e => nc.1 e.symm, fun e => nd.1 e.symm⟩, ⟨fun e => nb.2 e.symm, fun e => nc.2.1 e.symm, fun e => nd.2.1 e.symm⟩, ⟨fun e => nc.2.2 e.symm, fun e => nd.2.2.1 e.symm⟩, fun e => nd.2.2.2 e.symm⟩
  · intro x hx
    simp only [List.cons_append, List.nil_append, List.mem_cons, List.not_mem_nil, or_false] at hx
    rcases hx with rfl | rfl | rfl | rfl | rfl <;> assumption
theorem ties_five (a b c d e : Int) : ties [a, b, c, d, e] = [(a, b), (b, c), (c, d), (d, e), (e, a)] := rfl
theorem isRing_iff {a b c d e : Int} : isRing [a, b, c, d, e] ps = true ↔ ∀ p ∈ ps, Side a b c d e p.1 p.2 ∨ Side a b c d e p.2 p.1 := by
  unfold isRing
  rw [ties_five, List.all_eq_true]
  have one : ∀ x y : Int, ([(a, b), (b, c), (c, d), (d, e), (e, a)] : List Pr).contains (x, y) = true ↔ Side a b c d e x y := fun x y => by
    simp only [List.contains_iff_mem, List.mem_cons, List.not_mem_nil, or_false, Prod.mk.injEq]
    unfold Side
    exact Iff.rfl
  constructor
  · intro h p hp
    have := h p hp
    rwa [Bool.or_eq_true, one, one] at this
  · intro h p hp
    rw [Bool.or_eq_true, one, one]
    exact h p hp
theorem head_mem {ms : List Int} (h : ms ≠ []) : ms.headD 0 ∈ ms := by
  cases ms with
  | nil => exact absurd rfl h
  | cons a r => exact List.mem_cons_self
theorem side_rev {a b c d e u v : Int} (h : Side a b c d e u v) : Side a e d c b v u := by
  rcases h with ⟨rfl, rfl⟩ | ⟨rfl, rfl⟩ | ⟨rfl, rfl⟩ | ⟨rfl, rfl⟩ | ⟨rfl, rfl⟩
  · exact .inr (.inr (.inr (.inr ⟨rfl, rfl⟩)))
  · exact .inr (.inr (.inr (.inl ⟨rfl, rfl⟩)))
  · exact .inr (.inr (.inl ⟨rfl, rfl⟩))
  · exact .inr (.inl ⟨rfl, rfl⟩)
  · exact .inl ⟨rfl, rfl⟩
theorem side_turn {a b c d e u v : Int} (h : Side a b c d e u v) : Side b c d e a u v := by
  rcases h with h | h | h | h | h
  · exact .inr (.inr (.inr (.inr h)))
  · exact .inl h
  · exact .inr (.inl h)
  · exact .inr (.inr (.inl h))
  · exact .inr (.inr (.inr (.inl h)))
theorem side_in {a b c d e u v : Int} (h : Side a b c d e u v ∨ Side a b c d e v u) : u ∈ [a, b, c, d, e] := by
  rcases h with (⟨rfl, rfl⟩ | ⟨rfl, rfl⟩ | ⟨rfl, rfl⟩ | ⟨rfl, rfl⟩ | ⟨rfl, rfl⟩) | (⟨rfl, rfl⟩ | ⟨rfl, rfl⟩ | ⟨rfl, rfl⟩ | ⟨rfl, rfl⟩ | ⟨rfl, rfl⟩) <;> simp
theorem ring_row {c0 c1 c2 c3 c4 : Int} (h0 : (mem ps).headD 0 = c0) (hl : (mem ps).length = 5) (nd : [c0, c1, c2, c3, c4].Nodup) (hm : c1 ∈ mem ps ∧ c2 ∈ mem ps ∧ c3 ∈ mem ps ∧ c4 ∈ mem ps)
    (hs : ∀ p ∈ ps, Side c0 c1 c2 c3 c4 p.1 p.2 ∨ Side c0 c1 c2 c3 c4 p.2 p.1) : (ringOf ps).isSome = true := by
  unfold ringOf
  rw [if_pos hl, List.find?_isSome]
  obtain ⟨m1, m2, m3, m4⟩ := hm
  have nd' := nd
  simp only [List.nodup_cons, List.mem_cons, List.not_mem_nil, or_false, not_or, not_false_eq_true, List.nodup_nil, and_true] at nd'
  obtain ⟨⟨a1, a2, a3, a4⟩, ⟨b1, b2, b3⟩, ⟨d1, d2⟩, e1⟩ := nd'
  rcases Int.lt_or_gt_of_ne b3 with l | l
  · refine ⟨[c0, c1, c2, c3, c4], ?_, ?_⟩
    · have q := mem_rows (ms := mem ps) ⟨m1, m2, m3, m4⟩ (by rw [h0]; exact nd)
      rwa [h0] at q
    · rw [Bool.and_eq_true]
      exact ⟨decide_eq_true l, isRing_iff.mpr hs⟩
  · refine ⟨[c0, c4, c3, c2, c1], ?_, ?_⟩
    · have q := mem_rows (ms := mem ps) (a := c4) (b := c3) (c := c2) (d := c1) ⟨m4, m3, m2, m1⟩ (by
        rw [h0]
        simp only [List.nodup_cons, List.mem_cons, List.not_mem_nil, or_false, not_or, not_false_eq_true, List.nodup_nil, and_true]
        exact ⟨⟨a4, a3, a2, a1⟩, ⟨Ne.symm e1, Ne.symm d2, Ne.symm b3⟩, ⟨Ne.symm d1, Ne.symm b2⟩, Ne.symm b1⟩)
      rwa [h0] at q
    · rw [Bool.and_eq_true]
      refine ⟨decide_eq_true l, isRing_iff.mpr fun p hp => ?_⟩
      exact (hs p hp).symm.imp side_rev side_rev
theorem ring_of_graph (w : WF ps) (h : IsRing (Tie ps)) : (ringOf ps).isSome = true := by
  obtain ⟨c0, c1, c2, c3, c4, nd, t0, t1, t2, t3, t4, hs⟩ := h
  have m0 := (mem_tie w).mpr ⟨_, t0⟩
  have m1 := (mem_tie w).mpr ⟨_, t1⟩
  have m2 := (mem_tie w).mpr ⟨_, t2⟩
  have m3 := (mem_tie w).mpr ⟨_, t3⟩
  have m4 := (mem_tie w).mpr ⟨_, t4⟩
  have sub1 : ∀ x ∈ mem ps, x ∈ [c0, c1, c2, c3, c4] := fun x hx => by
    obtain ⟨z, hz⟩ := (mem_tie w).mp hx
    exact side_in (hs x z hz)
  have sub2 : ∀ x ∈ [c0, c1, c2, c3, c4], x ∈ mem ps := fun x hx => by
    simp only [List.mem_cons, List.not_mem_nil, or_false] at hx
    rcases hx with rfl | rfl | rfl | rfl | rfl <;> assumption
  have hl : (mem ps).length = 5 := Nat.le_antisymm (len_sub (m := [c0, c1, c2, c3, c4]) (mem_nodup ps) sub1) (len_sub nd sub2)
  have hh := sub1 _ (head_mem (ms := mem ps) fun e => by rw [e] at hl; cases hl)
  have hp : ∀ p ∈ ps, Side c0 c1 c2 c3 c4 p.1 p.2 ∨ Side c0 c1 c2 c3 c4 p.2 p.1 := fun p hp => hs _ _ (tie_of hp)
  have nd' := nd
  simp only [List.nodup_cons, List.mem_cons, List.not_mem_nil, or_false, not_or, not_false_eq_true, List.nodup_nil, and_true] at nd'
  obtain ⟨⟨a1, a2, a3, a4⟩, ⟨b1, b2, b3⟩, ⟨d1, d2⟩, e1⟩ := nd'
  simp only [List.mem_cons, List.not_mem_nil, or_false] at hh
  have p1 : ∀ {x0 x1 x2 x3 x4 : Int}, (∀ p ∈ ps, Side x0 x1 x2 x3 x4 p.1 p.2 ∨ Side x0 x1 x2 x3 x4 p.2 p.1) → ∀ p ∈ ps, Side x1 x2 x3 x4 x0 p.1 p.2 ∨ Side x1 x2 x3 x4 x0 p.2 p.1 := fun h p hp => (h p hp).imp side_turn side_turn
  rcases hh with e | e | e | e | e
  · exact ring_row e hl nd ⟨m1, m2, m3, m4⟩ hp
  · refine ring_row e hl ?_ ⟨m2, m3, m4, m0⟩ (p1 hp)
    simp only [List.nodup_cons, List.mem_cons, List.not_mem_nil, or_false, not_or, not_false_eq_true, List.nodup_nil, and_true]
    exact ⟨⟨b1, b2, b3, Ne.symm a1⟩, ⟨d1, d2, Ne.symm a2⟩, ⟨e1, Ne.symm a3⟩, Ne.symm a4⟩
  · refine ring_row e hl ?_ ⟨m3, m4, m0, m1⟩ (p1 (p1 hp))
    simp only [List.nodup_cons, List.mem_cons, List.not_mem_nil, or_false, not_or, not_false_eq_true, List.nodup_nil, and_true]
    exact ⟨⟨d1, d2, Ne.symm a2, Ne.symm b1⟩, ⟨e1, Ne.symm a3, Ne.symm b2⟩, ⟨Ne.symm a4, Ne.symm b3⟩, a1⟩
  · refine ring_row e hl ?_ ⟨m4, m0, m1, m2⟩ (p1 (p1 (p1 hp)))
    simp only [List.nodup_cons, List.mem_cons, List.not_mem_nil, or_false, not_or, not_false_eq_true, List.nodup_nil, and_true]
    exact ⟨⟨e1, Ne.symm a3, Ne.symm b2, Ne.symm d1⟩, ⟨Ne.symm a4, Ne.symm b3, Ne.symm d2⟩, ⟨a1, a2⟩, b1⟩
  · refine ring_row e hl ?_ ⟨m0, m1, m2, m3⟩ (p1 (p1 (p1 (p1 hp))))
    simp only [List.nodup_cons, List.mem_cons, List.not_mem_nil, or_false, not_or, not_false_eq_true, List.nodup_nil, and_true]
    exact ⟨⟨Ne.symm a4, Ne.symm b3, Ne.symm d2, Ne.symm e1⟩, ⟨a1, a2, a3⟩, ⟨b1, b2⟩, d1⟩

/-! ### good pairs have no bad ones -/
def goodB (ps : List Pr) : Bool := (hubs ps).isSome || (decide ((mem ps).length ≤ 4) || (ringOf ps).isSome)
def noBad (ps : List Pr) : Bool := (apart3 ps).isEmpty && (beside ps).isEmpty
theorem six_members (w : WF ps) {t : Pr × Pr × Pr} (h : t ∈ apart3 ps) : 6 ≤ (mem ps).length := by
  obtain ⟨p1, p2, p3, q1, q2, q3⟩ := apart3_mem h
  rw [apart_iff] at q1 q2 q3
  have w1 := w.rng _ p1
  have w2 := w.rng _ p2
  have w3 := w.rng _ p3
  have m : ∀ {p : Pr}, p ∈ ps → p.1 ∈ mem ps ∧ p.2 ∈ mem ps := fun hp => ⟨(mem_mem w.rng).mpr ⟨_, hp, .inl rfl⟩, (mem_mem w.rng).mpr ⟨_, hp, .inr rfl⟩⟩
  refine len_sub (l := [t.1.1, t.1.2, t.2.1.1, t.2.1.2, t.2.2.1, t.2.2.2]) ?_ fun x hx => ?_
  · simp only [List.nodup_cons, List.mem_cons, List.not_mem_nil, or_false, not_or, not_false_eq_true, List.nodup_nil, and_true]
    omega
  · simp only [List.mem_cons, List.not_mem_nil, or_false] at hx
    rcases hx with rfl | rfl | rfl | rfl | rfl | rfl
    · exact (m p1).1
    · exact (m p1).2
    · exact (m p2).1
    · exact (m p2).2
    · exact (m p3).1
    · exact (m p3).2
theorem beside_facts (w : WF ps) {t : R3 × Pr} (h : t ∈ beside ps) : ((t.1.1, t.1.2.1) ∈ ps ∧ (t.1.1, t.1.2.2) ∈ ps ∧ (t.1.2.1, t.1.2.2) ∈ ps ∧ t.2 ∈ ps) ∧ t.1.1 < t.1.2.1 ∧ t.1.2.1 < t.1.2.2 ∧ t.2.1 < t.2.2 ∧
    t.2.1 ≠ t.1.1 ∧ t.2.1 ≠ t.1.2.1 ∧ t.2.1 ≠ t.1.2.2 ∧ t.2.2 ≠ t.1.1 ∧ t.2.2 ≠ t.1.2.1 ∧ t.2.2 ≠ t.1.2.2 := by
  obtain ⟨h1, h2, h3, h4⟩ := mem_beside.mp h
  obtain ⟨a, b, c, d⟩ := (mem_ring3 w.rng).mp h1
  rw [← Bool.not_eq_true, inR_iff] at h3 h4
  have wa := (w.rng _ a).2.1
  have wp := (w.rng _ h2).2.1
  simp only [not_or] at h3 h4
  exact ⟨⟨a, b, c, h2⟩, wa, d, wp, h3.1, h3.2.1, h3.2.2, h4.1, h4.2.1, h4.2.2⟩
theorem five_members (w : WF ps) {t : R3 × Pr} (h : t ∈ beside ps) : 5 ≤ (mem ps).length := by
  obtain ⟨⟨a, b, c, p⟩, l1, l2, l3, n⟩ := beside_facts w h
  refine len_sub (l := [t.1.1, t.1.2.1, t.1.2.2, t.2.1, t.2.2]) ?_ fun x hx => ?_
  · simp only [List.nodup_cons, List.mem_cons, List.not_mem_nil, or_false, not_or, not_false_eq_true, List.nodup_nil, and_true]
    omega
  · simp only [List.mem_cons, List.not_mem_nil, or_false] at hx
    rcases hx with rfl | rfl | rfl | rfl | rfl
    · exact (mem_mem w.rng).mpr ⟨_, a, .inl rfl⟩
    · exact (mem_mem w.rng).mpr ⟨_, a, .inr rfl⟩
    · exact (mem_mem w.rng).mpr ⟨_, b, .inr rfl⟩
    · exact (mem_mem w.rng).mpr ⟨_, p, .inl rfl⟩
    · exact (mem_mem w.rng).mpr ⟨_, p, .inr rfl⟩
theorem hubs_no (w : WF ps) (h : (hubs ps).isSome = true) : apart3 ps = [] ∧ beside ps = [] := by
  unfold hubs at h
  obtain ⟨x, -, hx⟩ := List.find?_isSome.mp h
  rw [covers_iff] at hx
  constructor
  · refine List.eq_nil_iff_forall_not_mem.mpr fun t ht => ?_
    obtain ⟨p1, p2, p3, q1, q2, q3⟩ := apart3_mem ht
    rw [apart_iff] at q1 q2 q3
    have c1 := hx _ p1
    have c2 := hx _ p2
    have c3 := hx _ p3
    omega
  · refine List.eq_nil_iff_forall_not_mem.mpr fun t ht => ?_
    obtain ⟨⟨a, b, c, p⟩, l1, l2, l3, n⟩ := beside_facts w ht
    have c1 := hx _ a
    have c2 := hx _ b
    have c3 := hx _ c
    have c4 := hx _ p
    simp only at c1 c2 c3
    omega
theorem side_ix {r0 r1 r2 r3 r4 u v : Int} (h : Side r0 r1 r2 r3 r4 u v ∨ Side r0 r1 r2 r3 r4 v u) : ∃ i j : Nat, [r0, r1, r2, r3, r4][i]? = some u ∧ [r0, r1, r2, r3, r4][j]? = some v ∧ (j = i + 1 ∨ i = j + 1 ∨ (i = 4 ∧ j = 0) ∨ (i = 0 ∧ j = 4)) := by
  rcases h with (⟨rfl, rfl⟩ | ⟨rfl, rfl⟩ | ⟨rfl, rfl⟩ | ⟨rfl, rfl⟩ | ⟨rfl, rfl⟩) | (⟨rfl, rfl⟩ | ⟨rfl, rfl⟩ | ⟨rfl, rfl⟩ | ⟨rfl, rfl⟩ | ⟨rfl, rfl⟩)
  · exact ⟨0, 1, rfl, rfl, by omega⟩
  · exact ⟨1, 2, rfl, rfl, by omega⟩
  · exact ⟨2, 3, rfl, rfl, by omega⟩
  · exact ⟨3, 4, rfl, rfl, by omega⟩
  · exact ⟨4, 0, rfl, rfl, by omega⟩
  · exact ⟨1, 0, rfl, rfl, by omega⟩
  · exact ⟨2, 1, rfl, rfl, by omega⟩
  · exact ⟨3, 2, rfl, rfl, by omega⟩
  · exact ⟨4, 3, rfl, rfl, by omega⟩
  · exact ⟨0, 4, rfl, rfl, by omega⟩
theorem nodup_at {l : List Int} (h : l.Nodup) {i j : Nat} {x : Int} (a : l[i]? = some x) (b : l[j]? = some x) : i = j ∧ i < l.length := by
  obtain ⟨h1, e1⟩ := List.getElem?_eq_some_iff.mp a
  obtain ⟨h2, e2⟩ := List.getElem?_eq_some_iff.mp b
  exact ⟨(List.getElem_inj h).mp (e1.trans e2.symm), h1⟩
theorem ring_no (w : WF ps) (h : (ringOf ps).isSome = true) : apart3 ps = [] ∧ beside ps = [] := by
  unfold ringOf at h
  by_cases hl : (mem ps).length = 5
  · rw [if_pos hl] at h
    obtain ⟨r, hr, hx⟩ := List.find?_isSome.mp h
    rw [Bool.and_eq_true] at hx
    have hne : mem ps ≠ [] := fun e => by rw [e] at hl; cases hl
    obtain ⟨a, b, c, d, rfl, nd, -⟩ := of_mem_rows (head_mem hne) hr
    have sd := isRing_iff.mp hx.2
    constructor
    · refine List.eq_nil_iff_forall_not_mem.mpr fun t ht => ?_
      have := six_members w ht
      omega
    · refine List.eq_nil_iff_forall_not_mem.mpr fun t ht => ?_
      obtain ⟨⟨e1, e2, e3, _⟩, _⟩ := beside_facts w ht
      obtain ⟨i1, j1, x1, y1, z1⟩ := side_ix (sd _ e1)
      obtain ⟨i2, j2, x2, y2, z2⟩ := side_ix (sd _ e2)
      obtain ⟨i3, j3, x3, y3, z3⟩ := side_ix (sd _ e3)
      have f1 := nodup_at nd x1 x2
      have f2 := nodup_at nd y1 x3
      have f3 := nodup_at nd y2 y3
      simp only [List.length_cons, List.length_nil] at f1 f2 f3
      omega
  · rw [if_neg hl] at h
    cases h
theorem good_iff (w : WF ps) : goodB ps = noBad ps := by
  have bad : noBad ps = true ↔ apart3 ps = [] ∧ beside ps = [] := by
    unfold noBad
    rw [Bool.and_eq_true, List.isEmpty_iff, List.isEmpty_iff]
  have good : goodB ps = true ↔ (hubs ps).isSome = true ∨ (mem ps).length ≤ 4 ∨ (ringOf ps).isSome = true := by
    unfold goodB
    rw [Bool.or_eq_true, Bool.or_eq_true, decide_eq_true_eq]
  rw [Bool.eq_iff_iff, bad, good]
  constructor
  · rintro (h | h | h)
    · exact hubs_no w h
    · constructor
      · refine List.eq_nil_iff_forall_not_mem.mpr fun t ht => ?_
        have := six_members w ht
        omega
      · refine List.eq_nil_iff_forall_not_mem.mpr fun t ht => ?_
        have := five_members w ht
        omega
    · exact ring_no w h
  · rintro ⟨h1, h2⟩
    obtain ⟨p, hp⟩ := List.exists_mem_of_ne_nil _ w.ne
    rcases (graph w h1 h2).kinds (tie_of hp) with h | h | h
    · exact .inl (hubs_of_graph w h)
    · exact .inr (.inl (four_of_graph w h))
    · exact .inr (.inr (ring_of_graph w h))
end
end Kd

set_option linter.all false
namespace Kd
/-! ## the law's own looks -/
theorem sorted_ext : ∀ {l m : List Int}, l.Pairwise (· < ·) → m.Pairwise (· < ·) → (∀ x, x ∈ l ↔ x ∈ m) → l = m
  | [], [], _, _, _ => rfl
  | [], b :: m, _, _, h => absurd ((h b).mpr List.mem_cons_self) List.not_mem_nil
  | a :: l, [], _, _, h => absurd ((h a).mp List.mem_cons_self) List.not_mem_nil
  | a :: l, b :: m, h1, h2, h => by
    obtain ⟨p1, q1⟩ := List.pairwise_cons.mp h1
    obtain ⟨p2, q2⟩ := List.pairwise_cons.mp h2
    have e : a = b := by
      rcases List.mem_cons.mp ((h a).mp List.mem_cons_self) with e | e
      · exact e
      · rcases List.mem_cons.mp ((h b).mpr List.mem_cons_self) with f | f
        · exact f.symm
        · have := p1 b f
          have := p2 a e
          omega
    subst e
    refine congrArg (a :: ·) (sorted_ext q1 q2 fun x => ⟨fun hx => ?_, fun hx => ?_⟩)
    · rcases List.mem_cons.mp ((h x).mp (List.mem_cons_of_mem _ hx)) with e | e
      · subst e
        have := p1 x hx
        omega
      · exact e
    · rcases List.mem_cons.mp ((h x).mpr (List.mem_cons_of_mem _ hx)) with e | e
      · subst e
        have := p2 x hx
        omega
      · exact e
def upTo (lo : Int) (n : Nat) : List Int := (List.range n).map fun i : Nat => lo + (i : Int)
theorem mem_upTo {lo x : Int} {n : Nat} : x ∈ upTo lo n ↔ lo ≤ x ∧ x < lo + n := by
  unfold upTo
  rw [List.mem_map]
  constructor
  · rintro ⟨i, hi, rfl⟩
    have := List.mem_range.mp hi
    omega
  · rintro ⟨h1, h2⟩
    refine ⟨(x - lo).toNat, List.mem_range.mpr (by omega), ?_⟩
    show lo + (((x - lo).toNat : Nat) : Int) = x
    omega
theorem upTo_sorted (lo : Int) (n : Nat) : (upTo lo n).Pairwise (· < ·) := by
  unfold upTo
  rw [List.pairwise_map]
  exact (List.pairwise_lt_range (n := n)).imp fun h => by omega
theorem upTo_get {lo : Int} {n i : Nat} (h : i < n) : (upTo lo n)[i]? = some (lo + (i : Int)) := by
  unfold upTo
  rw [List.getElem?_map, List.getElem?_range h]
  rfl
theorem upTo_len (lo : Int) (n : Nat) : (upTo lo n).length = n := by
  unfold upTo
  rw [List.length_map, List.length_range]
section
variable {ps : List Pr}
/-- the ring's last places, as the law looks for them -/
def lastL (ps : List Pr) (p : Pr) : List Int := (upTo (p.2 + 1) (8 - (p.2 + 1)).toNat).filter fun l => ps.contains (p.1, l) && ps.contains (p.2, l)
def lastP (ps : List Pr) (p : Pr) : List Int := (mem ps).filter fun l => decide (p.2 < l) && (ps.contains (p.1, l) && ps.contains (p.2, l))
theorem last_same (w : WF ps) {p : Pr} (hp : p ∈ ps) : lastL ps p = lastP ps p := by
  refine sorted_ext ((upTo_sorted _ _).filter _) ((mem_sorted ps).filter _) fun x => ?_
  unfold lastL lastP
  rw [List.mem_filter, List.mem_filter, mem_upTo, mem_mem w.rng]
  simp only [Bool.and_eq_true, decide_eq_true_eq, List.contains_iff_mem]
  have wp := w.rng p hp
  constructor
  · rintro ⟨h1, h2, h3⟩
    exact ⟨⟨_, h2, .inr rfl⟩, by omega, h2, h3⟩
  · rintro ⟨⟨q, hq, e⟩, h1, h2, h3⟩
    have := w.rng _ h2
    simp only at this
    exact ⟨by omega, h2, h3⟩
def threeOf (p : Pr) (l : Int) : R3 := (p.1, p.2, l)
theorem ring3_eq : ring3 ps = ps.flatMap fun p => (lastP ps p).map (threeOf p) := rfl
theorem ring3_law (w : WF ps) : (ps.flatMap fun p => (lastL ps p).map (threeOf p)) = ring3 ps := by
  rw [ring3_eq]
  have : ∀ l : List Pr, (∀ p ∈ l, p ∈ ps) → (l.flatMap fun p => (lastL ps p).map (threeOf p)) = l.flatMap fun p => (lastP ps p).map (threeOf p) := by
    intro l
    induction l with
    | nil => intro _; rfl
    | cons p l ih =>
      intro h
      rw [List.flatMap_cons, List.flatMap_cons, last_same w (h p List.mem_cons_self), ih fun q hq => h q (List.mem_cons_of_mem _ hq)]
  exact this ps fun _ h => h
/-- two numbers sorted -/
def srtP (x y : Int) : Pr := if x ≤ y then (x, y) else (y, x)
theorem srt_two {x y : Int} {l : List Int} (hp : l.Perm [x, y]) (hs : l.Pairwise (· ≤ ·)) : l = [(srtP x y).1, (srtP x y).2] := by
  have h2 : l.length = 2 := hp.length_eq
  match l, h2 with
  | [a, b], _ =>
    have hab : a ≤ b := (List.pairwise_cons.mp hs).1 b List.mem_cons_self
    have m1 : a ∈ [x, y] := hp.mem_iff.mp List.mem_cons_self
    have hc := hp.count_eq a
    have hc2 := hp.count_eq b
    simp only [List.mem_cons, List.not_mem_nil, or_false] at m1
    have m2 : b ∈ [x, y] := hp.mem_iff.mp (List.mem_cons_of_mem _ List.mem_cons_self)
    simp only [List.mem_cons, List.not_mem_nil, or_false] at m2
    have m3 : x ∈ [a, b] := hp.mem_iff.mpr List.mem_cons_self
    have m4 : y ∈ [a, b] := hp.mem_iff.mpr (List.mem_cons_of_mem _ List.mem_cons_self)
    simp only [List.mem_cons, List.not_mem_nil, or_false] at m3 m4
    unfold srtP
    by_cases h : x ≤ y
    · rw [if_pos h]
      have e1 : a = x := by omega
      have e2 : b = y := by omega
      rw [e1, e2]
    · rw [if_neg h]
      have e1 : a = y := by omega
      have e2 : b = x := by omega
      rw [e1, e2]
def tieAt (r : List Int) (i : Nat) : Pr := srtP (r.getD i 0) (r.getD ((i + 4) % 5) 0)
def lawTies (r : List Int) : List Pr := (List.range 5).map (tieAt r)
def lawIsRing (r : List Int) (ps : List Pr) : Bool := ps.all fun p => (lawTies r).contains p
theorem srt_eq {x y : Int} {p : Pr} (h : p.1 < p.2) : p = srtP x y ↔ (p.1 = x ∧ p.2 = y) ∨ (p.1 = y ∧ p.2 = x) := by
  obtain ⟨a, b⟩ := p
  unfold srtP
  simp only at h ⊢
  split
  · rw [Prod.mk.injEq]
    constructor
    · exact .inl
    · rintro (q | ⟨q1, q2⟩)
      · exact q
      · omega
  · rw [Prod.mk.injEq]
    constructor
    · exact .inr
    · rintro (⟨q1, q2⟩ | q)
      · omega
      · exact q
theorem law_ring_same (w : WF ps) (a b c d e : Int) : lawIsRing [a, b, c, d, e] ps = isRing [a, b, c, d, e] ps := by
  rw [Bool.eq_iff_iff, isRing_iff]
  unfold lawIsRing
  rw [List.all_eq_true]
  have lt : lawTies [a, b, c, d, e] = [srtP a e, srtP b a, srtP c b, srtP d c, srtP e d] := rfl
  rw [lt]
  have one : ∀ p ∈ ps, (([srtP a e, srtP b a, srtP c b, srtP d c, srtP e d] : List Pr).contains p = true ↔ (Side a b c d e p.1 p.2 ∨ Side a b c d e p.2 p.1)) := fun p hp => by
    have l := (w.rng p hp).2.1
    rw [List.contains_iff_mem]
    simp only [List.mem_cons, List.not_mem_nil, or_false]
    rw [srt_eq l, srt_eq l, srt_eq l, srt_eq l, srt_eq l]
    unfold Side
    constructor
    · rintro ((⟨h1, h2⟩ | ⟨h1, h2⟩) | (⟨h1, h2⟩ | ⟨h1, h2⟩) | (⟨h1, h2⟩ | ⟨h1, h2⟩) | (⟨h1, h2⟩ | ⟨h1, h2⟩) | (⟨h1, h2⟩ | ⟨h1, h2⟩)) <;> simp [h1, h2]
    · rintro ((⟨h1, h2⟩ | ⟨h1, h2⟩ | ⟨h1, h2⟩ | ⟨h1, h2⟩ | ⟨h1, h2⟩) | (⟨h1, h2⟩ | ⟨h1, h2⟩ | ⟨h1, h2⟩ | ⟨h1, h2⟩ | ⟨h1, h2⟩)) <;> simp [h1, h2]
  constructor
  · intro h p hp
    exact (one p hp).mp (h p hp)
  · intro h p hp
    exact (one p hp).mpr (h p hp)
/-- the law finds the ring that the program finds -/
theorem law_ringOf (w : WF ps) (hl : (mem ps).length = 5) : ((rowsOf (mem ps)).find? fun r => goesOn r && lawIsRing r ps) = ringOf ps := by
  unfold ringOf
  rw [if_pos hl]
  refine find_congr fun r hr => ?_
  have hne : mem ps ≠ [] := fun e => by rw [e] at hl; cases hl
  obtain ⟨a, b, c, d, rfl, -, -⟩ := of_mem_rows (head_mem hne) hr
  rw [law_ring_same w]

/-! ## how long the lists are -/
theorem flat_len {α β : Type} {f : α → List β} {n : Nat} : ∀ {l : List α}, (∀ a ∈ l, (f a).length ≤ n) → (l.flatMap f).length ≤ l.length * n
  | [], _ => Nat.zero_le _
  | a :: l, h => by
    rw [List.flatMap_cons, List.length_append, List.length_cons, Nat.add_mul, Nat.one_mul]
    have h1 := h a List.mem_cons_self
    have h2 := flat_len (l := l) fun b hb => h b (List.mem_cons_of_mem _ hb)
    omega
theorem apart2_len (x : Pr) : ∀ l : List Pr, (apart2 x l).length ≤ l.length * l.length
  | [] => Nat.zero_le _
  | y :: s => by
    have ih := apart2_len x s
    have h1 : (if apartB x y then (s.filter fun l => apartB x l && apartB y l).map fun l => (x, y, l) else []).length ≤ s.length := by
      split
      · rw [List.length_map]; exact List.length_filter_le _ _
      · exact Nat.zero_le _
    show (_ ++ apart2 x s).length ≤ _
    rw [List.length_append, List.length_cons, Nat.add_mul, Nat.mul_add]
    omega
theorem apart3_len : ∀ l : List Pr, (apart3 l).length ≤ l.length * (l.length * l.length)
  | [] => Nat.zero_le _
  | x :: s => by
    have ih := apart3_len s
    have h1 := apart2_len x s
    show (apart2 x s ++ apart3 s).length ≤ _
    rw [List.length_append, List.length_cons]
    have h2 : s.length * (s.length * s.length) ≤ s.length * ((s.length + 1) * (s.length + 1)) := Nat.mul_le_mul_left _ (Nat.mul_le_mul (Nat.le_succ _) (Nat.le_succ _))
    have h3 : s.length * s.length ≤ (s.length + 1) * (s.length + 1) := Nat.mul_le_mul (Nat.le_succ _) (Nat.le_succ _)
    rw [Nat.add_mul s.length 1, Nat.one_mul]
    omega
theorem apart3_216 (w : WF ps) : (apart3 ps).length ≤ 216 := by
  have h := apart3_len ps
  have l := w.len
  have : ps.length * (ps.length * ps.length) ≤ 6 * (6 * 6) := Nat.mul_le_mul l (Nat.mul_le_mul l l)
  omega
theorem ring3_48 (w : WF ps) : (ring3 ps).length ≤ 48 := by
  have h : (ring3 ps).length ≤ ps.length * 8 := flat_len fun p _ => by
    rw [List.length_map]
    exact Nat.le_trans (List.length_filter_le _ _) (mem_len ps)
  have l := w.len
  omega
theorem beside_288 (w : WF ps) : (beside ps).length ≤ 288 := by
  have h : (beside ps).length ≤ (ring3 ps).length * 6 := flat_len fun p _ => by
    rw [List.length_map]
    exact Nat.le_trans (List.length_filter_le _ _) w.len
  have l := ring3_48 w
  omega
theorem grow_len {ms : List Int} {rows : List (List Int)} : (grow ms rows).length ≤ rows.length * ms.length := flat_len fun r _ => by
  unfold grow1
  rw [List.length_map]
  exact List.length_filter_le _ _
theorem growN_len {ms : List Int} (h : ms.length ≤ 8) : ∀ (n : Nat) (rows : List (List Int)), (growN ms n rows).length ≤ rows.length * 8 ^ n
  | 0, rows => by simp [growN]
  | n + 1, rows => by
    have h1 := growN_len h n rows
    have h2 := grow_len (ms := ms) (rows := growN ms n rows)
    have h3 : (growN ms n rows).length * ms.length ≤ (rows.length * 8 ^ n) * 8 := Nat.mul_le_mul h1 h
    show (grow ms (growN ms n rows)).length ≤ _
    rw [Nat.pow_succ, ← Nat.mul_assoc]
    omega
theorem pairsOf_len : ∀ l : List Int, (pairsOf l).length ≤ l.length * l.length
  | [] => Nat.zero_le _
  | a :: l => by
    have ih := pairsOf_len l
    show ((l.map _) ++ pairsOf l).length ≤ _
    rw [List.length_append, List.length_map, List.length_cons, Nat.add_mul, Nat.mul_add]
    omega
/-- every row that grows has its length -/
theorem growN_row {ms : List Int} {k : Nat} {rows : List (List Int)} (h0 : ∀ r ∈ rows, r.length = k) : ∀ (n : Nat), ∀ r ∈ growN ms n rows, r.length = k + n
  | 0, r, hr => h0 r hr
  | n + 1, r, hr => by
    obtain ⟨q, hq, m, _, _, rfl⟩ := mem_grow.mp (show r ∈ grow ms (growN ms n rows) from hr)
    rw [List.length_append, growN_row h0 n q hq]
    rfl
end
end Kd

set_option Elab.async false
set_option linter.all false
set_option maxRecDepth 100000
set_option maxHeartbeats 4000000
namespace Kd
open PySem PySem.Spec PyProof.Rows L2
/-! ## how things read -/
def pD (p : Pr) : PyData := .tuple [.int p.1, .int p.2]
def psD (ps : List Pr) : PyData := .tuple (ps.map pD)
def rowD (r : List Int) : PyData := .tuple (r.map PyData.int)
def t3D (t : Pr × Pr × Pr) : PyData := .tuple [pD t.1, pD t.2.1, pD t.2.2]
def r3D (r : R3) : PyData := .tuple [.int r.1, .int r.2.1, .int r.2.2]
def bsD (t : R3 × Pr) : PyData := .tuple [r3D t.1, pD t.2]
def optD {α : Type} (f : α → PyData) : Option α → PyData
  | none => .none
  | some a => f a
theorem fix_ints (l : List Int) : fixDs (l.map PyData.int) = true := fixDs_map (fun _ => by simp [fixD]) l
theorem fix_p (p : Pr) : fixD (pD p) = true := by simp [pD, fixD, fixDs]
theorem fix_ps (ps : List Pr) : fixD (psD ps) = true := by
  unfold psD
  rw [fixD]
  exact fixDs_map fix_p ps
theorem fix_row (r : List Int) : fixD (rowD r) = true := by
  unfold rowD
  rw [fixD]
  exact fix_ints r
theorem fix_t3 (t : Pr × Pr × Pr) : fixD (t3D t) = true := by simp [t3D, fixD, fixDs, fix_p]
theorem fix_r3 (t : R3) : fixD (r3D t) = true := by simp [r3D, fixD, fixDs]
theorem fix_bs (t : R3 × Pr) : fixD (bsD t) = true := by simp [bsD, fixD, fixDs, fix_p, fix_r3]
theorem fix_opt {α : Type} {f : α → PyData} (h : ∀ a, fixD (f a) = true) (o : Option α) : fixD (optD f o) = true := by
  cases o with
  | none => simp [optD, fixD]
  | some a => exact h a
section
variable {K : PySem.W.Frag} {H : Hp}
theorem p_of {v : V} {p : Pr} (h : Dp K H v (pD p)) : ∃ a, v = .ref a ∧ SqT K H a [.int p.1, .int p.2] := by
  obtain ⟨a, xs, e, h1, h2⟩ := tup_of h
  have : DpAll K H xs ([p.1, p.2].map PyData.int) := h2
  rw [ints_of_dps this] at h1
  exact ⟨a, e, h1⟩
theorem p_mk {a : Addr} {p : Pr} (h : SqT K H a [.int p.1, .int p.2]) : Dp K H (.ref a) (pD p) := .tup h (.cons (.int _) (.cons (.int _) .nil))
theorem row_of {v : V} {r : List Int} (h : Dp K H v (rowD r)) : ∃ a, v = .ref a ∧ SqT K H a (r.map V.int) := by
  obtain ⟨a, xs, e, h1, h2⟩ := tup_of h
  rw [ints_of_dps h2] at h1
  exact ⟨a, e, h1⟩
theorem row_mk {a : Addr} {r : List Int} (h : SqT K H a (r.map V.int)) : Dp K H (.ref a) (rowD r) := .tup h (dps_ints r)
theorem r3_of {v : V} {p : R3} (h : Dp K H v (r3D p)) : ∃ a, v = .ref a ∧ SqT K H a [.int p.1, .int p.2.1, .int p.2.2] := by
  obtain ⟨a, xs, e, h1, h2⟩ := tup_of h
  have : DpAll K H xs ([p.1, p.2.1, p.2.2].map PyData.int) := h2
  rw [ints_of_dps this] at h1
  exact ⟨a, e, h1⟩
theorem r3_mk {a : Addr} {p : R3} (h : SqT K H a [.int p.1, .int p.2.1, .int p.2.2]) : Dp K H (.ref a) (r3D p) := .tup h (.cons (.int _) (.cons (.int _) (.cons (.int _) .nil)))
theorem ps_of {v : V} {ps : List Pr} (h : Dp K H v (psD ps)) : ∃ a xs, v = .ref a ∧ SqT K H a xs ∧ DpAll K H xs (ps.map pD) := tup_of h
/-- the i-th of a list of data that are encoded -/
theorem enc_get {α : Type} {enc : α → PyData} {l : List α} {xs : List V} {i : Nat} {v : V} (h : DpAll K H xs (l.map enc)) (e : xs[i]? = some v) : ∃ a, l[i]? = some a ∧ Dp K H v (enc a) := by
  obtain ⟨d, h1, h2⟩ := dps_get h e
  rw [List.getElem?_map] at h1
  obtain ⟨a, h3, rfl⟩ := Option.map_eq_some_iff.mp h1
  exact ⟨a, h3, h2⟩
theorem enc_at {α : Type} {enc : α → PyData} {l : List α} {xs : List V} {i : Nat} {a : α} (h : DpAll K H xs (l.map enc)) (e : l[i]? = some a) : ∃ v, xs[i]? = some v ∧ Dp K H v (enc a) :=
  dps_at h (by rw [List.getElem?_map, e]; rfl)
end
theorem eqv_p (p q : Pr) : PyData.eqv (pD p) (pD q) = decide (p = q) := by
  obtain ⟨a, b⟩ := p
  obtain ⟨c, d⟩ := q
  have e : PyData.eqv (pD (a, b)) (pD (c, d)) = ((a == c) && ((b == d) && true)) := by simp only [pD, PyData.eqv, PyData.eqvAll]
  rw [e]
  by_cases h1 : a = c <;> by_cases h2 : b = d <;> simp [h1, h2]
theorem any_p (ps : List Pr) (q : Pr) : ((ps.map pD).any fun z => PyData.eqv z (pD q)) = ps.contains q := by
  rw [Bool.eq_iff_iff, List.any_eq_true, List.contains_iff_mem]
  constructor
  · rintro ⟨d, hd, h⟩
    obtain ⟨p, hp, rfl⟩ := List.mem_map.mp hd
    rw [eqv_p, decide_eq_true_eq] at h
    exact h ▸ hp
  · intro h
    exact ⟨pD q, List.mem_map.mpr ⟨q, h, rfl⟩, by rw [eqv_p]; exact decide_eq_true rfl⟩
/-! ### shapes -/
theorem lay_of_fix : True := trivial
theorem depth_p (p : Pr) : (pD p).depth = 1 := by simp [pD, PyData.depth, PyData.depthAll]
theorem depthAll_le {α : Type} {enc : α → PyData} {n : Nat} (h : ∀ a, (enc a).depth ≤ n) : ∀ l : List α, PyData.depthAll (l.map enc) ≤ n
  | [] => by simp [PyData.depthAll]
  | a :: l => by
    have h1 := h a
    have h2 := depthAll_le h l
    simp only [List.map_cons, PyData.depthAll]
    omega
theorem layAll {α : Type} {enc : α → PyData} (h : ∀ a, (enc a).canLay0 = true) : ∀ l : List α, PyData.canLayAll0 (l.map enc) = true
  | [] => by simp [PyData.canLayAll0]
  | a :: l => by simp [PyData.canLayAll0, h a, layAll h l]
theorem lay_p (p : Pr) : (pD p).canLay0 = true := by simp [pD, PyData.canLay0, PyData.canLayAll0]
theorem shape_mk {d : PyData} (h1 : d.canLay0 = true) (h2 : d.depth ≤ 64) : SeqAt.shaped d = true := by
  show (d.canLay0 && decide (d.depth ≤ 64)) = true
  rw [h1, decide_eq_true h2]
  rfl
theorem shape_p (p : Pr) : SeqAt.shaped (pD p) = true := shape_mk (lay_p p) (by rw [depth_p]; decide)
theorem shape_ps (ps : List Pr) : SeqAt.shaped (.tuple (ps.map pD)) = true := by
  have h := depthAll_le (enc := pD) (n := 1) (fun p => Nat.le_of_eq (depth_p p)) ps
  refine shape_mk ?_ ?_
  · simp only [PyData.canLay0]; exact layAll lay_p ps
  · simp only [PyData.depth]; omega
theorem shape_pl (ps : List Pr) : SeqAt.shaped (.list (ps.map pD)) = true := by
  have h := depthAll_le (enc := pD) (n := 1) (fun p => Nat.le_of_eq (depth_p p)) ps
  refine shape_mk ?_ ?_
  · simp only [PyData.canLay0]; exact layAll lay_p ps
  · simp only [PyData.depth]; omega
theorem depth_t3 (t : Pr × Pr × Pr) : (t3D t).depth = 2 := by simp [t3D, PyData.depth, PyData.depthAll, depth_p]
theorem depth_r3 (t : R3) : (r3D t).depth = 1 := by simp [r3D, PyData.depth, PyData.depthAll]
theorem depth_bs (t : R3 × Pr) : (bsD t).depth = 2 := by simp [bsD, PyData.depth, PyData.depthAll, depth_p, depth_r3]
theorem lay_t3 (t : Pr × Pr × Pr) : (t3D t).canLay0 = true := by simp [t3D, PyData.canLay0, PyData.canLayAll0, lay_p]
theorem lay_r3 (t : R3) : (r3D t).canLay0 = true := by simp [r3D, PyData.canLay0, PyData.canLayAll0]
theorem lay_bs (t : R3 × Pr) : (bsD t).canLay0 = true := by simp [bsD, PyData.canLay0, PyData.canLayAll0, lay_p, lay_r3]
theorem shape_l {α : Type} {enc : α → PyData} {n : Nat} (h : ∀ a, (enc a).canLay0 = true) (h2 : ∀ a, (enc a).depth ≤ n) (hn : n ≤ 60) (l : List α) : SeqAt.shaped (.list (l.map enc)) = true := by
  have q := depthAll_le h2 l
  refine shape_mk ?_ ?_
  · simp only [PyData.canLay0]; exact layAll h l
  · simp only [PyData.depth]; omega
/-! ### order -/
open PySem.W in
theorem alike_p (p q : Pr) : alike (pD p) (pD q) = true := by simp [pD, alike, alikeAll]
open PySem.W in
theorem alike_r3 (p q : R3) : alike (r3D p) (r3D q) = true := by simp [r3D, alike, alikeAll]
open PySem.W in
theorem alike_t3 (p q : Pr × Pr × Pr) : alike (t3D p) (t3D q) = true := by simp [t3D, alike, alikeAll, alike_p]
open PySem.W in
theorem alike_bs (p q : R3 × Pr) : alike (bsD p) (bsD q) = true := by simp [bsD, alike, alikeAll, alike_p, alike_r3]
section
open PySem.W
theorem lt_nil : PyProof.Rows.lexLt itemOrd (keyToksAll []) (keyToksAll []) = false := lex_irrefl _
theorem lt_int (x y : Int) : dataLt (.int x) (.int y) = decide (x < y) := dataLt_int x y
/-- the first place that differs decides: x ahead of y -/
theorem all_ahead {x y : PyData} (al : alike x y = true) (h1 : dataLt y x = false) (xs ys : List PyData) (al2 : alike y x = true) (hr : PyData.eqv y x = true → PyProof.Rows.lexLt itemOrd (keyToksAll ys) (keyToksAll xs) = false) :
    PyProof.Rows.lexLt itemOrd (keyToksAll (y :: ys)) (keyToksAll (x :: xs)) = false := by
  rw [dataLt_cons al2]
  split
  · rename_i e; exact hr e
  · exact h1
theorem le_p {p q : Pr} (h : plt p q ∨ p = q) : dataLt (pD q) (pD p) = false := by
  unfold pD
  rw [dataLt_ii, decide_eq_false_iff_not]
  rcases h with h | h
  · unfold plt at h; omega
  · subst h; omega
def rlt (a b : R3) : Prop := a.1 < b.1 ∨ a.1 = b.1 ∧ (a.2.1 < b.2.1 ∨ a.2.1 = b.2.1 ∧ a.2.2 < b.2.2)
theorem le_r3 {a b : R3} (h : rlt a b ∨ a = b) : dataLt (r3D b) (r3D a) = false := by
  unfold r3D
  rw [dataLt_tuple]
  have key : ∀ x y : Int, PyData.eqv (.int x) (.int y) = true → x = y := fun x y e => by simpa [PyData.eqv] using e
  refine all_ahead (by simp [alike]) ?_ _ _ (by simp [alike]) fun e1 => all_ahead (by simp [alike]) ?_ _ _ (by simp [alike]) fun e2 => all_ahead (by simp [alike]) ?_ _ _ (by simp [alike]) fun _ => lt_nil
  · rw [lt_int, decide_eq_false_iff_not]
    rcases h with h | rfl
    · unfold rlt at h; omega
    · omega
  · have := key _ _ e1
    rw [lt_int, decide_eq_false_iff_not]
    rcases h with h | rfl
    · unfold rlt at h; omega
    · omega
  · have := key _ _ e1
    have := key _ _ e2
    rw [lt_int, decide_eq_false_iff_not]
    rcases h with h | rfl
    · unfold rlt at h; omega
    · omega
theorem eqv_r3 {a b : R3} (h : PyData.eqv (r3D a) (r3D b) = true) : a = b := by
  obtain ⟨a1, a2, a3⟩ := a
  obtain ⟨b1, b2, b3⟩ := b
  simp only [r3D, PyData.eqv, PyData.eqvAll, Bool.and_eq_true, beq_iff_eq, and_true] at h
  rw [h.1, h.2.1, h.2.2]
theorem eqv_pe {a b : Pr} (h : PyData.eqv (pD a) (pD b) = true) : a = b := by
  rw [eqv_p] at h
  exact of_decide_eq_true h
def tlt (a b : Pr × Pr × Pr) : Prop := plt a.1 b.1 ∨ a.1 = b.1 ∧ (plt a.2.1 b.2.1 ∨ a.2.1 = b.2.1 ∧ plt a.2.2 b.2.2)
theorem le_t3 {a b : Pr × Pr × Pr} (h : tlt a b) : dataLt (t3D b) (t3D a) = false := by
  unfold t3D
  rw [dataLt_tuple]
  have np : ∀ {p : Pr}, ¬ plt p p := fun {p} h => by unfold plt at h; omega
  refine all_ahead (alike_p _ _) ?_ _ _ (alike_p _ _) fun e1 => all_ahead (alike_p _ _) ?_ _ _ (alike_p _ _) fun e2 => all_ahead (alike_p _ _) ?_ _ _ (alike_p _ _) fun _ => lt_nil
  · refine le_p ?_
    rcases h with h | ⟨h, _⟩
    · exact .inl h
    · exact .inr h
  · have e := eqv_pe e1
    refine le_p ?_
    rcases h with h | ⟨_, h | ⟨h, _⟩⟩
    · rw [e] at h; exact absurd h np
    · exact .inl h
    · exact .inr h
  · have e := eqv_pe e1
    have f := eqv_pe e2
    refine le_p ?_
    rcases h with h | ⟨_, h | ⟨_, h⟩⟩
    · rw [e] at h; exact absurd h np
    · rw [f] at h; exact absurd h np
    · exact .inl h
def blt (a b : R3 × Pr) : Prop := rlt a.1 b.1 ∨ a.1 = b.1 ∧ plt a.2 b.2
theorem le_bs {a b : R3 × Pr} (h : blt a b) : dataLt (bsD b) (bsD a) = false := by
  unfold bsD
  rw [dataLt_tuple]
  have nr : ∀ {p : R3}, ¬ rlt p p := fun {p} h => by unfold rlt at h; omega
  refine all_ahead (alike_r3 _ _) ?_ _ _ (alike_r3 _ _) fun e1 => all_ahead (alike_p _ _) ?_ _ _ (alike_p _ _) fun _ => lt_nil
  · refine le_r3 ?_
    rcases h with h | ⟨h, _⟩
    · exact .inl h
    · exact .inr h
  · have e := eqv_r3 e1
    refine le_p ?_
    rcases h with h | ⟨_, h⟩
    · rw [e] at h; exact absurd h nr
    · exact .inl h
theorem sorted_is {α : Type} {enc : α → PyData} {l : List α} (h : l.Pairwise fun a b => dataLt (enc b) (enc a) = false) : l.mergeSort (dataLe false enc) = l :=
  List.mergeSort_of_pairwise (h.imp fun {a b} q => by show (!dataLt (enc b) (enc a)) = true; rw [q]; rfl)
end
/-! ### the lists are sorted as they are -/
theorem pw_flat {α β : Type} {R : α → α → Prop} {S : β → β → Prop} {f : α → List β} : ∀ {l : List α}, l.Pairwise R → (∀ a ∈ l, (f a).Pairwise S) → (∀ a ∈ l, ∀ b ∈ l, R a b → ∀ x ∈ f a, ∀ y ∈ f b, S x y) → (l.flatMap f).Pairwise S
  | [], _, _, _ => List.Pairwise.nil
  | a :: l, h, h1, h2 => by
    obtain ⟨p, q⟩ := List.pairwise_cons.mp h
    rw [List.flatMap_cons]
    refine List.pairwise_append.mpr ⟨h1 a List.mem_cons_self, pw_flat q (fun b hb => h1 b (List.mem_cons_of_mem _ hb)) fun b hb c hc => h2 b (List.mem_cons_of_mem _ hb) c (List.mem_cons_of_mem _ hc), fun x hx y hy => ?_⟩
    obtain ⟨b, hb, hy⟩ := List.mem_flatMap.mp hy
    exact h2 a List.mem_cons_self b (List.mem_cons_of_mem _ hb) (p b hb) x hx y hy
theorem apart2_pw {p : Pr} : ∀ {l : List Pr}, l.Pairwise plt → (apart2 p l).Pairwise tlt
  | [], _ => List.Pairwise.nil
  | q :: r, h => by
    obtain ⟨h1, h2⟩ := List.pairwise_cons.mp h
    show (_ ++ apart2 p r).Pairwise tlt
    refine List.pairwise_append.mpr ⟨?_, apart2_pw h2, fun x hx y hy => ?_⟩
    · split
      · rw [List.pairwise_map]
        exact (h2.filter _).imp fun k => .inr ⟨rfl, .inr ⟨rfl, k⟩⟩
      · exact List.Pairwise.nil
    · have hy' := apart2_mem hy
      split at hx
      · obtain ⟨l, hl, rfl⟩ := List.mem_map.mp hx
        exact .inr ⟨hy'.1.symm, .inl (h1 _ hy'.2.1)⟩
      · exact absurd hx List.not_mem_nil
theorem apart3_pw : ∀ {l : List Pr}, l.Pairwise plt → (apart3 l).Pairwise tlt
  | [], _ => List.Pairwise.nil
  | p :: r, h => by
    obtain ⟨h1, h2⟩ := List.pairwise_cons.mp h
    show (apart2 p r ++ apart3 r).Pairwise tlt
    refine List.pairwise_append.mpr ⟨apart2_pw h2, apart3_pw h2, fun x hx y hy => .inl ?_⟩
    rw [(apart2_mem hx).1]
    exact h1 _ (apart3_mem hy).1
theorem ring3_pw {ps : List Pr} (w : WF ps) : (ring3 ps).Pairwise rlt := by
  refine pw_flat w.srt (fun p _ => ?_) fun p _ q _ hpq x hx y hy => ?_
  · rw [List.pairwise_map]
    exact ((mem_sorted ps).filter _).imp fun k => .inr ⟨rfl, .inr ⟨rfl, k⟩⟩
  · obtain ⟨l, _, rfl⟩ := List.mem_map.mp hx
    obtain ⟨m, _, rfl⟩ := List.mem_map.mp hy
    unfold plt at hpq
    unfold rlt
    simp only
    omega
theorem beside_pw {ps : List Pr} (w : WF ps) : (beside ps).Pairwise blt := by
  refine pw_flat (ring3_pw w) (fun r _ => ?_) fun p _ q _ hpq x hx y hy => ?_
  · rw [List.pairwise_map]
    exact (w.srt.filter _).imp fun k => .inr ⟨rfl, k⟩
  · obtain ⟨l, _, rfl⟩ := List.mem_map.mp hx
    obtain ⟨m, _, rfl⟩ := List.mem_map.mp hy
    exact .inl hpq
theorem apart3_sorted {ps : List Pr} (w : WF ps) : (apart3 ps).mergeSort (PySem.W.dataLe false t3D) = apart3 ps := sorted_is ((apart3_pw w.srt).imp le_t3)
theorem ring3_sorted {ps : List Pr} (w : WF ps) : (ring3 ps).mergeSort (PySem.W.dataLe false r3D) = ring3 ps := sorted_is ((ring3_pw w).imp fun h => le_r3 (.inl h))
theorem beside_sorted {ps : List Pr} (w : WF ps) : (beside ps).mergeSort (PySem.W.dataLe false bsD) = beside ps := sorted_is ((beside_pw w).imp le_bs)
end Kd

set_option Elab.async false
set_option linter.all false
set_option maxRecDepth 100000
set_option maxHeartbeats 4000000
namespace Kd
open PySem PySem.Spec PyProof.Rows L2
/-! ## the text -/
def topS (i : Nat) : Stmt := PySem.Challenge.pw_wishways_k61_whole_kinds_of_pairs.main.body.getD i (.Pass ⟨0, 0, 0, 0⟩)
/-- a def as the top leaves it -/
structure Dd (K : PySem.W.Frag) (mg : Str → Option Value) (x : Str) (st : Stmt) (f : Addr) (fd : FuncData) (ps : List Str) : Prop where
  F : Fun K x x st f fd
  m : mg x = some (.ref f)
  b : Binds K fd ps []
/-- the built-in names, none of them taken; the module's numbers -/
structure Bn (mg : Str → Option Value) : Prop where
  len : mg "len" = none
  sorted : mg "sorted" = none
  set : mg "set" = none
  all : mg "all" = none
  enumerate : mg "enumerate" = none
  range : mg "range" = none
  zip : mg "zip" = none
  list : mg "list" = none
  tuple : mg "tuple" = none
  repr : mg "repr" = none
  isinstance : mg "isinstance" = none
  int : mg "int" = none
  bool : mg "bool" = none
  sum : mg "sum" = none
  max : mg "max" = none
  abs : mg "abs" = none
  divmod : mg "divmod" = none
  places : ∃ t, mg "MOST_PLACES" = some (.int 8 t)
  wishes : ∃ t, mg "MOST_WISHES" = some (.int 6 t)
  fourF : ∃ t, mg "FOUR_fourplaces" = some (.int 4 t)
  five : ∃ t, mg "FIVE" = some (.int 5 t)
  fourK : ∃ t, mg "FOUR_kinds" = some (.int 4 t)
/-- f(x = e): one keyword, nothing else -/
def Binds1 (K : PySem.W.Frag) (fd : FuncData) (x : Str) : Prop := ∀ (s : Shared) (u : Value), BindsTo s fd ⟨[], [(x, u)]⟩ [(x, u)]
theorem binds1 {K : PySem.W.Frag} {x qual a : Str} {st : Stmt} {f : Addr} {fd : FuncData} (F : Fun K x qual st f fd)
    (h : ∀ (kV doc pm : Value) (an : Option Addr) (cdv ct : Value) (u : Value), bindArgs (PySem.W.fnOf x qual (defArgs st) (defBody st) (defScope st) .none kV doc pm an cdv ct) ⟨[], [(a, u)]⟩ = pure [(a, u)]) : Binds1 K fd a := by
  obtain ⟨oc, od, kV, doc, pm, an, cdv, ct, osl, rfl, lk, hcd⟩ := F.ex
  exact fun s u => .of_eq (h kV doc pm an cdv ct u)
section
variable {X : Cx} {k : Nat} {f : Addr} {fd : FuncData} {sp : Sp} {x a : Str} {p pos kpos : Pos} {e : Expr} {te : TE}
/-- f(a = e) -/
def tCall1 (sp : Sp) (te : TE) : TE := fun σ H Q => te σ H fun v H1 => sp [v] H1 Q E0
theorem pe_call1 (F : FnOk X.prog X.w X.K X.mg X.base CX0 k f fd [a] sp) (hr : Room k X.A) (hg : Gl X x) (hm : X.mg x = some (.ref f)) (hk : PySem.W.keepIn X.K (.ref f) = true) (hb : Binds1 X.K fd a) (he : PE X e te)
    (hall : (backToKw pos (keywordEach [⟨some a, e, kpos⟩] X.env)).all (·.1.isSome) = true := by rfl) (hks : (backToKw pos (keywordEach [⟨some a, e, kpos⟩] X.env)).filterMap (·.1) = [a] := by rfl) (hdb : (x == ("__debug__" : Str)) = false := by decide)
    (hpl : ((backTo pos (starEach [] X.env)).any (·.1) || (backToKw pos (keywordEach [⟨some a, e, kpos⟩] X.env)).any (·.1.isNone)) = false := by rfl) :
    PE X (.Call (.Name x p) [] [⟨some a, e, kpos⟩] pos) (tCall1 sp te) := by
  refine ⟨fun pins s σ H Q I h => ?_⟩
  refine wpAny_Call_Name_kw (ld_glob I hg hm ?_ hdb)
  refine PySem.W.callWith_KW0 (h₀ := X.base) I.ok.mod.kin hk hall ?_ hpl
  have h2 : tCons te tNil σ H fun zs H1 => ∃ v, zs = [v] ∧ sp [v] H1 Q E0 := show te σ H fun v H1 => ∃ w, [v] = [w] ∧ sp [w] H1 Q E0 by
    have q : (fun (v : V) (H1 : Hp) => ∃ w, [v] = [w] ∧ sp [w] H1 Q E0) = fun v H1 => sp [v] H1 Q E0 := by
      funext v H1
      refine propext ⟨fun ⟨w, e, q⟩ => ?_, fun q => ⟨v, rfl, q⟩⟩
      cases e
      exact q
    rw [q]
    exact h
  refine thn ((pk_cons he pk_nil).run pos pins s σ H _ I h2) fun ws s2 ⟨zs, H2, I2, rz, v, ez, q2⟩ => ⟨I2.kIn, ?_⟩
  subst ez
  rw [hks]
  obtain ⟨u, rfl, r⟩ := vals1 rz
  refine wpAny_call (codeAny_mono (F.run X.A X.stack s2 H2 ⟨[], [(a, u)]⟩ [u] [v] Q E0 hr I2.env0 (hb s2 u) (.cons r .nil) q2) fun r s' hq => ?_)
  match r, hq with
  | .error e, hq => exact False.elim hq
  | .ok (.ret u), hq => exact I2.after hq
  | .ok .next, hq => exact False.elim hq
  | .ok .brk, hq => exact False.elim hq
  | .ok .cont, hq => exact False.elim hq
end
section
variable {K : PySem.W.Frag} {H H1 : Hp} {Q : VK}
theorem ResI.mono {d : PyData} (s : Same H H1) (q : ResI K H Q d) : ResI K H1 Q d := fun v H2 s2 h => q v H2 (s.trans s2) h
theorem ResL.mono {ds : List PyData} (s : Same H H1) (q : ResL K H Q ds) : ResL K H1 Q ds := fun p vs H2 s2 n h1 h2 => q p vs H2 (s.trans s2) (s.free n) h1 h2
theorem ResI.now {d : PyData} {v : V} (q : ResI K H Q d) (h : Dp K H v d) : Q v H := q v H (Same.refl H) h
theorem ResI.tt {b : Bool} (q : ResI K H Q (.bool b)) {H2 : Hp} (s : Same H H2) : Q (.bl b) H2 := q _ H2 s (.bl b)
end
theorem line_ge : (1000000 : Nat) ≤ sizeLine := by rw [sizeLine_eq]; decide
theorem small_line {n : Nat} (h : n ≤ 100000) : n < sizeLine := Nat.lt_of_le_of_lt h (Nat.lt_of_lt_of_le (by decide) line_ge)
/-- pairs in, data out -/
def spP (K : PySem.W.Frag) (g : List Pr → PyData) : Sp := fun vs H Q _ => ∃ v ps, vs = [v] ∧ WF ps ∧ Dp K H v (psD ps) ∧ ResI K H Q (g ps)
/-- pairs in, a new list out -/
def spPL (K : PySem.W.Frag) (g : List Pr → List PyData) : Sp := fun vs H Q _ => ∃ v ps, vs = [v] ∧ WF ps ∧ Dp K H v (psD ps) ∧ ResL K H Q (g ps)
end Kd

set_option Elab.async false
set_option linter.all false
set_option maxRecDepth 100000
set_option maxHeartbeats 4000000
namespace Kd
open PySem PySem.Spec PyProof.Rows L2
theorem take_one {α : Type} {l : List α} {i : Nat} {a : α} (h : l[i]? = some a) : l.take (i + 1) = l.take i ++ [a] := by
  rw [List.take_add_one, h]
  rfl
theorem drop_one {α : Type} {l : List α} {i : Nat} {a : α} (h : l[i]? = some a) : l.drop i = a :: l.drop (i + 1) := by
  obtain ⟨h1, h2⟩ := List.getElem?_eq_some_iff.mp h
  rw [List.drop_eq_getElem_cons h1, h2]
theorem bls_of_dps {K : PySem.W.Frag} {H : Hp} : ∀ {l : List Bool} {vs : List V}, DpAll K H vs (l.map PyData.bool) → vs = l.map V.bl
  | [], _, h => by
    have h' : DpAll K H _ [] := h
    cases h'
    rfl
  | i :: l, _, h => by
    have h' : DpAll K H _ (PyData.bool i :: l.map PyData.bool) := h
    cases h' with
    | cons h1 h2 =>
      cases h1
      rw [bls_of_dps h2]
      rfl
/-- a comprehension over data: what is kept, what is made of it -/
theorem lc_data {K : PySem.W.Frag} {J : It} {G : Hp → Prop} {xs : List V} {α β : Type} {enc : α → PyData} {enc2 : β → PyData} (l : List α) (p : α → Bool) (f : α → β) (w : Walk J xs.length G (YAt xs))
    {g : TG} {tt : TT} {te : TE} {vs : List Nat} {σ : L2.St} {H1 : Hp} {D : Addr} {Qd : Hp → Prop} (nD : H1 D = none) (hx : DpAll K H1 xs (l.map enc)) (fx : ∀ a, fixD (enc a) = true) (fy : ∀ b, fixD (enc2 b) = true)
    (hG : ∀ H, Same H1 H → G H) (hl : l.length ≤ 100000)
    (turn : ∀ (i : Nat) (x : V) (a : α) (H2 : Hp) (Qt : VK) (Qf : Hp → Prop), l[i]? = some a → Same H1 H2 → Dp K H2 x (enc a) → (p a = false → ∀ H3, Same H2 H3 → Qf H3) → (p a = true → ∀ y H3, Same H2 H3 → Dp K H3 y (enc2 (f a)) → Qt y H3) →
      g x (wipe σ vs) H2 fun σ2 H3 => wipe σ2 vs = wipe σ vs ∧ tt σ2 H3 fun b H4 => if b = true then te σ2 H4 Qt else Qf H4)
    (hd : ∀ H ws, Same H1 H → H D = some (.lst ws) → DpAll K H ws (((l.filter p).map f).map enc2) → Qd H) :
    ∃ W : Nat → Nat → Hp → Prop, (∃ m, W 0 m (upd H1 D (.lst []))) ∧ ∀ i m H, W i m H →
      (J.stop i H ∧ Qd H) ∨ (J.go i H ∧ ∃ Nx : Hp → Prop, (∀ H2, Nx H2 → ∃ m2, m2 < m ∧ W (i + 1) m2 H2) ∧ ∀ x H2, J.yld i H x H2 → g x (wipe σ vs) H2 fun σ2 H3 => wipe σ2 vs = wipe σ vs ∧ tt σ2 H3 fun b H4 =>
        if b = true then te σ2 H4 fun y H5 => ∃ acc, H5 D = some (.lst acc) ∧ acc.length < sizeLine ∧ Nx (upd H5 D (.lst (acc ++ [y]))) else Nx H4) := by
  have lx : xs.length = l.length := by rw [dps_len hx, List.length_map]
  refine lc_it w (fun i H => ∃ ws, Same H1 H ∧ H D = some (.lst ws) ∧ DpAll K H ws ((((l.take i).filter p).map f).map enc2)) ⟨[], same_new nD, upd_same, .nil⟩ (fun i H _ ⟨_, s, _⟩ => hG H s) (fun i x H H2 hi ⟨ws, s, hD, hw⟩ hy => ?_) fun H ⟨ws, s, hD, hw⟩ => ?_
  · obtain ⟨rfl, hxi⟩ := hy
    obtain ⟨a, ha, hxa⟩ := enc_get hx hxi
    have fixw : fixDs ((((l.take i).filter p).map f).map enc2) = true := fixDs_map fy _
    refine turn i x a H2 _ _ ha s (dp_same (fx a) s hxa) (fun hp H3 s3 => ?_) (fun hp y H3 s3 hy => ?_)
    · refine ⟨ws, s.trans s3, s3 _ _ hD, ?_⟩
      rw [take_one ha, List.filter_append, List.filter_cons_of_neg (by rw [hp]; exact Bool.false_ne_true), List.filter_nil, List.append_nil]
      exact dps_same fixw s3 hw
    · have k : Keeps H3 (upd H3 D (.lst (ws ++ [y]))) := keeps_upd_lst (s3 _ _ hD)
      refine ⟨ws, s3 _ _ hD, ?_, ws ++ [y], same_write (s.trans s3) nD, upd_same, ?_⟩
      · have e := dps_len hw
        rw [List.length_map, List.length_map] at e
        have e2 := List.length_filter_le p (l.take i)
        rw [List.length_take] at e2
        exact small_line (by omega)
      · rw [take_one ha, List.filter_append, List.filter_cons_of_pos hp, List.filter_nil, List.map_append, List.map_append]
        exact dps_app (dps_keep k _ _ fixw (dps_same fixw s3 hw)) (dps_one (dp_keep k _ _ (fy _) hy))
  · rw [lx, List.take_length] at hw
    exact hd H ws s hD hw
theorem walk_upTo (lo : Int) (n : Nat) : Walk (Itr lo n) ((upTo lo n).map V.int).length (fun _ => True) (YAt ((upTo lo n).map V.int)) := by
  have e : ((upTo lo n).map V.int).length = n := by rw [List.length_map, upTo_len]
  rw [e]
  refine (walk_range (lo := lo) (n := n)).mono (fun _ h => h) fun i H x H2 hi _ y => ⟨y.1, ?_⟩
  rw [List.getElem?_map, upTo_get hi, y.2]
  rfl
theorem walk_zipT {K : PySem.W.Frag} {a b : Addr} {xs ys : List V} {n : Nat} (hn : n = min xs.length ys.length) : Walk (RZ.ItzT K a b) n (fun H => SqT K H a xs ∧ SqT K H b ys) (YPair (fun i => xs[i]?) (fun i => ys[i]?)) := by
  subst hn
  refine ⟨fun i _ hi q => ?_, fun _ q => ⟨xs, ys, q.1, q.2, by omega⟩, fun i H v H2 _ q y => ?_⟩
  · have h1 : i < xs.length := by omega
    have h2 : i < ys.length := by omega
    exact ⟨xs, ys, xs[i], ys[i], q.1, q.2, by simp [h1], by simp [h2]⟩
  · obtain ⟨T, x, z, h1, h2, h3, h4, h5⟩ := y
    exact ⟨T, x, z, h1, h2, h3, h4 xs q.1, h5 ys q.2⟩
/-! slices from one on, up to one or two -/
theorem cut_from {xs : List V} {n : Nat} : cutV xs (some (n : Int)) none = xs.drop n := by
  unfold cutV
  rw [HT.sIx_nat, HT.sIx_none]
  by_cases h : n ≤ xs.length
  · rw [Nat.min_eq_left h, List.take_of_length_le]
    rw [List.length_drop]
    omega
  · rw [Nat.min_eq_right (by omega), Nat.sub_self, List.take_zero, List.drop_eq_nil_of_le (by omega)]
theorem cut_to {xs : List V} {n : Nat} : cutV xs none (some (n : Int)) = xs.take n := by
  unfold cutV
  rw [HT.sIx_nat, HT.sIx_none, List.drop_zero, Nat.sub_zero]
  by_cases h : n ≤ xs.length
  · rw [Nat.min_eq_left h]
  · rw [Nat.min_eq_right (by omega), List.take_of_length_le (Nat.le_refl _)]
    exact (List.take_of_length_le (by omega)).symm
end Kd

set_option Elab.async false
set_option linter.all false
set_option maxRecDepth 100000
set_option maxHeartbeats 4000000
namespace Kd
open PySem PySem.Spec PyProof.Rows L2
theorem hu65 {A : Around} {k : Nat} (hr : Room k A) : A.units + 65 < cLine := by have := hr.un; omega
theorem hu70 {A : Around} {k : Nat} (hr : Room k A) : A.units + 70 < cLine := by have := hr.un; omega
theorem hu110 {A : Around} {k : Nat} (hr : Room k A) : A.units + 110 < cLine := by have := hr.un; omega
/-- a clause without a test -/
theorem tyes {σ : L2.St} {H : Hp} {A B : Hp → Prop} (h : A H) : tYes σ H fun b H4 => if b = true then A H4 else B H4 := by
  show if true = true then A H else B H
  exact iteT h
/-! ## the rules with the written part told by name (a block's readings may not speak of the block) -/
section
variable {X : Cx} (K : PySem.W.Frag)
theorem ixT (h : X.K = K := by rfl) : IxR X (rIxT K) := by subst h; exact ix_tup
theorem ixL (h : X.K = K := by rfl) : IxR X (rIxL K) := by subst h; exact ix_list
theorem slT (h : X.K = K := by rfl) : SlR X (rSlA K) := by subst h; exact sl_tupA
theorem slL (h : X.K = K := by rfl) : SlR X (rSlL K) := by subst h; exact sl_list
theorem opIn (h : X.K = K := by rfl) : OpR X (compareOp .In) (rIn K false) := by subst h; exact op_in_seq
theorem opNotIn (h : X.K = K := by rfl) : OpR X (compareOp .NotIn) (rIn K true) := by subst h; exact op_notIn_seq
theorem opInT (hu : X.A.units + 65 < cLine) (h : X.K = K := by rfl) : OpR X (compareOp .In) (rInT K) := by subst h; exact op_inT hu
theorem opNotInT (hu : X.A.units + 65 < cLine) (h : X.K = K := by rfl) : OpR X (compareOp .NotIn) (rNotInT K) := by subst h; exact op_notInT hu
theorem opInD (hu : X.A.units + 65 < cLine) (h : X.K = K := by rfl) : OpR X (compareOp .In) (rInD K) := by subst h; exact op_inD hu
theorem opNotInD (hu : X.A.units + 65 < cLine) (h : X.K = K := by rfl) : OpR X (compareOp .NotIn) (rNotInD K) := by subst h; exact op_notInD hu
theorem opEqD (hu : X.A.units + 64 < cLine) (h : X.K = K := by rfl) : OpR X (compareOp .Eq) (rEqD K) := by subst h; exact op_eqD hu
theorem opNeD (hu : X.A.units + 64 < cLine) (h : X.K = K := by rfl) : OpR X (compareOp .NotEq) (rNeD K) := by subst h; exact op_neD hu
theorem opLtT (hu : X.A.units < cLine) (h : X.K = K := by rfl) : OpR X (compareOp .Lt) (rLtT K) := by subst h; exact op_ltT hu
theorem opCat (h : X.K = K := by rfl) : OpR X (binaryOp .Add) (rCatA K) := by subst h; exact op_catA
theorem cLen (h : X.K = K := by rfl) : CallR X (.builtin "len") (fun xs H Q => ∃ p ys, xs = [V.ref p] ∧ (SqL K H p ys ∨ SqT K H p ys) ∧ Q (.int (ys.length : Nat)) H) := by subst h; exact call_len_seq
theorem cTuple (h : X.K = K := by rfl) : CallR X (.type "tuple") (fun xs H Q => ∃ p ys, xs = [V.ref p] ∧ ((SqL K H p ys ∧ ∀ l, H l = none → Q (.ref l) (upd H l (.tup ys))) ∨ (SqT K H p ys ∧ Q (.ref p) H))) := by subst h; exact call_tuple_of
theorem cAll (hc : X.calm = true := by rfl) (h : X.K = K := by rfl) : CallR X (.builtin "all") (rAll K) := by subst h; exact cr_all hc
theorem cSorted (h : X.K = K := by rfl) : CallR X (.builtin "sorted") (rSorted K) := by subst h; exact cr_sorted
theorem cSortD {β : Type} (enc : β → PyData) (hu : X.A.units + 70 < cLine) (h : X.K = K := by rfl) : CallR X (.builtin "sorted") (rSortD K enc) := by subst h; exact cr_sortD enc hu
theorem cSet (w : World) (hc : X.calm = true := by rfl) (h : X.K = K := by rfl) (hw : X.w = w := by rfl) : CallR X (.type "set") (rSetL K w) := by subst h; subst hw; exact cr_setL hc
theorem cSortSet (w : World) (hc : X.calm = true := by rfl) (hw : X.w = w := by rfl) : CallR X (.builtin "sorted") (rSortedSet w) := by subst hw; exact cr_sortedSet hc
theorem cRepr (hg : X.A.guards = some []) (hu : X.A.units + 110 < cLine) (h : X.K = K := by rfl) : CallR X (.builtin "repr") (rRepr K) := by subst h; exact cr_repr hg hu
theorem cSum (hc : X.calm = true := by rfl) (h : X.K = K := by rfl) : CallR X (.builtin "sum") (rSum K) := by subst h; exact cr_sum hc
theorem cIsi (h : X.K = K := by rfl) : CallR X (.builtin "isinstance") (rIsi K) := by subst h; exact call_isi
theorem piT {tg l : Expr} {tl : TE} (hl : PE X l tl) (h : X.K = K := by rfl) : PI X tg l (iTup K tl) := by subst h; exact pi_tup hl
theorem piL {tg l : Expr} {tl : TE} (hl : PE X l tl) (h : X.K = K := by rfl) : PI X tg l (iList K tl) := by subst h; exact pi_list hl
theorem pgT (n : Nat) {es : List Expr} {k : Nat} {t : TGs} {pos : Pos} (h1 : PGs X es t) (hc : X.calm = true := by rfl) (hK : X.K = K := by rfl)
    (hn : (assignEach es X.env).length = n := by rfl) (hst : (assignEach es X.env).findIdx? (·.1) = none := by rfl) : PG X (.Tuple es k pos) (gTup K n t) := by subst hK; exact pg_tup hc h1 hn hst
theorem piEnumT {e : Expr} {ta : TA} {p pos tpos : Pos} {elts : List Expr} {kk : Nat} (hg : Gl X "enumerate") (hm : X.mg "enumerate" = none) (ha : PA X [e] ta) (h : X.K = K := by rfl) (hs : starEach [e] X.env = [(false, eval e X.env)] := by rfl) :
    PI X (.Tuple elts kk tpos) (.Call (.Name "enumerate" p) [e] [] pos) (iEnumT K ta) := by subst h; exact pi_enumT hg hm ha hs
theorem piEnumL {e : Expr} {ta : TA} {p pos tpos : Pos} {elts : List Expr} {kk : Nat} (hg : Gl X "enumerate") (hm : X.mg "enumerate" = none) (ha : PA X [e] ta) (h : X.K = K := by rfl) (hs : starEach [e] X.env = [(false, eval e X.env)] := by rfl) :
    PI X (.Tuple elts kk tpos) (.Call (.Name "enumerate" p) [e] [] pos) (iEnum K ta) := by subst h; exact pi_enum hg hm ha hs
theorem piZip {e e2 : Expr} {ta : TA} {p pos tpos : Pos} {elts : List Expr} {kk : Nat} (hg : Gl X "zip") (hm : X.mg "zip" = none) (ha : PA X [e, e2] ta) (h : X.K = K := by rfl) (hs : starEach [e, e2] X.env = (false, eval e X.env) :: starEach [e2] X.env := by rfl) (hpl : (backTo pos (starEach [e2] X.env)).any (·.1) = false := by rfl) :
    PI X (.Tuple elts kk tpos) (.Call (.Name "zip" p) [e, e2] [] pos) (RZ.iZipA K ta) := by subst h; exact RZ.pi_zipA hg hm ha hs hpl
end
end Kd

set_option Elab.async false
set_option linter.all false
set_option maxRecDepth 100000
set_option maxHeartbeats 4000000
namespace Kd
open PySem PySem.Spec PyProof.Rows L2
theorem tyx_tup {K : PySem.W.Frag} {H : Hp} {a : Addr} {xs : List V} (h : SqT K H a xs) : TyX K H (.ref a) (.type "tuple") := by
  rcases h with (h | ⟨o, h⟩) | ⟨o, its, n, h, hc, _⟩
  · exact .base (.tup h)
  · exact .fTuple h
  · exact .kTuple h hc
/-- the truth value as it is reckoned -/
theorem qb {Q : VK} {H : Hp} {b c : Bool} (h : b = c) (q : Q (.bl c) H) : Q (.bl b) H := by
  rw [h]
  exact q
section
variable {P : Program} {w : World} {K : PySem.W.Frag} {mg : Str → Option Value} {base : Heap}
/-! ## what is passed -/
abbrev s_is_integer : Stmt := topS 4
theorem sc_is_integer : FnScope ["value"] ["value"] (defScope s_is_integer) := ⟨rfl, rfl, rfl, by decide +kernel, rfl, by decide +kernel, by decide +kernel⟩
def spIsInt : Sp := fun vs H Q _ => ∃ i : Int, vs = [.int i] ∧ Q (.bl true) H
theorem ok_is_integer (B : Bn mg) {f_is_integer : Addr} {fd_is_integer : FuncData} (D_is_integer : Dd K mg "is_integer" s_is_integer f_is_integer fd_is_integer ["value"]) : FnOk P w K mg base CX0 1 f_is_integer fd_is_integer ["value"] (spIsInt) := by
  refine D_is_integer.F.ok sc_is_integer (fun vs H Q E h => ?_) (fun cdv A outer s H vs Q E hr h => ?_)
  · obtain ⟨i, rfl, _⟩ := h
    rfl
  · obtain ⟨i, rfl, q⟩ := h
    refine ⟨_, (pss_one (ps_ret (pe_and (pe_callB (cIsi K) (by rfl) B.isinstance (by decide +kernel) (pa_cons (pv 0) (pa_cons (pe_bltn (v := .ty "int") (by rfl) B.int (by decide +kernel) rfl) pa_nil))) (pe_one (pe_not (pe_callB (cIsi K) (by rfl) B.isinstance (by decide +kernel) (pa_cons (pv 0) (pa_cons (pe_bltn (v := .ty "bool") (by rfl) B.bool (by decide +kernel) rfl) pa_nil)))))))), ?_⟩
    refine ⟨_, rfl, _, _, _, _, true, rfl, .ty _, .base (.int i), kit_ty (by decide +kernel), true, rfl, iteT ?_⟩
    exact ⟨_, rfl, _, _, _, _, false, rfl, .ty _, .base (.int i), kit_ty (by decide +kernel), false, rfl, q⟩
abbrev s_is_count : Stmt := topS 5
theorem sc_is_count : FnScope ["value"] ["value"] (defScope s_is_count) := ⟨rfl, rfl, rfl, by decide +kernel, rfl, by decide +kernel, by decide +kernel⟩
def spIsCount : Sp := fun vs H Q _ => ∃ i : Int, vs = [.int i] ∧ 0 ≤ i ∧ Q (.bl true) H
theorem ok_is_count (B : Bn mg) {f_is_count : Addr} {fd_is_count : FuncData} (D_is_count : Dd K mg "is_count" s_is_count f_is_count fd_is_count ["value"]) {f_is_integer : Addr} {fd_is_integer : FuncData} (D_is_integer : Dd K mg "is_integer" s_is_integer f_is_integer fd_is_integer ["value"]) (G_is_integer : FnOk P w K mg base CX0 1 f_is_integer fd_is_integer ["value"] (spIsInt)) : FnOk P w K mg base CX0 2 f_is_count fd_is_count ["value"] (spIsCount) := by
  refine D_is_count.F.ok sc_is_count (fun vs H Q E h => ?_) (fun cdv A outer s H vs Q E hr h => ?_)
  · obtain ⟨i, rfl, _⟩ := h
    rfl
  · obtain ⟨i, rfl, h0, q⟩ := h
    refine ⟨_, (pss_one (ps_ret (pe_and (pe_call G_is_integer (hr.mono (by decide)) (by rfl) D_is_integer.m D_is_integer.F.kp D_is_integer.b .nil pass0 (pa_cons (pv 0) pa_nil)) (pe_one (pe_cmpR op_ge (pv 0) pe_int (nomark _)))))), ?_⟩
    refine ⟨_, rfl, i, rfl, true, rfl, iteT ⟨_, rfl, _, _, rfl, rfl, ?_⟩⟩
    exact qb (decide_eq_true h0) q
abbrev s_are_two_places : Stmt := topS 9
theorem sc_are_two_places : FnScope ["one", "other", "many"] ["one", "other", "many"] (defScope s_are_two_places) := ⟨rfl, rfl, rfl, by decide +kernel, rfl, by decide +kernel, by decide +kernel⟩
def spTwo : Sp := fun vs H Q _ => ∃ a b m : Int, vs = [.int a, .int b, .int m] ∧ 0 ≤ a ∧ a < b ∧ b < m ∧ Q (.bl true) H
theorem ok_are_two_places (B : Bn mg) {f_are_two_places : Addr} {fd_are_two_places : FuncData} (D_are_two_places : Dd K mg "are_two_places" s_are_two_places f_are_two_places fd_are_two_places ["one", "other", "many"]) {f_is_count : Addr} {fd_is_count : FuncData} (D_is_count : Dd K mg "is_count" s_is_count f_is_count fd_is_count ["value"]) (G_is_count : FnOk P w K mg base CX0 2 f_is_count fd_is_count ["value"] (spIsCount)) : FnOk P w K mg base CX0 3 f_are_two_places fd_are_two_places ["one", "other", "many"] (spTwo) := by
  refine D_are_two_places.F.ok sc_are_two_places (fun vs H Q E h => ?_) (fun cdv A outer s H vs Q E hr h => ?_)
  · obtain ⟨a, b, m, rfl, _⟩ := h
    rfl
  · obtain ⟨a, b, m, rfl, h0, h1, h2, q⟩ := h
    refine ⟨_, (pss_one (ps_ret (pe_and (pe_call G_is_count (hr.mono (by decide)) (by rfl) D_is_count.m D_is_count.F.kp D_is_count.b .nil pass0 (pa_cons (pv 0) pa_nil)) (pe_and (pe_call G_is_count (hr.mono (by decide)) (by rfl) D_is_count.m D_is_count.F.kp D_is_count.b .nil pass0 (pa_cons (pv 1) pa_nil)) (pe_one (pe_chain op_lt op_lt (pv 0) (pv 1) (pv 2))))))), ?_⟩
    refine ⟨_, rfl, a, rfl, h0, true, rfl, iteT ⟨_, rfl, b, rfl, by omega, true, rfl, iteT ⟨_, rfl, _, rfl, a, b, rfl, rfl, true, ?_, iteT ⟨_, rfl, b, m, rfl, rfl, ?_⟩⟩⟩⟩
    · exact congrArg V.bl (decide_eq_true h1)
    · exact qb (decide_eq_true h2) q
abbrev s_is_pair : Stmt := topS 11
theorem sc_is_pair : FnScope ["value"] ["value"] (defScope s_is_pair) := ⟨rfl, rfl, rfl, by decide +kernel, rfl, by decide +kernel, by decide +kernel⟩
def spIsPair (K : PySem.W.Frag) : Sp := fun vs H Q _ => ∃ v p, vs = [v] ∧ Dp K H v (pD p) ∧ 0 ≤ p.1 ∧ p.1 < p.2 ∧ p.2 < 8 ∧ Q (.bl true) H
theorem ok_is_pair (B : Bn mg) {f_is_pair : Addr} {fd_is_pair : FuncData} (D_is_pair : Dd K mg "is_pair" s_is_pair f_is_pair fd_is_pair ["value"]) {f_are_two_places : Addr} {fd_are_two_places : FuncData} (D_are_two_places : Dd K mg "are_two_places" s_are_two_places f_are_two_places fd_are_two_places ["one", "other", "many"]) (G_are_two_places : FnOk P w K mg base CX0 3 f_are_two_places fd_are_two_places ["one", "other", "many"] (spTwo)) : FnOk P w K mg base CX0 4 f_is_pair fd_is_pair ["value"] (spIsPair K) := by
  refine D_is_pair.F.ok sc_is_pair (fun vs H Q E h => ?_) (fun cdv A outer s H vs Q E hr h => ?_)
  · obtain ⟨v, p, rfl, _⟩ := h
    rfl
  · obtain ⟨v, p, rfl, hd, h0, h1, h2, q⟩ := h
    obtain ⟨a, rfl, ht⟩ := p_of hd
    refine ⟨_, (pss_one (ps_ret (pe_and (pe_callB (cIsi K) (by rfl) B.isinstance (by decide +kernel) (pa_cons (pv 0) (pa_cons (pe_bltn (v := .ty "tuple") (by rfl) B.tuple (by decide +kernel) rfl) pa_nil))) (pe_and (pe_cmpR op_eq (pe_callB (cLen K) (by rfl) B.len (by decide +kernel) (pa_cons (pv 0) pa_nil)) pe_int (nomark _)) (pe_one (pe_call G_are_two_places (hr.mono (by decide)) (by rfl) D_are_two_places.m D_are_two_places.F.kp D_are_two_places.b .nil pass0 (pa_cons (pe_ix (ixT K) (pv 0) pe_int (fun _ _ => rfl)) (pa_cons (pe_ix (ixT K) (pv 0) pe_int (fun _ _ => rfl)) (pa_cons (pe_glob rfl (v := .int 8) B.places.choose_spec ⟨_, rfl⟩) pa_nil))))))))), ?_⟩
    refine ⟨_, rfl, _, _, _, _, true, rfl, .ty _, tyx_tup ht, kit_ty (by decide +kernel), true, rfl, iteT ⟨_, rfl, a, _, rfl, .inr ht, rfl, true, rfl, iteT ?_⟩⟩
    exact ⟨_, rfl, a, _, 0, _, rfl, rfl, ht, atI_nat (j := 0) rfl, _, rfl, a, _, 1, _, rfl, rfl, ht, atI_nat (j := 1) rfl, p.1, p.2, 8, rfl, h0, h1, h2, q⟩
end
end Kd

set_option Elab.async false
set_option linter.all false
set_option maxRecDepth 100000
set_option maxHeartbeats 4000000
namespace Kd
open PySem PySem.Spec PyProof.Rows L2
theorem lex_plt {p q : Pr} (h : plt p q) : HT.lexLt [p.1, p.2] [q.1, q.2] = true := by
  unfold plt at h
  simp only [HT.lexLt]
  rcases h with h | ⟨h1, h2⟩
  · simp [h, Int.ne_of_lt h]
  · simp [h1, h2]
    omega
theorem whole_to {n : Nat} : HT.sIx n 0 none = 0 ∧ HT.sIx n n (some (n : Int)) = n := by
  rw [HT.sIx_none, HT.sIx_nat, Nat.min_self]
  exact ⟨rfl, rfl⟩
theorem not_whole_from {n : Nat} (h : 0 < n) : ¬ (HT.sIx n 0 (some 1) = 0 ∧ HT.sIx n n none = n) := fun ⟨e, _⟩ => by
  rw [show HT.sIx n 0 (some 1) = min 1 n from HT.sIx_nat n 0 1] at e
  omega
section
variable {P : Program} {w : World} {K : PySem.W.Frag} {mg : Str → Option Value} {base : Heap}
abbrev s_are_rising : Stmt := topS 10
theorem sc_are_rising : FnScope ["rows", "near", "far"] ["rows"] (defScope s_are_rising) := ⟨rfl, rfl, rfl, by decide +kernel, rfl, by decide +kernel, by decide +kernel⟩
theorem ok_are_rising (B : Bn mg) {f_are_rising : Addr} {fd_are_rising : FuncData} (D_are_rising : Dd K mg "are_rising" s_are_rising f_are_rising fd_are_rising ["rows"]) : FnOk P w K mg base CX0 1 f_are_rising fd_are_rising ["rows"] (spP K fun _ => .bool true) := by
  refine D_are_rising.F.ok sc_are_rising (fun vs H Q E h => ?_) (fun cdv A outer s H vs Q E hr h => ?_)
  · obtain ⟨v, ps, rfl, _⟩ := h
    rfl
  · obtain ⟨v, ps, rfl, wf, hd, q⟩ := h
    obtain ⟨a, xs, rfl, ht, hx⟩ := ps_of hd
    refine ⟨_, (pss_one (ps_ret (pe_callB (cAll K) (by rfl) B.all (by decide +kernel) (pa_cons (pe_lc (own := [("near", 1), ("far", 2)]) (by rfl) sc_are_rising.nd (piZip K (by rfl) B.zip (pa_cons (pv 0) (pa_cons (pe_slice (slT K) (pv 0) (po_some pe_int) po_none) pa_nil))) (blkOk_by (own := [("near", 1), ("far", 2)]) (N := ["rows", "near", "far"]) (sc := defScope s_are_rising) (by decide +kernel)) (fun _ _ _ _ _ => by exact (pgT K 2 (pgs_cons (pg_name (i := 1) sc_are_rising.nd rfl (.inl rfl)) (pgs_cons (pg_name (i := 2) sc_are_rising.nd rfl (.inl rfl)) pgs_nil)))) (fun _ _ _ _ _ => by exact pts_nil) (fun _ _ _ _ _ => by exact (pe_cmpR (opLtT K (by exact hr.units0)) (pe_slice (slT K) (pv 1) po_none (po_some pe_int)) (pe_slice (slT K) (pv 2) po_none (po_some pe_int)) (nomark _)))) pa_nil)))), ?_⟩
    have lx : xs.length = ps.length := by rw [dps_len hx, List.length_map]
    have l0 : 0 < ps.length := List.length_pos_iff.mpr wf.ne
    refine ⟨_, rfl, _, rfl, 1, rfl, a, xs, rfl, ht, fun e => absurd e (not_whole_from (by omega)), fun _ c nc => ?_⟩
    rw [show cutV xs (some 1) none = xs.drop 1 from cut_from (n := 1)]
    have s1 : Same H (upd H c (.tup (xs.drop 1))) := same_new nc
    refine ⟨a, c, xs, xs.drop 1, rfl, .inr ⟨seqT_same (same_new nc) ht, .of upd_same, ?_⟩⟩
    intro D nD
    have len2 : (xs.drop 1).length = ps.length - 1 := by rw [List.length_drop, lx]
    refine lc_it (walk_zipT (xs := xs) (ys := xs.drop 1) (n := ps.length - 1) (by omega)) (fun i H2 => Same H H2 ∧ SqT K H2 c (xs.drop 1) ∧ H2 D = some (.lst (List.replicate i (V.bl true)))) ⟨?_, ?_, upd_same⟩ (fun i H2 _ ⟨s2, hc, _⟩ => ⟨seqT_same s2 ht, hc⟩) (fun i x H2 H3 hi ⟨s2, hc, hD⟩ hy => ?_) (fun H2 ⟨s2, hc, hD⟩ => ?_)
    · exact (same_new nc).trans (same_new nD)
    · exact .of (by rw [upd_ne (ne_of_none upd_same nD), upd_same])
    · obtain ⟨T, x1, x2, rfl, nT, rfl, e1, e2⟩ := hy
      obtain ⟨p, hp, d1⟩ := enc_get (dps_same (fixDs_map fix_p ps) s2 hx) e1
      replace e2 : (xs.drop 1)[i]? = some x2 := e2
      rw [List.getElem?_drop] at e2
      obtain ⟨p2, hp2, d2⟩ := enc_get (dps_same (fixDs_map fix_p ps) s2 hx) e2
      obtain ⟨b1, rfl, t1⟩ := p_of d1
      obtain ⟨b2, rfl, t2⟩ := p_of d2
      have lt : plt p p2 := by
        obtain ⟨h1, f1⟩ := List.getElem?_eq_some_iff.mp hp
        obtain ⟨h2, f2⟩ := List.getElem?_eq_some_iff.mp hp2
        rw [← f1, ← f2]
        exact List.pairwise_iff_getElem.mp wf.srt i (1 + i) h1 h2 (by omega)
      have s3 : Same H2 (upd H2 T (.tup [.ref b1, .ref b2])) := same_new nT
      refine ⟨T, _, rfl, .of upd_same, rfl, _, _, rfl, _, _, rfl, rfl, rfl, tyes ?_⟩
      refine ⟨_, rfl, 2, rfl, b1, _, rfl, seqT_same s3 t1, fun _ => ?_, fun e => absurd (whole_to (n := 2)) e⟩
      refine ⟨_, rfl, 2, rfl, b2, _, rfl, seqT_same s3 t2, fun _ => ?_, fun e => absurd (whole_to (n := 2)) e⟩
      refine ⟨b1, b2, [p.1, p.2], [p2.1, p2.2], rfl, rfl, seqT_same s3 t1, seqT_same s3 t2, _, s3 _ _ hD, ?_, ?_⟩
      · rw [List.length_replicate]
        have := wf.len
        exact small_line (by omega)
      · refine ⟨same_write (s2.trans s3) ((s1.free nD)), ?_, ?_⟩
        · exact seqT_keep (keeps_upd_lst (s3 _ _ hD)) (seqT_same s3 hc)
        · rw [upd_same, lex_plt lt, List.replicate_succ']
    · refine ⟨D, List.replicate (ps.length - 1) true, rfl, .of (by rw [hD, List.map_replicate]), ?_⟩
      have e : (List.replicate (ps.length - 1) true).all id = true := by rw [List.all_eq_true]; intro b hb; exact List.eq_of_mem_replicate hb
      rw [e]
      exact q.tt s2
abbrev s_are_pairs : Stmt := topS 12
theorem sc_are_pairs : FnScope ["value", "one"] ["value"] (defScope s_are_pairs) := ⟨rfl, rfl, rfl, by decide +kernel, rfl, by decide +kernel, by decide +kernel⟩
theorem ok_are_pairs (B : Bn mg) {f_are_pairs : Addr} {fd_are_pairs : FuncData} (D_are_pairs : Dd K mg "are_pairs" s_are_pairs f_are_pairs fd_are_pairs ["value"]) {f_is_pair : Addr} {fd_is_pair : FuncData} (D_is_pair : Dd K mg "is_pair" s_is_pair f_is_pair fd_is_pair ["value"]) (G_is_pair : FnOk P w K mg base CX0 4 f_is_pair fd_is_pair ["value"] (spIsPair K)) {f_are_rising : Addr} {fd_are_rising : FuncData} (D_are_rising : Dd K mg "are_rising" s_are_rising f_are_rising fd_are_rising ["rows"]) (G_are_rising : FnOk P w K mg base CX0 1 f_are_rising fd_are_rising ["rows"] (spP K fun _ => .bool true)) : FnOk P w K mg base CX0 5 f_are_pairs fd_are_pairs ["value"] (spP K fun _ => .bool true) := by
  refine D_are_pairs.F.ok sc_are_pairs (fun vs H Q E h => ?_) (fun cdv A outer s H vs Q E hr h => ?_)
  · obtain ⟨v, ps, rfl, _⟩ := h
    rfl
  · obtain ⟨v, ps, rfl, wf, hd, q⟩ := h
    obtain ⟨a, xs, rfl, ht, hx⟩ := ps_of hd
    refine ⟨_, (pss_cons (ps_if (PW.pt (pw_or (pt_not (pt_val (pe_callB (cIsi K) (by rfl) B.isinstance (by decide +kernel) (pa_cons (pv 0) (pa_cons (pe_bltn (v := .ty "tuple") (by rfl) B.tuple (by decide +kernel) rfl) pa_nil))))) (pw_or1 (pt_not (pt_chain op_le op_le pe_int (pe_callB (cLen K) (by rfl) B.len (by decide +kernel) (pa_cons (pv 0) pa_nil)) (pe_glob rfl (v := .int 6) B.wishes.choose_spec ⟨_, rfl⟩)))))) (pss_one (ps_ret pe_bl)) pss_nil)
      (pss_one (ps_ret (pe_and (pe_callB (cAll K) (by rfl) B.all (by decide +kernel) (pa_cons (pe_lc (own := [("one", 1)]) (by rfl) sc_are_pairs.nd (piT K (pv 0)) (blkOk_by (own := [("one", 1)]) (N := ["value", "one"]) (sc := defScope s_are_pairs) (by decide +kernel)) (fun _ _ _ _ _ => by exact (pg_name (i := 1) sc_are_pairs.nd rfl (.inl rfl))) (fun _ _ _ _ _ => by exact pts_nil) (fun _ _ _ _ _ => by exact (pe_call G_is_pair (hr.mono (by decide)) (by rfl) D_is_pair.m D_is_pair.F.kp D_is_pair.b .nil pass0 (pa_cons (pv 1) pa_nil)))) pa_nil)) (pe_one (pe_call G_are_rising (hr.mono (by decide)) (by rfl) D_are_rising.m D_are_rising.F.kp D_are_rising.b .nil pass0 (pa_cons (pv 0) pa_nil))))))), ?_⟩
    have lx : xs.length = ps.length := by rw [dps_len hx, List.length_map]
    have l0 : 0 < ps.length := List.length_pos_iff.mpr wf.ne
    have l6 := wf.len
    refine ⟨_, rfl, _, _, _, _, true, rfl, .ty _, tyx_tup ht, kit_ty (by decide +kernel), true, rfl, iteF ?_⟩
    refine ⟨_, rfl, a, xs, rfl, .inr ht, 1, (xs.length : Int), rfl, rfl, true, congrArg V.bl (decide_eq_true (by omega)), iteT ⟨_, 6, rfl, rfl, true, congrArg V.bl (decide_eq_true (by omega)), iteF ?_⟩⟩
    refine ⟨_, rfl, a, rfl, ⟨_, ht⟩, fun D nD => ?_⟩
    refine lc_data (K := K) (enc := pD) (enc2 := PyData.bool) ps (fun _ => true) (fun _ => true) walk_tup nD hx fix_p (fun _ => by simp [fixD]) (fun H2 s2 => seqT_same s2 ht) (by omega) (fun i x p H2 Qt Qf hp s2 dx _ yes => ?_) (fun H2 ws s2 hD hw => ?_)
    · have r := wf.rng p (List.mem_of_getElem? hp)
      exact ⟨rfl, tyes ⟨_, rfl, x, p, rfl, dx, r.1, r.2.1, r.2.2, yes rfl _ H2 (Same.refl _) (.bl true)⟩⟩
    · rw [bls_of_dps hw] at hD
      refine ⟨D, _, rfl, .of hD, true, ?_, iteT ⟨_, rfl, _, ps, rfl, wf, dp_same (fix_ps ps) s2 hd, q.mono s2⟩⟩
      congr 1
      rw [List.all_eq_true]
      intro b hb
      obtain ⟨p, _, rfl⟩ := List.mem_map.mp hb
      rfl
abbrev s_want_pairs : Stmt := topS 13
theorem sc_want_pairs : FnScope ["value"] ["value"] (defScope s_want_pairs) := ⟨rfl, rfl, rfl, by decide +kernel, rfl, by decide +kernel, by decide +kernel⟩
theorem ok_want_pairs (B : Bn mg) {f_want_pairs : Addr} {fd_want_pairs : FuncData} (D_want_pairs : Dd K mg "want_pairs" s_want_pairs f_want_pairs fd_want_pairs ["value"]) {f_are_pairs : Addr} {fd_are_pairs : FuncData} (D_are_pairs : Dd K mg "are_pairs" s_are_pairs f_are_pairs fd_are_pairs ["value"]) (G_are_pairs : FnOk P w K mg base CX0 5 f_are_pairs fd_are_pairs ["value"] (spP K fun _ => .bool true)) : FnOk P w K mg base CX0 6 f_want_pairs fd_want_pairs ["value"] (spP K psD) := by
  refine D_want_pairs.F.ok sc_want_pairs (fun vs H Q E h => ?_) (fun cdv A outer s H vs Q E hr h => ?_)
  · obtain ⟨v, ps, rfl, _⟩ := h
    rfl
  · obtain ⟨v, ps, rfl, wf, hd, q⟩ := h
    refine ⟨_, (pss_cons (ps_if (pt_not (pt_val (pe_call G_are_pairs (hr.mono (by decide)) (by rfl) D_are_pairs.m D_are_pairs.F.kp D_are_pairs.b .nil pass0 (pa_cons (pv 0) pa_nil)))) (pss_one (ps_never)) pss_nil)
      (pss_one (ps_ret (pv 0)))), ?_⟩
    refine ⟨_, rfl, v, ps, rfl, wf, hd, fun u H2 s2 du => ?_⟩
    cases du
    exact ⟨true, rfl, iteF ⟨_, rfl, q v H2 s2 (dp_same (fix_ps ps) s2 hd)⟩⟩
end
end Kd

set_option Elab.async false
set_option linter.all false
set_option maxRecDepth 100000
set_option maxHeartbeats 4000000
namespace Kd
open PySem PySem.Spec PyProof.Rows L2
section
variable {K : PySem.W.Frag} {H : Hp} {Q : VK}
theorem in_pair {b : Addr} {p : Pr} {x : Int} (t : SqT K H b [.int p.1, .int p.2]) (q : Q (.bl (inP x p)) H) : rIn K false (.int x) (.ref b) H Q :=
  ⟨b, _, rfl, .inr t, rfl, rfl, qb (by simp [inV, eqV, inP]) q⟩
theorem notin_pair {b : Addr} {p : Pr} {x : Int} (t : SqT K H b [.int p.1, .int p.2]) (q : Q (.bl (!inP x p)) H) : rIn K true (.int x) (.ref b) H Q :=
  ⟨b, _, rfl, .inr t, rfl, rfl, qb (by simp [inV, eqV, inP]) q⟩
theorem notin_r3 {b : Addr} {p : R3} {x : Int} (t : SqT K H b [.int p.1, .int p.2.1, .int p.2.2]) (q : Q (.bl (!inR x p)) H) : rIn K true (.int x) (.ref b) H Q :=
  ⟨b, _, rfl, .inr t, rfl, rfl, qb (by simp [inV, eqV, inR]) q⟩
theorem flat_ints (r : List Int) : (r.map V.int).all flatV = true := by
  rw [List.all_eq_true]
  intro v hv
  obtain ⟨i, _, rfl⟩ := List.mem_map.mp hv
  rfl
theorem inV_ints (x : Int) (r : List Int) : inV (.int x) (r.map V.int) = r.contains x := by
  rw [Bool.eq_iff_iff, List.contains_iff_mem]
  unfold inV
  rw [List.any_eq_true]
  constructor
  · rintro ⟨v, hv, e⟩
    obtain ⟨i, hi, rfl⟩ := List.mem_map.mp hv
    have e2 : i = x := eq_of_beq (show (i == x) = true from e)
    exact e2 ▸ hi
  · intro h
    exact ⟨.int x, List.mem_map.mpr ⟨x, h, rfl⟩, by simp [eqV]⟩
theorem notin_row {b : Addr} {r : List Int} {x : Int} (t : SqT K H b (r.map V.int)) (q : Q (.bl (!r.contains x)) H) : rIn K true (.int x) (.ref b) H Q :=
  ⟨b, _, rfl, .inr t, rfl, flat_ints r, qb (by rw [if_pos rfl, inV_ints]) q⟩
theorem ix0 {b : Addr} {x : V} {xs : List V} (t : SqT K H b (x :: xs)) (q : Q x H) : rIxT K (.ref b) (.int 0) H Q := ⟨b, _, 0, x, rfl, rfl, t, atI_nat (j := 0) rfl, q⟩
theorem ix1 {b : Addr} {x y : V} {xs : List V} (t : SqT K H b (x :: y :: xs)) (q : Q y H) : rIxT K (.ref b) (.int 1) H Q := ⟨b, _, 1, y, rfl, rfl, t, atI_nat (j := 1) rfl, q⟩
end
def two (p : Pr) : List Int := [p.1, p.2]
theorem two_len (l : List Pr) : (l.flatMap two).length ≤ 2 * l.length := by
  have := flat_len (f := two) (n := 2) (l := l) fun a _ => Nat.le_refl _
  omega
/-- the members, from the places as they stand in the pairs -/
theorem mem_of_two {ps : List Pr} (wf : WF ps) {ns : List Int} (h1 : ns.Pairwise (· < ·)) (h2 : ∀ k : Int, k ∈ ns ↔ decide (k ∈ ps.flatMap two) = true) : ns = mem ps := by
  refine sorted_ext h1 (mem_sorted ps) fun x => ?_
  rw [h2, decide_eq_true_eq, mem_mem wf.rng, List.mem_flatMap]
  unfold two
  constructor
  · rintro ⟨p, hp, h⟩
    exact ⟨p, hp, by simpa using h⟩
  · rintro ⟨p, hp, h⟩
    exact ⟨p, hp, by simpa using h⟩
section
variable {P : Program} {w : World} {K : PySem.W.Frag} {mg : Str → Option Value} {base : Heap}
abbrev s_members_in : Stmt := topS 15
theorem sc_members_in : FnScope ["pairs", "pair", "place"] ["pairs"] (defScope s_members_in) := ⟨rfl, rfl, rfl, by decide +kernel, rfl, by decide +kernel, by decide +kernel⟩
theorem ok_members_in (B : Bn mg) {f_members_in : Addr} {fd_members_in : FuncData} (D_members_in : Dd K mg "members_in" s_members_in f_members_in fd_members_in ["pairs"]) : FnOk P w K mg base CX0 1 f_members_in fd_members_in ["pairs"] (spPL K fun ps => (mem ps).map PyData.int) := by
  refine D_members_in.F.ok sc_members_in (fun vs H Q E h => ?_) (fun cdv A outer s H vs Q E hr h => ?_)
  · obtain ⟨v, ps, rfl, _⟩ := h
    rfl
  · obtain ⟨v, ps, rfl, wf, hd, q⟩ := h
    obtain ⟨a, xs, rfl, ht, hx⟩ := ps_of hd
    refine ⟨_, (pss_one (ps_ret (pe_callB (cSortSet w) (by rfl) B.sorted (by decide +kernel) (pa_cons (pe_callTy (cSet K w) (by rfl) B.set (by decide +kernel) (pa_cons (pe_lc2 (own := [("pair", 1), ("place", 2)]) (vs1 := [2]) (by rfl) sc_members_in.nd (piT K (pv 0)) (blkOk_by (own := [("pair", 1), ("place", 2)]) (N := ["pairs", "pair", "place"]) (sc := defScope s_members_in) (by decide +kernel)) (by decide) (fun _ _ _ _ _ => by exact (pg_name (i := 1) sc_members_in.nd rfl (.inl rfl))) (fun _ _ _ _ _ => by exact pts_nil) (fun _ _ _ _ _ => by exact (piT K (pv 1))) (fun _ _ _ _ _ => by exact (pg_name (i := 2) sc_members_in.nd rfl (.inl rfl))) (fun _ _ _ _ _ => by exact pts_nil) (fun _ _ _ _ _ => by exact (pv 2))) pa_nil)) pa_nil)))), ?_⟩
    have lx : xs.length = ps.length := by rw [dps_len hx, List.length_map]
    have l6 := wf.len
    refine ⟨_, rfl, a, rfl, ⟨_, ht⟩, fun D nD => ?_⟩
    let Pv : Nat → Hp → Prop := fun i H2 => Same H H2 ∧ H2 D = some (.lst (((ps.take i).flatMap two).map V.int))
    refine ⟨fun i m H2 => m = ps.length - i ∧ i ≤ ps.length ∧ Pv i H2, ⟨ps.length, by simp, Nat.zero_le _, same_new nD, upd_same⟩, ?_⟩
    rintro i m H2 ⟨rfl, hi, s2, hD⟩
    by_cases lt : i < ps.length
    · obtain ⟨x, hxi, dx⟩ := enc_at hx (List.getElem?_eq_getElem lt)
      refine .inr ⟨⟨xs, x, seqT_same s2 ht, hxi⟩, Pv (i + 1), fun H3 p3 => ⟨ps.length - (i + 1), by omega, rfl, lt, p3⟩, ?_⟩
      rintro x2 H3 ⟨rfl, hy⟩
      have e2 : x = x2 := Option.some.inj (hxi.symm.trans (hy _ (seqT_same s2 ht)))
      subst e2
      obtain ⟨b, rfl, t1⟩ := p_of dx
      have s3 : Same H H3 := s2
      refine ⟨rfl, tyes ?_⟩
      refine ⟨_, rfl, b, rfl, ⟨_, seqT_same s3 t1⟩, ?_⟩
      refine ⟨fun j k H4 => k = 2 - j ∧ j ≤ 2 ∧ Same H H4 ∧ H4 D = some (.lst (((ps.take i).flatMap two ++ (two ps[i]).take j).map V.int)), ⟨2, rfl, Nat.zero_le _, s3, by rw [List.take_zero, List.append_nil]; exact hD⟩, ?_⟩
      rintro j k H4 ⟨rfl, hj, s4, hD4⟩
      by_cases lt2 : j < 2
      · have gj : (two ps[i])[j]? = some (two ps[i])[j] := List.getElem?_eq_getElem lt2
        have gv : ([.int ps[i].1, .int ps[i].2] : List V)[j]? = some (.int (two ps[i])[j]) := by
          have : ((two ps[i]).map V.int)[j]? = some (.int (two ps[i])[j]) := by rw [List.getElem?_map, gj]; rfl
          exact this
        refine .inr ⟨⟨_, _, seqT_same s4 t1, gv⟩, fun H5 => Same H H5 ∧ H5 D = some (.lst (((ps.take i).flatMap two ++ (two ps[i]).take (j + 1)).map V.int)), fun H5 p5 => ⟨2 - (j + 1), by omega, rfl, lt2, p5⟩, ?_⟩
        rintro y H5 ⟨rfl, hy5⟩
        have ey : y = .int (two ps[i])[j] := Option.some.inj ((hy5 _ (seqT_same s4 t1)).symm.trans gv)
        subst ey
        refine ⟨rfl, tyes ⟨_, rfl, _, hD4, ?_, same_write s4 nD, ?_⟩⟩
        · rw [List.length_map, List.length_append, List.length_take]
          have := two_len (ps.take i)
          rw [List.length_take] at this
          exact small_line (by omega)
        · rw [upd_same, take_one gj]
          simp only [List.map_append, List.append_assoc, List.map_cons, List.map_nil]
      · have ej : j = 2 := by omega
        subst ej
        refine .inl ⟨⟨_, seqT_same s4 t1, Nat.le_refl 2⟩, s4, ?_⟩
        rw [take_one (List.getElem?_eq_getElem lt), List.flatMap_append, List.flatMap_cons, List.flatMap_nil, List.append_nil]
        exact hD4
    · have ei : i = ps.length := by omega
      subst ei
      refine .inl ⟨⟨xs, seqT_same s2 ht, by omega⟩, ?_⟩
      rw [List.take_length] at hD
      have l12 := two_len ps
      refine ⟨D, ps.flatMap two, rfl, .of hD, by omega, fun S c nS hc => ?_⟩
      refine ⟨S, _, c, rfl, upd_same, by omega, fun ns p hs hm hl np => ?_⟩
      have e := mem_of_two wf hs hm
      subst e
      exact q p _ _ (s2.trans ((same_new nS).trans (same_new np))) ((s2.trans (same_new nS)).free np) upd_same (dps_ints _)
abbrev s_hubs_in : Stmt := topS 16
theorem sc_hubs_in : FnScope ["pairs", "members", "at", "one", "other", "pair"] ["pairs"] (defScope s_hubs_in) := ⟨rfl, rfl, rfl, by decide +kernel, rfl, by decide +kernel, by decide +kernel⟩
theorem ok_hubs_in (B : Bn mg) {f_hubs_in : Addr} {fd_hubs_in : FuncData} (D_hubs_in : Dd K mg "hubs_in" s_hubs_in f_hubs_in fd_hubs_in ["pairs"]) {f_members_in : Addr} {fd_members_in : FuncData} (D_members_in : Dd K mg "members_in" s_members_in f_members_in fd_members_in ["pairs"]) (G_members_in : FnOk P w K mg base CX0 1 f_members_in fd_members_in ["pairs"] (spPL K fun ps => (mem ps).map PyData.int)) : FnOk P w K mg base CX0 2 f_hubs_in fd_hubs_in ["pairs"] (spP K fun ps => optD pD (hubs ps)) := by
  refine D_hubs_in.F.ok sc_hubs_in (fun vs H Q E h => ?_) (fun cdv A outer s H vs Q E hr h => ?_)
  · obtain ⟨v, ps, rfl, _⟩ := h
    rfl
  · obtain ⟨v, ps, rfl, wf, hd, q⟩ := h
    obtain ⟨a, xs, rfl, ht, hx⟩ := ps_of hd
    refine ⟨_, (pss_cons (ps_set (i := 1) sc_hubs_in.nd rfl (.inl rfl) (pe_call G_members_in (hr.mono (by decide)) (by rfl) D_members_in.m D_members_in.F.kp D_members_in.b .nil pass0 (pa_cons (pv 0) pa_nil)))
      (pss_cons (ps_for PassesOwn.never rfl (piEnumL K (by rfl) B.enumerate (pa_cons (pv 1) pa_nil)) (pgT K 2 (pgs_cons (pg_name (i := 2) sc_hubs_in.nd rfl (.inl rfl)) (pgs_cons (pg_name (i := 3) sc_hubs_in.nd rfl (.inr rfl)) pgs_nil))) (pss_one (ps_for PassesOwn.never rfl (piL K (pe_slice (slL K) (pv 1) (po_some (pe_op op_add (pv 2) pe_int)) po_none)) (pg_name (i := 4) sc_hubs_in.nd rfl (.inr rfl)) (pss_one (ps_if (pt_val (pe_callB (cAll K) (by rfl) B.all (by decide +kernel) (pa_cons (pe_lc (own := [("pair", 5)]) (by rfl) sc_hubs_in.nd (piT K (pv 0)) (blkOk_by (own := [("pair", 5)]) (N := ["pairs", "members", "at", "one", "other", "pair"]) (sc := defScope s_hubs_in) (by decide +kernel)) (fun _ _ _ _ _ => by exact (pg_name (i := 5) sc_hubs_in.nd rfl (.inl rfl))) (fun _ _ _ _ _ => by exact pts_nil) (fun _ _ _ _ _ => by exact (pe_or (pe_cmpR (opIn K) (pv 3) (pv 5) (by rfl)) (pe_one (pe_cmpR (opIn K) (pv 4) (pv 5) (by rfl)))))) pa_nil))) (pss_one (ps_ret (pe_tup (pa_cons (pv 3) (pa_cons (pv 4) pa_nil))))) pss_nil)))))
      (pss_one (ps_ret pe_non)))), ?_⟩
    have lx : xs.length = ps.length := by rw [dps_len hx, List.length_map]
    have l6 := wf.len
    -- members = members_in(pairs)
    refine ⟨_, rfl, _, ps, rfl, wf, hd, fun b vs H1 s1 nb eb db => ?_⟩
    rw [ints_of_dps db] at eb
    let ms := mem ps
    have mb : ∀ {H2 : Hp}, Same H1 H2 → SqL K H2 b (ms.map V.int) := fun s => s.seq (.of eb)
    -- for at, one in enumerate(members)
    refine ⟨_, rfl, b, _, rfl, .of eb, ?_⟩
    refine for_it (walk_enum (xs := ms.map V.int)) (fun i σ H2 => ∃ v2 v3 v4, σ = [some (.ref a), some (.ref b), v2, v3, v4, none] ∧ Same H1 H2 ∧ hubs ps = (pairsOf (ms.drop i)).find? (covers ps)) ⟨none, none, none, rfl, Same.refl _, rfl⟩ (fun i σ H2 _ ⟨_, _, _, _, s2, _⟩ => mb s2) ?_ ?_
    · rintro i x σ H2 H3 hi ⟨v2, v3, v4, rfl, s2, eh⟩ ⟨T, z1, z2, rfl, nT, rfl, e1, e2⟩
      have hi2 : i < ms.length := by simpa using hi
      have e1' : z1 = .int (i : Nat) := (Option.some.inj e1).symm
      subst e1'
      have e2' : (ms.map V.int)[i]? = some z2 := e2
      rw [List.getElem?_map, List.getElem?_eq_getElem hi2] at e2'
      have e2'' : z2 = .int ms[i] := (Option.some.inj e2').symm
      subst e2''
      have s3 : Same H1 (upd H2 T (.tup [.int (i : Nat), .int ms[i]])) := s2.trans (same_new nT)
      refine ⟨T, _, rfl, .of upd_same, rfl, _, _, rfl, _, _, rfl, rfl, ?_⟩
      -- for other in members[at + 1:]
      refine ⟨_, rfl, _, rfl, _, _, rfl, rfl, _, rfl, b, _, rfl, mb s3, fun c nc => ?_⟩
      have ce : cutV (ms.map V.int) (some ((i : Nat) + 1 : Int)) none = (ms.drop (i + 1)).map V.int := by
        rw [show ((i : Nat) + 1 : Int) = ((i + 1 : Nat) : Int) by omega, cut_from, List.map_drop]
      have s4 := s3.trans (same_new (o := .lst (cutV (ms.map V.int) (some ((i : Nat) + 1 : Int)) none)) nc)
      rw [ce] at s4 ⊢
      refine ⟨c, rfl, ⟨_, .of upd_same⟩, ?_⟩
      rw [drop_one (List.getElem?_eq_getElem hi2)] at eh
      have eh2 : hubs ps = (((ms.drop (i + 1)).map fun y => (ms[i], y)).find? (covers ps)).or ((pairsOf (ms.drop (i + 1))).find? (covers ps)) := by
        rw [eh, ← List.find?_append]
        rfl
      refine for_it (walk_list (a := c) (xs := (ms.drop (i + 1)).map V.int)) (fun j σ H5 => ∃ v4, σ = [some (.ref a), some (.ref b), some (.int (i : Nat)), some (.int ms[i]), v4, none] ∧ Same H1 H5 ∧ H5 c = some (.lst ((ms.drop (i + 1)).map V.int)) ∧
          hubs ps = ((((ms.drop (i + 1)).drop j).map fun y => (ms[i], y)).find? (covers ps)).or ((pairsOf (ms.drop (i + 1))).find? (covers ps))) ⟨v4, rfl, s4, upd_same, eh2⟩ (fun j σ H5 _ ⟨_, _, _, hc, _⟩ => .of hc) ?_ ?_
      · rintro j y σ H5 H6 hj ⟨v4, rfl, s5, hc5, eh5⟩ ⟨rfl, hy⟩
        have hj2 : j < (ms.drop (i + 1)).length := by simpa using hj
        rw [List.getElem?_map, List.getElem?_eq_getElem hj2] at hy
        have ey : y = .int (ms.drop (i + 1))[j] := (Option.some.inj hy).symm
        subst ey
        generalize ho : (ms.drop (i + 1))[j] = o at *
        rw [drop_one (l := ms.drop (i + 1)) (a := o) (by rw [List.getElem?_eq_getElem hj2, ho])] at eh5
        have s5x : Same H H6 := s1.trans s5
        -- all([..])
        refine ⟨_, rfl, a, rfl, ⟨_, seqT_same s5x ht⟩, fun D nD => ?_⟩
        refine lc_data (K := K) (enc := pD) (enc2 := PyData.bool) ps (fun _ => true) (fun p => inP ms[i] p || inP o p) walk_tup nD (dps_same (fixDs_map fix_p ps) s5x hx) fix_p (fun _ => by simp [fixD]) (fun H7 s7 => seqT_same (s5x.trans s7) ht) (by omega) (fun n x p H7 Qt Qf hp s7 dx _ yes => ?_) (fun H7 ws s7 hD hw => ?_)
        · obtain ⟨b2, rfl, t2⟩ := p_of dx
          refine ⟨rfl, tyes ⟨_, rfl, _, rfl, in_pair t2 ⟨_, rfl, ?_⟩⟩⟩
          cases e : inP ms[i] p with
          | true => exact iteT (yes rfl _ H7 (Same.refl _) (by rw [e]; exact .bl true))
          | false => exact iteF ⟨_, rfl, _, rfl, in_pair t2 (yes rfl _ H7 (Same.refl _) (by rw [e]; exact .bl _))⟩
        · rw [bls_of_dps hw] at hD
          have s7x := s5x.trans s7
          have ec : (((ps.filter fun _ => true).map fun p => inP ms[i] p || inP o p).all id) = covers ps (ms[i], o) := by
            rw [List.filter_eq_self.mpr (fun _ _ => rfl), List.all_map]
            rfl
          refine ⟨D, _, rfl, .of hD, _, rfl, ?_⟩
          rw [ec]
          rw [List.map_cons, List.find?_cons] at eh5
          cases e : covers ps (ms[i], o) with
          | true =>
            rw [e] at eh5
            refine iteT ⟨_, rfl, _, rfl, (by show 2 ≤ sizeLine; decide), fun T2 nT2 => ?_⟩
            refine q _ _ (s7x.trans (same_new nT2)) ?_
            show Dp K _ _ (optD pD (hubs ps))
            rw [eh5]
            exact p_mk (p := (ms[i], o)) (.of upd_same)
          | false =>
            rw [e] at eh5
            refine iteF ⟨_, rfl, s5.trans s7, s7 _ _ hc5, ?_⟩
            rw [eh5, List.drop_drop]
      · rintro σ H5 ⟨v4, rfl, s5, hc5, eh5⟩
        refine ⟨_, _, _, rfl, s5, ?_⟩
        rw [List.length_map, List.drop_length, List.map_nil, List.find?_nil, Option.none_or] at eh5
        exact eh5
    · rintro σ H2 ⟨v2, v3, v4, rfl, s2, eh⟩
      refine q _ _ (s1.trans s2) ?_
      show Dp K _ _ (optD pD (hubs ps))
      rw [eh, List.length_map, List.drop_length]
      exact .non
end
end Kd

set_option Elab.async false
set_option linter.all false
set_option maxRecDepth 100000
set_option maxHeartbeats 4000000
namespace Kd
open PySem PySem.Spec PyProof.Rows L2
theorem dps_build {K : PySem.W.Frag} {H : Hp} : ∀ {vs : List V} {ds : List PyData}, vs.length = ds.length → (∀ (i : Nat) v d, vs[i]? = some v → ds[i]? = some d → Dp K H v d) → DpAll K H vs ds
  | [], [], _, _ => .nil
  | [], _ :: _, h, _ => by simp at h
  | _ :: _, [], h, _ => by simp at h
  | v :: vs, d :: ds, h, f => .cons (f 0 v d rfl rfl) (dps_build (by simpa using h) fun i v2 d2 h1 h2 => f (i + 1) v2 d2 (by simpa using h1) (by simpa using h2))
def fourD (ps : List Pr) : PyData := if (mem ps).length ≤ 4 then rowD (mem ps) else .none
theorem fix_four (ps : List Pr) : fixD (fourD ps) = true := by
  unfold fourD
  split
  · exact fix_row _
  · simp [fixD]
section
variable {P : Program} {w : World} {K : PySem.W.Frag} {mg : Str → Option Value} {base : Heap}
abbrev s_four_in : Stmt := topS 21
theorem sc_four_in : FnScope ["pairs", "members"] ["pairs"] (defScope s_four_in) := ⟨rfl, rfl, rfl, by decide +kernel, rfl, by decide +kernel, by decide +kernel⟩
theorem ok_four_in (B : Bn mg) {f_four_in : Addr} {fd_four_in : FuncData} (D_four_in : Dd K mg "four_in" s_four_in f_four_in fd_four_in ["pairs"]) {f_members_in : Addr} {fd_members_in : FuncData} (D_members_in : Dd K mg "members_in" s_members_in f_members_in fd_members_in ["pairs"]) (G_members_in : FnOk P w K mg base CX0 1 f_members_in fd_members_in ["pairs"] (spPL K fun ps => (mem ps).map PyData.int)) : FnOk P w K mg base CX0 2 f_four_in fd_four_in ["pairs"] (spP K fourD) := by
  refine D_four_in.F.ok sc_four_in (fun vs H Q E h => ?_) (fun cdv A outer s H vs Q E hr h => ?_)
  · obtain ⟨v, ps, rfl, _⟩ := h
    rfl
  · obtain ⟨v, ps, rfl, wf, hd, q⟩ := h
    refine ⟨_, (pss_cons (ps_set (i := 1) sc_four_in.nd rfl (.inl rfl) (pe_call G_members_in (hr.mono (by decide)) (by rfl) D_members_in.m D_members_in.F.kp D_members_in.b .nil pass0 (pa_cons (pv 0) pa_nil)))
      (pss_one (ps_ret (pe_ifExp (pt_cmpR op_le (pe_callB (cLen K) (by rfl) B.len (by decide +kernel) (pa_cons (pv 1) pa_nil)) (pe_glob rfl (v := .int 4) B.fourF.choose_spec ⟨_, rfl⟩) (nomark _)) (pe_callTy (cTuple K) (by rfl) B.tuple (by decide +kernel) (pa_cons (pv 1) pa_nil)) pe_non)))), ?_⟩
    refine ⟨_, rfl, _, ps, rfl, wf, hd, fun b vs H1 s1 nb eb db => ?_⟩
    rw [ints_of_dps db] at eb
    refine ⟨_, rfl, b, _, rfl, .inl (.of eb), _, 4, rfl, rfl, _, rfl, ?_⟩
    have el : (((mem ps).map V.int).length : Int) = ((mem ps).length : Nat) := by rw [List.length_map]
    by_cases h4 : (mem ps).length ≤ 4
    · rw [show decide ((((mem ps).map V.int).length : Int) ≤ 4) = true from decide_eq_true (by omega)]
      refine iteT ⟨_, rfl, b, _, rfl, .inl ⟨.of eb, fun l nl => ?_⟩⟩
      refine q _ _ (s1.trans (same_new nl)) ?_
      unfold fourD
      rw [if_pos h4]
      exact row_mk (.of upd_same)
    · rw [show decide ((((mem ps).map V.int).length : Int) ≤ 4) = false from decide_eq_false (by omega)]
      refine iteF (q _ _ s1 ?_)
      unfold fourD
      rw [if_neg h4]
      exact .non
abbrev s_rows_without : Stmt := topS 22
theorem sc_rows_without : FnScope ["row", "members", "place"] ["row", "members"] (defScope s_rows_without) := ⟨rfl, rfl, rfl, by decide +kernel, rfl, by decide +kernel, by decide +kernel⟩
def spRows (K : PySem.W.Frag) : Sp := fun vs H Q _ => ∃ (v : V) (r : List Int) (b : Addr) (ms : List Int), vs = [v, .ref b] ∧ Dp K H v (rowD r) ∧ r.length ≤ 100 ∧ SqL K H b (ms.map V.int) ∧ ms.length ≤ 100 ∧ ResL K H Q ((grow1 ms r).map rowD)
theorem ok_rows_without (B : Bn mg) {f_rows_without : Addr} {fd_rows_without : FuncData} (D_rows_without : Dd K mg "rows_without" s_rows_without f_rows_without fd_rows_without ["row", "members"]) : FnOk P w K mg base CX0 1 f_rows_without fd_rows_without ["row", "members"] (spRows K) := by
  refine D_rows_without.F.ok sc_rows_without (fun vs H Q E h => ?_) (fun cdv A outer s H vs Q E hr h => ?_)
  · obtain ⟨v, r, b, ms, rfl, _⟩ := h
    rfl
  · obtain ⟨v, r, b, ms, rfl, hd, hr1, hb, hm, q⟩ := h
    obtain ⟨a, rfl, ht⟩ := row_of hd
    refine ⟨_, (pss_one (ps_ret (pe_lc (own := [("place", 2)]) (by rfl) sc_rows_without.nd (piL K (pv 1)) (blkOk_by (own := [("place", 2)]) (N := ["row", "members", "place"]) (sc := defScope s_rows_without) (by decide +kernel)) (fun _ _ _ _ _ => by exact (pg_name (i := 2) sc_rows_without.nd rfl (.inl rfl))) (fun _ _ _ _ _ => by exact pts_one (pt_cmpR (opNotIn K) (pv 2) (pv 0) (by rfl))) (fun _ _ _ _ _ => by exact (pe_op (opCat K) (pv 0) (pe_tup (pa_cons (pv 2) pa_nil))))))), ?_⟩
    refine ⟨_, rfl, b, rfl, ⟨_, hb⟩, fun D nD => ?_⟩
    refine lc_data (K := K) (enc := PyData.int) (enc2 := rowD) ms (fun m => !r.contains m) (fun m => r ++ [m]) walk_list nD (dps_ints ms) (fun _ => by simp [fixD]) fix_row (fun H2 s2 => s2.seq hb) (by omega) (fun i x m H2 Qt Qf hm2 s2 dx no yes => ?_) (fun H2 ws s2 hD hw => ?_)
    · cases dx
      refine ⟨rfl, _, rfl, _, rfl, notin_row (seqT_same s2 ht) ⟨_, rfl, ?_⟩⟩
      cases e : (!r.contains m) with
      | false => exact iteF (no e H2 (Same.refl _))
      | true =>
        refine iteT ⟨_, rfl, _, rfl, (by show 1 ≤ sizeLine; decide), fun T nT => ?_⟩
        have s3 := s2.trans (same_new (o := .tup [V.int m]) nT)
        refine ⟨a, T, r.map V.int, [V.int m], rfl, rfl, seqT_same s3 ht, .of upd_same, ?_, fun e0 => ?_, fun _ e0 => (by cases e0), fun _ _ U nU => ?_⟩
        · rw [List.length_map]
          exact Nat.le_of_lt (small_line (by simp only [List.length_cons, List.length_nil]; omega))
        · have er : r = [] := List.map_eq_nil_iff.mp e0
          subst er
          exact yes e _ _ (same_new nT) (row_mk (r := [m]) (.of upd_same))
        · refine yes e _ _ ((same_new nT).trans (same_new nU)) (row_mk (r := r ++ [m]) (.of ?_))
          rw [upd_same, List.map_append]
          rfl
    · exact q D ws H2 s2 nD hD hw
abbrev s_is_ring_for : Stmt := topS 23
theorem sc_is_ring_for : FnScope ["ring", "pairs", "ties", "one", "other"] ["ring", "pairs"] (defScope s_is_ring_for) := ⟨rfl, rfl, rfl, by decide +kernel, rfl, by decide +kernel, by decide +kernel⟩
def spRingFor (K : PySem.W.Frag) : Sp := fun vs H Q _ => ∃ (v u : V) (r : List Int) (ps : List Pr), vs = [v, u] ∧ Dp K H v (rowD r) ∧ r.length = 5 ∧ WF ps ∧ Dp K H u (psD ps) ∧ ResI K H Q (.bool (isRing r ps))
theorem ok_is_ring_for (B : Bn mg) {f_is_ring_for : Addr} {fd_is_ring_for : FuncData} (D_is_ring_for : Dd K mg "is_ring_for" s_is_ring_for f_is_ring_for fd_is_ring_for ["ring", "pairs"]) : FnOk P w K mg base CX0 1 f_is_ring_for fd_is_ring_for ["ring", "pairs"] (spRingFor K) := by
  refine D_is_ring_for.F.ok sc_is_ring_for (fun vs H Q E h => ?_) (fun cdv A outer s H vs Q E hr h => ?_)
  · obtain ⟨v, u, r, ps, rfl, _⟩ := h
    rfl
  · obtain ⟨v, u, r, ps, rfl, hd, h5, wf, hp, q⟩ := h
    obtain ⟨a, rfl, ht⟩ := row_of hd
    obtain ⟨b, xs, rfl, hb, hx⟩ := ps_of hp
    have l6 := wf.len
    have lr : (r.map V.int).length = 5 := by rw [List.length_map, h5]
    refine ⟨_, (pss_cons (ps_set (i := 2) sc_is_ring_for.nd rfl (.inr rfl) (pe_listZip rfl (pa_cons (pv 0) (pa_cons (pe_op (opCat K) (pe_slice (slT K) (pv 0) (po_some pe_int) po_none) (pe_slice (slT K) (pv 0) po_none (po_some pe_int))) pa_nil)) (by rfl) B.list (by rfl) B.zip))
      (pss_one (ps_ret (pe_callB (cAll K) (by rfl) B.all (by decide +kernel) (pa_cons (pe_lc (own := [("one", 3), ("other", 4)]) (by rfl) sc_is_ring_for.nd (piT K (pv 1)) (blkOk_by (own := [("one", 3), ("other", 4)]) (N := ["ring", "pairs", "ties", "one", "other"]) (sc := defScope s_is_ring_for) (by decide +kernel)) (fun _ _ _ _ _ => by exact (pgT K 2 (pgs_cons (pg_name (i := 3) sc_is_ring_for.nd rfl (.inl rfl)) (pgs_cons (pg_name (i := 4) sc_is_ring_for.nd rfl (.inl rfl)) pgs_nil)))) (fun _ _ _ _ _ => by exact pts_nil) (fun _ _ _ _ _ => by exact (pe_or (pe_cmpR (opInD K (by exact hu65 hr)) (pe_tup (pa_cons (pv 3) (pa_cons (pv 4) pa_nil))) (pv 2) (by rfl)) (pe_one (pe_cmpR (opInD K (by exact hu65 hr)) (pe_tup (pa_cons (pv 4) (pa_cons (pv 3) pa_nil))) (pv 2) (by rfl)))))) pa_nil))))), ?_⟩
    -- ring[1:] + ring[:1]
    refine ⟨_, rfl, _, rfl, 1, rfl, a, _, rfl, ht, fun e => absurd e (not_whole_from (by omega)), fun _ c nc => ?_⟩
    rw [show cutV (r.map V.int) (some 1) none = (r.map V.int).drop 1 from cut_from (n := 1)]
    have s1 : Same H (upd H c (.tup ((r.map V.int).drop 1))) := same_new nc
    refine ⟨_, rfl, 1, rfl, a, _, rfl, seqT_same s1 ht, fun e => ?_, fun _ d nd => ?_⟩
    · rw [lr] at e
      have e2 := e.2
      rw [show HT.sIx 5 5 (some 1) = min 1 5 from HT.sIx_nat 5 5 1] at e2
      omega
    rw [show cutV (r.map V.int) none (some 1) = (r.map V.int).take 1 from cut_to (n := 1)]
    have s2 := s1.trans (same_new (o := .tup ((r.map V.int).take 1)) nd)
    have ld : ((r.map V.int).drop 1).length = 4 := by rw [List.length_drop, lr]
    have lt : ((r.map V.int).take 1).length = 1 := by rw [List.length_take, lr]; rfl
    refine ⟨c, d, _, _, rfl, rfl, .of (by rw [upd_ne (ne_of_none upd_same nd), upd_same]), .of upd_same, Nat.le_of_lt (small_line (by omega)), fun e => ?_, fun _ e => ?_, fun _ _ f nf => ?_⟩
    · rw [e] at ld; cases ld
    · rw [e] at lt; cases lt
    have s3 := s2.trans (same_new (o := .tup ((r.map V.int).drop 1 ++ (r.map V.int).take 1)) nf)
    -- list(zip(..))
    refine ⟨a, f, _, _, rfl, seqT_same s3 ht, .of upd_same, by rw [List.length_append, ld, lt, lr], fun H4 z ts s4 nz ez lz pz => ?_⟩
    have s4x := s3.trans s4
    have dt : DpAll K H4 (ts.map V.ref) ((ties r).map pD) := by
      refine dps_build ?_ fun j v2 d2 h1 h2 => ?_
      · rw [List.length_map, List.length_map, lz, lr]
        unfold ties
        rw [List.length_zip, List.length_append, List.length_drop, List.length_take, h5]
        rfl
      · rw [List.getElem?_map] at h1 h2
        obtain ⟨t, ht2, rfl⟩ := Option.map_eq_some_iff.mp h1
        obtain ⟨p, hp2, rfl⟩ := Option.map_eq_some_iff.mp h2
        obtain ⟨x, y, e1, e2, e3⟩ := pz j t ht2
        unfold ties at hp2
        rw [List.getElem?_zip_eq_some] at hp2
        rw [List.getElem?_map, hp2.1] at e1
        rw [← List.map_drop, ← List.map_take, ← List.map_append, List.getElem?_map, hp2.2] at e2
        cases e1
        cases e2
        exact p_mk (.of e3)
    -- all([..])
    refine ⟨_, rfl, b, rfl, ⟨_, seqT_same s4x hb⟩, fun D nD => ?_⟩
    refine lc_data (K := K) (enc := pD) (enc2 := PyData.bool) ps (fun _ => true) (fun p => (ties r).contains p || (ties r).contains (p.2, p.1)) walk_tup nD (dps_same (fixDs_map fix_p ps) s4x hx) fix_p (fun _ => by simp [fixD]) (fun H7 s7 => seqT_same (s4x.trans s7) hb) (by omega) (fun n x p H7 Qt Qf hp2 s7 dx _ yes => ?_) (fun H7 ws s7 hD hw => ?_)
    · obtain ⟨b2, rfl, t2⟩ := p_of dx
      refine ⟨b2, _, rfl, t2, rfl, _, _, rfl, _, _, rfl, rfl, rfl, tyes ?_⟩
      refine ⟨_, rfl, _, rfl, (by show 2 ≤ sizeLine; decide), fun T nT => ?_⟩
      have s8 : Same H7 (upd H7 T (.tup [.int p.1, .int p.2])) := same_new nT
      refine ⟨_, rfl, pD p, (ties r).map pD, p_mk (.of upd_same), .lst (.of (s8 _ _ (s7 _ _ ez))) (dps_same (fixDs_map fix_p _) (s7.trans s8) dt), shape_p _, shape_pl _, _, rfl, ?_⟩
      rw [any_p]
      cases e : (ties r).contains p with
      | true => exact iteT (yes rfl _ _ s8 (by rw [e]; exact .bl true))
      | false =>
        refine iteF ⟨_, rfl, _, rfl, (by show 2 ≤ sizeLine; decide), fun U nU => ?_⟩
        have s9 := s8.trans (same_new (o := .tup [.int p.2, .int p.1]) nU)
        refine ⟨_, rfl, pD (p.2, p.1), (ties r).map pD, p_mk (p := (p.2, p.1)) (.of upd_same), .lst (.of (s9 _ _ (s7 _ _ ez))) (dps_same (fixDs_map fix_p _) (s7.trans s9) dt), shape_p _, shape_pl _, ?_⟩
        rw [any_p]
        exact yes rfl _ _ s9 (by rw [e]; exact .bl _)
    · rw [bls_of_dps hw] at hD
      refine ⟨D, _, rfl, .of hD, ?_⟩
      have ec : (((ps.filter fun _ => true).map fun p => (ties r).contains p || (ties r).contains (p.2, p.1)).all id) = isRing r ps := by
        rw [List.filter_eq_self.mpr (fun _ _ => rfl), List.all_map]
        rfl
      rw [ec]
      exact q.tt (s4x.trans s7)
abbrev s_ring_in : Stmt := topS 24
theorem sc_ring_in : FnScope ["pairs", "members", "rings", "turn", "late", "row", "ring"] ["pairs"] (defScope s_ring_in) := ⟨rfl, rfl, rfl, by decide +kernel, rfl, by decide +kernel, by decide +kernel⟩
theorem ok_ring_in (B : Bn mg) {f_ring_in : Addr} {fd_ring_in : FuncData} (D_ring_in : Dd K mg "ring_in" s_ring_in f_ring_in fd_ring_in ["pairs"]) {f_members_in : Addr} {fd_members_in : FuncData} (D_members_in : Dd K mg "members_in" s_members_in f_members_in fd_members_in ["pairs"]) (G_members_in : FnOk P w K mg base CX0 1 f_members_in fd_members_in ["pairs"] (spPL K fun ps => (mem ps).map PyData.int)) {f_rows_without : Addr} {fd_rows_without : FuncData} (D_rows_without : Dd K mg "rows_without" s_rows_without f_rows_without fd_rows_without ["row", "members"]) (G_rows_without : FnOk P w K mg base CX0 1 f_rows_without fd_rows_without ["row", "members"] (spRows K)) {f_is_ring_for : Addr} {fd_is_ring_for : FuncData} (D_is_ring_for : Dd K mg "is_ring_for" s_is_ring_for f_is_ring_for fd_is_ring_for ["ring", "pairs"]) (G_is_ring_for : FnOk P w K mg base CX0 1 f_is_ring_for fd_is_ring_for ["ring", "pairs"] (spRingFor K)) : FnOk P w K mg base CX0 2 f_ring_in fd_ring_in ["pairs"] (spP K fun ps => optD rowD (ringOf ps)) := by
  refine D_ring_in.F.ok sc_ring_in (fun vs H Q E h => ?_) (fun cdv A outer s H vs Q E hr h => ?_)
  · obtain ⟨v, ps, rfl, _⟩ := h
    rfl
  · obtain ⟨v, ps, rfl, wf, hd, q⟩ := h
    refine ⟨_, (pss_cons (ps_set (i := 1) sc_ring_in.nd rfl (.inl rfl) (pe_call G_members_in (hr.mono (by decide)) (by rfl) D_members_in.m D_members_in.F.kp D_members_in.b .nil pass0 (pa_cons (pv 0) pa_nil)))
      (pss_cons (ps_if (pt_cmpR op_ne (pe_callB (cLen K) (by rfl) B.len (by decide +kernel) (pa_cons (pv 1) pa_nil)) (pe_glob rfl (v := .int 5) B.five.choose_spec ⟨_, rfl⟩) (nomark _)) (pss_one (ps_ret pe_non)) pss_nil)
      (pss_cons (ps_set (i := 2) sc_ring_in.nd rfl (.inl rfl) (pe_lst (pa_cons (pe_tup (pa_cons (pe_ix (ixL K) (pv 1) pe_int (fun _ _ => rfl)) pa_nil)) pa_nil)))
      (pss_cons (ps_for PassesOwn.never rfl (pi_range1 (by rfl) B.range (pa_cons (pe_op op_sub (pe_glob rfl (v := .int 5) B.five.choose_spec ⟨_, rfl⟩) pe_int) pa_nil)) (pg_name (i := 3) sc_ring_in.nd rfl (.inl rfl)) (pss_cons (ps_set (i := 4) sc_ring_in.nd rfl (.inl rfl) (pe_lst pa_nil))
      (pss_cons (ps_for PassesOwn.never rfl (piL K (pv 2)) (pg_name (i := 5) sc_ring_in.nd rfl (.inl rfl)) (pss_one (ps_expr (pe_bm PySem.F.plainAttrs_list PySem.F.slot_list_extend PySem.F.type_list_extend mt_extend (pv 4) (pa_cons (pe_call G_rows_without (hr.mono (by decide)) (by rfl) D_rows_without.m D_rows_without.F.kp D_rows_without.b .nil pass0 (pa_cons (pv 5) (pa_cons (pv 1) pa_nil))) pa_nil)))))
      (pss_one (ps_set (i := 2) sc_ring_in.nd rfl (.inl rfl) (pv 4))))))
      (pss_cons (ps_for PassesOwn.never rfl (piL K (pv 2)) (pg_name (i := 6) sc_ring_in.nd rfl (.inl rfl)) (pss_one (ps_if (PW.pt (pw_and (pt_cmpR op_lt (pe_ix (ixT K) (pv 6) pe_int (fun _ _ => rfl)) (pe_ix (ixT K) (pv 6) (pe_un un_neg pe_int) (fun _ _ => rfl)) (nomark _)) (pw_and1 (pt_val (pe_call G_is_ring_for (hr.mono (by decide)) (by rfl) D_is_ring_for.m D_is_ring_for.F.kp D_is_ring_for.b .nil pass0 (pa_cons (pv 6) (pa_cons (pv 0) pa_nil))))))) (pss_one (ps_ret (pv 6))) pss_nil)))
      (pss_one (ps_ret pe_non))))))), ?_⟩
    refine ⟨_, rfl, _, ps, rfl, wf, hd, fun b vs H1 s1 nb eb db => ?_⟩
    rw [ints_of_dps db] at eb
    have mb : ∀ {H2 : Hp}, Same H1 H2 → SqL K H2 b ((mem ps).map V.int) := fun s => s.seq (.of eb)
    have hd1 := dp_same (fix_ps ps) s1 hd
    -- if len(members) != FIVE
    refine ⟨_, rfl, b, _, rfl, .inl (.of eb), rfl, _, rfl, ?_⟩
    have el : (((mem ps).map V.int).length : Int) = ((mem ps).length : Nat) := by rw [List.length_map]
    by_cases h5 : (mem ps).length = 5
    · rw [show decide (V.int (((mem ps).map V.int).length : Nat) = V.int 5) = true from decide_eq_true (by rw [List.length_map, h5]; rfl)]
      refine iteF ?_
      -- rings = [(members[0],)]
      have hne : mem ps ≠ [] := fun e => by rw [e] at h5; cases h5
      have g0 : ((mem ps).map V.int)[0]? = some (.int ((mem ps).headD 0)) := by
        cases e : mem ps with
        | nil => exact absurd e hne
        | cons x l => rfl
      refine ⟨_, rfl, b, _, 0, _, rfl, rfl, .of eb, atI_nat (j := 0) g0, (by show 1 ≤ sizeLine; decide), fun T nT => ⟨(by show 1 ≤ sizeLine; decide), fun L nL => ?_⟩⟩
      have s2 := (same_new (o := .tup [.int ((mem ps).headD 0)]) nT).trans (same_new (o := .lst [.ref T]) nL)
      have d0 : DpAll K (upd (upd H1 T (.tup [.int ((mem ps).headD 0)])) L (.lst [.ref T])) [.ref T] ((growN (mem ps) 0 [[(mem ps).headD 0]]).map rowD) :=
        .cons (row_mk (r := [(mem ps).headD 0]) (.of (by rw [upd_ne (ne_of_none upd_same nL), upd_same]; rfl))) .nil
      have h8 := mem_len ps
      -- for turn in range(FIVE - 1)
      refine ⟨5, 1, rfl, rfl, 4, rfl, by decide, by decide, ?_⟩
      refine for_it (walk_range (lo := 0) (n := 4)) (fun i σ H2 => ∃ v3 v4 v5 L vs, σ = [some v, some (.ref b), some (.ref L), v3, v4, v5, none] ∧ Same H1 H2 ∧ H1 L = none ∧ H2 L = some (.lst vs) ∧ DpAll K H2 vs ((growN (mem ps) i [[(mem ps).headD 0]]).map rowD))
        ⟨none, none, none, L, [.ref T], rfl, s2, (same_new nT).free nL, upd_same, d0⟩ (fun _ _ _ _ _ => trivial) ?_ ?_
      · rintro i x σ H2 H3 hi ⟨v3, v4, v5, L, vs, rfl, s2, nL, eL, dL⟩ ⟨rfl, rfl⟩
        -- late = []
        refine ⟨Nat.zero_le _, fun D nD => ?_⟩
        have nD1 : H1 D = none := s2.free nD
        have lne : L ≠ D := ne_of_none eL nD
        have s3 := s2.trans (same_new (o := .lst []) nD)
        have lvs : vs.length = (growN (mem ps) i [[(mem ps).headD 0]]).length := by rw [dps_len dL, List.length_map]
        have big := growN_len (ms := mem ps) h8 i [[(mem ps).headD 0]]
        have bigS := growN_len (ms := mem ps) h8 (i + 1) [[(mem ps).headD 0]]
        have rowl := growN_row (ms := mem ps) (rows := [[(mem ps).headD 0]]) (k := 1) (fun r hr => by rw [List.mem_singleton.mp hr]; rfl) i
        have pw : 8 ^ i ≤ 8 ^ 4 := Nat.pow_le_pow_right (by decide) (by omega)
        have pw2 : 8 ^ (i + 1) ≤ 8 ^ 4 := Nat.pow_le_pow_right (by decide) (by omega)
        have p4 : (8 : Nat) ^ 4 = 4096 := by decide
        simp only [List.length_cons, List.length_nil] at big bigS
        -- for row in rings
        refine ⟨_, rfl, L, rfl, ⟨_, .of (by rw [upd_ne lne]; exact eL)⟩, ?_⟩
        refine for_it (walk_list (a := L) (xs := vs)) (fun j σ H5 => ∃ v5 ws, σ = [some v, some (.ref b), some (.ref L), some (.int (0 + (i : Int))), some (.ref D), v5, none] ∧ Same H1 H5 ∧ H5 L = some (.lst vs) ∧ DpAll K H5 vs ((growN (mem ps) i [[(mem ps).headD 0]]).map rowD) ∧
            H5 D = some (.lst ws) ∧ DpAll K H5 ws ((((growN (mem ps) i [[(mem ps).headD 0]]).take j).flatMap (grow1 (mem ps))).map rowD))
          ⟨v5, [], rfl, s3, by rw [upd_ne lne]; exact eL, dps_same (fixDs_map fix_row _) (same_new nD) dL, upd_same, .nil⟩ (fun j σ H5 _ ⟨_, _, _, _, e, _⟩ => .of e) ?_ ?_
        · rintro j y σ H5 H6 hj ⟨v5, ws, rfl, s5, e5, d5, eD, dD⟩ ⟨rfl, hy⟩
          obtain ⟨r, hr2, dr⟩ := enc_get d5 hy
          have rl := rowl r (List.mem_of_getElem? hr2)
          -- late.extend(rows_without(row, members))
          refine ⟨_, rfl, .inl ⟨rfl, _, .of eD⟩, _, rfl, _, rfl, y, r, b, mem ps, rfl, dr, by omega, mb s5, by omega, fun p us H7 s7 np ep dp => ?_⟩
          have lw := dps_len dD
          have lu := dps_len dp
          have gtk : (growN (mem ps) i [[(mem ps).headD 0]]).take (j + 1) = (growN (mem ps) i [[(mem ps).headD 0]]).take j ++ [r] := take_one hr2
          have fl : (((growN (mem ps) i [[(mem ps).headD 0]]).take j).flatMap (grow1 (mem ps))).length ≤ (growN (mem ps) i [[(mem ps).headD 0]]).length * 8 := by
            have h1 := flat_len (f := grow1 (mem ps)) (n := 8) (l := (growN (mem ps) i [[(mem ps).headD 0]]).take j) fun a _ => by
              unfold grow1
              rw [List.length_map]
              exact Nat.le_trans (List.length_filter_le _ _) h8
            have h2 : ((growN (mem ps) i [[(mem ps).headD 0]]).take j).length ≤ (growN (mem ps) i [[(mem ps).headD 0]]).length := by
              rw [List.length_take]
              exact Nat.min_le_right _ _
            exact Nat.le_trans h1 (Nat.mul_le_mul_right 8 h2)
          have ul : us.length ≤ 8 := by
            rw [lu, List.length_map]
            unfold grow1
            rw [List.length_map]
            exact Nat.le_trans (List.length_filter_le _ _) h8
          rw [List.length_map] at lw
          have k8 : Keeps H7 (upd H7 D (.lst (ws ++ us))) := keeps_upd_lst (s7 _ _ eD)
          refine ⟨D, p, ws, us, rfl, rfl, s7 _ _ eD, ep, Nat.le_of_lt (small_line (by omega)), ?_⟩
          refine ⟨_, ws ++ us, rfl, same_write (s5.trans s7) nD1, by rw [upd_ne lne]; exact s7 _ _ e5, dps_keep k8 _ _ (fixDs_map fix_row _) (dps_same (fixDs_map fix_row _) s7 d5), upd_same, ?_⟩
          rw [gtk, List.flatMap_append, List.flatMap_cons, List.flatMap_nil, List.append_nil, List.map_append]
          exact dps_app (dps_keep k8 _ _ (fixDs_map fix_row _) (dps_same (fixDs_map fix_row _) s7 dD)) (dps_keep k8 _ _ (fixDs_map fix_row _) dp)
        · rintro σ H5 ⟨v5, ws, rfl, s5, e5, d5, eD, dD⟩
          -- rings = late
          refine ⟨_, rfl, _, _, _, D, ws, rfl, s5, nD1, eD, ?_⟩
          rw [lvs, List.take_length] at dD
          exact dD
      · rintro σ H2 ⟨v3, v4, v5, L, vs, rfl, s2, nL, eL, dL⟩
        replace dL : DpAll K H2 vs ((rowsOf (mem ps)).map rowD) := dL
        -- for ring in rings
        refine ⟨_, rfl, L, rfl, ⟨_, .of eL⟩, ?_⟩
        have lvs : vs.length = (rowsOf (mem ps)).length := by rw [dps_len dL, List.length_map]
        have er : ringOf ps = (rowsOf (mem ps)).find? fun r => goesOn r && isRing r ps := by
          unfold ringOf
          rw [if_pos h5]
        refine for_it (walk_list (a := L) (xs := vs)) (fun j σ H5 => ∃ v6, σ = [some v, some (.ref b), some (.ref L), v3, v4, v5, v6] ∧ Same H1 H5 ∧ H5 L = some (.lst vs) ∧ DpAll K H5 vs ((rowsOf (mem ps)).map rowD) ∧ ringOf ps = ((rowsOf (mem ps)).drop j).find? fun r => goesOn r && isRing r ps)
          ⟨none, rfl, s2, eL, dL, er⟩ (fun j σ H5 _ ⟨_, _, _, e, _⟩ => .of e) ?_ ?_
        · rintro j y σ H5 H6 hj ⟨v6, rfl, s5, e5, d5, ef⟩ ⟨rfl, hy⟩
          obtain ⟨r, hr2, dr⟩ := enc_get d5 hy
          obtain ⟨c1, c2, c3, c4, rfl, nd, hm⟩ := of_mem_rows (head_mem hne) (List.mem_of_getElem? hr2)
          obtain ⟨a, rfl, ta⟩ := row_of dr
          rw [drop_one hr2, List.find?_cons] at ef
          refine ⟨_, rfl, _, _, 1, _, rfl, rfl, ta, atI_nat (j := 1) rfl, _, rfl, 1, rfl, _, _, -1, .int c4, rfl, rfl, ta, rfl, _, _, rfl, rfl, _, rfl, ?_⟩
          cases e1 : decide (c1 < c4) with
          | true =>
            refine iteT ⟨_, rfl, _, rfl, .ref a, v, _, ps, rfl, dr, rfl, wf, dp_same (fix_ps ps) s5 hd1, fun u H7 s7 du => ?_⟩
            cases du
            have eg : goesOn [(mem ps).headD 0, c1, c2, c3, c4] = true := e1
            rw [eg, Bool.true_and] at ef
            refine ⟨_, rfl, ?_⟩
            cases e2 : isRing [(mem ps).headD 0, c1, c2, c3, c4] ps with
            | true =>
              rw [e2] at ef
              refine iteT ⟨_, rfl, q _ _ ((s1.trans s5).trans s7) ?_⟩
              show Dp K _ _ (optD rowD (ringOf ps))
              rw [ef]
              exact dp_same (fix_row _) s7 dr
            | false =>
              rw [e2] at ef
              exact iteF ⟨_, rfl, s5.trans s7, s7 _ _ e5, dps_same (fixDs_map fix_row _) s7 d5, ef⟩
          | false =>
            have eg : goesOn [(mem ps).headD 0, c1, c2, c3, c4] = false := e1
            rw [eg, Bool.false_and] at ef
            exact iteF (iteF ⟨_, rfl, s5, e5, d5, ef⟩)
        · rintro σ H5 ⟨v6, rfl, s5, e5, d5, ef⟩
          refine q _ _ (s1.trans s5) ?_
          show Dp K _ _ (optD rowD (ringOf ps))
          rw [ef, lvs, List.drop_length]
          exact .non
    · rw [show decide (V.int (((mem ps).map V.int).length : Nat) = V.int 5) = false from decide_eq_false (fun e => by injection e with e; omega)]
      refine iteT (q _ _ s1 ?_)
      show Dp K _ _ (optD rowD (ringOf ps))
      unfold ringOf
      rw [if_neg h5]
      exact .non
end
end Kd

set_option Elab.async false
set_option linter.all false
set_option maxRecDepth 100000
set_option maxHeartbeats 4000000
namespace Kd
open PySem PySem.Spec PyProof.Rows L2
theorem not_whole_ix {n k : Nat} (h : 0 < n) (hk : 0 < k) : ¬ (HT.sIx n 0 (some (k : Int)) = 0 ∧ HT.sIx n n none = n) := fun ⟨e, _⟩ => by
  rw [HT.sIx_nat] at e
  omega
section
variable {P : Program} {w : World} {K : PySem.W.Frag} {mg : Str → Option Value} {base : Heap}
abbrev s_do_lie_apart : Stmt := topS 31
theorem sc_do_lie_apart : FnScope ["pair", "other"] ["pair", "other"] (defScope s_do_lie_apart) := ⟨rfl, rfl, rfl, by decide +kernel, rfl, by decide +kernel, by decide +kernel⟩
def spApart (K : PySem.W.Frag) : Sp := fun vs H Q _ => ∃ (v u : V) (p q : Pr), vs = [v, u] ∧ Dp K H v (pD p) ∧ Dp K H u (pD q) ∧ ResI K H Q (.bool (apartB p q))
theorem ok_do_lie_apart (B : Bn mg) {f_do_lie_apart : Addr} {fd_do_lie_apart : FuncData} (D_do_lie_apart : Dd K mg "do_lie_apart" s_do_lie_apart f_do_lie_apart fd_do_lie_apart ["pair", "other"]) : FnOk P w K mg base CX0 1 f_do_lie_apart fd_do_lie_apart ["pair", "other"] (spApart K) := by
  refine D_do_lie_apart.F.ok sc_do_lie_apart (fun vs H Q E h => ?_) (fun cdv A outer s H vs Q E hr h => ?_)
  · obtain ⟨v, u, p, r, rfl, _⟩ := h
    rfl
  · obtain ⟨v, u, p, r, rfl, hp, hq, q⟩ := h
    obtain ⟨a, rfl, ta⟩ := p_of hp
    obtain ⟨b, rfl, tb⟩ := p_of hq
    refine ⟨_, (pss_one (ps_ret (pe_and (pe_cmpR (opNotIn K) (pe_ix (ixT K) (pv 0) pe_int (fun _ _ => rfl)) (pv 1) (by rfl)) (pe_one (pe_cmpR (opNotIn K) (pe_ix (ixT K) (pv 0) pe_int (fun _ _ => rfl)) (pv 1) (by rfl)))))), ?_⟩
    refine ⟨_, rfl, a, _, 0, _, rfl, rfl, ta, atI_nat (j := 0) rfl, _, rfl, notin_pair tb ⟨_, rfl, ?_⟩⟩
    cases e : (!inP p.1 r) with
    | false =>
      refine iteF (q.now ?_)
      unfold apartB
      rw [e]
      exact .bl _
    | true =>
      refine iteT ⟨_, rfl, a, _, 1, _, rfl, rfl, ta, atI_nat (j := 1) rfl, _, rfl, notin_pair tb (q.now ?_)⟩
      unfold apartB
      rw [e]
      exact .bl _
abbrev s_threes_apart : Stmt := topS 32
theorem sc_threes_apart : FnScope ["pairs", "found", "at", "one", "late", "other", "thirds", "last"] ["pairs"] (defScope s_threes_apart) := ⟨rfl, rfl, rfl, by decide +kernel, rfl, by decide +kernel, by decide +kernel⟩
theorem ok_threes_apart (B : Bn mg) {f_threes_apart : Addr} {fd_threes_apart : FuncData} (D_threes_apart : Dd K mg "threes_apart" s_threes_apart f_threes_apart fd_threes_apart ["pairs"]) {f_do_lie_apart : Addr} {fd_do_lie_apart : FuncData} (D_do_lie_apart : Dd K mg "do_lie_apart" s_do_lie_apart f_do_lie_apart fd_do_lie_apart ["pair", "other"]) (G_do_lie_apart : FnOk P w K mg base CX0 1 f_do_lie_apart fd_do_lie_apart ["pair", "other"] (spApart K)) : FnOk P w K mg base CX0 2 f_threes_apart fd_threes_apart ["pairs"] (spPL K fun ps => (apart3 ps).map t3D) := by
  refine D_threes_apart.F.ok sc_threes_apart (fun vs H Q E h => ?_) (fun cdv A outer s H vs Q E hr h => ?_)
  · obtain ⟨v, ps, rfl, _⟩ := h
    rfl
  · obtain ⟨v, ps, rfl, wf, hd, q⟩ := h
    obtain ⟨a, xs, rfl, ht, hx⟩ := ps_of hd
    have lx : xs.length = ps.length := by rw [dps_len hx, List.length_map]
    have l6 := wf.len
    have l216 := apart3_216 wf
    refine ⟨_, (pss_cons (ps_set (i := 1) sc_threes_apart.nd rfl (.inl rfl) (pe_lst pa_nil))
      (pss_cons (ps_for PassesOwn.never rfl (piEnumT K (by rfl) B.enumerate (pa_cons (pv 0) pa_nil)) (pgT K 2 (pgs_cons (pg_name (i := 2) sc_threes_apart.nd rfl (.inl rfl)) (pgs_cons (pg_name (i := 3) sc_threes_apart.nd rfl (.inr rfl)) pgs_nil))) (pss_one (ps_for PassesOwn.never rfl (pi_range2 (by rfl) B.range (pa_cons (pe_op op_add (pv 2) pe_int) (pa_cons (pe_callB (cLen K) (by rfl) B.len (by decide +kernel) (pa_cons (pv 0) pa_nil)) pa_nil))) (pg_name (i := 4) sc_threes_apart.nd rfl (.inl rfl)) (pss_cons (ps_set (i := 5) sc_threes_apart.nd rfl (.inr rfl) (pe_ix (ixT K) (pv 0) (pv 4) (fun _ _ => rfl)))
      (pss_one (ps_if (pt_val (pe_call G_do_lie_apart (hr.mono (by decide)) (by rfl) D_do_lie_apart.m D_do_lie_apart.F.kp D_do_lie_apart.b .nil pass0 (pa_cons (pv 3) (pa_cons (pv 5) pa_nil)))) (pss_cons (ps_setLc (i := 6) (own := [("last", 7)]) (by rfl) sc_threes_apart.nd rfl rfl (sw_true rfl rfl rfl (by decide +kernel)) (piT K (pe_slice (slT K) (pv 0) (po_some (pe_op op_add (pv 4) pe_int)) po_none)) (blkOk_by (own := [("last", 7)]) (N := ["pairs", "found", "at", "one", "late", "other", "thirds", "last"]) (sc := defScope s_threes_apart) (by decide +kernel)) (fun _ _ _ _ _ => by exact (pg_name (i := 7) sc_threes_apart.nd rfl (.inl rfl))) (fun _ _ _ _ _ => by exact pts_one (PW.pt (pw_and (pt_val (pe_call G_do_lie_apart (hr.mono (by decide)) (by rfl) D_do_lie_apart.m D_do_lie_apart.F.kp D_do_lie_apart.b .nil pass0 (pa_cons (pv 3) (pa_cons (pv 7) pa_nil)))) (pw_and1 (pt_val (pe_call G_do_lie_apart (hr.mono (by decide)) (by rfl) D_do_lie_apart.m D_do_lie_apart.F.kp D_do_lie_apart.b .nil pass0 (pa_cons (pv 5) (pa_cons (pv 7) pa_nil)))))))) (fun _ _ _ _ _ => by exact (pv 7)))
      (pss_one (ps_expr (pe_bm PySem.F.plainAttrs_list PySem.F.slot_list_extend PySem.F.type_list_extend mt_extend (pv 1) (pa_cons (pe_lc (own := [("last", 7)]) (by rfl) sc_threes_apart.nd (piL K (pv 6)) (blkOk_by (own := [("last", 7)]) (N := ["pairs", "found", "at", "one", "late", "other", "thirds", "last"]) (sc := defScope s_threes_apart) (by decide +kernel)) (fun _ _ _ _ _ => by exact (pg_name (i := 7) sc_threes_apart.nd rfl (.inl rfl))) (fun _ _ _ _ _ => by exact pts_nil) (fun _ _ _ _ _ => by exact (pe_tup (pa_cons (pv 3) (pa_cons (pv 5) (pa_cons (pv 7) pa_nil)))))) pa_nil))))) pss_nil))))))
      (pss_one (ps_ret (pv 1))))), ?_⟩
    -- found = []
    refine ⟨Nat.zero_le _, fun o no => ?_⟩
    refine ⟨_, rfl, a, xs, rfl, seqT_same (same_new no) ht, ?_⟩
    refine for_it (walk_enumT (a := a) (xs := xs)) (fun i σ H2 => ∃ v2 v3 v4 v5 v6 vs acc, σ = [some (.ref a), some (.ref o), v2, v3, v4, v5, v6, none] ∧ Same H H2 ∧ H2 o = some (.lst vs) ∧ DpAll K H2 vs (acc.map t3D) ∧ acc ++ apart3 (ps.drop i) = apart3 ps)
      ⟨none, none, none, none, none, [], [], rfl, same_new no, upd_same, .nil, rfl⟩ (fun i σ H2 _ ⟨_, _, _, _, _, _, _, _, s2, _⟩ => seqT_same s2 ht) ?_ ?_
    · rintro i x σ H2 H3 hi ⟨v2, v3, v4, v5, v6, vs, acc, rfl, s2, eo, dv, eacc⟩ ⟨T, z1, z2, rfl, nT, rfl, e1, e2⟩
      have hi2 : i < ps.length := by omega
      have e1' : z1 = .int (i : Nat) := (Option.some.inj e1).symm
      subst e1'
      obtain ⟨p, hp, dp⟩ := enc_get hx e2
      have s3 : Same H (upd H2 T (.tup [.int (i : Nat), z2])) := s2.trans (same_new nT)
      rw [drop_one hp] at eacc
      -- at, one = ..
      refine ⟨T, _, rfl, .of upd_same, rfl, _, _, rfl, _, _, rfl, rfl, ?_⟩
      -- for late in range(at + 1, len(pairs))
      refine ⟨_, rfl, _, _, rfl, rfl, _, rfl, a, xs, rfl, .inr (seqT_same s3 ht), _, _, rfl, ⟨by omega, by omega, by omega, by omega⟩, ?_⟩
      refine for_it walk_range (fun j σ H5 => ∃ v4 v5 v6 vs acc, σ = [some (.ref a), some (.ref o), some (.int (i : Nat)), some z2, v4, v5, v6, none] ∧ Same H H5 ∧ H5 o = some (.lst vs) ∧ DpAll K H5 vs (acc.map t3D) ∧
          acc ++ (apart2 p (ps.drop (i + 1 + j)) ++ apart3 (ps.drop (i + 1))) = apart3 ps)
        ⟨v4, v5, v6, vs, acc, rfl, s3, same_new nT _ _ eo, dps_same (fixDs_map fix_t3 _) (same_new nT) dv, eacc⟩ (fun _ _ _ _ _ => trivial) ?_ ?_
      · rintro j y σ H5 H6 hj ⟨v4, v5, v6, vs, acc, rfl, s5, eo5, dv5, eacc5⟩ ⟨rfl, rfl⟩
        have hj2 : i + 1 + j < ps.length := by omega
        obtain ⟨y, hy, dq⟩ := enc_at hx (List.getElem?_eq_getElem hj2)
        generalize hq : ps[i + 1 + j] = r at dq
        have hr1 : ps[i + 1 + j]? = some r := by rw [List.getElem?_eq_getElem hj2, hq]
        rw [drop_one hr1] at eacc5
        -- other = pairs[late]
        refine ⟨_, rfl, _, rfl, a, xs, _, y, rfl, rfl, seqT_same s5 ht, at_of (j := i + 1 + j) (by omega) hy, ?_⟩
        -- if do_lie_apart(one, other)
        refine ⟨_, rfl, _, rfl, z2, y, p, r, rfl, dp_same (fix_p p) s5 dp, dp_same (fix_p r) s5 dq, fun u H7 s7 du => ?_⟩
        cases du
        refine ⟨_, rfl, ?_⟩
        have s7x := s5.trans s7
        have dv7 := dps_same (fixDs_map fix_t3 _) s7 dv5
        cases e : apartB p r with
        | false =>
          refine iteF ⟨_, _, _, vs, acc, rfl, s7x, s7 _ _ eo5, dv7, ?_⟩
          have e2 : apart2 p (r :: ps.drop (i + 1 + j + 1)) = apart2 p (ps.drop (i + 1 + j + 1)) := by
            show (if apartB p r = true then _ else []) ++ _ = _
            rw [e]
            rfl
          rw [e2] at eacc5
          exact eacc5
        | true =>
          refine iteT ?_
          -- thirds = [..]
          refine ⟨_, rfl, _, rfl, _, _, rfl, rfl, _, rfl, a, xs, rfl, seqT_same s7x ht, fun e0 => ?_, fun _ c nc => ?_⟩
          · rw [show ((i : Nat) + 1 : Int) + (j : Nat) + 1 = ((i + 1 + j + 1 : Nat) : Int) by omega] at e0
            exact absurd e0 (not_whole_ix (by omega) (by omega))
          rw [show cutV xs (some (((i : Nat) + 1 : Int) + (j : Nat) + 1)) none = xs.drop (i + 1 + j + 1) by
            rw [show ((i : Nat) + 1 : Int) + (j : Nat) + 1 = ((i + 1 + j + 1 : Nat) : Int) by omega, cut_from]]
          have s8 := s7x.trans (same_new (o := .tup (xs.drop (i + 1 + j + 1))) nc)
          refine ⟨c, rfl, ⟨_, .of upd_same⟩, fun D nD => ?_⟩
          have dxs : DpAll K (upd H7 c (.tup (xs.drop (i + 1 + j + 1)))) (xs.drop (i + 1 + j + 1)) ((ps.drop (i + 1 + j + 1)).map pD) := by
            rw [List.map_drop]
            exact dps_drop _ (dps_same (fixDs_map fix_p _) s8 hx)
          refine lc_data (K := K) (enc := pD) (enc2 := pD) (ps.drop (i + 1 + j + 1)) (fun l => apartB p l && apartB r l) id (walk_tup (a := c)) nD dxs fix_p fix_p (fun H9 s9 => seqT_same s9 (.of upd_same)) (by rw [List.length_drop]; omega) (fun n x l H9 Qt Qf hl s9 dl no2 yes => ?_) (fun H9 ws s9 hD hw => ?_)
          · refine ⟨rfl, ?_⟩
            have sx := s8.trans s9
            refine ⟨_, rfl, _, rfl, z2, x, p, l, rfl, dp_same (fix_p p) sx dp, dl, fun u H10 s10 du => ?_⟩
            cases du
            refine ⟨_, rfl, ?_⟩
            cases e1 : apartB p l with
            | false => exact iteF (iteF (no2 (by rw [e1]; rfl) H10 s10))
            | true =>
              refine iteT ⟨_, rfl, _, rfl, y, x, r, l, rfl, dp_same (fix_p r) (sx.trans s10) dq, dp_same (fix_p l) s10 dl, fun u H11 s11 du => ?_⟩
              cases du
              refine ⟨_, rfl, ?_⟩
              cases e2 : apartB r l with
              | false => exact iteF (no2 (by rw [e1, e2]; rfl) H11 (s10.trans s11))
              | true => exact iteT ⟨_, rfl, yes (by rw [e1, e2]; rfl) _ H11 (s10.trans s11) (dp_same (fix_p l) (s10.trans s11) dl)⟩
          · rw [List.map_id] at hw
            have s9x := s8.trans s9
            have eo9 : H9 o = some (.lst vs) := s9 _ _ (same_new nc _ _ (s7 _ _ eo5))
            have dv9 := dps_same (fixDs_map fix_t3 _) ((same_new nc).trans s9) dv7
            -- found.extend([..])
            refine ⟨_, rfl, .inl ⟨rfl, _, .of eo9⟩, ?_⟩
            refine ⟨_, rfl, D, rfl, ⟨_, .of hD⟩, fun D2 nD2 => ?_⟩
            have fl := List.length_filter_le (fun l => apartB p l && apartB r l) (ps.drop (i + 1 + j + 1))
            rw [List.length_drop] at fl
            refine lc_data (K := K) (enc := pD) (enc2 := t3D) ((ps.drop (i + 1 + j + 1)).filter fun l => apartB p l && apartB r l) (fun _ => true) (fun l => (p, r, l)) (walk_list (a := D)) nD2 hw fix_p fix_t3 (fun H10 s10 => .of (s10 _ _ hD)) (by omega) (fun n x l H10 Qt Qf hl s10 dl _ yes => ?_) (fun H10 us s10 hD2 hu => ?_)
            · refine ⟨rfl, tyes ⟨_, rfl, _, rfl, _, rfl, (by show 3 ≤ sizeLine; decide), fun T3 nT3 => ?_⟩⟩
              have sx := (s9x.trans s10).trans (same_new (o := .tup [z2, y, x]) nT3)
              exact yes rfl _ _ (same_new nT3) (.tup (.of upd_same) (.cons (dp_same (fix_p p) sx dp) (.cons (dp_same (fix_p r) sx dq) (.cons (dp_same (fix_p l) (same_new nT3) dl) .nil))))
            · rw [List.filter_eq_self.mpr (fun _ _ => rfl)] at hu
              have eo10 := s10 _ _ eo9
              have dv10 := dps_same (fixDs_map fix_t3 _) s10 dv9
              have lv := dps_len dv10
              have lu := dps_len hu
              have eq2 : apart2 p (r :: ps.drop (i + 1 + j + 1)) = (((ps.drop (i + 1 + j + 1)).filter fun l => apartB p l && apartB r l).map fun l => (p, r, l)) ++ apart2 p (ps.drop (i + 1 + j + 1)) := by
                show (if apartB p r = true then _ else []) ++ _ = _
                rw [e]
                rfl
              rw [eq2, List.append_assoc, ← List.append_assoc] at eacc5
              have tot := congrArg List.length eacc5
              rw [List.length_append, List.length_append] at tot
              rw [List.length_map] at lv lu
              refine ⟨o, D2, vs, us, rfl, rfl, eo10, hD2, Nat.le_of_lt (small_line (by omega)), ?_⟩
              have k11 : Keeps H10 (upd H10 o (.lst (vs ++ us))) := keeps_upd_lst eo10
              refine ⟨_, _, _, vs ++ us, acc ++ (((ps.drop (i + 1 + j + 1)).filter fun l => apartB p l && apartB r l).map fun l => (p, r, l)), rfl, same_write (s9x.trans s10) no, upd_same, ?_, eacc5⟩
              rw [List.map_append]
              exact dps_app (dps_keep k11 _ _ (fixDs_map fix_t3 _) dv10) (dps_keep k11 _ _ (fixDs_map fix_t3 _) hu)
      · rintro σ H5 ⟨v4, v5, v6, vs, acc, rfl, s5, eo5, dv5, eacc5⟩
        refine ⟨_, _, _, _, _, vs, acc, rfl, s5, eo5, dv5, ?_⟩
        rw [List.drop_eq_nil_of_le (show ps.length ≤ i + 1 + ((xs.length : Int) - ((i : Nat) + 1 : Int)).toNat by omega)] at eacc5
        exact eacc5
    · rintro σ H2 ⟨v2, v3, v4, v5, v6, vs, acc, rfl, s2, eo, dv, eacc⟩
      rw [lx, List.drop_length, show apart3 [] = [] from rfl, List.append_nil] at eacc
      subst eacc
      exact ⟨_, rfl, q o vs H2 s2 no eo dv⟩
end
end Kd

set_option Elab.async false
set_option linter.all false
set_option maxRecDepth 100000
set_option maxHeartbeats 4000000
namespace Kd
open PySem PySem.Spec PyProof.Rows L2
section
variable {K : PySem.W.Frag} {H : Hp} {Q : VK}
/-- sorted of a list of data, what comes out told -/
theorem sort_done {α : Type} {enc : α → PyData} {a : Addr} {vs : List V} (bs ds : List α) (hl : SqL K H a vs) (hd : DpAll K H vs (bs.map enc)) (al : ∀ x y, PySem.W.alike (enc x) (enc y) = true) (tp : ∀ x, ∃ y r, enc x = .tuple (y :: r)) (dp : ∀ x, (enc x).depth ≤ 64)
    (fx : ∀ x, fixD (enc x) = true) (e : bs.mergeSort (PySem.W.dataLe false enc) = ds) (q : ∀ p ws H2, Same H H2 → H p = none → H2 p = some (.lst ws) → DpAll K H2 ws (ds.map enc) → Q (.ref p) H2) : rSortD K enc [.ref a] H Q := by
  refine ⟨a, vs, bs, rfl, hl, hd, .of al, .tuples tp, fun b _ => dp b, fun p ws np hw => ?_⟩
  rw [e] at hw
  exact q p ws _ (same_new np) np upd_same (dps_same (fixDs_map fx _) (same_new np) hw)
theorem tup_r3 (x : R3) : ∃ y r, r3D x = .tuple (y :: r) := ⟨_, _, rfl⟩
theorem tup_p (x : Pr) : ∃ y r, pD x = .tuple (y :: r) := ⟨_, _, rfl⟩
theorem tup_t3 (x : Pr × Pr × Pr) : ∃ y r, t3D x = .tuple (y :: r) := ⟨_, _, rfl⟩
theorem tup_bs (x : R3 × Pr) : ∃ y r, bsD x = .tuple (y :: r) := ⟨_, _, rfl⟩
end
section
variable {P : Program} {w : World} {K : PySem.W.Frag} {mg : Str → Option Value} {base : Heap}
def lastT (ps : List Pr) (p : Pr) (l : Int) : Bool := decide (p.2 < l) && (ps.contains (p.1, l) && ps.contains (p.2, l))
abbrev s_threes_in_ring : Stmt := topS 33
theorem sc_threes_in_ring : FnScope ["pairs", "found", "one", "other", "last"] ["pairs"] (defScope s_threes_in_ring) := ⟨rfl, rfl, rfl, by decide +kernel, rfl, by decide +kernel, by decide +kernel⟩
theorem ok_threes_in_ring (B : Bn mg) {f_threes_in_ring : Addr} {fd_threes_in_ring : FuncData} (D_threes_in_ring : Dd K mg "threes_in_ring" s_threes_in_ring f_threes_in_ring fd_threes_in_ring ["pairs"]) {f_members_in : Addr} {fd_members_in : FuncData} (D_members_in : Dd K mg "members_in" s_members_in f_members_in fd_members_in ["pairs"]) (G_members_in : FnOk P w K mg base CX0 1 f_members_in fd_members_in ["pairs"] (spPL K fun ps => (mem ps).map PyData.int)) : FnOk P w K mg base CX0 2 f_threes_in_ring fd_threes_in_ring ["pairs"] (spPL K fun ps => (ring3 ps).map r3D) := by
  refine D_threes_in_ring.F.ok sc_threes_in_ring (fun vs H Q E h => ?_) (fun cdv A outer s H vs Q E hr h => ?_)
  · obtain ⟨v, ps, rfl, _⟩ := h
    rfl
  · obtain ⟨v, ps, rfl, wf, hd, q⟩ := h
    obtain ⟨a, xs, rfl, ht, hx⟩ := ps_of hd
    have lx : xs.length = ps.length := by rw [dps_len hx, List.length_map]
    have l6 := wf.len
    have l48 := ring3_48 wf
    refine ⟨_, (pss_cons (ps_set (i := 1) sc_threes_in_ring.nd rfl (.inl rfl) (pe_lst pa_nil))
      (pss_cons (ps_for PassesOwn.never rfl (piT K (pv 0)) (pgT K 2 (pgs_cons (pg_name (i := 2) sc_threes_in_ring.nd rfl (.inl rfl)) (pgs_cons (pg_name (i := 3) sc_threes_in_ring.nd rfl (.inl rfl)) pgs_nil))) (pss_one (ps_for PassesOwn.never rfl (piL K (pe_call G_members_in (hr.mono (by decide)) (by rfl) D_members_in.m D_members_in.F.kp D_members_in.b .nil pass0 (pa_cons (pv 0) pa_nil))) (pg_name (i := 4) sc_threes_in_ring.nd rfl (.inl rfl)) (pss_one (ps_if (PW.pt (pw_and (pt_cmpR op_gt (pv 4) (pv 3) (nomark _)) (pw_and (pt_cmpR (opInT K (by exact hu65 hr)) (pe_tup (pa_cons (pv 2) (pa_cons (pv 4) pa_nil))) (pv 0) (by rfl)) (pw_and1 (pt_cmpR (opInT K (by exact hu65 hr)) (pe_tup (pa_cons (pv 3) (pa_cons (pv 4) pa_nil))) (pv 0) (by rfl)))))) (pss_one (ps_expr (pe_bm PySem.F.plainAttrs_list PySem.F.slot_list_append PySem.F.type_list_append mt_append (pv 1) (pa_cons (pe_tup (pa_cons (pv 2) (pa_cons (pv 3) (pa_cons (pv 4) pa_nil)))) pa_nil)))) pss_nil)))))
      (pss_one (ps_ret (pe_callB (cSortD K r3D (by exact hu70 hr)) (by rfl) B.sorted (by decide +kernel) (pa_cons (pv 1) pa_nil)))))), ?_⟩
    refine ⟨Nat.zero_le _, fun o no => ?_⟩
    refine ⟨_, rfl, a, rfl, ⟨_, seqT_same (same_new no) ht⟩, ?_⟩
    refine for_it walk_tup (fun i σ H2 => ∃ v2 v3 v4 vs acc, σ = [some (.ref a), some (.ref o), v2, v3, v4] ∧ Same H H2 ∧ H2 o = some (.lst vs) ∧ DpAll K H2 vs (acc.map r3D) ∧ acc ++ (ps.drop i).flatMap (fun p => ((mem ps).filter (lastT ps p)).map (threeOf p)) = ring3 ps)
      ⟨none, none, none, [], [], rfl, same_new no, upd_same, .nil, rfl⟩ (fun i σ H2 _ ⟨_, _, _, _, _, _, s2, _⟩ => seqT_same s2 ht) ?_ ?_
    · rintro i x σ H2 H3 hi ⟨v2, v3, v4, vs, acc, rfl, s2, eo, dv, eacc⟩ ⟨rfl, hxi⟩
      obtain ⟨p, hp, dp⟩ := enc_get (dps_same (fixDs_map fix_p ps) s2 hx) hxi
      obtain ⟨b, rfl, tb⟩ := p_of dp
      rw [drop_one hp, List.flatMap_cons] at eacc
      refine ⟨b, _, rfl, tb, rfl, _, _, rfl, _, _, rfl, rfl, ?_⟩
      -- for last in members_in(pairs)
      refine ⟨_, rfl, _, ps, rfl, wf, dp_same (fix_ps ps) s2 hd, fun m us H4 s4 nm em dm => ?_⟩
      rw [ints_of_dps dm] at em
      refine ⟨m, rfl, ⟨_, .of em⟩, ?_⟩
      refine for_it (walk_list (a := m) (xs := (mem ps).map V.int)) (fun j σ H5 => ∃ v4 vs acc, σ = [some (.ref a), some (.ref o), some (.int p.1), some (.int p.2), v4] ∧ Same H H5 ∧ H5 m = some (.lst ((mem ps).map V.int)) ∧ H5 o = some (.lst vs) ∧ DpAll K H5 vs (acc.map r3D) ∧
          acc ++ ((((mem ps).drop j).filter (lastT ps p)).map (threeOf p) ++ (ps.drop (i + 1)).flatMap (fun p => ((mem ps).filter (lastT ps p)).map (threeOf p))) = ring3 ps ∧ o ≠ m)
        ⟨v4, vs, acc, rfl, s2.trans s4, em, s4 _ _ eo, dps_same (fixDs_map fix_r3 _) s4 dv, eacc, ne_of_none eo nm⟩ (fun j σ H5 _ ⟨_, _, _, _, _, e, _⟩ => .of e) ?_ ?_
      · rintro j y σ H5 H6 hj ⟨v4, vs, acc, rfl, s5, em5, eo5, dv5, eacc5, om⟩ ⟨rfl, hy⟩
        have hj2 : j < (mem ps).length := by simpa using hj
        rw [List.getElem?_map, List.getElem?_eq_getElem hj2] at hy
        have ey : y = .int (mem ps)[j] := (Option.some.inj hy).symm
        subst ey
        generalize hl : (mem ps)[j] = l at *
        rw [drop_one (l := mem ps) (a := l) (by rw [List.getElem?_eq_getElem hj2, hl])] at eacc5
        have skip : lastT ps p l = false → acc ++ ((((mem ps).drop (j + 1)).filter (lastT ps p)).map (threeOf p) ++ (ps.drop (i + 1)).flatMap (fun p => ((mem ps).filter (lastT ps p)).map (threeOf p))) = ring3 ps := fun e => by
          rw [List.filter_cons_of_neg (by rw [e]; exact Bool.false_ne_true)] at eacc5
          exact eacc5
        have fp := fixDs_map (fun r => fix_r3 r) acc
        -- last > other
        refine ⟨_, rfl, _, rfl, _, _, rfl, rfl, _, rfl, ?_⟩
        cases e1 : decide (l > p.2) with
        | false => exact iteF (iteF ⟨_, vs, acc, rfl, s5, em5, eo5, dv5, skip (by unfold lastT; rw [show decide (p.2 < l) = false from e1]; rfl), om⟩)
        | true =>
          refine iteT ⟨_, rfl, _, rfl, (by show 2 ≤ sizeLine; decide), fun T nT => ?_⟩
          have s6 : Same H6 (upd H6 T (.tup [.int p.1, .int l])) := same_new nT
          refine ⟨_, rfl, pD (p.1, l), ps.map pD, p_mk (p := (p.1, l)) (.of upd_same), dp_same (fix_ps ps) (s5.trans s6) hd, shape_p _, shape_ps _, _, rfl, ?_⟩
          rw [any_p]
          cases e2 : ps.contains (p.1, l) with
          | false => exact iteF (iteF ⟨_, vs, acc, rfl, s5.trans s6, s6 _ _ em5, s6 _ _ eo5, dps_same fp s6 dv5, skip (by unfold lastT; rw [e2, Bool.false_and, Bool.and_false]), om⟩)
          | true =>
            refine iteT ⟨_, rfl, _, rfl, (by show 2 ≤ sizeLine; decide), fun U nU => ?_⟩
            have s7 := s6.trans (same_new (o := .tup [.int p.2, .int l]) nU)
            refine ⟨_, rfl, pD (p.2, l), ps.map pD, p_mk (p := (p.2, l)) (.of upd_same), dp_same (fix_ps ps) (s5.trans s7) hd, shape_p _, shape_ps _, _, rfl, ?_⟩
            rw [any_p]
            cases e3 : ps.contains (p.2, l) with
            | false => exact iteF ⟨_, vs, acc, rfl, s5.trans s7, s7 _ _ em5, s7 _ _ eo5, dps_same fp s7 dv5, skip (by unfold lastT; rw [e3, Bool.and_false, Bool.and_false]), om⟩
            | true =>
              have et : lastT ps p l = true := by
                unfold lastT
                rw [show decide (p.2 < l) = true from e1, e2, e3]
                rfl
              rw [List.filter_cons_of_pos et, List.map_cons, List.cons_append] at eacc5
              -- found.append((one, other, last))
              refine iteT ⟨_, rfl, .inl ⟨rfl, _, .of (s7 _ _ eo5)⟩, _, rfl, _, rfl, _, rfl, (by show 3 ≤ sizeLine; decide), fun T3 nT3 => ?_⟩
              have s8 := s7.trans (same_new (o := .tup [.int p.1, .int p.2, .int l]) nT3)
              have eo8 := s8 _ _ eo5
              have k8 : Keeps _ (upd _ o (.lst (vs ++ [.ref T3]))) := keeps_upd_lst eo8
              have dv8 := dps_same fp s8 dv5
              have lv := dps_len dv8
              rw [List.length_map] at lv
              have tot := congrArg List.length eacc5
              rw [List.length_append] at tot
              refine ⟨o, vs, _, rfl, rfl, eo8, small_line (by omega), ?_⟩
              refine ⟨_, vs ++ [.ref T3], acc ++ [threeOf p l], rfl, same_write (s5.trans s8) no, by rw [upd_ne (Ne.symm om)]; exact s8 _ _ em5, upd_same, ?_, ?_, om⟩
              · rw [List.map_append]
                exact dps_app (dps_keep k8 _ _ fp dv8) (dps_one (dp_keep k8 _ _ (fix_r3 _) (r3_mk (p := threeOf p l) (.of upd_same))))
              · rw [List.append_assoc]
                exact eacc5
      · rintro σ H5 ⟨v4, vs, acc, rfl, s5, em5, eo5, dv5, eacc5, om⟩
        rw [List.length_map, List.drop_length, List.filter_nil, List.map_nil, List.nil_append] at eacc5
        exact ⟨_, _, _, vs, acc, rfl, s5, eo5, dv5, eacc5⟩
    · rintro σ H2 ⟨v2, v3, v4, vs, acc, rfl, s2, eo, dv, eacc⟩
      rw [lx, List.drop_length, List.flatMap_nil, List.append_nil] at eacc
      subst eacc
      refine ⟨_, rfl, sort_done (ring3 ps) (ring3 ps) (.of eo) dv alike_r3 tup_r3 (fun x => by rw [depth_r3]; decide) fix_r3 (ring3_sorted wf) fun p ws H3 s3 np ep dw => ?_⟩
      exact q p ws H3 (s2.trans s3) (s2.free np) ep dw
abbrev s_rings_beside : Stmt := topS 34
theorem sc_rings_beside : FnScope ["pairs", "found", "ring", "pair"] ["pairs"] (defScope s_rings_beside) := ⟨rfl, rfl, rfl, by decide +kernel, rfl, by decide +kernel, by decide +kernel⟩
theorem ok_rings_beside (B : Bn mg) {f_rings_beside : Addr} {fd_rings_beside : FuncData} (D_rings_beside : Dd K mg "rings_beside" s_rings_beside f_rings_beside fd_rings_beside ["pairs"]) {f_threes_in_ring : Addr} {fd_threes_in_ring : FuncData} (D_threes_in_ring : Dd K mg "threes_in_ring" s_threes_in_ring f_threes_in_ring fd_threes_in_ring ["pairs"]) (G_threes_in_ring : FnOk P w K mg base CX0 2 f_threes_in_ring fd_threes_in_ring ["pairs"] (spPL K fun ps => (ring3 ps).map r3D)) : FnOk P w K mg base CX0 3 f_rings_beside fd_rings_beside ["pairs"] (spPL K fun ps => (beside ps).map bsD) := by
  refine D_rings_beside.F.ok sc_rings_beside (fun vs H Q E h => ?_) (fun cdv A outer s H vs Q E hr h => ?_)
  · obtain ⟨v, ps, rfl, _⟩ := h
    rfl
  · obtain ⟨v, ps, rfl, wf, hd, q⟩ := h
    obtain ⟨a, xs, rfl, ht, hx⟩ := ps_of hd
    have lx : xs.length = ps.length := by rw [dps_len hx, List.length_map]
    have l6 := wf.len
    have l288 := beside_288 wf
    refine ⟨_, (pss_cons (ps_set (i := 1) sc_rings_beside.nd rfl (.inl rfl) (pe_lst pa_nil))
      (pss_cons (ps_for PassesOwn.never rfl (piL K (pe_call G_threes_in_ring (hr.mono (by decide)) (by rfl) D_threes_in_ring.m D_threes_in_ring.F.kp D_threes_in_ring.b .nil pass0 (pa_cons (pv 0) pa_nil))) (pg_name (i := 2) sc_rings_beside.nd rfl (.inr rfl)) (pss_one (ps_expr (pe_bm PySem.F.plainAttrs_list PySem.F.slot_list_extend PySem.F.type_list_extend mt_extend (pv 1) (pa_cons (pe_lc (own := [("pair", 3)]) (by rfl) sc_rings_beside.nd (piT K (pv 0)) (blkOk_by (own := [("pair", 3)]) (N := ["pairs", "found", "ring", "pair"]) (sc := defScope s_rings_beside) (by decide +kernel)) (fun _ _ _ _ _ => by exact (pg_name (i := 3) sc_rings_beside.nd rfl (.inl rfl))) (fun _ _ _ _ _ => by exact pts_one (PW.pt (pw_and (pt_cmpR (opNotIn K) (pe_ix (ixT K) (pv 3) pe_int (fun _ _ => rfl)) (pv 2) (by rfl)) (pw_and1 (pt_cmpR (opNotIn K) (pe_ix (ixT K) (pv 3) pe_int (fun _ _ => rfl)) (pv 2) (by rfl)))))) (fun _ _ _ _ _ => by exact (pe_tup (pa_cons (pv 2) (pa_cons (pv 3) pa_nil))))) pa_nil)))))
      (pss_one (ps_ret (pv 1))))), ?_⟩
    refine ⟨Nat.zero_le _, fun o no => ?_⟩
    refine ⟨_, rfl, _, ps, rfl, wf, dp_same (fix_ps ps) (same_new no) hd, fun m rs H4 s4 nm em dm => ?_⟩
    have s4x : Same H H4 := (same_new no).trans s4
    have lr : rs.length = (ring3 ps).length := by rw [dps_len dm, List.length_map]
    have om : o ≠ m := ne_of_none (upd_same (H := H) (o := .lst [])) nm
    refine ⟨m, rfl, ⟨_, .of em⟩, ?_⟩
    refine for_it (walk_list (a := m) (xs := rs)) (fun i σ H2 => ∃ v2 v3 vs acc, σ = [some (.ref a), some (.ref o), v2, v3] ∧ Same H H2 ∧ H2 m = some (.lst rs) ∧ DpAll K H2 rs ((ring3 ps).map r3D) ∧ H2 o = some (.lst vs) ∧ DpAll K H2 vs (acc.map bsD) ∧
        acc ++ ((ring3 ps).drop i).flatMap (fun r => (ps.filter fun p => !inR p.1 r && !inR p.2 r).map fun p => (r, p)) = beside ps)
      ⟨none, none, [], [], rfl, s4x, em, dm, s4 _ _ upd_same, .nil, rfl⟩ (fun i σ H2 _ ⟨_, _, _, _, _, _, e, _⟩ => .of e) ?_ ?_
    · rintro i x σ H2 H3 hi ⟨v2, v3, vs, acc, rfl, s2, em2, dm2, eo, dv, eacc⟩ ⟨rfl, hxi⟩
      obtain ⟨r, hr2, dr⟩ := enc_get dm2 hxi
      obtain ⟨b, rfl, tb⟩ := r3_of dr
      rw [drop_one hr2, List.flatMap_cons] at eacc
      refine ⟨_, rfl, .inl ⟨rfl, _, .of eo⟩, ?_⟩
      refine ⟨_, rfl, a, rfl, ⟨_, seqT_same s2 ht⟩, fun D nD => ?_⟩
      refine lc_data (K := K) (enc := pD) (enc2 := bsD) ps (fun p => !inR p.1 r && !inR p.2 r) (fun p => (r, p)) walk_tup nD (dps_same (fixDs_map fix_p ps) s2 hx) fix_p fix_bs (fun H7 s7 => seqT_same (s2.trans s7) ht) (by omega) (fun n x p H7 Qt Qf hp2 s7 dx no2 yes => ?_) (fun H7 ws s7 hD hw => ?_)
      · obtain ⟨c, rfl, tc⟩ := p_of dx
        refine ⟨rfl, ?_⟩
        refine ⟨_, rfl, c, _, 0, _, rfl, rfl, tc, atI_nat (j := 0) rfl, _, rfl, notin_r3 (seqT_same s7 tb) ⟨_, rfl, ?_⟩⟩
        cases e1 : (!inR p.1 r) with
        | false => exact iteF (iteF (no2 (by rw [e1]; rfl) _ (Same.refl _)))
        | true =>
          refine iteT ⟨_, rfl, c, _, 1, _, rfl, rfl, tc, atI_nat (j := 1) rfl, _, rfl, notin_r3 (seqT_same s7 tb) ⟨_, rfl, ?_⟩⟩
          cases e2 : (!inR p.2 r) with
          | false => exact iteF (no2 (by rw [e1, e2]; rfl) _ (Same.refl _))
          | true =>
            refine iteT ⟨_, rfl, _, rfl, (by show 2 ≤ sizeLine; decide), fun T nT => ?_⟩
            exact yes (by rw [e1, e2]; rfl) _ _ (same_new nT) (.tup (.of upd_same) (.cons (dp_same (fix_r3 _) (s7.trans (same_new nT)) dr) (.cons (dp_same (fix_p _) (same_new nT) dx) .nil)))
      · have s7x := s2.trans s7
        have eo7 := s7 _ _ eo
        have dv7 := dps_same (fixDs_map fix_bs _) s7 dv
        have lv := dps_len dv7
        have lw := dps_len hw
        rw [← List.append_assoc] at eacc
        have tot := congrArg List.length eacc
        rw [List.length_append, List.length_append] at tot
        rw [List.length_map] at lv lw
        have om2 : m ≠ o := Ne.symm om
        refine ⟨o, D, vs, ws, rfl, rfl, eo7, hD, Nat.le_of_lt (small_line (by omega)), ?_⟩
        have k8 : Keeps H7 (upd H7 o (.lst (vs ++ ws))) := keeps_upd_lst eo7
        refine ⟨_, _, vs ++ ws, acc ++ ((ps.filter fun p => !inR p.1 r && !inR p.2 r).map fun p => (r, p)), rfl, same_write s7x no, by rw [upd_ne om2]; exact s7 _ _ em2, dps_keep k8 _ _ (fixDs_map fix_r3 _) (dps_same (fixDs_map fix_r3 _) s7 dm2), upd_same, ?_, eacc⟩
        rw [List.map_append]
        exact dps_app (dps_keep k8 _ _ (fixDs_map fix_bs _) dv7) (dps_keep k8 _ _ (fixDs_map fix_bs _) hw)
    · rintro σ H2 ⟨v2, v3, vs, acc, rfl, s2, em2, dm2, eo, dv, eacc⟩
      rw [lr, List.drop_length, List.flatMap_nil, List.append_nil] at eacc
      subst eacc
      exact ⟨_, rfl, q o vs H2 s2 no eo dv⟩
end
end Kd

set_option Elab.async false
set_option linter.all false
set_option maxRecDepth 100000
set_option maxHeartbeats 4000000
namespace Kd
open PySem PySem.Spec PyProof.Rows L2
def kindD (ps : List Pr) : PyData :=
  match hubs ps with
  | some h => .tuple [.str "hubs", pD h]
  | none => if (mem ps).length ≤ 4 then .tuple [.str "four", rowD (mem ps)] else
    match ringOf ps with
    | some r => .tuple [.str "ring", rowD r]
    | none =>
      match apart3 ps with
      | t :: _ => .tuple [.str "apart", t3D t]
      | [] =>
        match beside ps with
        | b :: _ => .tuple [.str "beside", r3D b.1, pD b.2]
        | [] => .none
theorem fix_kind (ps : List Pr) : fixD (kindD ps) = true := by
  unfold kindD
  cases hubs ps with
  | some h => simp [fixD, fixDs, fix_p]
  | none =>
    simp only
    split
    · simp [fixD, fixDs, fix_row]
    · cases ringOf ps with
      | some r => simp [fixD, fixDs, fix_row]
      | none =>
        simp only
        cases apart3 ps with
        | cons t l => simp [fixD, fixDs, fix_t3]
        | nil =>
          simp only
          cases beside ps with
          | cons b l => simp [fixD, fixDs, fix_r3, fix_p]
          | nil => simp [fixD]
theorem tup_row (r : List Int) : ∃ l, rowD r = .tuple l := ⟨_, rfl⟩
theorem non_opt {K : PySem.W.Frag} {H : Hp} {α : Type} {f : α → PyData} {v : V} {o : Option α} (tp : ∀ a, ∃ l, f a = .tuple l) (h : Dp K H v (optD f o)) {i : Decidable (v = V.non)} : @decide (v = V.non) i = o.isNone := by
  cases o with
  | none =>
    have h2 : Dp K H v .none := h
    cases h2
    exact decide_eq_true rfl
  | some a =>
    obtain ⟨l, e⟩ := tp a
    have h2 : Dp K H v (.tuple l) := e ▸ (show Dp K H v (f a) from h)
    cases h2
    exact decide_eq_false (fun e => by cases e)
theorem tupl_p (x : Pr) : ∃ l, pD x = .tuple l := ⟨_, rfl⟩
section
variable {P : Program} {w : World} {K : PySem.W.Frag} {mg : Str → Option Value} {base : Heap}
abbrev s_is_good_in : Stmt := topS 25
theorem sc_is_good_in : FnScope ["pairs"] ["pairs"] (defScope s_is_good_in) := ⟨rfl, rfl, rfl, by decide +kernel, rfl, by decide +kernel, by decide +kernel⟩
theorem ok_is_good_in (B : Bn mg) {f_is_good_in : Addr} {fd_is_good_in : FuncData} (D_is_good_in : Dd K mg "is_good_in" s_is_good_in f_is_good_in fd_is_good_in ["pairs"]) {f_hubs_in : Addr} {fd_hubs_in : FuncData} (D_hubs_in : Dd K mg "hubs_in" s_hubs_in f_hubs_in fd_hubs_in ["pairs"]) (G_hubs_in : FnOk P w K mg base CX0 2 f_hubs_in fd_hubs_in ["pairs"] (spP K fun ps => optD pD (hubs ps))) {f_four_in : Addr} {fd_four_in : FuncData} (D_four_in : Dd K mg "four_in" s_four_in f_four_in fd_four_in ["pairs"]) (G_four_in : FnOk P w K mg base CX0 2 f_four_in fd_four_in ["pairs"] (spP K fourD)) {f_ring_in : Addr} {fd_ring_in : FuncData} (D_ring_in : Dd K mg "ring_in" s_ring_in f_ring_in fd_ring_in ["pairs"]) (G_ring_in : FnOk P w K mg base CX0 2 f_ring_in fd_ring_in ["pairs"] (spP K fun ps => optD rowD (ringOf ps))) : FnOk P w K mg base CX0 3 f_is_good_in fd_is_good_in ["pairs"] (spP K fun ps => .bool (goodB ps)) := by
  refine D_is_good_in.F.ok sc_is_good_in (fun vs H Q E h => ?_) (fun cdv A outer s H vs Q E hr h => ?_)
  · obtain ⟨v, ps, rfl, _⟩ := h
    rfl
  · obtain ⟨v, ps, rfl, wf, hd, q⟩ := h
    refine ⟨_, (pss_one (ps_ret (pe_or (pe_cmpR op_notN (pe_call G_hubs_in (hr.mono (by decide)) (by rfl) D_hubs_in.m D_hubs_in.F.kp D_hubs_in.b .nil pass0 (pa_cons (pv 0) pa_nil)) pe_non (nomark _)) (pe_or (pe_cmpR op_notN (pe_call G_four_in (hr.mono (by decide)) (by rfl) D_four_in.m D_four_in.F.kp D_four_in.b .nil pass0 (pa_cons (pv 0) pa_nil)) pe_non (nomark _)) (pe_one (pe_cmpR op_notN (pe_call G_ring_in (hr.mono (by decide)) (by rfl) D_ring_in.m D_ring_in.F.kp D_ring_in.b .nil pass0 (pa_cons (pv 0) pa_nil)) pe_non (nomark _))))))), ?_⟩
    refine ⟨_, rfl, v, ps, rfl, wf, hd, fun u1 H1 s1 d1 => ?_⟩
    refine ⟨rfl, _, rfl, ?_⟩
    rw [non_opt tupl_p d1]
    cases e1 : hubs ps with
    | some h =>
      refine iteT (q _ H1 s1 ?_)
      show Dp K _ _ (.bool (goodB ps))
      unfold goodB
      rw [e1]
      exact .bl true
    | none =>
      refine iteF ⟨_, rfl, v, ps, rfl, wf, dp_same (fix_ps ps) s1 hd, fun u2 H2 s2 d2 => ?_⟩
      refine ⟨rfl, _, rfl, ?_⟩
      have s12 := s1.trans s2
      by_cases h4 : (mem ps).length ≤ 4
      · have en : ∀ {i : Decidable (u2 = V.non)}, @decide (u2 = V.non) i = false := by
          intro i
          unfold fourD at d2
          rw [if_pos h4] at d2
          obtain ⟨a, rfl, _⟩ := row_of d2
          exact decide_eq_false (fun e => by cases e)
        rw [en]
        refine iteT (q _ H2 s12 ?_)
        show Dp K _ _ (.bool (goodB ps))
        unfold goodB
        rw [e1, decide_eq_true h4]
        exact .bl true
      · have en : ∀ {i : Decidable (u2 = V.non)}, @decide (u2 = V.non) i = true := by
          intro i
          unfold fourD at d2
          rw [if_neg h4] at d2
          cases d2
          exact decide_eq_true rfl
        rw [en]
        refine iteF ⟨_, rfl, v, ps, rfl, wf, dp_same (fix_ps ps) s12 hd, fun u3 H3 s3 d3 => ?_⟩
        refine ⟨rfl, ?_⟩
        rw [non_opt tup_row d3]
        refine q _ H3 (s12.trans s3) ?_
        show Dp K _ _ (.bool (goodB ps))
        unfold goodB
        rw [e1, decide_eq_false h4]
        cases ringOf ps <;> exact .bl _
abbrev s_kind_of_pairs : Stmt := topS 35
theorem sc_kind_of_pairs : FnScope ["pairs", "hubs", "members", "ring", "apart"] ["pairs"] (defScope s_kind_of_pairs) := ⟨rfl, rfl, rfl, by decide +kernel, rfl, by decide +kernel, by decide +kernel⟩
theorem ok_kind_of_pairs (B : Bn mg) {f_kind_of_pairs : Addr} {fd_kind_of_pairs : FuncData} (D_kind_of_pairs : Dd K mg "kind_of_pairs" s_kind_of_pairs f_kind_of_pairs fd_kind_of_pairs ["pairs"]) {f_hubs_in : Addr} {fd_hubs_in : FuncData} (D_hubs_in : Dd K mg "hubs_in" s_hubs_in f_hubs_in fd_hubs_in ["pairs"]) (G_hubs_in : FnOk P w K mg base CX0 2 f_hubs_in fd_hubs_in ["pairs"] (spP K fun ps => optD pD (hubs ps))) {f_members_in : Addr} {fd_members_in : FuncData} (D_members_in : Dd K mg "members_in" s_members_in f_members_in fd_members_in ["pairs"]) (G_members_in : FnOk P w K mg base CX0 1 f_members_in fd_members_in ["pairs"] (spPL K fun ps => (mem ps).map PyData.int)) {f_ring_in : Addr} {fd_ring_in : FuncData} (D_ring_in : Dd K mg "ring_in" s_ring_in f_ring_in fd_ring_in ["pairs"]) (G_ring_in : FnOk P w K mg base CX0 2 f_ring_in fd_ring_in ["pairs"] (spP K fun ps => optD rowD (ringOf ps)))
    {f_threes_apart : Addr} {fd_threes_apart : FuncData} (D_threes_apart : Dd K mg "threes_apart" s_threes_apart f_threes_apart fd_threes_apart ["pairs"]) (G_threes_apart : FnOk P w K mg base CX0 2 f_threes_apart fd_threes_apart ["pairs"] (spPL K fun ps => (apart3 ps).map t3D)) {f_rings_beside : Addr} {fd_rings_beside : FuncData} (D_rings_beside : Dd K mg "rings_beside" s_rings_beside f_rings_beside fd_rings_beside ["pairs"]) (G_rings_beside : FnOk P w K mg base CX0 3 f_rings_beside fd_rings_beside ["pairs"] (spPL K fun ps => (beside ps).map bsD)) : FnOk P w K mg base CX0 4 f_kind_of_pairs fd_kind_of_pairs ["pairs"] (spP K kindD) := by
  refine D_kind_of_pairs.F.ok sc_kind_of_pairs (fun vs H Q E h => ?_) (fun cdv A outer s H vs Q E hr h => ?_)
  · obtain ⟨v, ps, rfl, _⟩ := h
    rfl
  · obtain ⟨v, ps, rfl, wf, hd, q⟩ := h
    refine ⟨_, (pss_cons (ps_asg (pe_tup (pa_cons (pe_call G_hubs_in (hr.mono (by decide)) (by rfl) D_hubs_in.m D_hubs_in.F.kp D_hubs_in.b .nil pass0 (pa_cons (pv 0) pa_nil)) (pa_cons (pe_call G_members_in (hr.mono (by decide)) (by rfl) D_members_in.m D_members_in.F.kp D_members_in.b .nil pass0 (pa_cons (pv 0) pa_nil)) (pa_cons (pe_call G_ring_in (hr.mono (by decide)) (by rfl) D_ring_in.m D_ring_in.F.kp D_ring_in.b .nil pass0 (pa_cons (pv 0) pa_nil)) (pa_cons (pe_call G_threes_apart (hr.mono (by decide)) (by rfl) D_threes_apart.m D_threes_apart.F.kp D_threes_apart.b .nil pass0 (pa_cons (pv 0) pa_nil)) pa_nil))))) (pgT K 4 (pgs_cons (pg_name (i := 1) sc_kind_of_pairs.nd rfl (.inl rfl)) (pgs_cons (pg_name (i := 2) sc_kind_of_pairs.nd rfl (.inl rfl)) (pgs_cons (pg_name (i := 3) sc_kind_of_pairs.nd rfl (.inl rfl)) (pgs_cons (pg_name (i := 4) sc_kind_of_pairs.nd rfl (.inl rfl)) pgs_nil))))))
      (pss_cons (ps_if (pt_cmpR op_notN (pv 1) pe_non (nomark _)) (pss_one (ps_ret (pe_tup (pa_cons pe_str (pa_cons (pv 1) pa_nil))))) pss_nil)
      (pss_cons (ps_if (pt_cmpR op_le (pe_callB (cLen K) (by rfl) B.len (by decide +kernel) (pa_cons (pv 2) pa_nil)) (pe_glob rfl (v := .int 4) B.fourK.choose_spec ⟨_, rfl⟩) (nomark _)) (pss_one (ps_ret (pe_tup (pa_cons pe_str (pa_cons (pe_callTy (cTuple K) (by rfl) B.tuple (by decide +kernel) (pa_cons (pv 2) pa_nil)) pa_nil))))) pss_nil)
      (pss_cons (ps_if (pt_cmpR op_notN (pv 3) pe_non (nomark _)) (pss_one (ps_ret (pe_tup (pa_cons pe_str (pa_cons (pv 3) pa_nil))))) pss_nil)
      (pss_one (ps_ret (pe_ifExp (pt_cmpR (opNeD K (by exact hr.units)) (pv 4) (pe_lst pa_nil) (nomark _)) (pe_tup (pa_cons pe_str (pa_cons (pe_ix (ixL K) (pv 4) pe_int (fun _ _ => rfl)) pa_nil))) (pe_op (opCat K) (pe_tup (pa_cons pe_str pa_nil)) (pe_ix (ixL K) (pe_call G_rings_beside (hr.mono (by decide)) (by rfl) D_rings_beside.m D_rings_beside.F.kp D_rings_beside.b .nil pass0 (pa_cons (pv 0) pa_nil)) pe_int (fun _ _ => rfl)))))))))), ?_⟩
    refine ⟨_, rfl, v, ps, rfl, wf, hd, fun u1 H1 s1 d1 => ?_⟩
    refine ⟨_, rfl, v, ps, rfl, wf, dp_same (fix_ps ps) s1 hd, fun b vs H2 s2 nb eb db => ?_⟩
    rw [ints_of_dps db] at eb
    have s12 := s1.trans s2
    refine ⟨_, rfl, v, ps, rfl, wf, dp_same (fix_ps ps) s12 hd, fun u3 H3 s3 d3 => ?_⟩
    have s13 := s12.trans s3
    refine ⟨_, rfl, v, ps, rfl, wf, dp_same (fix_ps ps) s13 hd, fun o as H4 s4 no eo da => ?_⟩
    have s14 := s13.trans s4
    refine ⟨(by show 4 ≤ sizeLine; decide), fun T nT => ?_⟩
    have s5 : Same H4 (upd H4 T (.tup [u1, .ref b, u3, .ref o])) := same_new nT
    have s15 := s14.trans s5
    generalize hH5 : upd H4 T (.tup [u1, .ref b, u3, .ref o]) = H5 at *
    have eT : H5 T = some (.tup [u1, .ref b, u3, .ref o]) := by rw [← hH5]; exact upd_same
    have s25 := (s3.trans s4).trans s5
    refine ⟨T, _, rfl, .of eT, rfl, _, _, rfl, _, _, rfl, _, _, rfl, _, _, rfl, rfl, ?_⟩
    have eb5 := s25 _ _ eb
    have eo5 := s5 _ _ eo
    have da5 := dps_same (fixDs_map fix_t3 _) s5 da
    have d15 := dp_same (fix_opt fix_p _) (s2.trans s25) d1
    have d35 := dp_same (fix_opt fix_row _) (s4.trans s5) d3
    -- if hubs is not None
    refine ⟨_, rfl, rfl, _, rfl, ?_⟩
    rw [non_opt tupl_p d15]
    cases e1 : hubs ps with
    | some h =>
      rw [e1] at d15
      refine iteT ⟨_, rfl, (by show 2 ≤ sizeLine; decide), fun U nU => ?_⟩
      have s6 := same_new (H := H5) (o := .tup [.str "hubs", u1]) nU
      refine q _ _ (s15.trans s6) ?_
      unfold kindD
      rw [e1]
      exact .tup (.of upd_same) (.cons (.str _) (.cons (dp_same (fix_p h) s6 d15) .nil))
    | none =>
      refine iteF ?_
      -- if len(members) <= FOUR
      refine ⟨_, rfl, b, _, rfl, .inl (.of eb5), _, 4, rfl, rfl, _, rfl, ?_⟩
      have el : (((mem ps).map V.int).length : Int) = ((mem ps).length : Nat) := by rw [List.length_map]
      by_cases h4 : (mem ps).length ≤ 4
      · rw [show decide ((((mem ps).map V.int).length : Int) ≤ 4) = true from decide_eq_true (by omega)]
        refine iteT ⟨_, rfl, b, _, rfl, .inl ⟨.of eb5, fun l nl => ?_⟩⟩
        refine ⟨(by show 2 ≤ sizeLine; decide), fun U nU => ?_⟩
        refine q _ _ (s15.trans ((same_new nl).trans (same_new nU))) ?_
        unfold kindD
        rw [e1]
        simp only
        rw [if_pos h4]
        refine .tup (.of upd_same) (.cons (.str _) (.cons (dp_same (fix_row _) (same_new nU) (row_mk (.of upd_same))) .nil))
      · rw [show decide ((((mem ps).map V.int).length : Int) ≤ 4) = false from decide_eq_false (by omega)]
        refine iteF ?_
        -- if ring is not None
        refine ⟨_, rfl, rfl, _, rfl, ?_⟩
        rw [non_opt tup_row d35]
        cases e2 : ringOf ps with
        | some r =>
          rw [e2] at d35
          refine iteT ⟨_, rfl, (by show 2 ≤ sizeLine; decide), fun U nU => ?_⟩
          have s6 := same_new (H := H5) (o := .tup [.str "ring", u3]) nU
          refine q _ _ (s15.trans s6) ?_
          unfold kindD
          rw [e1]
          simp only
          rw [if_neg h4, e2]
          exact .tup (.of upd_same) (.cons (.str _) (.cons (dp_same (fix_row r) s6 d35) .nil))
        | none =>
          refine iteF ?_
          -- apart != []
          refine ⟨_, rfl, Nat.zero_le _, fun N nN => ?_⟩
          have s6 := same_new (H := H5) (o := .lst []) nN
          have s16 := s15.trans s6
          have eo6 := s6 _ _ eo5
          have da6 := dps_same (fixDs_map fix_t3 _) s6 da5
          refine ⟨.list ((apart3 ps).map t3D), .list [], .lst (.of eo6) da6, .lst (.of upd_same) .nil, shape_l lay_t3 (fun t => Nat.le_of_eq (depth_t3 t)) (by decide) _, by decide, _, rfl, ?_⟩
          have kd : kindD ps = match apart3 ps with
              | t :: _ => .tuple [.str "apart", t3D t]
              | [] =>
                match beside ps with
                | b :: _ => .tuple [.str "beside", r3D b.1, pD b.2]
                | [] => .none := by
            unfold kindD
            rw [e1]
            simp only
            rw [if_neg h4, e2]
          cases e3 : apart3 ps with
          | cons t l =>
            rw [e3] at da6 kd
            rw [show (!PyData.eqv (.list ((t :: l).map t3D)) (.list [])) = true by simp [PyData.eqv, PyData.eqvAll]]
            obtain ⟨x, hx0, dx⟩ := enc_at (l := t :: l) (i := 0) da6 rfl
            refine iteT ⟨_, rfl, o, _, 0, x, rfl, rfl, .of eo6, atI_nat (j := 0) hx0, (by show 2 ≤ sizeLine; decide), fun U nU => ?_⟩
            refine q _ _ (s16.trans (same_new nU)) ?_
            rw [kd]
            exact .tup (.of upd_same) (.cons (.str _) (.cons (dp_same (fix_t3 t) (same_new nU) dx) .nil))
          | nil =>
            rw [e3] at kd
            rw [show (!PyData.eqv (.list (([] : List (Pr × Pr × Pr)).map t3D)) (.list [])) = false by simp [PyData.eqv, PyData.eqvAll]]
            refine iteF ⟨(by show 1 ≤ sizeLine; decide), fun U nU => ?_⟩
            have s7 := same_new (o := .tup [.str "beside"]) nU
            refine ⟨_, rfl, v, ps, rfl, wf, dp_same (fix_ps ps) (s16.trans s7) hd, fun c bs H8 s8 nc ec dc => ?_⟩
            cases e4 : beside ps with
            | nil =>
              have g := good_iff wf
              unfold goodB noBad at g
              rw [e1, e2, e3, e4, decide_eq_false h4] at g
              cases g
            | cons t l =>
              replace dc : DpAll K H8 bs ((beside ps).map bsD) := dc
              rw [e4] at dc kd
              obtain ⟨x, hx0, dx⟩ := enc_at (l := t :: l) (i := 0) dc rfl
              refine ⟨c, _, 0, x, rfl, rfl, .of ec, atI_nat (j := 0) hx0, ?_⟩
              obtain ⟨z, zs, rfl, tz, dz⟩ := tup_of dx
              cases dz with
              | cons dz1 dz2 =>
              cases dz2 with
              | cons dz2 dz3 =>
              cases dz3
              refine ⟨U, z, _, _, rfl, rfl, .of (s8 _ _ upd_same), tz, (by show 1 + 2 ≤ sizeLine; decide), fun e => (by cases e), fun _ e => (by cases e), fun _ _ W nW => ?_⟩
              refine q _ _ ((s16.trans s7).trans (s8.trans (same_new nW))) ?_
              rw [kd]
              exact .tup (.of upd_same) (.cons (.str _) (.cons (dp_same (fix_r3 _) (same_new nW) dz1) (.cons (dp_same (fix_p _) (same_new nW) dz2) .nil)))
abbrev s_hubs_of : Stmt := topS 17
theorem sc_hubs_of : FnScope ["pairs"] ["pairs"] (defScope s_hubs_of) := ⟨rfl, rfl, rfl, by decide +kernel, rfl, by decide +kernel, by decide +kernel⟩
theorem ok_hubs_of (B : Bn mg) {f_hubs_of : Addr} {fd_hubs_of : FuncData} (D_hubs_of : Dd K mg "hubs_of" s_hubs_of f_hubs_of fd_hubs_of ["pairs"]) {f_want_pairs : Addr} {fd_want_pairs : FuncData} (D_want_pairs : Dd K mg "want_pairs" s_want_pairs f_want_pairs fd_want_pairs ["value"]) (G_want_pairs : FnOk P w K mg base CX0 6 f_want_pairs fd_want_pairs ["value"] (spP K psD)) {f_hubs_in : Addr} {fd_hubs_in : FuncData} (D_hubs_in : Dd K mg "hubs_in" s_hubs_in f_hubs_in fd_hubs_in ["pairs"]) (G_hubs_in : FnOk P w K mg base CX0 2 f_hubs_in fd_hubs_in ["pairs"] (spP K fun ps => optD pD (hubs ps))) : FnOk P w K mg base CX0 7 f_hubs_of fd_hubs_of ["pairs"] (spP K fun ps => optD pD (hubs ps)) := by
  refine D_hubs_of.F.ok sc_hubs_of (fun vs H Q E h => ?_) (fun cdv A outer s H vs Q E hr h => ?_)
  · obtain ⟨v, ps, rfl, _⟩ := h
    rfl
  · obtain ⟨v, ps, rfl, wf, hd, q⟩ := h
    refine ⟨_, (pss_one (ps_ret (pe_call G_hubs_in (hr.mono (by decide)) (by rfl) D_hubs_in.m D_hubs_in.F.kp D_hubs_in.b .nil pass0 (pa_cons (pe_call G_want_pairs (hr.mono (by decide)) (by rfl) D_want_pairs.m D_want_pairs.F.kp D_want_pairs.b .nil pass0 (pa_cons (pv 0) pa_nil)) pa_nil)))), ?_⟩
    exact ⟨_, rfl, v, ps, rfl, wf, hd, fun u H1 s1 d1 => ⟨u, ps, rfl, wf, d1, q.mono s1⟩⟩
abbrev s_four_of : Stmt := topS 26
theorem sc_four_of : FnScope ["pairs"] ["pairs"] (defScope s_four_of) := ⟨rfl, rfl, rfl, by decide +kernel, rfl, by decide +kernel, by decide +kernel⟩
theorem ok_four_of (B : Bn mg) {f_four_of : Addr} {fd_four_of : FuncData} (D_four_of : Dd K mg "four_of" s_four_of f_four_of fd_four_of ["pairs"]) {f_want_pairs : Addr} {fd_want_pairs : FuncData} (D_want_pairs : Dd K mg "want_pairs" s_want_pairs f_want_pairs fd_want_pairs ["value"]) (G_want_pairs : FnOk P w K mg base CX0 6 f_want_pairs fd_want_pairs ["value"] (spP K psD)) {f_four_in : Addr} {fd_four_in : FuncData} (D_four_in : Dd K mg "four_in" s_four_in f_four_in fd_four_in ["pairs"]) (G_four_in : FnOk P w K mg base CX0 2 f_four_in fd_four_in ["pairs"] (spP K fourD)) : FnOk P w K mg base CX0 7 f_four_of fd_four_of ["pairs"] (spP K fourD) := by
  refine D_four_of.F.ok sc_four_of (fun vs H Q E h => ?_) (fun cdv A outer s H vs Q E hr h => ?_)
  · obtain ⟨v, ps, rfl, _⟩ := h
    rfl
  · obtain ⟨v, ps, rfl, wf, hd, q⟩ := h
    refine ⟨_, (pss_one (ps_ret (pe_call G_four_in (hr.mono (by decide)) (by rfl) D_four_in.m D_four_in.F.kp D_four_in.b .nil pass0 (pa_cons (pe_call G_want_pairs (hr.mono (by decide)) (by rfl) D_want_pairs.m D_want_pairs.F.kp D_want_pairs.b .nil pass0 (pa_cons (pv 0) pa_nil)) pa_nil)))), ?_⟩
    exact ⟨_, rfl, v, ps, rfl, wf, hd, fun u H1 s1 d1 => ⟨u, ps, rfl, wf, d1, q.mono s1⟩⟩
abbrev s_ring_of : Stmt := topS 27
theorem sc_ring_of : FnScope ["pairs"] ["pairs"] (defScope s_ring_of) := ⟨rfl, rfl, rfl, by decide +kernel, rfl, by decide +kernel, by decide +kernel⟩
theorem ok_ring_of (B : Bn mg) {f_ring_of : Addr} {fd_ring_of : FuncData} (D_ring_of : Dd K mg "ring_of" s_ring_of f_ring_of fd_ring_of ["pairs"]) {f_want_pairs : Addr} {fd_want_pairs : FuncData} (D_want_pairs : Dd K mg "want_pairs" s_want_pairs f_want_pairs fd_want_pairs ["value"]) (G_want_pairs : FnOk P w K mg base CX0 6 f_want_pairs fd_want_pairs ["value"] (spP K psD)) {f_ring_in : Addr} {fd_ring_in : FuncData} (D_ring_in : Dd K mg "ring_in" s_ring_in f_ring_in fd_ring_in ["pairs"]) (G_ring_in : FnOk P w K mg base CX0 2 f_ring_in fd_ring_in ["pairs"] (spP K fun ps => optD rowD (ringOf ps))) : FnOk P w K mg base CX0 7 f_ring_of fd_ring_of ["pairs"] (spP K fun ps => optD rowD (ringOf ps)) := by
  refine D_ring_of.F.ok sc_ring_of (fun vs H Q E h => ?_) (fun cdv A outer s H vs Q E hr h => ?_)
  · obtain ⟨v, ps, rfl, _⟩ := h
    rfl
  · obtain ⟨v, ps, rfl, wf, hd, q⟩ := h
    refine ⟨_, (pss_one (ps_ret (pe_call G_ring_in (hr.mono (by decide)) (by rfl) D_ring_in.m D_ring_in.F.kp D_ring_in.b .nil pass0 (pa_cons (pe_call G_want_pairs (hr.mono (by decide)) (by rfl) D_want_pairs.m D_want_pairs.F.kp D_want_pairs.b .nil pass0 (pa_cons (pv 0) pa_nil)) pa_nil)))), ?_⟩
    exact ⟨_, rfl, v, ps, rfl, wf, hd, fun u H1 s1 d1 => ⟨u, ps, rfl, wf, d1, q.mono s1⟩⟩
abbrev s_are_good : Stmt := topS 28
theorem sc_are_good : FnScope ["pairs"] ["pairs"] (defScope s_are_good) := ⟨rfl, rfl, rfl, by decide +kernel, rfl, by decide +kernel, by decide +kernel⟩
theorem ok_are_good (B : Bn mg) {f_are_good : Addr} {fd_are_good : FuncData} (D_are_good : Dd K mg "are_good" s_are_good f_are_good fd_are_good ["pairs"]) {f_want_pairs : Addr} {fd_want_pairs : FuncData} (D_want_pairs : Dd K mg "want_pairs" s_want_pairs f_want_pairs fd_want_pairs ["value"]) (G_want_pairs : FnOk P w K mg base CX0 6 f_want_pairs fd_want_pairs ["value"] (spP K psD)) {f_is_good_in : Addr} {fd_is_good_in : FuncData} (D_is_good_in : Dd K mg "is_good_in" s_is_good_in f_is_good_in fd_is_good_in ["pairs"]) (G_is_good_in : FnOk P w K mg base CX0 3 f_is_good_in fd_is_good_in ["pairs"] (spP K fun ps => .bool (goodB ps))) : FnOk P w K mg base CX0 7 f_are_good fd_are_good ["pairs"] (spP K fun ps => .bool (goodB ps)) := by
  refine D_are_good.F.ok sc_are_good (fun vs H Q E h => ?_) (fun cdv A outer s H vs Q E hr h => ?_)
  · obtain ⟨v, ps, rfl, _⟩ := h
    rfl
  · obtain ⟨v, ps, rfl, wf, hd, q⟩ := h
    refine ⟨_, (pss_one (ps_ret (pe_call G_is_good_in (hr.mono (by decide)) (by rfl) D_is_good_in.m D_is_good_in.F.kp D_is_good_in.b .nil pass0 (pa_cons (pe_call G_want_pairs (hr.mono (by decide)) (by rfl) D_want_pairs.m D_want_pairs.F.kp D_want_pairs.b .nil pass0 (pa_cons (pv 0) pa_nil)) pa_nil)))), ?_⟩
    exact ⟨_, rfl, v, ps, rfl, wf, hd, fun u H1 s1 d1 => ⟨u, ps, rfl, wf, d1, q.mono s1⟩⟩
abbrev s_apart_threes : Stmt := topS 36
theorem sc_apart_threes : FnScope ["pairs"] ["pairs"] (defScope s_apart_threes) := ⟨rfl, rfl, rfl, by decide +kernel, rfl, by decide +kernel, by decide +kernel⟩
theorem ok_apart_threes (B : Bn mg) {f_apart_threes : Addr} {fd_apart_threes : FuncData} (D_apart_threes : Dd K mg "apart_threes" s_apart_threes f_apart_threes fd_apart_threes ["pairs"]) {f_want_pairs : Addr} {fd_want_pairs : FuncData} (D_want_pairs : Dd K mg "want_pairs" s_want_pairs f_want_pairs fd_want_pairs ["value"]) (G_want_pairs : FnOk P w K mg base CX0 6 f_want_pairs fd_want_pairs ["value"] (spP K psD)) {f_threes_apart : Addr} {fd_threes_apart : FuncData} (D_threes_apart : Dd K mg "threes_apart" s_threes_apart f_threes_apart fd_threes_apart ["pairs"]) (G_threes_apart : FnOk P w K mg base CX0 2 f_threes_apart fd_threes_apart ["pairs"] (spPL K fun ps => (apart3 ps).map t3D)) : FnOk P w K mg base CX0 7 f_apart_threes fd_apart_threes ["pairs"] (spPL K fun ps => (apart3 ps).map t3D) := by
  refine D_apart_threes.F.ok sc_apart_threes (fun vs H Q E h => ?_) (fun cdv A outer s H vs Q E hr h => ?_)
  · obtain ⟨v, ps, rfl, _⟩ := h
    rfl
  · obtain ⟨v, ps, rfl, wf, hd, q⟩ := h
    refine ⟨_, (pss_one (ps_ret (pe_call G_threes_apart (hr.mono (by decide)) (by rfl) D_threes_apart.m D_threes_apart.F.kp D_threes_apart.b .nil pass0 (pa_cons (pe_call G_want_pairs (hr.mono (by decide)) (by rfl) D_want_pairs.m D_want_pairs.F.kp D_want_pairs.b .nil pass0 (pa_cons (pv 0) pa_nil)) pa_nil)))), ?_⟩
    exact ⟨_, rfl, v, ps, rfl, wf, hd, fun u H1 s1 d1 => ⟨u, ps, rfl, wf, d1, q.mono s1⟩⟩
abbrev s_rings_of_three : Stmt := topS 37
theorem sc_rings_of_three : FnScope ["pairs"] ["pairs"] (defScope s_rings_of_three) := ⟨rfl, rfl, rfl, by decide +kernel, rfl, by decide +kernel, by decide +kernel⟩
theorem ok_rings_of_three (B : Bn mg) {f_rings_of_three : Addr} {fd_rings_of_three : FuncData} (D_rings_of_three : Dd K mg "rings_of_three" s_rings_of_three f_rings_of_three fd_rings_of_three ["pairs"]) {f_want_pairs : Addr} {fd_want_pairs : FuncData} (D_want_pairs : Dd K mg "want_pairs" s_want_pairs f_want_pairs fd_want_pairs ["value"]) (G_want_pairs : FnOk P w K mg base CX0 6 f_want_pairs fd_want_pairs ["value"] (spP K psD)) {f_threes_in_ring : Addr} {fd_threes_in_ring : FuncData} (D_threes_in_ring : Dd K mg "threes_in_ring" s_threes_in_ring f_threes_in_ring fd_threes_in_ring ["pairs"]) (G_threes_in_ring : FnOk P w K mg base CX0 2 f_threes_in_ring fd_threes_in_ring ["pairs"] (spPL K fun ps => (ring3 ps).map r3D)) : FnOk P w K mg base CX0 7 f_rings_of_three fd_rings_of_three ["pairs"] (spPL K fun ps => (ring3 ps).map r3D) := by
  refine D_rings_of_three.F.ok sc_rings_of_three (fun vs H Q E h => ?_) (fun cdv A outer s H vs Q E hr h => ?_)
  · obtain ⟨v, ps, rfl, _⟩ := h
    rfl
  · obtain ⟨v, ps, rfl, wf, hd, q⟩ := h
    refine ⟨_, (pss_one (ps_ret (pe_call G_threes_in_ring (hr.mono (by decide)) (by rfl) D_threes_in_ring.m D_threes_in_ring.F.kp D_threes_in_ring.b .nil pass0 (pa_cons (pe_call G_want_pairs (hr.mono (by decide)) (by rfl) D_want_pairs.m D_want_pairs.F.kp D_want_pairs.b .nil pass0 (pa_cons (pv 0) pa_nil)) pa_nil)))), ?_⟩
    exact ⟨_, rfl, v, ps, rfl, wf, hd, fun u H1 s1 d1 => ⟨u, ps, rfl, wf, d1, q.mono s1⟩⟩
abbrev s_besides : Stmt := topS 38
theorem sc_besides : FnScope ["pairs"] ["pairs"] (defScope s_besides) := ⟨rfl, rfl, rfl, by decide +kernel, rfl, by decide +kernel, by decide +kernel⟩
theorem ok_besides (B : Bn mg) {f_besides : Addr} {fd_besides : FuncData} (D_besides : Dd K mg "besides" s_besides f_besides fd_besides ["pairs"]) {f_want_pairs : Addr} {fd_want_pairs : FuncData} (D_want_pairs : Dd K mg "want_pairs" s_want_pairs f_want_pairs fd_want_pairs ["value"]) (G_want_pairs : FnOk P w K mg base CX0 6 f_want_pairs fd_want_pairs ["value"] (spP K psD)) {f_rings_beside : Addr} {fd_rings_beside : FuncData} (D_rings_beside : Dd K mg "rings_beside" s_rings_beside f_rings_beside fd_rings_beside ["pairs"]) (G_rings_beside : FnOk P w K mg base CX0 3 f_rings_beside fd_rings_beside ["pairs"] (spPL K fun ps => (beside ps).map bsD)) : FnOk P w K mg base CX0 7 f_besides fd_besides ["pairs"] (spPL K fun ps => (beside ps).map bsD) := by
  refine D_besides.F.ok sc_besides (fun vs H Q E h => ?_) (fun cdv A outer s H vs Q E hr h => ?_)
  · obtain ⟨v, ps, rfl, _⟩ := h
    rfl
  · obtain ⟨v, ps, rfl, wf, hd, q⟩ := h
    refine ⟨_, (pss_one (ps_ret (pe_call G_rings_beside (hr.mono (by decide)) (by rfl) D_rings_beside.m D_rings_beside.F.kp D_rings_beside.b .nil pass0 (pa_cons (pe_call G_want_pairs (hr.mono (by decide)) (by rfl) D_want_pairs.m D_want_pairs.F.kp D_want_pairs.b .nil pass0 (pa_cons (pv 0) pa_nil)) pa_nil)))), ?_⟩
    exact ⟨_, rfl, v, ps, rfl, wf, hd, fun u H1 s1 d1 => ⟨u, ps, rfl, wf, d1, q.mono s1⟩⟩
abbrev s_kind_of : Stmt := topS 39
theorem sc_kind_of : FnScope ["pairs"] ["pairs"] (defScope s_kind_of) := ⟨rfl, rfl, rfl, by decide +kernel, rfl, by decide +kernel, by decide +kernel⟩
theorem ok_kind_of (B : Bn mg) {f_kind_of : Addr} {fd_kind_of : FuncData} (D_kind_of : Dd K mg "kind_of" s_kind_of f_kind_of fd_kind_of ["pairs"]) {f_want_pairs : Addr} {fd_want_pairs : FuncData} (D_want_pairs : Dd K mg "want_pairs" s_want_pairs f_want_pairs fd_want_pairs ["value"]) (G_want_pairs : FnOk P w K mg base CX0 6 f_want_pairs fd_want_pairs ["value"] (spP K psD)) {f_kind_of_pairs : Addr} {fd_kind_of_pairs : FuncData} (D_kind_of_pairs : Dd K mg "kind_of_pairs" s_kind_of_pairs f_kind_of_pairs fd_kind_of_pairs ["pairs"]) (G_kind_of_pairs : FnOk P w K mg base CX0 4 f_kind_of_pairs fd_kind_of_pairs ["pairs"] (spP K kindD)) : FnOk P w K mg base CX0 7 f_kind_of fd_kind_of ["pairs"] (spP K kindD) := by
  refine D_kind_of.F.ok sc_kind_of (fun vs H Q E h => ?_) (fun cdv A outer s H vs Q E hr h => ?_)
  · obtain ⟨v, ps, rfl, _⟩ := h
    rfl
  · obtain ⟨v, ps, rfl, wf, hd, q⟩ := h
    refine ⟨_, (pss_one (ps_ret (pe_call G_kind_of_pairs (hr.mono (by decide)) (by rfl) D_kind_of_pairs.m D_kind_of_pairs.F.kp D_kind_of_pairs.b .nil pass0 (pa_cons (pe_call G_want_pairs (hr.mono (by decide)) (by rfl) D_want_pairs.m D_want_pairs.F.kp D_want_pairs.b .nil pass0 (pa_cons (pv 0) pa_nil)) pa_nil)))), ?_⟩
    exact ⟨_, rfl, v, ps, rfl, wf, hd, fun u H1 s1 d1 => ⟨u, ps, rfl, wf, d1, q.mono s1⟩⟩
end
end Kd

set_option Elab.async false
set_option linter.all false
set_option maxRecDepth 100000
set_option maxHeartbeats 4000000
namespace Kd
open PySem PySem.Spec PyProof.Rows L2
section
variable {P : Program} {w : World} {K : PySem.W.Frag} {mg : Str → Option Value} {base : Heap}
abbrev s__law_are_apart : Stmt := topS 48
theorem sc__law_are_apart : FnScope ["_law_pair", "_law_other"] ["_law_pair", "_law_other"] (defScope s__law_are_apart) := ⟨rfl, rfl, rfl, by decide +kernel, rfl, by decide +kernel, by decide +kernel⟩
theorem ok__law_are_apart (B : Bn mg) {f__law_are_apart : Addr} {fd__law_are_apart : FuncData} (D__law_are_apart : Dd K mg "_law_are_apart" s__law_are_apart f__law_are_apart fd__law_are_apart ["_law_pair", "_law_other"]) : FnOk P w K mg base CX0 1 f__law_are_apart fd__law_are_apart ["_law_pair", "_law_other"] (spApart K) := by
  refine D__law_are_apart.F.ok sc__law_are_apart (fun vs H Q E h => ?_) (fun cdv A outer s H vs Q E hr h => ?_)
  · obtain ⟨v, u, p, r, rfl, _⟩ := h
    rfl
  · obtain ⟨v, u, p, r, rfl, hp, hq, q⟩ := h
    obtain ⟨a, rfl, ta⟩ := p_of hp
    obtain ⟨b, rfl, tb⟩ := p_of hq
    refine ⟨_, (pss_one (ps_ret (pe_and (pe_cmpR (opNotIn K) (pe_ix (ixT K) (pv 0) pe_int (fun _ _ => rfl)) (pv 1) (by rfl)) (pe_one (pe_cmpR (opNotIn K) (pe_ix (ixT K) (pv 0) pe_int (fun _ _ => rfl)) (pv 1) (by rfl)))))), ?_⟩
    refine ⟨_, rfl, a, _, 0, _, rfl, rfl, ta, atI_nat (j := 0) rfl, _, rfl, notin_pair tb ⟨_, rfl, ?_⟩⟩
    cases e : (!inP p.1 r) with
    | false =>
      refine iteF (q.now ?_)
      unfold apartB
      rw [e]
      exact .bl _
    | true =>
      refine iteT ⟨_, rfl, a, _, 1, _, rfl, rfl, ta, atI_nat (j := 1) rfl, _, rfl, notin_pair tb (q.now ?_)⟩
      unfold apartB
      rw [e]
      exact .bl _
abbrev s__law_apart : Stmt := topS 49
theorem sc__law_apart : FnScope ["_law_pairs_here", "_law_found", "_law_at", "_law_one", "_law_late", "_law_last"] ["_law_pairs_here"] (defScope s__law_apart) := ⟨rfl, rfl, rfl, by decide +kernel, rfl, by decide +kernel, by decide +kernel⟩
theorem ok__law_apart (B : Bn mg) {f__law_apart : Addr} {fd__law_apart : FuncData} (D__law_apart : Dd K mg "_law_apart" s__law_apart f__law_apart fd__law_apart ["_law_pairs_here"]) {f__law_are_apart : Addr} {fd__law_are_apart : FuncData} (D__law_are_apart : Dd K mg "_law_are_apart" s__law_are_apart f__law_are_apart fd__law_are_apart ["_law_pair", "_law_other"]) (G__law_are_apart : FnOk P w K mg base CX0 1 f__law_are_apart fd__law_are_apart ["_law_pair", "_law_other"] (spApart K)) : FnOk P w K mg base CX0 2 f__law_apart fd__law_apart ["_law_pairs_here"] (spPL K fun ps => (apart3 ps).map t3D) := by
  refine D__law_apart.F.ok sc__law_apart (fun vs H Q E h => ?_) (fun cdv A outer s H vs Q E hr h => ?_)
  · obtain ⟨v, ps, rfl, _⟩ := h
    rfl
  · obtain ⟨v, ps, rfl, wf, hd, q⟩ := h
    obtain ⟨a, xs, rfl, ht, hx⟩ := ps_of hd
    have lx : xs.length = ps.length := by rw [dps_len hx, List.length_map]
    have l6 := wf.len
    have l216 := apart3_216 wf
    refine ⟨_, (pss_cons (ps_set (i := 1) sc__law_apart.nd rfl (.inl rfl) (pe_lst pa_nil))
      (pss_cons (ps_for PassesOwn.never rfl (piEnumT K (by rfl) B.enumerate (pa_cons (pv 0) pa_nil)) (pgT K 2 (pgs_cons (pg_name (i := 2) sc__law_apart.nd rfl (.inl rfl)) (pgs_cons (pg_name (i := 3) sc__law_apart.nd rfl (.inr rfl)) pgs_nil))) (pss_one (ps_for PassesOwn.never rfl (pi_range2 (by rfl) B.range (pa_cons (pe_op op_add (pv 2) pe_int) (pa_cons (pe_callB (cLen K) (by rfl) B.len (by decide +kernel) (pa_cons (pv 0) pa_nil)) pa_nil))) (pg_name (i := 4) sc__law_apart.nd rfl (.inr rfl)) (pss_one (ps_if (pt_val (pe_call G__law_are_apart (hr.mono (by decide)) (by rfl) D__law_are_apart.m D__law_are_apart.F.kp D__law_are_apart.b .nil pass0 (pa_cons (pv 3) (pa_cons (pe_ix (ixT K) (pv 0) (pv 4) (fun _ _ => rfl)) pa_nil)))) (pss_one (ps_expr (pe_bm PySem.F.plainAttrs_list PySem.F.slot_list_extend PySem.F.type_list_extend mt_extend (pv 1) (pa_cons (pe_lc (own := [("_law_last", 5)]) (by rfl) sc__law_apart.nd (piT K (pe_slice (slT K) (pv 0) (po_some (pe_op op_add (pv 4) pe_int)) po_none)) (blkOk_by (own := [("_law_last", 5)]) (N := ["_law_pairs_here", "_law_found", "_law_at", "_law_one", "_law_late", "_law_last"]) (sc := defScope s__law_apart) (by decide +kernel)) (fun _ _ _ _ _ => by exact (pg_name (i := 5) sc__law_apart.nd rfl (.inl rfl))) (fun _ _ _ _ _ => by exact pts_one (PW.pt (pw_and (pt_val (pe_call G__law_are_apart (hr.mono (by decide)) (by rfl) D__law_are_apart.m D__law_are_apart.F.kp D__law_are_apart.b .nil pass0 (pa_cons (pv 3) (pa_cons (pv 5) pa_nil)))) (pw_and1 (pt_val (pe_call G__law_are_apart (hr.mono (by decide)) (by rfl) D__law_are_apart.m D__law_are_apart.F.kp D__law_are_apart.b .nil pass0 (pa_cons (pe_ix (ixT K) (pv 0) (pv 4) (fun _ _ => rfl)) (pa_cons (pv 5) pa_nil)))))))) (fun _ _ _ _ _ => by exact (pe_tup (pa_cons (pv 3) (pa_cons (pe_ix (ixT K) (pv 0) (pv 4) (fun _ _ => rfl)) (pa_cons (pv 5) pa_nil)))))) pa_nil)))) pss_nil)))))
      (pss_one (ps_ret (pe_callB (cSortD K t3D (by exact hu70 hr)) (by rfl) B.sorted (by decide +kernel) (pa_cons (pv 1) pa_nil)))))), ?_⟩
    refine ⟨Nat.zero_le _, fun o no => ?_⟩
    refine ⟨_, rfl, a, xs, rfl, seqT_same (same_new no) ht, ?_⟩
    refine for_it (walk_enumT (a := a) (xs := xs)) (fun i σ H2 => ∃ v2 v3 v4 vs acc, σ = [some (.ref a), some (.ref o), v2, v3, v4, none] ∧ Same H H2 ∧ H2 o = some (.lst vs) ∧ DpAll K H2 vs (acc.map t3D) ∧ acc ++ apart3 (ps.drop i) = apart3 ps)
      ⟨none, none, none, [], [], rfl, same_new no, upd_same, .nil, rfl⟩ (fun i σ H2 _ ⟨_, _, _, _, _, _, s2, _⟩ => seqT_same s2 ht) ?_ ?_
    · rintro i x σ H2 H3 hi ⟨v2, v3, v4, vs, acc, rfl, s2, eo, dv, eacc⟩ ⟨T, z1, z2, rfl, nT, rfl, e1, e2⟩
      have hi2 : i < ps.length := by omega
      have e1' : z1 = .int (i : Nat) := (Option.some.inj e1).symm
      subst e1'
      obtain ⟨p, hp, dp⟩ := enc_get hx e2
      have s3 : Same H (upd H2 T (.tup [.int (i : Nat), z2])) := s2.trans (same_new nT)
      rw [drop_one hp] at eacc
      refine ⟨T, _, rfl, .of upd_same, rfl, _, _, rfl, _, _, rfl, rfl, ?_⟩
      refine ⟨_, rfl, _, _, rfl, rfl, _, rfl, a, xs, rfl, .inr (seqT_same s3 ht), _, _, rfl, ⟨by omega, by omega, by omega, by omega⟩, ?_⟩
      refine for_it walk_range (fun j σ H5 => ∃ v4 vs acc, σ = [some (.ref a), some (.ref o), some (.int (i : Nat)), some z2, v4, none] ∧ Same H H5 ∧ H5 o = some (.lst vs) ∧ DpAll K H5 vs (acc.map t3D) ∧
          acc ++ (apart2 p (ps.drop (i + 1 + j)) ++ apart3 (ps.drop (i + 1))) = apart3 ps)
        ⟨v4, vs, acc, rfl, s3, same_new nT _ _ eo, dps_same (fixDs_map fix_t3 _) (same_new nT) dv, eacc⟩ (fun _ _ _ _ _ => trivial) ?_ ?_
      · rintro j y σ H5 H6 hj ⟨v4, vs, acc, rfl, s5, eo5, dv5, eacc5⟩ ⟨rfl, rfl⟩
        have hj2 : i + 1 + j < ps.length := by omega
        obtain ⟨y, hy, dq⟩ := enc_at hx (List.getElem?_eq_getElem hj2)
        generalize hq : ps[i + 1 + j] = r at dq
        have hr1 : ps[i + 1 + j]? = some r := by rw [List.getElem?_eq_getElem hj2, hq]
        rw [drop_one hr1] at eacc5
        -- if are_apart(one, pairs[late])
        refine ⟨_, rfl, _, rfl, _, rfl, a, xs, _, y, rfl, rfl, seqT_same s5 ht, at_of (j := i + 1 + j) (by omega) hy, z2, y, p, r, rfl, dp_same (fix_p p) s5 dp, dp_same (fix_p r) s5 dq, fun u H7 s7 du => ?_⟩
        cases du
        refine ⟨_, rfl, ?_⟩
        have s7x := s5.trans s7
        have dv7 := dps_same (fixDs_map fix_t3 _) s7 dv5
        cases e : apartB p r with
        | false =>
          refine iteF ⟨_, vs, acc, rfl, s7x, s7 _ _ eo5, dv7, ?_⟩
          have e2 : apart2 p (r :: ps.drop (i + 1 + j + 1)) = apart2 p (ps.drop (i + 1 + j + 1)) := by
            show (if apartB p r = true then _ else []) ++ _ = _
            rw [e]
            rfl
          rw [e2] at eacc5
          exact eacc5
        | true =>
          refine iteT ?_
          -- found.extend([..])
          refine ⟨_, rfl, .inl ⟨rfl, _, .of (s7 _ _ eo5)⟩, ?_⟩
          refine ⟨_, rfl, _, rfl, _, _, rfl, rfl, _, rfl, a, xs, rfl, seqT_same s7x ht, fun e0 => ?_, fun _ c nc => ?_⟩
          · rw [show ((i : Nat) + 1 : Int) + (j : Nat) + 1 = ((i + 1 + j + 1 : Nat) : Int) by omega] at e0
            exact absurd e0 (not_whole_ix (by omega) (by omega))
          rw [show cutV xs (some (((i : Nat) + 1 : Int) + (j : Nat) + 1)) none = xs.drop (i + 1 + j + 1) by
            rw [show ((i : Nat) + 1 : Int) + (j : Nat) + 1 = ((i + 1 + j + 1 : Nat) : Int) by omega, cut_from]]
          have s8 := s7x.trans (same_new (o := .tup (xs.drop (i + 1 + j + 1))) nc)
          refine ⟨c, rfl, ⟨_, .of upd_same⟩, fun D nD => ?_⟩
          have dxs : DpAll K (upd H7 c (.tup (xs.drop (i + 1 + j + 1)))) (xs.drop (i + 1 + j + 1)) ((ps.drop (i + 1 + j + 1)).map pD) := by
            rw [List.map_drop]
            exact dps_drop _ (dps_same (fixDs_map fix_p _) s8 hx)
          refine lc_data (K := K) (enc := pD) (enc2 := t3D) (ps.drop (i + 1 + j + 1)) (fun l => apartB p l && apartB r l) (fun l => (p, r, l)) (walk_tup (a := c)) nD dxs fix_p fix_t3 (fun H9 s9 => seqT_same s9 (.of upd_same)) (by rw [List.length_drop]; omega) (fun n x l H9 Qt Qf hl s9 dl no2 yes => ?_) (fun H10 us s10 hD2 hu => ?_)
          · refine ⟨rfl, ?_⟩
            have sx := s8.trans s9
            refine ⟨_, rfl, _, rfl, z2, x, p, l, rfl, dp_same (fix_p p) sx dp, dl, fun u H10 s10 du => ?_⟩
            cases du
            refine ⟨_, rfl, ?_⟩
            cases e1 : apartB p l with
            | false => exact iteF (iteF (no2 (by rw [e1]; rfl) H10 s10))
            | true =>
              refine iteT ⟨_, rfl, _, rfl, a, xs, _, y, rfl, rfl, seqT_same (sx.trans s10) ht, at_of (j := i + 1 + j) (by omega) hy, _, rfl, y, x, r, l, rfl, dp_same (fix_p r) (sx.trans s10) dq, dp_same (fix_p l) s10 dl, fun u H11 s11 du => ?_⟩
              cases du
              refine ⟨_, rfl, ?_⟩
              cases e2 : apartB r l with
              | false => exact iteF (no2 (by rw [e1, e2]; rfl) H11 (s10.trans s11))
              | true =>
                have sy := sx.trans (s10.trans s11)
                refine iteT ⟨_, rfl, _, rfl, _, rfl, a, xs, _, y, rfl, rfl, seqT_same sy ht, at_of (j := i + 1 + j) (by omega) hy, _, rfl, (by show 3 ≤ sizeLine; decide), fun T3 nT3 => ?_⟩
                have sz := same_new (H := H11) (o := .tup [z2, y, x]) nT3
                exact yes (by rw [e1, e2]; rfl) _ _ ((s10.trans s11).trans sz) (.tup (.of upd_same) (.cons (dp_same (fix_p p) (sy.trans sz) dp) (.cons (dp_same (fix_p r) (sy.trans sz) dq) (.cons (dp_same (fix_p l) ((s10.trans s11).trans sz) dl) .nil))))
          · have s10x := s8.trans s10
            have eo10 : H10 o = some (.lst vs) := s10 _ _ (same_new nc _ _ (s7 _ _ eo5))
            have dv10 := dps_same (fixDs_map fix_t3 _) ((same_new nc).trans s10) dv7
            have fl := List.length_filter_le (fun l => apartB p l && apartB r l) (ps.drop (i + 1 + j + 1))
            rw [List.length_drop] at fl
            have lv := dps_len dv10
            have lu := dps_len hu
            have eq2 : apart2 p (r :: ps.drop (i + 1 + j + 1)) = (((ps.drop (i + 1 + j + 1)).filter fun l => apartB p l && apartB r l).map fun l => (p, r, l)) ++ apart2 p (ps.drop (i + 1 + j + 1)) := by
              show (if apartB p r = true then _ else []) ++ _ = _
              rw [e]
              rfl
            rw [eq2, List.append_assoc, ← List.append_assoc] at eacc5
            have tot := congrArg List.length eacc5
            rw [List.length_append, List.length_append] at tot
            rw [List.length_map] at lv lu
            refine ⟨o, D, vs, us, rfl, rfl, eo10, hD2, Nat.le_of_lt (small_line (by omega)), ?_⟩
            have k11 : Keeps H10 (upd H10 o (.lst (vs ++ us))) := keeps_upd_lst eo10
            refine ⟨_, vs ++ us, acc ++ (((ps.drop (i + 1 + j + 1)).filter fun l => apartB p l && apartB r l).map fun l => (p, r, l)), rfl, same_write s10x no, upd_same, ?_, eacc5⟩
            rw [List.map_append]
            exact dps_app (dps_keep k11 _ _ (fixDs_map fix_t3 _) dv10) (dps_keep k11 _ _ (fixDs_map fix_t3 _) hu)
      · rintro σ H5 ⟨v4, vs, acc, rfl, s5, eo5, dv5, eacc5⟩
        refine ⟨_, _, _, vs, acc, rfl, s5, eo5, dv5, ?_⟩
        rw [List.drop_eq_nil_of_le (show ps.length ≤ i + 1 + ((xs.length : Int) - ((i : Nat) + 1 : Int)).toNat by omega)] at eacc5
        exact eacc5
    · rintro σ H2 ⟨v2, v3, v4, vs, acc, rfl, s2, eo, dv, eacc⟩
      rw [lx, List.drop_length, show apart3 [] = [] from rfl, List.append_nil] at eacc
      subst eacc
      refine ⟨_, rfl, sort_done (apart3 ps) (apart3 ps) (.of eo) dv alike_t3 tup_t3 (fun x => by rw [depth_t3]; decide) fix_t3 (apart3_sorted wf) fun p ws H3 s3 np ep dw => ?_⟩
      exact q p ws H3 (s2.trans s3) (s2.free np) ep dw
abbrev s__law_rings : Stmt := topS 50
theorem sc__law_rings : FnScope ["_law_pairs_here", "_law_found", "_law_one", "_law_other", "_law_last"] ["_law_pairs_here"] (defScope s__law_rings) := ⟨rfl, rfl, rfl, by decide +kernel, rfl, by decide +kernel, by decide +kernel⟩
theorem ok__law_rings (B : Bn mg) {f__law_rings : Addr} {fd__law_rings : FuncData} (D__law_rings : Dd K mg "_law_rings" s__law_rings f__law_rings fd__law_rings ["_law_pairs_here"]) : FnOk P w K mg base CX0 1 f__law_rings fd__law_rings ["_law_pairs_here"] (spPL K fun ps => (ring3 ps).map r3D) := by
  refine D__law_rings.F.ok sc__law_rings (fun vs H Q E h => ?_) (fun cdv A outer s H vs Q E hr h => ?_)
  · obtain ⟨v, ps, rfl, _⟩ := h
    rfl
  · obtain ⟨v, ps, rfl, wf, hd, q⟩ := h
    obtain ⟨a, xs, rfl, ht, hx⟩ := ps_of hd
    have lx : xs.length = ps.length := by rw [dps_len hx, List.length_map]
    have l6 := wf.len
    have l48 := ring3_48 wf
    refine ⟨_, (pss_cons (ps_set (i := 1) sc__law_rings.nd rfl (.inl rfl) (pe_lst pa_nil))
      (pss_cons (ps_for PassesOwn.never rfl (piT K (pv 0)) (pgT K 2 (pgs_cons (pg_name (i := 2) sc__law_rings.nd rfl (.inr rfl)) (pgs_cons (pg_name (i := 3) sc__law_rings.nd rfl (.inr rfl)) pgs_nil))) (pss_one (ps_expr (pe_bm PySem.F.plainAttrs_list PySem.F.slot_list_extend PySem.F.type_list_extend mt_extend (pv 1) (pa_cons (pe_lc (own := [("_law_last", 4)]) (by rfl) sc__law_rings.nd (pi_range2 (by rfl) B.range (pa_cons (pe_op op_add (pv 3) pe_int) (pa_cons pe_int pa_nil))) (blkOk_by (own := [("_law_last", 4)]) (N := ["_law_pairs_here", "_law_found", "_law_one", "_law_other", "_law_last"]) (sc := defScope s__law_rings) (by decide +kernel)) (fun _ _ _ _ _ => by exact (pg_name (i := 4) sc__law_rings.nd rfl (.inl rfl))) (fun _ _ _ _ _ => by exact pts_one (PW.pt (pw_and (pt_cmpR (opInT K (by exact hu65 hr)) (pe_tup (pa_cons (pv 2) (pa_cons (pv 4) pa_nil))) (pv 0) (by rfl)) (pw_and1 (pt_cmpR (opInT K (by exact hu65 hr)) (pe_tup (pa_cons (pv 3) (pa_cons (pv 4) pa_nil))) (pv 0) (by rfl)))))) (fun _ _ _ _ _ => by exact (pe_tup (pa_cons (pv 2) (pa_cons (pv 3) (pa_cons (pv 4) pa_nil)))))) pa_nil)))))
      (pss_one (ps_ret (pe_callB (cSortD K r3D (by exact hu70 hr)) (by rfl) B.sorted (by decide +kernel) (pa_cons (pv 1) pa_nil)))))), ?_⟩
    refine ⟨Nat.zero_le _, fun o no => ?_⟩
    refine ⟨_, rfl, a, rfl, ⟨_, seqT_same (same_new no) ht⟩, ?_⟩
    refine for_it walk_tup (fun i σ H2 => ∃ v2 v3 vs acc, σ = [some (.ref a), some (.ref o), v2, v3, none] ∧ Same H H2 ∧ H2 o = some (.lst vs) ∧ DpAll K H2 vs (acc.map r3D) ∧ acc ++ (ps.drop i).flatMap (fun p => (lastL ps p).map (threeOf p)) = ring3 ps)
      ⟨none, none, [], [], rfl, same_new no, upd_same, .nil, ring3_law wf⟩ (fun i σ H2 _ ⟨_, _, _, _, _, s2, _⟩ => seqT_same s2 ht) ?_ ?_
    · rintro i x σ H2 H3 hi ⟨v2, v3, vs, acc, rfl, s2, eo, dv, eacc⟩ ⟨rfl, hxi⟩
      obtain ⟨p, hp, dp⟩ := enc_get (dps_same (fixDs_map fix_p ps) s2 hx) hxi
      obtain ⟨b, rfl, tb⟩ := p_of dp
      have rg := wf.rng p (List.mem_of_getElem? hp)
      rw [drop_one hp, List.flatMap_cons] at eacc
      refine ⟨b, _, rfl, tb, rfl, _, _, rfl, _, _, rfl, rfl, ?_⟩
      refine ⟨_, rfl, .inl ⟨rfl, _, .of eo⟩, ?_⟩
      refine ⟨_, rfl, _, _, rfl, rfl, _, _, rfl, ⟨by omega, by omega, by decide, by decide⟩, fun D nD => ?_⟩
      refine lc_data (K := K) (enc := PyData.int) (enc2 := r3D) (upTo (p.2 + 1) (8 - (p.2 + 1)).toNat) (fun l => ps.contains (p.1, l) && ps.contains (p.2, l)) (threeOf p) (walk_upTo (p.2 + 1) (8 - (p.2 + 1)).toNat) nD (dps_ints _) (fun _ => by simp [fixD]) fix_r3 (fun _ _ => trivial) (by rw [upTo_len]; omega) (fun n x l H7 Qt Qf hl s7 dx no2 yes => ?_) (fun H7 us s7 hD hu => ?_)
      · cases dx
        refine ⟨rfl, ?_⟩
        refine ⟨_, rfl, _, rfl, (by show 2 ≤ sizeLine; decide), fun T nT => ?_⟩
        have s8 : Same H7 (upd H7 T (.tup [.int p.1, .int l])) := same_new nT
        refine ⟨_, rfl, pD (p.1, l), ps.map pD, p_mk (p := (p.1, l)) (.of upd_same), dp_same (fix_ps ps) ((s2.trans s7).trans s8) hd, shape_p _, shape_ps _, _, rfl, ?_⟩
        rw [any_p]
        cases e2 : ps.contains (p.1, l) with
        | false => exact iteF (iteF (no2 (by rw [e2]; rfl) _ s8))
        | true =>
          refine iteT ⟨_, rfl, _, rfl, (by show 2 ≤ sizeLine; decide), fun U nU => ?_⟩
          have s9 := s8.trans (same_new (o := .tup [.int p.2, .int l]) nU)
          refine ⟨_, rfl, pD (p.2, l), ps.map pD, p_mk (p := (p.2, l)) (.of upd_same), dp_same (fix_ps ps) ((s2.trans s7).trans s9) hd, shape_p _, shape_ps _, _, rfl, ?_⟩
          rw [any_p]
          cases e3 : ps.contains (p.2, l) with
          | false => exact iteF (no2 (by rw [e2, e3]; rfl) _ s9)
          | true =>
            refine iteT ⟨_, rfl, _, rfl, _, rfl, (by show 3 ≤ sizeLine; decide), fun T3 nT3 => ?_⟩
            exact yes (by rw [e2, e3]; rfl) _ _ (s9.trans (same_new nT3)) (r3_mk (p := threeOf p l) (.of upd_same))
      · have s7x := s2.trans s7
        have eo7 := s7 _ _ eo
        have dv7 := dps_same (fixDs_map fix_r3 _) s7 dv
        have lv := dps_len dv7
        replace hu : DpAll K H7 us (((lastL ps p).map (threeOf p)).map r3D) := hu
        have lw := dps_len hu
        rw [← List.append_assoc] at eacc
        have tot := congrArg List.length eacc
        rw [List.length_append, List.length_append] at tot
        rw [List.length_map] at lv lw
        refine ⟨o, D, vs, us, rfl, rfl, eo7, hD, Nat.le_of_lt (small_line (by omega)), ?_⟩
        have k8 : Keeps H7 (upd H7 o (.lst (vs ++ us))) := keeps_upd_lst eo7
        refine ⟨_, _, vs ++ us, acc ++ (lastL ps p).map (threeOf p), rfl, same_write s7x no, upd_same, ?_, eacc⟩
        rw [List.map_append]
        exact dps_app (dps_keep k8 _ _ (fixDs_map fix_r3 _) dv7) (dps_keep k8 _ _ (fixDs_map fix_r3 _) hu)
    · rintro σ H2 ⟨v2, v3, vs, acc, rfl, s2, eo, dv, eacc⟩
      rw [lx, List.drop_length, List.flatMap_nil, List.append_nil] at eacc
      subst eacc
      refine ⟨_, rfl, sort_done (ring3 ps) (ring3 ps) (.of eo) dv alike_r3 tup_r3 (fun x => by rw [depth_r3]; decide) fix_r3 (ring3_sorted wf) fun p ws H3 s3 np ep dw => ?_⟩
      exact q p ws H3 (s2.trans s3) (s2.free np) ep dw
abbrev s__law_besides : Stmt := topS 51
theorem sc__law_besides : FnScope ["_law_pairs_here", "_law_found", "_law_ring_here", "_law_pair"] ["_law_pairs_here"] (defScope s__law_besides) := ⟨rfl, rfl, rfl, by decide +kernel, rfl, by decide +kernel, by decide +kernel⟩
theorem ok__law_besides (B : Bn mg) {f__law_besides : Addr} {fd__law_besides : FuncData} (D__law_besides : Dd K mg "_law_besides" s__law_besides f__law_besides fd__law_besides ["_law_pairs_here"]) {f__law_rings : Addr} {fd__law_rings : FuncData} (D__law_rings : Dd K mg "_law_rings" s__law_rings f__law_rings fd__law_rings ["_law_pairs_here"]) (G__law_rings : FnOk P w K mg base CX0 1 f__law_rings fd__law_rings ["_law_pairs_here"] (spPL K fun ps => (ring3 ps).map r3D)) : FnOk P w K mg base CX0 2 f__law_besides fd__law_besides ["_law_pairs_here"] (spPL K fun ps => (beside ps).map bsD) := by
  refine D__law_besides.F.ok sc__law_besides (fun vs H Q E h => ?_) (fun cdv A outer s H vs Q E hr h => ?_)
  · obtain ⟨v, ps, rfl, _⟩ := h
    rfl
  · obtain ⟨v, ps, rfl, wf, hd, q⟩ := h
    obtain ⟨a, xs, rfl, ht, hx⟩ := ps_of hd
    have lx : xs.length = ps.length := by rw [dps_len hx, List.length_map]
    have l6 := wf.len
    have l288 := beside_288 wf
    refine ⟨_, (pss_cons (ps_set (i := 1) sc__law_besides.nd rfl (.inl rfl) (pe_lst pa_nil))
      (pss_cons (ps_for PassesOwn.never rfl (piL K (pe_call G__law_rings (hr.mono (by decide)) (by rfl) D__law_rings.m D__law_rings.F.kp D__law_rings.b .nil pass0 (pa_cons (pv 0) pa_nil))) (pg_name (i := 2) sc__law_besides.nd rfl (.inr rfl)) (pss_one (ps_expr (pe_bm PySem.F.plainAttrs_list PySem.F.slot_list_extend PySem.F.type_list_extend mt_extend (pv 1) (pa_cons (pe_lc (own := [("_law_pair", 3)]) (by rfl) sc__law_besides.nd (piT K (pv 0)) (blkOk_by (own := [("_law_pair", 3)]) (N := ["_law_pairs_here", "_law_found", "_law_ring_here", "_law_pair"]) (sc := defScope s__law_besides) (by decide +kernel)) (fun _ _ _ _ _ => by exact (pg_name (i := 3) sc__law_besides.nd rfl (.inl rfl))) (fun _ _ _ _ _ => by exact pts_one (PW.pt (pw_and (pt_cmpR (opNotIn K) (pe_ix (ixT K) (pv 3) pe_int (fun _ _ => rfl)) (pv 2) (by rfl)) (pw_and1 (pt_cmpR (opNotIn K) (pe_ix (ixT K) (pv 3) pe_int (fun _ _ => rfl)) (pv 2) (by rfl)))))) (fun _ _ _ _ _ => by exact (pe_tup (pa_cons (pv 2) (pa_cons (pv 3) pa_nil))))) pa_nil)))))
      (pss_one (ps_ret (pe_callB (cSortD K bsD (by exact hu70 hr)) (by rfl) B.sorted (by decide +kernel) (pa_cons (pv 1) pa_nil)))))), ?_⟩
    refine ⟨Nat.zero_le _, fun o no => ?_⟩
    refine ⟨_, rfl, _, ps, rfl, wf, dp_same (fix_ps ps) (same_new no) hd, fun m rs H4 s4 nm em dm => ?_⟩
    have s4x : Same H H4 := (same_new no).trans s4
    have lr : rs.length = (ring3 ps).length := by rw [dps_len dm, List.length_map]
    have om : o ≠ m := ne_of_none (upd_same (H := H) (o := .lst [])) nm
    refine ⟨m, rfl, ⟨_, .of em⟩, ?_⟩
    refine for_it (walk_list (a := m) (xs := rs)) (fun i σ H2 => ∃ v2 vs acc, σ = [some (.ref a), some (.ref o), v2, none] ∧ Same H H2 ∧ H2 m = some (.lst rs) ∧ DpAll K H2 rs ((ring3 ps).map r3D) ∧ H2 o = some (.lst vs) ∧ DpAll K H2 vs (acc.map bsD) ∧
        acc ++ ((ring3 ps).drop i).flatMap (fun r => (ps.filter fun p => !inR p.1 r && !inR p.2 r).map fun p => (r, p)) = beside ps)
      ⟨none, [], [], rfl, s4x, em, dm, s4 _ _ upd_same, .nil, rfl⟩ (fun i σ H2 _ ⟨_, _, _, _, _, e, _⟩ => .of e) ?_ ?_
    · rintro i x σ H2 H3 hi ⟨v2, vs, acc, rfl, s2, em2, dm2, eo, dv, eacc⟩ ⟨rfl, hxi⟩
      obtain ⟨r, hr2, dr⟩ := enc_get dm2 hxi
      obtain ⟨b, rfl, tb⟩ := r3_of dr
      rw [drop_one hr2, List.flatMap_cons] at eacc
      refine ⟨_, rfl, .inl ⟨rfl, _, .of eo⟩, ?_⟩
      refine ⟨_, rfl, a, rfl, ⟨_, seqT_same s2 ht⟩, fun D nD => ?_⟩
      refine lc_data (K := K) (enc := pD) (enc2 := bsD) ps (fun p => !inR p.1 r && !inR p.2 r) (fun p => (r, p)) walk_tup nD (dps_same (fixDs_map fix_p ps) s2 hx) fix_p fix_bs (fun H7 s7 => seqT_same (s2.trans s7) ht) (by omega) (fun n x p H7 Qt Qf hp2 s7 dx no2 yes => ?_) (fun H7 ws s7 hD hw => ?_)
      · obtain ⟨c, rfl, tc⟩ := p_of dx
        refine ⟨rfl, ?_⟩
        refine ⟨_, rfl, c, _, 0, _, rfl, rfl, tc, atI_nat (j := 0) rfl, _, rfl, notin_r3 (seqT_same s7 tb) ⟨_, rfl, ?_⟩⟩
        cases e1 : (!inR p.1 r) with
        | false => exact iteF (iteF (no2 (by rw [e1]; rfl) _ (Same.refl _)))
        | true =>
          refine iteT ⟨_, rfl, c, _, 1, _, rfl, rfl, tc, atI_nat (j := 1) rfl, _, rfl, notin_r3 (seqT_same s7 tb) ⟨_, rfl, ?_⟩⟩
          cases e2 : (!inR p.2 r) with
          | false => exact iteF (no2 (by rw [e1, e2]; rfl) _ (Same.refl _))
          | true =>
            refine iteT ⟨_, rfl, _, rfl, (by show 2 ≤ sizeLine; decide), fun T nT => ?_⟩
            exact yes (by rw [e1, e2]; rfl) _ _ (same_new nT) (.tup (.of upd_same) (.cons (dp_same (fix_r3 _) (s7.trans (same_new nT)) dr) (.cons (dp_same (fix_p _) (same_new nT) dx) .nil)))
      · have s7x := s2.trans s7
        have eo7 := s7 _ _ eo
        have dv7 := dps_same (fixDs_map fix_bs _) s7 dv
        have lv := dps_len dv7
        have lw := dps_len hw
        rw [← List.append_assoc] at eacc
        have tot := congrArg List.length eacc
        rw [List.length_append, List.length_append] at tot
        rw [List.length_map] at lv lw
        have om2 : m ≠ o := Ne.symm om
        refine ⟨o, D, vs, ws, rfl, rfl, eo7, hD, Nat.le_of_lt (small_line (by omega)), ?_⟩
        have k8 : Keeps H7 (upd H7 o (.lst (vs ++ ws))) := keeps_upd_lst eo7
        refine ⟨_, vs ++ ws, acc ++ ((ps.filter fun p => !inR p.1 r && !inR p.2 r).map fun p => (r, p)), rfl, same_write s7x no, by rw [upd_ne om2]; exact s7 _ _ em2, dps_keep k8 _ _ (fixDs_map fix_r3 _) (dps_same (fixDs_map fix_r3 _) s7 dm2), upd_same, ?_, eacc⟩
        rw [List.map_append]
        exact dps_app (dps_keep k8 _ _ (fixDs_map fix_bs _) dv7) (dps_keep k8 _ _ (fixDs_map fix_bs _) hw)
    · rintro σ H2 ⟨v2, vs, acc, rfl, s2, em2, dm2, eo, dv, eacc⟩
      rw [lr, List.drop_length, List.flatMap_nil, List.append_nil] at eacc
      subst eacc
      refine ⟨_, rfl, sort_done (beside ps) (beside ps) (.of eo) dv alike_bs tup_bs (fun x => by rw [depth_bs]; decide) fix_bs (beside_sorted wf) fun p ws H3 s3 np ep dw => ?_⟩
      exact q p ws H3 (s2.trans s3) (s2.free np) ep dw
theorem eqv_empty {α : Type} {enc : α → PyData} (l : List α) : PyData.eqv (.list (l.map enc)) (.list []) = l.isEmpty := by
  cases l <;> simp [PyData.eqv, PyData.eqvAll]
abbrev s__law_is_good : Stmt := topS 52
theorem sc__law_is_good : FnScope ["_law_pairs_here"] ["_law_pairs_here"] (defScope s__law_is_good) := ⟨rfl, rfl, rfl, by decide +kernel, rfl, by decide +kernel, by decide +kernel⟩
theorem ok__law_is_good (B : Bn mg) {f__law_is_good : Addr} {fd__law_is_good : FuncData} (D__law_is_good : Dd K mg "_law_is_good" s__law_is_good f__law_is_good fd__law_is_good ["_law_pairs_here"]) {f__law_apart : Addr} {fd__law_apart : FuncData} (D__law_apart : Dd K mg "_law_apart" s__law_apart f__law_apart fd__law_apart ["_law_pairs_here"]) (G__law_apart : FnOk P w K mg base CX0 2 f__law_apart fd__law_apart ["_law_pairs_here"] (spPL K fun ps => (apart3 ps).map t3D)) {f__law_besides : Addr} {fd__law_besides : FuncData} (D__law_besides : Dd K mg "_law_besides" s__law_besides f__law_besides fd__law_besides ["_law_pairs_here"]) (G__law_besides : FnOk P w K mg base CX0 2 f__law_besides fd__law_besides ["_law_pairs_here"] (spPL K fun ps => (beside ps).map bsD)) : FnOk P w K mg base CX0 3 f__law_is_good fd__law_is_good ["_law_pairs_here"] (spP K fun ps => .bool (goodB ps)) := by
  refine D__law_is_good.F.ok sc__law_is_good (fun vs H Q E h => ?_) (fun cdv A outer s H vs Q E hr h => ?_)
  · obtain ⟨v, ps, rfl, _⟩ := h
    rfl
  · obtain ⟨v, ps, rfl, wf, hd, q⟩ := h
    have g := good_iff wf
    refine ⟨_, (pss_one (ps_ret (pe_and (pe_cmpR (opEqD K (by exact hr.units)) (pe_call G__law_apart (hr.mono (by decide)) (by rfl) D__law_apart.m D__law_apart.F.kp D__law_apart.b .nil pass0 (pa_cons (pv 0) pa_nil)) (pe_lst pa_nil) (nomark _)) (pe_one (pe_cmpR (opEqD K (by exact hr.units)) (pe_call G__law_besides (hr.mono (by decide)) (by rfl) D__law_besides.m D__law_besides.F.kp D__law_besides.b .nil pass0 (pa_cons (pv 0) pa_nil)) (pe_lst pa_nil) (nomark _)))))), ?_⟩
    refine ⟨_, rfl, v, ps, rfl, wf, hd, fun o as H1 s1 no eo da => ?_⟩
    refine ⟨Nat.zero_le _, fun N nN => ?_⟩
    have s2 := same_new (H := H1) (o := .lst []) nN
    refine ⟨.list ((apart3 ps).map t3D), .list [], .lst (.of (s2 _ _ eo)) (dps_same (fixDs_map fix_t3 _) s2 da), .lst (.of upd_same) .nil, shape_l lay_t3 (fun t => Nat.le_of_eq (depth_t3 t)) (by decide) _, by decide, _, rfl, ?_⟩
    rw [eqv_empty]
    cases e1 : (apart3 ps).isEmpty with
    | false =>
      refine iteF (q _ _ (s1.trans s2) ?_)
      show Dp K _ _ (.bool (goodB ps))
      rw [g]
      unfold noBad
      rw [e1]
      exact .bl _
    | true =>
      have s12 := s1.trans s2
      refine iteT ⟨_, rfl, v, ps, rfl, wf, dp_same (fix_ps ps) s12 hd, fun p bs H3 s3 np ep db => ?_⟩
      refine ⟨Nat.zero_le _, fun M nM => ?_⟩
      have s4 := same_new (H := H3) (o := .lst []) nM
      refine ⟨.list ((beside ps).map bsD), .list [], .lst (.of (s4 _ _ ep)) (dps_same (fixDs_map fix_bs _) s4 db), .lst (.of upd_same) .nil, shape_l lay_bs (fun t => Nat.le_of_eq (depth_bs t)) (by decide) _, by decide, ?_⟩
      rw [eqv_empty]
      refine q _ _ (s12.trans (s3.trans s4)) ?_
      show Dp K _ _ (.bool (goodB ps))
      rw [g]
      unfold noBad
      rw [e1]
      exact .bl _
end
end Kd

set_option Elab.async false
set_option linter.all false
set_option maxRecDepth 100000
set_option maxHeartbeats 4000000
namespace Kd
open PySem PySem.Spec PyProof.Rows L2
section
variable {P : Program} {w : World} {K : PySem.W.Frag} {mg : Str → Option Value} {base : Heap}
abbrev s__law_members : Stmt := topS 53
theorem sc__law_members : FnScope ["_law_pairs_here", "_law_found", "_law_one", "_law_other"] ["_law_pairs_here"] (defScope s__law_members) := ⟨rfl, rfl, rfl, by decide +kernel, rfl, by decide +kernel, by decide +kernel⟩
theorem ok__law_members (B : Bn mg) {f__law_members : Addr} {fd__law_members : FuncData} (D__law_members : Dd K mg "_law_members" s__law_members f__law_members fd__law_members ["_law_pairs_here"]) : FnOk P w K mg base CX0 1 f__law_members fd__law_members ["_law_pairs_here"] (spPL K fun ps => (mem ps).map PyData.int) := by
  refine D__law_members.F.ok sc__law_members (fun vs H Q E h => ?_) (fun cdv A outer s H vs Q E hr h => ?_)
  · obtain ⟨v, ps, rfl, _⟩ := h
    rfl
  · obtain ⟨v, ps, rfl, wf, hd, q⟩ := h
    obtain ⟨a, xs, rfl, ht, hx⟩ := ps_of hd
    have lx : xs.length = ps.length := by rw [dps_len hx, List.length_map]
    have l6 := wf.len
    refine ⟨_, (pss_cons (ps_set (i := 1) sc__law_members.nd rfl (.inl rfl) (pe_lst pa_nil))
      (pss_cons (ps_for PassesOwn.never rfl (piT K (pv 0)) (pgT K 2 (pgs_cons (pg_name (i := 2) sc__law_members.nd rfl (.inl rfl)) (pgs_cons (pg_name (i := 3) sc__law_members.nd rfl (.inl rfl)) pgs_nil))) (pss_one (ps_expr (pe_bm PySem.F.plainAttrs_list PySem.F.slot_list_extend PySem.F.type_list_extend mt_extend (pv 1) (pa_cons (pe_lst (pa_cons (pv 2) (pa_cons (pv 3) pa_nil))) pa_nil)))))
      (pss_one (ps_ret (pe_callB (cSortSet w) (by rfl) B.sorted (by decide +kernel) (pa_cons (pe_callTy (cSet K w) (by rfl) B.set (by decide +kernel) (pa_cons (pv 1) pa_nil)) pa_nil)))))), ?_⟩
    refine ⟨Nat.zero_le _, fun o no => ?_⟩
    refine ⟨_, rfl, a, rfl, ⟨_, seqT_same (same_new no) ht⟩, ?_⟩
    refine for_it walk_tup (fun i σ H2 => ∃ v2 v3, σ = [some (.ref a), some (.ref o), v2, v3] ∧ Same H H2 ∧ H2 o = some (.lst (((ps.take i).flatMap two).map V.int)))
      ⟨none, none, rfl, same_new no, upd_same⟩ (fun i σ H2 _ ⟨_, _, _, s2, _⟩ => seqT_same s2 ht) ?_ ?_
    · rintro i x σ H2 H3 hi ⟨v2, v3, rfl, s2, eo⟩ ⟨rfl, hxi⟩
      obtain ⟨p, hp, dp⟩ := enc_get (dps_same (fixDs_map fix_p ps) s2 hx) hxi
      obtain ⟨b, rfl, tb⟩ := p_of dp
      refine ⟨b, _, rfl, tb, rfl, _, _, rfl, _, _, rfl, rfl, ?_⟩
      refine ⟨_, rfl, .inl ⟨rfl, _, .of eo⟩, ?_⟩
      refine ⟨_, rfl, _, rfl, (by show 2 ≤ sizeLine; decide), fun L nL => ?_⟩
      have s3 := same_new (o := .lst [.int p.1, .int p.2]) nL
      have l12 := two_len (ps.take i)
      rw [List.length_take] at l12
      refine ⟨o, L, _, _, rfl, rfl, s3 _ _ eo, upd_same, Nat.le_of_lt (small_line ?_), ?_⟩
      · rw [List.length_map]
        show _ + 2 ≤ _
        omega
      · refine ⟨_, _, rfl, same_write (s2.trans s3) no, ?_⟩
        rw [upd_same, take_one hp, List.flatMap_append, List.flatMap_cons, List.flatMap_nil, List.append_nil, List.map_append]
        rfl
    · rintro σ H2 ⟨v2, v3, rfl, s2, eo⟩
      rw [lx, List.take_length] at eo
      have l12 := two_len ps
      refine ⟨_, rfl, o, ps.flatMap two, rfl, .of eo, by omega, fun S c nS hc => ?_⟩
      refine ⟨S, _, c, rfl, upd_same, by omega, fun ns p hs hm hl np => ?_⟩
      have e := mem_of_two wf hs hm
      subst e
      exact q p _ _ (s2.trans ((same_new nS).trans (same_new np))) ((s2.trans (same_new nS)).free np) upd_same (dps_ints _)
abbrev s__law_all_pairs : Stmt := topS 45
theorem sc__law_all_pairs : FnScope ["_law_places", "_law_found", "_law_at", "_law_one", "_law_other"] ["_law_places"] (defScope s__law_all_pairs) := ⟨rfl, rfl, rfl, by decide +kernel, rfl, by decide +kernel, by decide +kernel⟩
def spAllPairs (K : PySem.W.Frag) : Sp := fun vs H Q _ => ∃ (b : Addr) (ms : List Int), vs = [.ref b] ∧ SqL K H b (ms.map V.int) ∧ ms.length ≤ 8 ∧ ResL K H Q ((pairsOf ms).map pD)
theorem ok__law_all_pairs (B : Bn mg) {f__law_all_pairs : Addr} {fd__law_all_pairs : FuncData} (D__law_all_pairs : Dd K mg "_law_all_pairs" s__law_all_pairs f__law_all_pairs fd__law_all_pairs ["_law_places"]) : FnOk P w K mg base CX0 1 f__law_all_pairs fd__law_all_pairs ["_law_places"] (spAllPairs K) := by
  refine D__law_all_pairs.F.ok sc__law_all_pairs (fun vs H Q E h => ?_) (fun cdv A outer s H vs Q E hr h => ?_)
  · obtain ⟨b, ms, rfl, _⟩ := h
    rfl
  · obtain ⟨b, ms, rfl, hb, h8, q⟩ := h
    refine ⟨_, (pss_cons (ps_set (i := 1) sc__law_all_pairs.nd rfl (.inl rfl) (pe_lst pa_nil))
      (pss_cons (ps_for PassesOwn.never rfl (piEnumL K (by rfl) B.enumerate (pa_cons (pv 0) pa_nil)) (pgT K 2 (pgs_cons (pg_name (i := 2) sc__law_all_pairs.nd rfl (.inl rfl)) (pgs_cons (pg_name (i := 3) sc__law_all_pairs.nd rfl (.inr rfl)) pgs_nil))) (pss_one (ps_expr (pe_bm PySem.F.plainAttrs_list PySem.F.slot_list_extend PySem.F.type_list_extend mt_extend (pv 1) (pa_cons (pe_lc (own := [("_law_other", 4)]) (by rfl) sc__law_all_pairs.nd (piL K (pe_slice (slL K) (pv 0) (po_some (pe_op op_add (pv 2) pe_int)) po_none)) (blkOk_by (own := [("_law_other", 4)]) (N := ["_law_places", "_law_found", "_law_at", "_law_one", "_law_other"]) (sc := defScope s__law_all_pairs) (by decide +kernel)) (fun _ _ _ _ _ => by exact (pg_name (i := 4) sc__law_all_pairs.nd rfl (.inl rfl))) (fun _ _ _ _ _ => by exact pts_nil) (fun _ _ _ _ _ => by exact (pe_tup (pa_cons (pv 3) (pa_cons (pv 4) pa_nil))))) pa_nil)))))
      (pss_one (ps_ret (pv 1))))), ?_⟩
    have mb : ∀ {H2 : Hp}, Same H H2 → SqL K H2 b (ms.map V.int) := fun s => s.seq hb
    have lp := pairsOf_len ms
    have l64 : ms.length * ms.length ≤ 8 * 8 := Nat.mul_le_mul h8 h8
    refine ⟨Nat.zero_le _, fun o no => ?_⟩
    refine ⟨_, rfl, b, _, rfl, mb (same_new no), ?_⟩
    refine for_it (walk_enum (xs := ms.map V.int)) (fun i σ H2 => ∃ v2 v3 vs acc, σ = [some (.ref b), some (.ref o), v2, v3, none] ∧ Same H H2 ∧ H2 o = some (.lst vs) ∧ DpAll K H2 vs (acc.map pD) ∧ acc ++ pairsOf (ms.drop i) = pairsOf ms) ⟨none, none, [], [], rfl, same_new no, upd_same, .nil, rfl⟩ (fun i σ H2 _ ⟨_, _, _, _, _, s2, _⟩ => mb s2) ?_ ?_
    · rintro i x σ H2 H3 hi ⟨v2, v3, vs, acc, rfl, s2, eo, dv, eacc⟩ ⟨T, z1, z2, rfl, nT, rfl, e1, e2⟩
      have hi2 : i < ms.length := by simpa using hi
      have e1' : z1 = .int (i : Nat) := (Option.some.inj e1).symm
      subst e1'
      have e2' : (ms.map V.int)[i]? = some z2 := e2
      rw [List.getElem?_map, List.getElem?_eq_getElem hi2] at e2'
      have e2'' : z2 = .int ms[i] := (Option.some.inj e2').symm
      subst e2''
      have s3 : Same H (upd H2 T (.tup [.int (i : Nat), .int ms[i]])) := s2.trans (same_new nT)
      have eo3 := same_new (o := .tup [.int (i : Nat), .int ms[i]]) nT _ _ eo
      refine ⟨T, _, rfl, .of upd_same, rfl, _, _, rfl, _, _, rfl, rfl, ?_⟩
      refine ⟨_, rfl, .inl ⟨rfl, _, .of eo3⟩, ?_⟩
      refine ⟨_, rfl, _, rfl, _, _, rfl, rfl, _, rfl, b, _, rfl, mb s3, fun c nc => ?_⟩
      have ce : cutV (ms.map V.int) (some ((i : Nat) + 1 : Int)) none = (ms.drop (i + 1)).map V.int := by
        rw [show ((i : Nat) + 1 : Int) = ((i + 1 : Nat) : Int) by omega, cut_from, List.map_drop]
      have s4 := s3.trans (same_new (o := .lst (cutV (ms.map V.int) (some ((i : Nat) + 1 : Int)) none)) nc)
      have s34 := same_new (o := .lst (cutV (ms.map V.int) (some ((i : Nat) + 1 : Int)) none)) nc
      rw [ce] at s4 s34 ⊢
      refine ⟨c, rfl, ⟨_, .of upd_same⟩, fun D nD => ?_⟩
      refine lc_data (K := K) (enc := PyData.int) (enc2 := pD) (ms.drop (i + 1)) (fun _ => true) (fun y => (ms[i], y)) (walk_list (a := c)) nD (dps_ints _) (fun _ => by simp [fixD]) fix_p (fun H7 s7 => .of (s7 _ _ upd_same)) (by rw [List.length_drop]; omega) (fun n x l H7 Qt Qf hl s7 dx _ yes => ?_) (fun H7 us s7 hD hu => ?_)
      · cases dx
        refine ⟨rfl, tyes ⟨_, rfl, _, rfl, (by show 2 ≤ sizeLine; decide), fun U nU => ?_⟩⟩
        exact yes rfl _ _ (same_new nU) (p_mk (p := (ms[i], l)) (.of upd_same))
      · rw [List.filter_eq_self.mpr (fun _ _ => rfl)] at hu
        have s7x := s4.trans s7
        have s27 := ((same_new nT).trans s34).trans s7
        have eo7 := s27 _ _ eo
        have dv7 := dps_same (fixDs_map fix_p _) s27 dv
        have lv := dps_len dv7
        have lw := dps_len hu
        rw [drop_one (List.getElem?_eq_getElem hi2), show pairsOf (ms[i] :: ms.drop (i + 1)) = ((ms.drop (i + 1)).map fun y => (ms[i], y)) ++ pairsOf (ms.drop (i + 1)) from rfl, ← List.append_assoc] at eacc
        have tot := congrArg List.length eacc
        rw [List.length_append, List.length_append] at tot
        rw [List.length_map] at lv lw
        refine ⟨o, D, vs, us, rfl, rfl, eo7, hD, Nat.le_of_lt (small_line (by omega)), ?_⟩
        have k8 : Keeps H7 (upd H7 o (.lst (vs ++ us))) := keeps_upd_lst eo7
        refine ⟨_, _, vs ++ us, acc ++ ((ms.drop (i + 1)).map fun y => (ms[i], y)), rfl, same_write s7x no, upd_same, ?_, eacc⟩
        rw [List.map_append]
        exact dps_app (dps_keep k8 _ _ (fixDs_map fix_p _) dv7) (dps_keep k8 _ _ (fixDs_map fix_p _) hu)
    · rintro σ H2 ⟨v2, v3, vs, acc, rfl, s2, eo, dv, eacc⟩
      rw [List.length_map, List.drop_length, show pairsOf [] = [] from rfl, List.append_nil] at eacc
      subst eacc
      exact ⟨_, rfl, q o vs H2 s2 no eo dv⟩
abbrev s__law_hubs : Stmt := topS 54
theorem sc__law_hubs : FnScope ["_law_pairs_here", "_law_one", "_law_other", "_law_pair"] ["_law_pairs_here"] (defScope s__law_hubs) := ⟨rfl, rfl, rfl, by decide +kernel, rfl, by decide +kernel, by decide +kernel⟩
theorem ok__law_hubs (B : Bn mg) {f__law_hubs : Addr} {fd__law_hubs : FuncData} (D__law_hubs : Dd K mg "_law_hubs" s__law_hubs f__law_hubs fd__law_hubs ["_law_pairs_here"]) {f__law_members : Addr} {fd__law_members : FuncData} (D__law_members : Dd K mg "_law_members" s__law_members f__law_members fd__law_members ["_law_pairs_here"]) (G__law_members : FnOk P w K mg base CX0 1 f__law_members fd__law_members ["_law_pairs_here"] (spPL K fun ps => (mem ps).map PyData.int)) {f__law_all_pairs : Addr} {fd__law_all_pairs : FuncData} (D__law_all_pairs : Dd K mg "_law_all_pairs" s__law_all_pairs f__law_all_pairs fd__law_all_pairs ["_law_places"]) (G__law_all_pairs : FnOk P w K mg base CX0 1 f__law_all_pairs fd__law_all_pairs ["_law_places"] (spAllPairs K)) : FnOk P w K mg base CX0 2 f__law_hubs fd__law_hubs ["_law_pairs_here"] (spP K fun ps => optD pD (hubs ps)) := by
  refine D__law_hubs.F.ok sc__law_hubs (fun vs H Q E h => ?_) (fun cdv A outer s H vs Q E hr h => ?_)
  · obtain ⟨v, ps, rfl, _⟩ := h
    rfl
  · obtain ⟨v, ps, rfl, wf, hd, q⟩ := h
    obtain ⟨a, xs, rfl, ht, hx⟩ := ps_of hd
    refine ⟨_, (pss_cons (ps_for PassesOwn.never rfl (piL K (pe_call G__law_all_pairs (hr.mono (by decide)) (by rfl) D__law_all_pairs.m D__law_all_pairs.F.kp D__law_all_pairs.b .nil pass0 (pa_cons (pe_call G__law_members (hr.mono (by decide)) (by rfl) D__law_members.m D__law_members.F.kp D__law_members.b .nil pass0 (pa_cons (pv 0) pa_nil)) pa_nil))) (pgT K 2 (pgs_cons (pg_name (i := 1) sc__law_hubs.nd rfl (.inr rfl)) (pgs_cons (pg_name (i := 2) sc__law_hubs.nd rfl (.inr rfl)) pgs_nil))) (pss_one (ps_if (pt_val (pe_callB (cAll K) (by rfl) B.all (by decide +kernel) (pa_cons (pe_lc (own := [("_law_pair", 3)]) (by rfl) sc__law_hubs.nd (piT K (pv 0)) (blkOk_by (own := [("_law_pair", 3)]) (N := ["_law_pairs_here", "_law_one", "_law_other", "_law_pair"]) (sc := defScope s__law_hubs) (by decide +kernel)) (fun _ _ _ _ _ => by exact (pg_name (i := 3) sc__law_hubs.nd rfl (.inl rfl))) (fun _ _ _ _ _ => by exact pts_nil) (fun _ _ _ _ _ => by exact (pe_or (pe_cmpR (opIn K) (pv 1) (pv 3) (by rfl)) (pe_one (pe_cmpR (opIn K) (pv 2) (pv 3) (by rfl)))))) pa_nil))) (pss_one (ps_ret (pe_tup (pa_cons (pv 1) (pa_cons (pv 2) pa_nil))))) pss_nil)))
      (pss_one (ps_ret pe_non))), ?_⟩
    have l6 := wf.len
    refine ⟨_, rfl, _, ps, rfl, wf, hd, fun b vs H1 s1 nb eb db => ?_⟩
    rw [ints_of_dps db] at eb
    refine ⟨b, mem ps, rfl, .of eb, mem_len ps, fun m rs H2 s2 nm em dm => ?_⟩
    have s12 := s1.trans s2
    have lr : rs.length = (pairsOf (mem ps)).length := by rw [dps_len dm, List.length_map]
    refine ⟨m, rfl, ⟨_, .of em⟩, ?_⟩
    refine for_it (walk_list (a := m) (xs := rs)) (fun i σ H3 => ∃ v1 v2, σ = [some (.ref a), v1, v2, none] ∧ Same H H3 ∧ H3 m = some (.lst rs) ∧ DpAll K H3 rs ((pairsOf (mem ps)).map pD) ∧ hubs ps = ((pairsOf (mem ps)).drop i).find? (covers ps))
      ⟨none, none, rfl, s12, em, dm, rfl⟩ (fun i σ H2 _ ⟨_, _, _, _, e, _⟩ => .of e) ?_ ?_
    · rintro i x σ H3 H4 hi ⟨v1, v2, rfl, s3, em3, dm3, eh⟩ ⟨rfl, hxi⟩
      obtain ⟨p, hp, dp⟩ := enc_get dm3 hxi
      obtain ⟨b, rfl, tb⟩ := p_of dp
      rw [drop_one hp, List.find?_cons] at eh
      refine ⟨b, _, rfl, tb, rfl, _, _, rfl, _, _, rfl, rfl, ?_⟩
      refine ⟨_, rfl, a, rfl, ⟨_, seqT_same s3 ht⟩, fun D nD => ?_⟩
      refine lc_data (K := K) (enc := pD) (enc2 := PyData.bool) ps (fun _ => true) (fun r => inP p.1 r || inP p.2 r) walk_tup nD (dps_same (fixDs_map fix_p ps) s3 hx) fix_p (fun _ => by simp [fixD]) (fun H7 s7 => seqT_same (s3.trans s7) ht) (by omega) (fun n x r H7 Qt Qf hp s7 dx _ yes => ?_) (fun H7 ws s7 hD hw => ?_)
      · obtain ⟨b2, rfl, t2⟩ := p_of dx
        refine ⟨rfl, tyes ⟨_, rfl, _, rfl, in_pair t2 ⟨_, rfl, ?_⟩⟩⟩
        cases e : inP p.1 r with
        | true => exact iteT (yes rfl _ H7 (Same.refl _) (by rw [e]; exact .bl true))
        | false => exact iteF ⟨_, rfl, _, rfl, in_pair t2 (yes rfl _ H7 (Same.refl _) (by rw [e]; exact .bl _))⟩
      · rw [bls_of_dps hw] at hD
        have s7x := s3.trans s7
        have ec : (((ps.filter fun _ => true).map fun r => inP p.1 r || inP p.2 r).all id) = covers ps p := by
          rw [List.filter_eq_self.mpr (fun _ _ => rfl), List.all_map]
          rfl
        refine ⟨D, _, rfl, .of hD, _, rfl, ?_⟩
        rw [ec]
        cases e : covers ps p with
        | true =>
          rw [e] at eh
          refine iteT ⟨_, rfl, _, rfl, (by show 2 ≤ sizeLine; decide), fun T2 nT2 => ?_⟩
          refine q _ _ (s7x.trans (same_new nT2)) ?_
          show Dp K _ _ (optD pD (hubs ps))
          rw [eh]
          exact p_mk (p := p) (.of upd_same)
        | false =>
          rw [e] at eh
          exact iteF ⟨_, _, rfl, s7x, s7 _ _ em3, dps_same (fixDs_map fix_p _) s7 dm3, eh⟩
    · rintro σ H3 ⟨v1, v2, rfl, s3, em3, dm3, eh⟩
      refine q _ _ s3 ?_
      show Dp K _ _ (optD pD (hubs ps))
      rw [eh, lr, List.drop_length]
      exact .non
theorem row_ix (c0 c1 c2 c3 c4 : Int) : ∀ n : Nat, n < 5 → atI (([c0, c1, c2, c3, c4] : List Int).map V.int) ((n : Nat) : Int) = some (.int ([c0, c1, c2, c3, c4].getD n 0)) ∧ atI (([c0, c1, c2, c3, c4] : List Int).map V.int) ((n : Nat) - 1 : Int) = some (.int ([c0, c1, c2, c3, c4].getD ((n + 4) % 5) 0))
  | 0, _ => ⟨rfl, rfl⟩
  | 1, _ => ⟨rfl, rfl⟩
  | 2, _ => ⟨rfl, rfl⟩
  | 3, _ => ⟨rfl, rfl⟩
  | 4, _ => ⟨rfl, rfl⟩
  | n + 5, h => absurd h (by omega)
abbrev s__law_ring : Stmt := topS 55
theorem sc__law_ring : FnScope ["_law_pairs_here", "_law_members_here", "_law_rows", "_law_turn", "_law_late", "_law_row", "_law_ties", "_law_place", "_law_at", "_law_pair"] ["_law_pairs_here"] (defScope s__law_ring) := ⟨rfl, rfl, rfl, by decide +kernel, rfl, by decide +kernel, by decide +kernel⟩
theorem ok__law_ring (B : Bn mg) {f__law_ring : Addr} {fd__law_ring : FuncData} (D__law_ring : Dd K mg "_law_ring" s__law_ring f__law_ring fd__law_ring ["_law_pairs_here"]) {f__law_members : Addr} {fd__law_members : FuncData} (D__law_members : Dd K mg "_law_members" s__law_members f__law_members fd__law_members ["_law_pairs_here"]) (G__law_members : FnOk P w K mg base CX0 1 f__law_members fd__law_members ["_law_pairs_here"] (spPL K fun ps => (mem ps).map PyData.int)) : FnOk P w K mg base CX0 2 f__law_ring fd__law_ring ["_law_pairs_here"] (spP K fun ps => optD rowD (ringOf ps)) := by
  refine D__law_ring.F.ok sc__law_ring (fun vs H Q E h => ?_) (fun cdv A outer s H vs Q E hr h => ?_)
  · obtain ⟨v, ps, rfl, _⟩ := h
    rfl
  · obtain ⟨v, ps, rfl, wf, hd, q⟩ := h
    refine ⟨_, (pss_cons (ps_set (i := 1) sc__law_ring.nd rfl (.inl rfl) (pe_call G__law_members (hr.mono (by decide)) (by rfl) D__law_members.m D__law_members.F.kp D__law_members.b .nil pass0 (pa_cons (pv 0) pa_nil)))
      (pss_cons (ps_if (pt_cmpR op_ne (pe_callB (cLen K) (by rfl) B.len (by decide +kernel) (pa_cons (pv 1) pa_nil)) pe_int (nomark _)) (pss_one (ps_ret pe_non)) pss_nil)
      (pss_cons (ps_set (i := 2) sc__law_ring.nd rfl (.inl rfl) (pe_lst (pa_cons (pe_tup (pa_cons (pe_ix (ixL K) (pv 1) pe_int (fun _ _ => rfl)) pa_nil)) pa_nil)))
      (pss_cons (ps_for PassesOwn.never rfl (pi_range1 (by rfl) B.range (pa_cons pe_int pa_nil)) (pg_name (i := 3) sc__law_ring.nd rfl (.inl rfl)) (pss_cons (ps_set (i := 4) sc__law_ring.nd rfl (.inl rfl) (pe_lst pa_nil))
      (pss_cons (ps_for PassesOwn.never rfl (piL K (pv 2)) (pg_name (i := 5) sc__law_ring.nd rfl (.inr rfl)) (pss_one (ps_expr (pe_bm PySem.F.plainAttrs_list PySem.F.slot_list_extend PySem.F.type_list_extend mt_extend (pv 4) (pa_cons (pe_lc (own := [("_law_place", 7)]) (by rfl) sc__law_ring.nd (piL K (pv 1)) (blkOk_by (own := [("_law_place", 7)]) (N := ["_law_pairs_here", "_law_members_here", "_law_rows", "_law_turn", "_law_late", "_law_row", "_law_ties", "_law_place", "_law_at", "_law_pair"]) (sc := defScope s__law_ring) (by decide +kernel)) (fun _ _ _ _ _ => by exact (pg_name (i := 7) sc__law_ring.nd rfl (.inl rfl))) (fun _ _ _ _ _ => by exact pts_one (pt_cmpR (opNotIn K) (pv 7) (pv 5) (by rfl))) (fun _ _ _ _ _ => by exact (pe_op (opCat K) (pv 5) (pe_tup (pa_cons (pv 7) pa_nil))))) pa_nil)))))
      (pss_one (ps_set (i := 2) sc__law_ring.nd rfl (.inl rfl) (pv 4))))))
      (pss_cons (ps_for PassesOwn.never rfl (piL K (pv 2)) (pg_name (i := 5) sc__law_ring.nd rfl (.inr rfl)) (pss_cons (ps_set (i := 6) sc__law_ring.nd rfl (.inr rfl) (pe_lc (own := [("_law_at", 8)]) (by rfl) sc__law_ring.nd (pi_range1 (by rfl) B.range (pa_cons pe_int pa_nil)) (blkOk_by (own := [("_law_at", 8)]) (N := ["_law_pairs_here", "_law_members_here", "_law_rows", "_law_turn", "_law_late", "_law_row", "_law_ties", "_law_place", "_law_at", "_law_pair"]) (sc := defScope s__law_ring) (by decide +kernel)) (fun _ _ _ _ _ => by exact (pg_name (i := 8) sc__law_ring.nd rfl (.inl rfl))) (fun _ _ _ _ _ => by exact pts_nil) (fun _ _ _ _ _ => by exact (pe_callTy (cTuple K) (by rfl) B.tuple (by decide +kernel) (pa_cons (pe_callB (cSorted K) (by rfl) B.sorted (by decide +kernel) (pa_cons (pe_lst (pa_cons (pe_ix (ixT K) (pv 5) (pv 8) (fun _ _ => rfl)) (pa_cons (pe_ix (ixT K) (pv 5) (pe_op op_sub (pv 8) pe_int) (fun _ _ => rfl)) pa_nil))) pa_nil)) pa_nil)))))
      (pss_one (ps_if (PW.pt (pw_and (pt_cmpR op_lt (pe_ix (ixT K) (pv 5) pe_int (fun _ _ => rfl)) (pe_ix (ixT K) (pv 5) pe_int (fun _ _ => rfl)) (nomark _)) (pw_and1 (pt_val (pe_callB (cAll K) (by rfl) B.all (by decide +kernel) (pa_cons (pe_lc (own := [("_law_pair", 9)]) (by rfl) sc__law_ring.nd (piT K (pv 0)) (blkOk_by (own := [("_law_pair", 9)]) (N := ["_law_pairs_here", "_law_members_here", "_law_rows", "_law_turn", "_law_late", "_law_row", "_law_ties", "_law_place", "_law_at", "_law_pair"]) (sc := defScope s__law_ring) (by decide +kernel)) (fun _ _ _ _ _ => by exact (pg_name (i := 9) sc__law_ring.nd rfl (.inl rfl))) (fun _ _ _ _ _ => by exact pts_nil) (fun _ _ _ _ _ => by exact (pe_cmpR (opInD K (by exact hu65 hr)) (pv 9) (pv 6) (by rfl)))) pa_nil)))))) (pss_one (ps_ret (pv 5))) pss_nil))))
      (pss_one (ps_ret pe_non))))))), ?_⟩
    have l6 := wf.len
    refine ⟨_, rfl, _, ps, rfl, wf, hd, fun b vs H1 s1 nb eb db => ?_⟩
    rw [ints_of_dps db] at eb
    have mb : ∀ {H2 : Hp}, Same H1 H2 → SqL K H2 b ((mem ps).map V.int) := fun s => s.seq (.of eb)
    have hd1 := dp_same (fix_ps ps) s1 hd
    refine ⟨_, rfl, b, _, rfl, .inl (.of eb), rfl, _, rfl, ?_⟩
    have el : (((mem ps).map V.int).length : Int) = ((mem ps).length : Nat) := by rw [List.length_map]
    by_cases h5 : (mem ps).length = 5
    · rw [show decide (V.int (((mem ps).map V.int).length : Nat) = V.int 5) = true from decide_eq_true (by rw [List.length_map, h5]; rfl)]
      refine iteF ?_
      have hne : mem ps ≠ [] := fun e => by rw [e] at h5; cases h5
      have g0 : ((mem ps).map V.int)[0]? = some (.int ((mem ps).headD 0)) := by
        cases e : mem ps with
        | nil => exact absurd e hne
        | cons x l => rfl
      refine ⟨_, rfl, b, _, 0, _, rfl, rfl, .of eb, atI_nat (j := 0) g0, (by show 1 ≤ sizeLine; decide), fun T nT => ⟨(by show 1 ≤ sizeLine; decide), fun L nL => ?_⟩⟩
      have s2 := (same_new (o := .tup [.int ((mem ps).headD 0)]) nT).trans (same_new (o := .lst [.ref T]) nL)
      have d0 : DpAll K (upd (upd H1 T (.tup [.int ((mem ps).headD 0)])) L (.lst [.ref T])) [.ref T] ((growN (mem ps) 0 [[(mem ps).headD 0]]).map rowD) :=
        .cons (row_mk (r := [(mem ps).headD 0]) (.of (by rw [upd_ne (ne_of_none upd_same nL), upd_same]; rfl))) .nil
      have h8 := mem_len ps
      refine ⟨4, rfl, by decide, by decide, ?_⟩
      refine for_it (walk_range (lo := 0) (n := 4)) (fun i σ H2 => ∃ v3 v4 v5 L vs, σ = [some v, some (.ref b), some (.ref L), v3, v4, v5, none, none, none, none] ∧ Same H1 H2 ∧ H1 L = none ∧ H2 L = some (.lst vs) ∧ DpAll K H2 vs ((growN (mem ps) i [[(mem ps).headD 0]]).map rowD))
        ⟨none, none, none, L, [.ref T], rfl, s2, (same_new nT).free nL, upd_same, d0⟩ (fun _ _ _ _ _ => trivial) ?_ ?_
      · rintro i x σ H2 H3 hi ⟨v3, v4, v5, L, vs, rfl, s2, nL, eL, dL⟩ ⟨rfl, rfl⟩
        refine ⟨Nat.zero_le _, fun D nD => ?_⟩
        have nD1 : H1 D = none := s2.free nD
        have lne : L ≠ D := ne_of_none eL nD
        have s3 := s2.trans (same_new (o := .lst []) nD)
        have lvs : vs.length = (growN (mem ps) i [[(mem ps).headD 0]]).length := by rw [dps_len dL, List.length_map]
        have big := growN_len (ms := mem ps) h8 i [[(mem ps).headD 0]]
        have rowl := growN_row (ms := mem ps) (rows := [[(mem ps).headD 0]]) (k := 1) (fun r hr => by rw [List.mem_singleton.mp hr]; rfl) i
        have pw : 8 ^ i ≤ 8 ^ 4 := Nat.pow_le_pow_right (by decide) (by omega)
        have p4 : (8 : Nat) ^ 4 = 4096 := by decide
        simp only [List.length_cons, List.length_nil] at big
        refine ⟨_, rfl, L, rfl, ⟨_, .of (by rw [upd_ne lne]; exact eL)⟩, ?_⟩
        refine for_it (walk_list (a := L) (xs := vs)) (fun j σ H5 => ∃ v5 ws, σ = [some v, some (.ref b), some (.ref L), some (.int (0 + (i : Int))), some (.ref D), v5, none, none, none, none] ∧ Same H1 H5 ∧ H5 L = some (.lst vs) ∧ DpAll K H5 vs ((growN (mem ps) i [[(mem ps).headD 0]]).map rowD) ∧
            H5 D = some (.lst ws) ∧ DpAll K H5 ws ((((growN (mem ps) i [[(mem ps).headD 0]]).take j).flatMap (grow1 (mem ps))).map rowD))
          ⟨v5, [], rfl, s3, by rw [upd_ne lne]; exact eL, dps_same (fixDs_map fix_row _) (same_new nD) dL, upd_same, .nil⟩ (fun j σ H5 _ ⟨_, _, _, _, e, _⟩ => .of e) ?_ ?_
        · rintro j y σ H5 H6 hj ⟨v5, ws, rfl, s5, e5, d5, eD, dD⟩ ⟨rfl, hy⟩
          obtain ⟨r, hr2, dr⟩ := enc_get d5 hy
          obtain ⟨a, rfl, ta⟩ := row_of dr
          have rl := rowl r (List.mem_of_getElem? hr2)
          refine ⟨_, rfl, .inl ⟨rfl, _, .of eD⟩, ?_⟩
          refine ⟨_, rfl, b, rfl, ⟨_, mb s5⟩, fun F nF => ?_⟩
          refine lc_data (K := K) (enc := PyData.int) (enc2 := rowD) (mem ps) (fun m => !r.contains m) (fun m => r ++ [m]) walk_list nF (dps_ints (mem ps)) (fun _ => by simp [fixD]) fix_row (fun H7 s7 => mb (s5.trans s7)) (by omega) (fun n x m H7 Qt Qf hm2 s7 dx no2 yes => ?_) (fun H7 us s7 hF dp => ?_)
          · cases dx
            refine ⟨rfl, _, rfl, _, rfl, notin_row (seqT_same s7 ta) ⟨_, rfl, ?_⟩⟩
            cases e : (!r.contains m) with
            | false => exact iteF (no2 e H7 (Same.refl _))
            | true =>
              refine iteT ⟨_, rfl, _, rfl, (by show 1 ≤ sizeLine; decide), fun T nT => ?_⟩
              have s3 := s7.trans (same_new (o := .tup [V.int m]) nT)
              refine ⟨a, T, r.map V.int, [V.int m], rfl, rfl, seqT_same s3 ta, .of upd_same, ?_, fun e0 => ?_, fun _ e0 => (by cases e0), fun _ _ U nU => ?_⟩
              · rw [List.length_map]
                exact Nat.le_of_lt (small_line (by simp only [List.length_cons, List.length_nil]; omega))
              · have er : r = [] := List.map_eq_nil_iff.mp e0
                subst er
                rw [List.length_nil] at rl
                omega
              · refine yes e _ _ ((same_new nT).trans (same_new nU)) (row_mk (r := r ++ [m]) (.of ?_))
                rw [upd_same, List.map_append]
                rfl
          · replace dp : DpAll K H7 us ((grow1 (mem ps) r).map rowD) := dp
            have lw := dps_len dD
            have lu := dps_len dp
            have gtk : (growN (mem ps) i [[(mem ps).headD 0]]).take (j + 1) = (growN (mem ps) i [[(mem ps).headD 0]]).take j ++ [r] := take_one hr2
            have fl : (((growN (mem ps) i [[(mem ps).headD 0]]).take j).flatMap (grow1 (mem ps))).length ≤ (growN (mem ps) i [[(mem ps).headD 0]]).length * 8 := by
              have h1 := flat_len (f := grow1 (mem ps)) (n := 8) (l := (growN (mem ps) i [[(mem ps).headD 0]]).take j) fun a _ => by
                unfold grow1
                rw [List.length_map]
                exact Nat.le_trans (List.length_filter_le _ _) h8
              have h2 : ((growN (mem ps) i [[(mem ps).headD 0]]).take j).length ≤ (growN (mem ps) i [[(mem ps).headD 0]]).length := by
                rw [List.length_take]
                exact Nat.min_le_right _ _
              exact Nat.le_trans h1 (Nat.mul_le_mul_right 8 h2)
            have ul : us.length ≤ 8 := by
              rw [lu, List.length_map]
              unfold grow1
              rw [List.length_map]
              exact Nat.le_trans (List.length_filter_le _ _) h8
            rw [List.length_map] at lw
            have k8 : Keeps H7 (upd H7 D (.lst (ws ++ us))) := keeps_upd_lst (s7 _ _ eD)
            refine ⟨D, F, ws, us, rfl, rfl, s7 _ _ eD, hF, Nat.le_of_lt (small_line (by omega)), ?_⟩
            refine ⟨_, ws ++ us, rfl, same_write (s5.trans s7) nD1, by rw [upd_ne lne]; exact s7 _ _ e5, dps_keep k8 _ _ (fixDs_map fix_row _) (dps_same (fixDs_map fix_row _) s7 d5), upd_same, ?_⟩
            rw [gtk, List.flatMap_append, List.flatMap_cons, List.flatMap_nil, List.append_nil, List.map_append]
            exact dps_app (dps_keep k8 _ _ (fixDs_map fix_row _) (dps_same (fixDs_map fix_row _) s7 dD)) (dps_keep k8 _ _ (fixDs_map fix_row _) dp)
        · rintro σ H5 ⟨v5, ws, rfl, s5, e5, d5, eD, dD⟩
          refine ⟨_, rfl, _, _, _, D, ws, rfl, s5, nD1, eD, ?_⟩
          rw [lvs, List.take_length] at dD
          exact dD
      · rintro σ H2 ⟨v3, v4, v5, L, vs, rfl, s2, nL, eL, dL⟩
        replace dL : DpAll K H2 vs ((rowsOf (mem ps)).map rowD) := dL
        refine ⟨_, rfl, L, rfl, ⟨_, .of eL⟩, ?_⟩
        have lvs : vs.length = (rowsOf (mem ps)).length := by rw [dps_len dL, List.length_map]
        have er := (law_ringOf wf h5).symm
        refine for_it (walk_list (a := L) (xs := vs)) (fun j σ H5 => ∃ v5 v6, σ = [some v, some (.ref b), some (.ref L), v3, v4, v5, v6, none, none, none] ∧ Same H1 H5 ∧ H5 L = some (.lst vs) ∧ DpAll K H5 vs ((rowsOf (mem ps)).map rowD) ∧ ringOf ps = ((rowsOf (mem ps)).drop j).find? fun r => goesOn r && lawIsRing r ps)
          ⟨v5, none, rfl, s2, eL, dL, er⟩ (fun j σ H5 _ ⟨_, _, _, _, e, _⟩ => .of e) ?_ ?_
        · rintro j y σ H5 H6 hj ⟨v5, v6, rfl, s5, e5, d5, ef⟩ ⟨rfl, hy⟩
          obtain ⟨r, hr2, dr⟩ := enc_get d5 hy
          obtain ⟨c1, c2, c3, c4, rfl, nd, hm⟩ := of_mem_rows (head_mem hne) (List.mem_of_getElem? hr2)
          obtain ⟨a, rfl, ta⟩ := row_of dr
          generalize hc0 : (mem ps).headD 0 = c0 at *
          rw [drop_one hr2, List.find?_cons] at ef
          -- ties
          refine ⟨5, rfl, by decide, by decide, fun D nD => ?_⟩
          refine lc_data (K := K) (enc := PyData.int) (enc2 := pD) (upTo 0 5) (fun _ => true) (fun i => tieAt [c0, c1, c2, c3, c4] i.toNat) (walk_upTo 0 5) nD (dps_ints _) (fun _ => by simp [fixD]) fix_p (fun _ _ => trivial) (by rw [upTo_len]; decide) (fun n x m H7 Qt Qf hm2 s7 dx _ yes => ?_) (fun H7 ts s7 hD dt => ?_)
          · have hn : n < 5 := by
              have := (List.getElem?_eq_some_iff.mp hm2).1
              rw [upTo_len] at this
              exact this
            rw [upTo_get hn] at hm2
            have em : m = (n : Nat) := by
              have := Option.some.inj hm2
              omega
            subst em
            cases dx
            have ri := row_ix c0 c1 c2 c3 c4 n hn
            have t7 := seqT_same s7 ta
            refine ⟨rfl, tyes ?_⟩
            refine ⟨_, rfl, _, rfl, a, _, _, _, rfl, rfl, t7, ri.1, ?_⟩
            refine ⟨_, rfl, _, rfl, _, _, rfl, rfl, a, _, _, _, rfl, rfl, t7, ri.2, (by show 2 ≤ sizeLine; decide), fun G nG => ?_⟩
            refine ⟨G, [_, _], rfl, .of upd_same, (by show 2 < 64; decide), fun ns p pm sr np => ?_⟩
            have es := srt_two pm sr
            refine ⟨p, _, rfl, .inl ⟨.of upd_same, fun U nU => ?_⟩⟩
            refine yes rfl _ _ (((same_new nG).trans (same_new np)).trans (same_new nU)) (p_mk (.of ?_))
            rw [upd_same, es]
            rfl
          · replace dt : DpAll K H7 ts ((lawTies [c0, c1, c2, c3, c4]).map pD) := dt
            have s57 := s5.trans s7
            refine ⟨_, rfl, _, _, 1, _, rfl, rfl, seqT_same s7 ta, atI_nat (j := 1) rfl, _, rfl, _, _, 4, _, rfl, rfl, seqT_same s7 ta, atI_nat (j := 4) rfl, _, _, rfl, rfl, _, rfl, ?_⟩
            cases e1 : decide (c1 < c4) with
            | true =>
              have eg : goesOn [c0, c1, c2, c3, c4] = true := e1
              rw [eg, Bool.true_and] at ef
              obtain ⟨pa, px, rfl, tp, dpx⟩ := ps_of hd1
              refine iteT ⟨_, rfl, pa, rfl, ⟨_, seqT_same s57 tp⟩, fun F nF => ?_⟩
              refine lc_data (K := K) (enc := pD) (enc2 := PyData.bool) ps (fun _ => true) (fun p => (lawTies [c0, c1, c2, c3, c4]).contains p) walk_tup nF (dps_same (fixDs_map fix_p ps) s57 dpx) fix_p (fun _ => by simp [fixD]) (fun H8 s8 => seqT_same (s57.trans s8) tp) (by omega) (fun n x p H8 Qt Qf hp2 s8 dx _ yes => ?_) (fun H8 ws s8 hF hw => ?_)
              · refine ⟨rfl, tyes ⟨_, rfl, _, rfl, pD p, (lawTies [c0, c1, c2, c3, c4]).map pD, dx, .lst (.of (s8 _ _ hD)) (dps_same (fixDs_map fix_p _) s8 dt), shape_p _, shape_pl _, ?_⟩⟩
                rw [any_p]
                exact yes rfl _ _ (Same.refl _) (.bl _)
              · rw [bls_of_dps hw] at hF
                have ec : (((ps.filter fun _ => true).map fun p => (lawTies [c0, c1, c2, c3, c4]).contains p).all id) = lawIsRing [c0, c1, c2, c3, c4] ps := by
                  rw [List.filter_eq_self.mpr (fun _ _ => rfl), List.all_map]
                  rfl
                have s78 := s7.trans s8
                refine ⟨F, _, rfl, .of hF, _, rfl, ?_⟩
                rw [ec]
                cases e2 : lawIsRing [c0, c1, c2, c3, c4] ps with
                | true =>
                  rw [e2] at ef
                  refine iteT ⟨_, rfl, q _ _ ((s1.trans s5).trans s78) ?_⟩
                  show Dp K _ _ (optD rowD (ringOf ps))
                  rw [ef]
                  exact dp_same (fix_row _) s78 dr
                | false =>
                  rw [e2] at ef
                  exact iteF ⟨_, _, rfl, s57.trans s8, s78 _ _ e5, dps_same (fixDs_map fix_row _) s78 d5, ef⟩
            | false =>
              have eg : goesOn [c0, c1, c2, c3, c4] = false := e1
              rw [eg, Bool.false_and] at ef
              exact iteF (iteF ⟨_, _, rfl, s57, s7 _ _ e5, dps_same (fixDs_map fix_row _) s7 d5, ef⟩)
        · rintro σ H5 ⟨v5, v6, rfl, s5, e5, d5, ef⟩
          refine q _ _ (s1.trans s5) ?_
          show Dp K _ _ (optD rowD (ringOf ps))
          rw [ef, lvs, List.drop_length]
          exact .non
    · rw [show decide (V.int (((mem ps).map V.int).length : Nat) = V.int 5) = false from decide_eq_false (fun e => by injection e with e; omega)]
      refine iteT (q _ _ s1 ?_)
      show Dp K _ _ (optD rowD (ringOf ps))
      unfold ringOf
      rw [if_neg h5]
      exact .non
abbrev s__law_kind : Stmt := topS 56
theorem sc__law_kind : FnScope ["_law_pairs_here"] ["_law_pairs_here"] (defScope s__law_kind) := ⟨rfl, rfl, rfl, by decide +kernel, rfl, by decide +kernel, by decide +kernel⟩
theorem ok__law_kind (B : Bn mg) {f__law_kind : Addr} {fd__law_kind : FuncData} (D__law_kind : Dd K mg "_law_kind" s__law_kind f__law_kind fd__law_kind ["_law_pairs_here"]) {f__law_hubs : Addr} {fd__law_hubs : FuncData} (D__law_hubs : Dd K mg "_law_hubs" s__law_hubs f__law_hubs fd__law_hubs ["_law_pairs_here"]) (G__law_hubs : FnOk P w K mg base CX0 2 f__law_hubs fd__law_hubs ["_law_pairs_here"] (spP K fun ps => optD pD (hubs ps))) {f__law_members : Addr} {fd__law_members : FuncData} (D__law_members : Dd K mg "_law_members" s__law_members f__law_members fd__law_members ["_law_pairs_here"]) (G__law_members : FnOk P w K mg base CX0 1 f__law_members fd__law_members ["_law_pairs_here"] (spPL K fun ps => (mem ps).map PyData.int)) {f__law_ring : Addr} {fd__law_ring : FuncData} (D__law_ring : Dd K mg "_law_ring" s__law_ring f__law_ring fd__law_ring ["_law_pairs_here"]) (G__law_ring : FnOk P w K mg base CX0 2 f__law_ring fd__law_ring ["_law_pairs_here"] (spP K fun ps => optD rowD (ringOf ps)))
    {f__law_apart : Addr} {fd__law_apart : FuncData} (D__law_apart : Dd K mg "_law_apart" s__law_apart f__law_apart fd__law_apart ["_law_pairs_here"]) (G__law_apart : FnOk P w K mg base CX0 2 f__law_apart fd__law_apart ["_law_pairs_here"] (spPL K fun ps => (apart3 ps).map t3D)) {f__law_besides : Addr} {fd__law_besides : FuncData} (D__law_besides : Dd K mg "_law_besides" s__law_besides f__law_besides fd__law_besides ["_law_pairs_here"]) (G__law_besides : FnOk P w K mg base CX0 2 f__law_besides fd__law_besides ["_law_pairs_here"] (spPL K fun ps => (beside ps).map bsD)) : FnOk P w K mg base CX0 3 f__law_kind fd__law_kind ["_law_pairs_here"] (spP K kindD) := by
  refine D__law_kind.F.ok sc__law_kind (fun vs H Q E h => ?_) (fun cdv A outer s H vs Q E hr h => ?_)
  · obtain ⟨v, ps, rfl, _⟩ := h
    rfl
  · obtain ⟨v, ps, rfl, wf, hd, q⟩ := h
    refine ⟨_, (pss_cons (ps_if (pt_cmpR op_notN (pe_call G__law_hubs (hr.mono (by decide)) (by rfl) D__law_hubs.m D__law_hubs.F.kp D__law_hubs.b .nil pass0 (pa_cons (pv 0) pa_nil)) pe_non (nomark _)) (pss_one (ps_ret (pe_tup (pa_cons pe_str (pa_cons (pe_call G__law_hubs (hr.mono (by decide)) (by rfl) D__law_hubs.m D__law_hubs.F.kp D__law_hubs.b .nil pass0 (pa_cons (pv 0) pa_nil)) pa_nil))))) pss_nil)
      (pss_cons (ps_if (pt_cmpR op_le (pe_callB (cLen K) (by rfl) B.len (by decide +kernel) (pa_cons (pe_call G__law_members (hr.mono (by decide)) (by rfl) D__law_members.m D__law_members.F.kp D__law_members.b .nil pass0 (pa_cons (pv 0) pa_nil)) pa_nil)) pe_int (nomark _)) (pss_one (ps_ret (pe_tup (pa_cons pe_str (pa_cons (pe_callTy (cTuple K) (by rfl) B.tuple (by decide +kernel) (pa_cons (pe_call G__law_members (hr.mono (by decide)) (by rfl) D__law_members.m D__law_members.F.kp D__law_members.b .nil pass0 (pa_cons (pv 0) pa_nil)) pa_nil)) pa_nil))))) pss_nil)
      (pss_cons (ps_if (pt_cmpR op_notN (pe_call G__law_ring (hr.mono (by decide)) (by rfl) D__law_ring.m D__law_ring.F.kp D__law_ring.b .nil pass0 (pa_cons (pv 0) pa_nil)) pe_non (nomark _)) (pss_one (ps_ret (pe_tup (pa_cons pe_str (pa_cons (pe_call G__law_ring (hr.mono (by decide)) (by rfl) D__law_ring.m D__law_ring.F.kp D__law_ring.b .nil pass0 (pa_cons (pv 0) pa_nil)) pa_nil))))) pss_nil)
      (pss_cons (ps_if (pt_cmpR (opNeD K (by exact hr.units)) (pe_call G__law_apart (hr.mono (by decide)) (by rfl) D__law_apart.m D__law_apart.F.kp D__law_apart.b .nil pass0 (pa_cons (pv 0) pa_nil)) (pe_lst pa_nil) (nomark _)) (pss_one (ps_ret (pe_tup (pa_cons pe_str (pa_cons (pe_ix (ixL K) (pe_call G__law_apart (hr.mono (by decide)) (by rfl) D__law_apart.m D__law_apart.F.kp D__law_apart.b .nil pass0 (pa_cons (pv 0) pa_nil)) pe_int (fun _ _ => rfl)) pa_nil))))) pss_nil)
      (pss_one (ps_ret (pe_op (opCat K) (pe_tup (pa_cons pe_str pa_nil)) (pe_ix (ixL K) (pe_call G__law_besides (hr.mono (by decide)) (by rfl) D__law_besides.m D__law_besides.F.kp D__law_besides.b .nil pass0 (pa_cons (pv 0) pa_nil)) pe_int (fun _ _ => rfl))))))))), ?_⟩
    have hdx : ∀ {H2 : Hp}, Same H H2 → Dp K H2 v (psD ps) := fun s => dp_same (fix_ps ps) s hd
    refine ⟨_, rfl, v, ps, rfl, wf, hd, fun u1 H1 s1 d1 => ?_⟩
    refine ⟨rfl, _, rfl, ?_⟩
    rw [non_opt tupl_p d1]
    cases e1 : hubs ps with
    | some h =>
      refine iteT ⟨_, rfl, v, ps, rfl, wf, hdx s1, fun u2 H2 s2 d2 => ?_⟩
      refine ⟨(by show 2 ≤ sizeLine; decide), fun U nU => ?_⟩
      replace d2 : Dp K H2 u2 (optD pD (hubs ps)) := d2
      rw [e1] at d2
      have s6 := same_new (H := H2) (o := .tup [.str "hubs", u2]) nU
      refine q _ _ ((s1.trans s2).trans s6) ?_
      unfold kindD
      rw [e1]
      exact .tup (.of upd_same) (.cons (.str _) (.cons (dp_same (fix_p h) s6 d2) .nil))
    | none =>
      refine iteF ?_
      refine ⟨_, rfl, v, ps, rfl, wf, hdx s1, fun b vs H2 s2 nb eb db => ?_⟩
      rw [ints_of_dps db] at eb
      have s12 := s1.trans s2
      refine ⟨b, _, rfl, .inl (.of eb), _, 4, rfl, rfl, _, rfl, ?_⟩
      have el : (((mem ps).map V.int).length : Int) = ((mem ps).length : Nat) := by rw [List.length_map]
      by_cases h4 : (mem ps).length ≤ 4
      · rw [show decide ((((mem ps).map V.int).length : Int) ≤ 4) = true from decide_eq_true (by omega)]
        refine iteT ⟨_, rfl, v, ps, rfl, wf, hdx s12, fun b vs H3 s3 nb eb db => ?_⟩
        rw [ints_of_dps db] at eb
        refine ⟨b, _, rfl, .inl ⟨.of eb, fun l nl => ?_⟩⟩
        refine ⟨(by show 2 ≤ sizeLine; decide), fun U nU => ?_⟩
        refine q _ _ ((s12.trans s3).trans ((same_new nl).trans (same_new nU))) ?_
        unfold kindD
        rw [e1]
        simp only
        rw [if_pos h4]
        refine .tup (.of upd_same) (.cons (.str _) (.cons (dp_same (fix_row _) (same_new nU) (row_mk (.of upd_same))) .nil))
      · rw [show decide ((((mem ps).map V.int).length : Int) ≤ 4) = false from decide_eq_false (by omega)]
        refine iteF ?_
        refine ⟨_, rfl, v, ps, rfl, wf, hdx s12, fun u3 H3 s3 d3 => ?_⟩
        have s13 := s12.trans s3
        refine ⟨rfl, _, rfl, ?_⟩
        rw [non_opt tup_row d3]
        cases e2 : ringOf ps with
        | some r =>
          refine iteT ⟨_, rfl, v, ps, rfl, wf, hdx s13, fun u4 H4 s4 d4 => ?_⟩
          refine ⟨(by show 2 ≤ sizeLine; decide), fun U nU => ?_⟩
          replace d4 : Dp K H4 u4 (optD rowD (ringOf ps)) := d4
          rw [e2] at d4
          have s6 := same_new (H := H4) (o := .tup [.str "ring", u4]) nU
          refine q _ _ ((s13.trans s4).trans s6) ?_
          unfold kindD
          rw [e1]
          simp only
          rw [if_neg h4, e2]
          exact .tup (.of upd_same) (.cons (.str _) (.cons (dp_same (fix_row r) s6 d4) .nil))
        | none =>
          have kd : kindD ps = match apart3 ps with
              | t :: _ => .tuple [.str "apart", t3D t]
              | [] =>
                match beside ps with
                | b :: _ => .tuple [.str "beside", r3D b.1, pD b.2]
                | [] => .none := by
            unfold kindD
            rw [e1]
            simp only
            rw [if_neg h4, e2]
            all_goals rfl
          refine iteF ⟨_, rfl, v, ps, rfl, wf, hdx s13, fun o as H4 s4 no eo da => ?_⟩
          have s14 := s13.trans s4
          refine ⟨Nat.zero_le _, fun N nN => ?_⟩
          have s5 := same_new (H := H4) (o := .lst []) nN
          have s15 := s14.trans s5
          refine ⟨.list ((apart3 ps).map t3D), .list [], .lst (.of (s5 _ _ eo)) (dps_same (fixDs_map fix_t3 _) s5 da), .lst (.of upd_same) .nil, shape_l lay_t3 (fun t => Nat.le_of_eq (depth_t3 t)) (by decide) _, by decide, _, rfl, ?_⟩
          rw [eqv_empty]
          cases e3 : apart3 ps with
          | cons t l =>
            rw [e3] at kd
            refine iteT ⟨_, rfl, v, ps, rfl, wf, hdx s15, fun o as H6 s6 no eo da => ?_⟩
            replace da : DpAll K H6 as ((apart3 ps).map t3D) := da
            rw [e3] at da
            obtain ⟨x, hx0, dx⟩ := enc_at (l := t :: l) (i := 0) da rfl
            refine ⟨o, _, 0, x, rfl, rfl, .of eo, atI_nat (j := 0) hx0, (by show 2 ≤ sizeLine; decide), fun U nU => ?_⟩
            refine q _ _ ((s15.trans s6).trans (same_new nU)) ?_
            rw [kd]
            exact .tup (.of upd_same) (.cons (.str _) (.cons (dp_same (fix_t3 t) (same_new nU) dx) .nil))
          | nil =>
            rw [e3] at kd
            refine iteF ⟨(by show 1 ≤ sizeLine; decide), fun U nU => ?_⟩
            have s7 := same_new (o := .tup [.str "beside"]) nU
            refine ⟨_, rfl, v, ps, rfl, wf, hdx (s15.trans s7), fun c bs H8 s8 nc ec dc => ?_⟩
            cases e4 : beside ps with
            | nil =>
              have g := good_iff wf
              unfold goodB noBad at g
              rw [e1, e2, e3, e4, decide_eq_false h4] at g
              cases g
            | cons t l =>
              replace dc : DpAll K H8 bs ((beside ps).map bsD) := dc
              rw [e4] at dc kd
              obtain ⟨x, hx0, dx⟩ := enc_at (l := t :: l) (i := 0) dc rfl
              refine ⟨c, _, 0, x, rfl, rfl, .of ec, atI_nat (j := 0) hx0, ?_⟩
              obtain ⟨z, zs, rfl, tz, dz⟩ := tup_of dx
              cases dz with
              | cons dz1 dz2 =>
              cases dz2 with
              | cons dz2 dz3 =>
              cases dz3
              refine ⟨U, z, _, _, rfl, rfl, .of (s8 _ _ upd_same), tz, (by show 1 + 2 ≤ sizeLine; decide), fun e => (by cases e), fun _ e => (by cases e), fun _ _ W nW => ?_⟩
              refine q _ _ ((s15.trans s7).trans (s8.trans (same_new nW))) ?_
              rw [kd]
              exact .tup (.of upd_same) (.cons (.str _) (.cons (dp_same (fix_r3 _) (same_new nW) dz1) (.cons (dp_same (fix_p _) (same_new nW) dz2) .nil)))
end
end Kd

set_option Elab.async false
set_option linter.all false
set_option maxRecDepth 100000
set_option maxHeartbeats 4000000
namespace Kd
open PySem PySem.Spec PyProof.Rows L2
/-! ## the drawn pairs -/
/-- eight different places -/
structure Nm (ns : List Int) : Prop where
  len : ns.length = 8
  nd : ns.Nodup
  rng : ∀ x ∈ ns, 0 ≤ x ∧ x < 8
def nmAt (ns : List Int) (i : Int) : Int := ns.getD i.toNat 0
theorem nm_get {ns : List Int} (h : Nm ns) {i : Int} (h0 : 0 ≤ i) (h8 : i < 8) : ns[i.toNat]? = some (nmAt ns i) := by
  have hl : i.toNat < ns.length := by rw [h.len]; omega
  unfold nmAt
  rw [List.getD_eq_getElem?_getD, List.getElem?_eq_getElem hl]
  rfl
theorem nm_rng {ns : List Int} (h : Nm ns) {i : Int} (h0 : 0 ≤ i) (h8 : i < 8) : 0 ≤ nmAt ns i ∧ nmAt ns i < 8 := h.rng _ (List.mem_of_getElem? (nm_get h h0 h8))
theorem nm_inj {ns : List Int} (h : Nm ns) {i j : Int} (h0 : 0 ≤ i) (h8 : i < 8) (k0 : 0 ≤ j) (k8 : j < 8) (e : nmAt ns i = nmAt ns j) : i = j := by
  have a := nm_get h h0 h8
  have b := nm_get h k0 k8
  rw [← e] at b
  have := (nodup_at h.nd a b).1
  omega
def okP (p : Pr) : Prop := 0 ≤ p.1 ∧ p.1 < p.2 ∧ p.2 < 8
def pairAt (ns : List Int) (q : Pr) : Pr := srtP (nmAt ns q.1) (nmAt ns q.2)
theorem pairAt_ok {ns : List Int} (h : Nm ns) {q : Pr} (hq : okP q) : okP (pairAt ns q) := by
  obtain ⟨h1, h2, h3⟩ := hq
  have a := nm_rng h h1 (by omega)
  have b := nm_rng h (i := q.2) (by omega) h3
  have ne : nmAt ns q.1 ≠ nmAt ns q.2 := fun e => by
    have := nm_inj h h1 (by omega) (by omega) h3 e
    omega
  unfold pairAt srtP okP
  split <;> simp only <;> omega
theorem pairAt_inj {ns : List Int} (h : Nm ns) {q r : Pr} (hq : okP q) (hr : okP r) (e : pairAt ns q = pairAt ns r) : q = r := by
  obtain ⟨h1, h2, h3⟩ := hq
  obtain ⟨k1, k2, k3⟩ := hr
  have inj := fun {i j : Int} => @nm_inj ns h i j
  have e' : (nmAt ns q.1 = nmAt ns r.1 ∧ nmAt ns q.2 = nmAt ns r.2) ∨ (nmAt ns q.1 = nmAt ns r.2 ∧ nmAt ns q.2 = nmAt ns r.1) := by
    unfold pairAt srtP at e
    split at e <;> split at e <;> · have e1 := congrArg Prod.fst e; have e2 := congrArg Prod.snd e; simp only at e1 e2; omega
  rcases e' with ⟨a, b⟩ | ⟨a, b⟩
  · exact Prod.ext (inj h1 (by omega) k1 (by omega) a) (inj (by omega) h3 (by omega) k3 b)
  · have a' := inj h1 (by omega) (by omega) k3 a
    have b' := inj (by omega) h3 k1 (by omega) b
    omega
/-- what is found: valid, each once -/
structure Fnd (acc : List Pr) : Prop where
  nd : acc.Nodup
  ok : ∀ p ∈ acc, okP p
theorem fnd_nil : Fnd [] := ⟨List.nodup_nil, fun p h => absurd h List.not_mem_nil⟩
theorem Fnd.add {acc : List Pr} (h : Fnd acc) {p : Pr} (hp : okP p) (hn : p ∉ acc) : Fnd (acc ++ [p]) := by
  refine ⟨List.nodup_append.mpr ⟨h.nd, by simp, fun a ha b hb => ?_⟩, fun q hq => ?_⟩
  · rw [List.mem_singleton] at hb
    subst hb
    exact fun e => hn (e ▸ ha)
  · rcases List.mem_append.mp hq with hq | hq
    · exact h.ok q hq
    · rw [List.mem_singleton.mp hq]
      exact hp
theorem le_pairs : PySem.W.dataLe false pD = fun a b : Pr => decide (a.1 < b.1 ∨ a.1 = b.1 ∧ a.2 ≤ b.2) := by
  funext a b
  show (!PySem.W.dataLt (pD b) (pD a)) = _
  unfold pD
  rw [PySem.W.dataLt_ii]
  by_cases h : a.1 < b.1 ∨ a.1 = b.1 ∧ a.2 ≤ b.2
  · rw [decide_eq_true h, decide_eq_false (by omega)]
    rfl
  · rw [decide_eq_false h, decide_eq_true (by omega)]
    rfl
theorem fnd_wf {acc : List Pr} (h : Fnd acc) (ne : acc ≠ []) (l6 : acc.length ≤ 6) : WF (acc.mergeSort (PySem.W.dataLe false pD)) := by
  have pm := List.mergeSort_perm acc (PySem.W.dataLe false pD)
  refine ⟨fun e => ?_, ?_, fun p hp => h.ok p (pm.mem_iff.mp hp), ?_⟩
  · rw [e] at pm
    exact ne pm.symm.eq_nil
  · rw [pm.length_eq]
    exact l6
  · have s := List.pairwise_mergeSort (le := PySem.W.dataLe false pD) (fun a b c h1 h2 => by rw [le_pairs, decide_eq_true_eq] at *; omega) (fun a b => by
      rw [le_pairs, Bool.or_eq_true, decide_eq_true_eq, decide_eq_true_eq]; omega) acc
    have nd := pm.nodup_iff.mpr h.nd
    refine List.Pairwise.imp₂ (R := fun a b => PySem.W.dataLe false pD a b = true) (S := fun a b => a ≠ b) (fun a b h1 h2 => ?_) s nd
    rw [le_pairs, decide_eq_true_eq] at h1
    unfold plt
    have : ¬ (a.1 = b.1 ∧ a.2 = b.2) := fun e => h2 (Prod.ext e.1 e.2)
    omega
/-- the sorted part of the names -/
theorem pairs_of_names {ns ms l : List Int} (h : Nm ns) {n : Nat} (pm : l.Perm (ns.take n)) (hs : l.Pairwise (· ≤ ·)) : (∀ p ∈ pairsOf l, okP p) ∧ l.length ≤ 8 ∧ (3 ≤ n → pairsOf l ≠ []) := by
  have nd : l.Nodup := pm.nodup_iff.mpr (List.Nodup.sublist (List.take_sublist n ns) h.nd)
  have lt : l.Pairwise (· < ·) := List.Pairwise.imp₂ (R := fun a b => a ≤ b) (S := fun a b => a ≠ b) (fun a b h1 h2 => by omega) hs nd
  have ll : l.length = min n 8 := by rw [pm.length_eq, List.length_take, h.len]
  refine ⟨fun p hp => ?_, by omega, fun h3 e => ?_⟩
  · obtain ⟨a, b, c⟩ := (mem_pairsOf (x := p.1) (y := p.2) lt).mp hp
    have a1 := h.rng _ (List.mem_of_mem_take (pm.mem_iff.mp a))
    have b1 := h.rng _ (List.mem_of_mem_take (pm.mem_iff.mp b))
    exact ⟨a1.1, c, b1.2⟩
  · match l, ll, e with
    | [], ll, _ => simp at ll; omega
    | [_], ll, _ => simp at ll; omega
    | _ :: _ :: _, _, e => cases e
/-! ### the heap, the pot aside -/
def But (b : Addr) (H H' : Hp) : Prop := ∀ c o, c ≠ b → H c = some o → H' c = some o
/-- a pot -/
def Po (H : Hp) (b : Addr) : Prop := ∃ x y : Int, H b = some (.lst [.int x, .int y])
theorem But.refl {b : Addr} {H : Hp} : But b H H := fun _ _ _ h => h
theorem But.trans {b : Addr} {H H1 H2 : Hp} (s : But b H H1) (t : But b H1 H2) : But b H H2 := fun c o n h => t c o n (s c o n h)
theorem But.of {b : Addr} {H H1 : Hp} (s : Same H H1) : But b H H1 := fun c o _ h => s c o h
theorem Po.same {b : Addr} {H H1 : Hp} (p : Po H b) (s : Same H H1) : Po H1 b := p.imp fun x ⟨y, h⟩ => ⟨y, s _ _ h⟩
theorem But.upd {b : Addr} {H H1 : Hp} {o : HO} (s : But b H H1) : But b H (upd H1 b o) := fun c x n h => by
  rw [upd_ne n]
  exact s c x n h
/-- a new thing changed -/
theorem But.write {b c : Addr} {H H1 : Hp} {o : HO} (s : But b H H1) (n : H c = none) : But b H (L2.upd H1 c o) := fun a x ne h => by
  rw [upd_ne (ne_of_none h n)]
  exact s a x ne h
theorem But.free {b c : Addr} {H H1 : Hp} (s : But b H H1) (p : Po H1 b) (n : H1 c = none) : H c = none := by
  by_cases e : c = b
  · subst e
    obtain ⟨x, y, h⟩ := p
    rw [n] at h
    cases h
  · cases h : H c with
    | none => rfl
    | some o =>
      rw [s c o e h] at n
      cases n
theorem But.keeps {b : Addr} {H H1 : Hp} (s : But b H H1) (p : Po H b) : Keeps H H1 := fun c ys r => by
  obtain ⟨x, y, h⟩ := p
  rcases r with r | ⟨u, r⟩
  · exact .inl (s c _ (ne_of r h (fun q => nomatch q)) r)
  · exact .inr ⟨u, s c _ (ne_of r h (fun q => nomatch q)) r⟩
theorem po_ne {b c : Addr} {H : Hp} (p : Po H b) (n : H c = none) : b ≠ c := by
  obtain ⟨x, y, h⟩ := p
  exact ne_of_none h n
/-- the shapes -/
structure Shp (l : List Pr) : Prop where
  nd : l.Nodup
  len : l.length ≤ 6
  ok : ∀ q ∈ l, okP q
end Kd

set_option Elab.async false
set_option linter.all false
set_option maxRecDepth 100000
set_option maxHeartbeats 4000000
namespace Kd
open PySem PySem.Spec PyProof.Rows L2
theorem iteP {p : Prop} {i : Decidable p} {A B : Prop} (h : p) (a : A) : if p then A else B := by
  rw [if_pos h]
  exact a
theorem erase_map {α β : Type} (f : α → β) : ∀ (l : List α) (k : Nat), (l.map f).eraseIdx k = (l.eraseIdx k).map f
  | [], _ => rfl
  | _ :: _, 0 => rfl
  | a :: l, k + 1 => by
    show f a :: (l.map f).eraseIdx k = f a :: (l.eraseIdx k).map f
    rw [erase_map f l k]
theorem ixn {n j : Nat} (h : j < n) : ixN n (j : Int) = some j := by
  unfold ixN
  rw [if_pos (by omega), if_pos (by omega), Int.toNat_natCast]
theorem pop_perm : ∀ {l : List Int} {k : Nat} {x : Int}, l[k]? = some x → (x :: l.eraseIdx k).Perm l
  | [], _, _, h => by simp at h
  | a :: l, 0, x, h => by
    have e : a = x := by simpa using h
    subst e
    exact List.Perm.refl _
  | a :: l, k + 1, x, h => by
    rw [List.eraseIdx_cons_succ]
    exact (List.Perm.swap a x _).trans ((pop_perm (l := l) (k := k) (by simpa using h)).cons a)
theorem perm_pop {l : List Int} {k : Nat} {x : Int} (h : l[k]? = some x) (fs : List Int) : ((fs ++ [x]) ++ l.eraseIdx k).Perm (fs ++ l) := by
  rw [List.append_assoc]
  exact (pop_perm h).append_left fs
section
variable {P : Program} {w : World} {K : PySem.W.Frag} {mg : Str → Option Value} {base : Heap}
abbrev s__law_pot : Stmt := topS 41
theorem sc__law_pot : FnScope ["_law_script", "_law_k", "_law_cell"] ["_law_script", "_law_k"] (defScope s__law_pot) := ⟨rfl, rfl, rfl, by decide +kernel, rfl, by decide +kernel, by decide +kernel⟩
def spPot (K : PySem.W.Frag) : Sp := fun vs H Q _ => ∃ (a : Addr) (ks : List Int), vs = [.ref a, .int 0] ∧ SqL K H a (ks.map V.int) ∧ ∀ p H', Same H H' → Po H' p → Q (.ref p) H'
theorem ok__law_pot (B : Bn mg) {f__law_pot : Addr} {fd__law_pot : FuncData} (D__law_pot : Dd K mg "_law_pot" s__law_pot f__law_pot fd__law_pot ["_law_script", "_law_k"]) : FnOk P w K mg base CX0 1 f__law_pot fd__law_pot ["_law_script", "_law_k"] (spPot K) := by
  refine D__law_pot.F.ok sc__law_pot (fun vs H Q E h => ?_) (fun cdv A outer s H vs Q E hr h => ?_)
  · obtain ⟨a, ks, rfl, _⟩ := h
    rfl
  · obtain ⟨a, ks, rfl, ha, q⟩ := h
    refine ⟨_, (pss_cons (ps_set (i := 2) sc__law_pot.nd rfl (.inl rfl) (pe_op op_add (pe_op op_add (pe_op op_mul pe_int (pv 1)) pe_int) (pe_op op_mod (pe_callB (cSum K) (by rfl) B.sum (by decide +kernel) (pa_cons (pe_slice (slL K) (pv 0) po_none (po_some pe_int)) pa_nil)) pe_int)))
      (pss_cons (ps_if (pt_cmpR op_lt (pv 1) (pe_callB (cLen K) (by rfl) B.len (by decide +kernel) (pa_cons (pv 0) pa_nil)) (nomark _)) (pss_one (ps_set (i := 2) sc__law_pot.nd rfl (.inl rfl) (pe_callB call_abs (by rfl) B.abs (by decide +kernel) (pa_cons (pe_ix (ixL K) (pv 0) (pv 1) (fun _ _ => rfl)) pa_nil)))) pss_nil)
      (pss_one (ps_ret (pe_lst (pa_cons (pe_callB (call_max2 rfl) (by rfl) B.max (by decide +kernel) (pa_cons pe_int (pa_cons (pe_op op_sub (pv 2) (pe_op op_pow pe_int pe_int)) pa_nil))) (pa_cons (pe_op op_add (pe_op op_mod (pe_op op_mul (pe_op op_add (pe_op op_mod (pv 2) pe_int) pe_int) (pe_op op_pow (pe_op op_add (pe_op op_mul pe_int (pv 1)) pe_int) pe_int)) pe_int) pe_int) pa_nil))))))), ?_⟩
    refine ⟨_, rfl, _, _, rfl, rfl, .inl ⟨by decide, by decide⟩, _, _, rfl, rfl, ?_⟩
    refine ⟨_, rfl, 1, rfl, a, _, rfl, ha, fun c nc => ?_⟩
    have ec : cutV (ks.map V.int) none (some 1) = (ks.take 1).map V.int := by
      rw [show cutV (ks.map V.int) none (some 1) = (ks.map V.int).take 1 from cut_to (n := 1), List.map_take]
    rw [ec]
    have s1 : Same H (upd H c (.lst ((ks.take 1).map V.int))) := same_new nc
    refine ⟨c, ks.take 1, rfl, .of upd_same, _, _, rfl, rfl, (by show (0 : Int) < 1000003; decide), _, _, rfl, rfl, ?_⟩
    -- if k < len(script)
    refine ⟨_, rfl, _, rfl, a, _, rfl, .inl (s1.seq ha), _, _, rfl, rfl, _, rfl, ?_⟩
    cases ks with
    | nil =>
      refine iteF ?_
      refine ⟨_, rfl, _, _, rfl, rfl, ⟨by decide, by decide, by decide⟩, _, _, rfl, rfl, _, _, rfl, ?_⟩
      refine ⟨_, rfl, _, _, rfl, rfl, (by show (0 : Int) < 2147483549; decide), _, _, rfl, rfl, ?_⟩
      refine ⟨_, rfl, _, _, rfl, rfl, .inl ⟨by decide, by decide⟩, _, _, rfl, rfl, _, _, rfl, rfl, ⟨by decide, by decide, by decide⟩, ?_⟩
      refine ⟨_, _, rfl, rfl, .inr ⟨by decide, by decide⟩, _, _, rfl, rfl, (by show (0 : Int) < 2147483477; decide), _, _, rfl, rfl, (by show 2 ≤ sizeLine; decide), fun L nL => ?_⟩
      exact q L _ (s1.trans (same_new nL)) ⟨_, _, upd_same⟩
    | cons k0 ks =>
      refine iteP (decide_eq_true (by rw [List.map_cons, List.length_cons]; omega)) ?_
      refine ⟨_, rfl, _, rfl, a, _, 0, .int k0, rfl, rfl, s1.seq ha, atI_nat (j := 0) rfl, _, rfl, ?_⟩
      refine ⟨_, rfl, _, _, rfl, rfl, ⟨by decide, by decide, by decide⟩, _, _, rfl, rfl, _, _, rfl, ?_⟩
      refine ⟨_, rfl, _, _, rfl, rfl, (by show (0 : Int) < 2147483549; decide), _, _, rfl, rfl, ?_⟩
      refine ⟨_, rfl, _, _, rfl, rfl, .inl ⟨by decide, by decide⟩, _, _, rfl, rfl, _, _, rfl, rfl, ⟨by decide, by decide, by decide⟩, ?_⟩
      refine ⟨_, _, rfl, rfl, .inr ⟨by decide, by decide⟩, _, _, rfl, rfl, (by show (0 : Int) < 2147483477; decide), _, _, rfl, rfl, (by show 2 ≤ sizeLine; decide), fun L nL => ?_⟩
      exact q L _ (s1.trans (same_new nL)) ⟨_, _, upd_same⟩
abbrev s__law_draw : Stmt := topS 42
theorem sc__law_draw : FnScope ["_law_pot_here", "_law_many", "_law_digit"] ["_law_pot_here", "_law_many"] (defScope s__law_draw) := ⟨rfl, rfl, rfl, by decide +kernel, rfl, by decide +kernel, by decide +kernel⟩
def spDraw (K : PySem.W.Frag) : Sp := fun vs H Q _ => ∃ (b : Addr) (n : Int), vs = [.ref b, .int n] ∧ 1 ≤ n ∧ n < 1000000 ∧ Po H b ∧ ∀ d H', 0 ≤ d → d < n → But b H H' → Po H' b → Q (.int d) H'
theorem ok__law_draw (B : Bn mg) {f__law_draw : Addr} {fd__law_draw : FuncData} (D__law_draw : Dd K mg "_law_draw" s__law_draw f__law_draw fd__law_draw ["_law_pot_here", "_law_many"]) : FnOk P w K mg base CX0 1 f__law_draw fd__law_draw ["_law_pot_here", "_law_many"] (spDraw K) := by
  refine D__law_draw.F.ok sc__law_draw (fun vs H Q E h => ?_) (fun cdv A outer s H vs Q E hr h => ?_)
  · obtain ⟨a, ks, rfl, _⟩ := h
    rfl
  · obtain ⟨b, n, rfl, h1, h2, ⟨x, y, eb⟩, q⟩ := h
    refine ⟨_, (pss_cons (ps_if (pt_cmpR op_gt (pe_ix (ixL K) (pv 0) pe_int (fun _ _ => rfl)) pe_int (nomark _)) (pss_cons (ps_asg (pe_callB call_divmod (by rfl) B.divmod (by decide +kernel) (pa_cons (pe_ix (ixL K) (pv 0) pe_int (fun _ _ => rfl)) (pa_cons (pv 1) pa_nil))) (pgT K 2 (pgs_cons (pg_sub (pv 0) pe_int set_list) (pgs_cons (pg_name (i := 2) sc__law_draw.nd rfl (.inl rfl)) pgs_nil))))
      (pss_one (ps_ret (pv 2)))) pss_nil)
      (pss_cons (ps_asg (pe_op op_mod (pe_op op_add (pe_op op_mul (pe_ix (ixL K) (pv 0) pe_int (fun _ _ => rfl)) pe_int) pe_int) pe_int) (pg_sub (pv 0) pe_int set_list))
      (pss_one (ps_ret (pe_op op_mod (pe_op op_fdivN (pe_op op_mod (pe_op op_mul (pe_ix (ixL K) (pv 0) pe_int (fun _ _ => rfl)) (pe_ix (ixL K) (pv 0) pe_int (fun _ _ => rfl))) pe_int) pe_int) (pv 1)))))), ?_⟩
    refine ⟨_, rfl, b, _, 0, .int x, rfl, rfl, .of eb, atI_nat (j := 0) rfl, _, _, rfl, rfl, _, rfl, ?_⟩
    cases e : decide (0 < x) with
    | true =>
      refine iteT ⟨_, rfl, b, _, 0, .int x, rfl, rfl, .of eb, atI_nat (j := 0) rfl, _, rfl, x, n, rfl, ⟨by omega, by omega⟩, fun T nT => ?_⟩
      have ne : b ≠ T := ne_of_none eb nT
      have eb2 : upd H T (.tup [.int (x / n), .int (x % n)]) b = some (.lst [.int x, .int y]) := by rw [upd_ne ne]; exact eb
      refine ⟨T, _, rfl, .of upd_same, rfl, _, _, rfl, _, rfl, b, _, 0, 0, rfl, rfl, eb2, rfl, _, _, rfl, rfl, ?_⟩
      refine ⟨_, rfl, q _ _ (Int.emod_nonneg _ (by omega)) (Int.emod_lt_of_pos _ (by omega)) ?_ ⟨_, _, upd_same⟩⟩
      exact (But.of (same_new nT)).upd
    | false =>
      refine iteF ?_
      refine ⟨_, rfl, b, _, 1, .int y, rfl, rfl, .of eb, atI_nat (j := 1) rfl, _, _, rfl, rfl, .inr ⟨by decide, by decide⟩, _, _, rfl, rfl, _, _, rfl, rfl, (by show (0 : Int) < 2147483587; decide), ?_⟩
      have y0 : 0 ≤ (y * 48271 + 277) % 2147483587 := Int.emod_nonneg _ (by decide)
      have y1 : (y * 48271 + 277) % 2147483587 < 2147483587 := Int.emod_lt_of_pos _ (by decide)
      refine ⟨_, rfl, b, _, 1, 1, rfl, rfl, eb, rfl, ?_⟩
      have eb2 : upd H b (.lst [.int x, .int ((y * 48271 + 277) % 2147483587)]) b = some (.lst [.int x, .int ((y * 48271 + 277) % 2147483587)]) := upd_same
      refine ⟨_, rfl, b, [.int x, .int ((y * 48271 + 277) % 2147483587)], 1, .int ((y * 48271 + 277) % 2147483587), rfl, rfl, .of eb2, atI_nat (j := 1) rfl, ?_⟩
      refine ⟨_, rfl, b, [.int x, .int ((y * 48271 + 277) % 2147483587)], 1, .int ((y * 48271 + 277) % 2147483587), rfl, rfl, .of eb2, atI_nat (j := 1) rfl, _, _, rfl, rfl, .inl ⟨by omega, by omega⟩, ?_⟩
      refine ⟨_, _, rfl, rfl, (by show (0 : Int) < 2147483549; decide), _, _, rfl, rfl, ⟨by decide, by decide⟩, ?_⟩
      refine ⟨_, rfl, _, _, rfl, rfl, (by show (0 : Int) < n; omega), ?_⟩
      exact q _ _ (Int.emod_nonneg _ (by omega)) (Int.emod_lt_of_pos _ (by omega)) But.refl.upd ⟨_, _, eb2⟩
abbrev s__law_pick : Stmt := topS 43
theorem sc__law_pick : FnScope ["_law_pot_here", "_law_some"] ["_law_pot_here", "_law_some"] (defScope s__law_pick) := ⟨rfl, rfl, rfl, by decide +kernel, rfl, by decide +kernel, by decide +kernel⟩
def spPick (K : PySem.W.Frag) : Sp := fun vs H Q _ => ∃ (b m : Addr) (rs : List V) (l : List Pr), vs = [.ref b, .ref m] ∧ Po H b ∧ b ≠ m ∧ H m = some (.lst rs) ∧ DpAll K H rs (l.map pD) ∧ l ≠ [] ∧ l.length ≤ 1000 ∧ ∀ v p H', But b H H' → Po H' b → p ∈ l → Dp K H' v (pD p) → Q v H'
theorem ok__law_pick (B : Bn mg) {f__law_pick : Addr} {fd__law_pick : FuncData} (D__law_pick : Dd K mg "_law_pick" s__law_pick f__law_pick fd__law_pick ["_law_pot_here", "_law_some"]) {f__law_draw : Addr} {fd__law_draw : FuncData} (D__law_draw : Dd K mg "_law_draw" s__law_draw f__law_draw fd__law_draw ["_law_pot_here", "_law_many"]) (G__law_draw : FnOk P w K mg base CX0 1 f__law_draw fd__law_draw ["_law_pot_here", "_law_many"] (spDraw K)) : FnOk P w K mg base CX0 2 f__law_pick fd__law_pick ["_law_pot_here", "_law_some"] (spPick K) := by
  refine D__law_pick.F.ok sc__law_pick (fun vs H Q E h => ?_) (fun cdv A outer s H vs Q E hr h => ?_)
  · obtain ⟨b, m, rs, l, rfl, _⟩ := h
    rfl
  · obtain ⟨b, m, rs, l, rfl, po, ne, em, dm, hl, l3, q⟩ := h
    refine ⟨_, (pss_one (ps_ret (pe_ix (ixL K) (pv 1) (pe_call G__law_draw (hr.mono (by decide)) (by rfl) D__law_draw.m D__law_draw.F.kp D__law_draw.b .nil pass0 (pa_cons (pv 0) (pa_cons (pe_callB (cLen K) (by rfl) B.len (by decide +kernel) (pa_cons (pv 1) pa_nil)) pa_nil))) (fun _ _ => rfl)))), ?_⟩
    have lr : rs.length = l.length := by rw [dps_len dm, List.length_map]
    have l0 : 0 < l.length := List.length_pos_iff.mpr hl
    refine ⟨_, rfl, _, rfl, _, rfl, m, _, rfl, .inl (.of em), b, _, rfl, by omega, by omega, po, fun d H2 d0 d1 bt po2 => ?_⟩
    have em2 := bt m _ (Ne.symm ne) em
    have dm2 := dps_keep (bt.keeps po) _ _ (fixDs_map fix_p _) dm
    have dl : d.toNat < l.length := by omega
    obtain ⟨v, hv, dv⟩ := enc_at dm2 (List.getElem?_eq_getElem dl)
    refine ⟨m, rs, d, v, rfl, rfl, .of em2, at_of (j := d.toNat) (by omega) hv, ?_⟩
    exact q v _ H2 bt po2 (List.getElem_mem dl) dv
abbrev s__law_names : Stmt := topS 44
theorem sc__law_names : FnScope ["_law_pot_here", "_law_many", "_law_left", "_law_found", "_law_turn"] ["_law_pot_here", "_law_many"] (defScope s__law_names) := ⟨rfl, rfl, rfl, by decide +kernel, rfl, by decide +kernel, by decide +kernel⟩
def spNames (K : PySem.W.Frag) : Sp := fun vs H Q _ => ∃ (b : Addr), vs = [.ref b, .int 8] ∧ Po H b ∧ ∀ p ns H', But b H H' → Po H' b → H p = none → H' p = some (.lst (ns.map V.int)) → Nm ns → Q (.ref p) H'
theorem nm_of {ns : List Int} (h : ns.Perm (upTo 0 8)) : Nm ns := by
  refine ⟨by rw [h.length_eq, upTo_len], h.nodup_iff.mpr ((upTo_sorted 0 8).imp fun h => Int.ne_of_lt h), fun x hx => ?_⟩
  have := mem_upTo.mp (h.mem_iff.mp hx)
  omega
theorem ok__law_names (B : Bn mg) {f__law_names : Addr} {fd__law_names : FuncData} (D__law_names : Dd K mg "_law_names" s__law_names f__law_names fd__law_names ["_law_pot_here", "_law_many"]) {f__law_draw : Addr} {fd__law_draw : FuncData} (D__law_draw : Dd K mg "_law_draw" s__law_draw f__law_draw fd__law_draw ["_law_pot_here", "_law_many"]) (G__law_draw : FnOk P w K mg base CX0 1 f__law_draw fd__law_draw ["_law_pot_here", "_law_many"] (spDraw K)) : FnOk P w K mg base CX0 2 f__law_names fd__law_names ["_law_pot_here", "_law_many"] (spNames K) := by
  refine D__law_names.F.ok sc__law_names (fun vs H Q E h => ?_) (fun cdv A outer s H vs Q E hr h => ?_)
  · obtain ⟨b, rfl, _⟩ := h
    rfl
  · obtain ⟨b, rfl, po, q⟩ := h
    refine ⟨_, (pss_cons (ps_par (i := 2) (j := 3) (by rfl) sc__law_names.nd rfl rfl (by decide) rfl rfl (pa_cons (pe_listRg rfl (by rfl) B.list (prg_1 (by rfl) B.range pe_int)) (pa_cons (pe_lst pa_nil) pa_nil)) (by rfl))
      (pss_cons (ps_for PassesOwn.never rfl (pi_range1 (by rfl) B.range (pa_cons (pv 1) pa_nil)) (pg_name (i := 4) sc__law_names.nd rfl (.inl rfl)) (pss_one (ps_expr (pe_bm PySem.F.plainAttrs_list PySem.F.slot_list_append PySem.F.type_list_append mt_append (pv 3) (pa_cons (pe_bm PySem.F.plainAttrs_list PySem.F.slot_list_pop PySem.F.type_list_pop mt_popAt (pv 2) (pa_cons (pe_call G__law_draw (hr.mono (by decide)) (by rfl) D__law_draw.m D__law_draw.F.kp D__law_draw.b .nil pass0 (pa_cons (pv 0) (pa_cons (pe_callB (cLen K) (by rfl) B.len (by decide +kernel) (pa_cons (pv 2) pa_nil)) pa_nil))) pa_nil)) pa_nil)))))
      (pss_one (ps_ret (pv 3))))), ?_⟩
    refine ⟨8, rfl, RgOk.of_le (by decide) (by decide) (by decide) (by decide), fun L nL => ⟨Nat.zero_le _, fun F nF => ⟨_, _, rfl, ?_⟩⟩⟩
    rw [show rgV 0 8 = (upTo 0 8).map V.int from rfl]
    have bL := po_ne po nL
    have bF := po_ne (po.same (same_new nL)) nF
    have LF : L ≠ F := ne_of_none (upd_same (H := H) (o := .lst (rgV 0 8))) nF
    have nF0 : H F = none := (same_new nL).free nF
    refine ⟨_, rfl, 8, rfl, by decide, by decide, ?_⟩
    refine for_it (walk_range (lo := 0) (n := 8)) (fun i σ H2 => ∃ v4 ls fs, σ = [some (.ref b), some (.int 8), some (.ref L), some (.ref F), v4] ∧ But b H H2 ∧ Po H2 b ∧ H2 L = some (.lst (ls.map V.int)) ∧ H2 F = some (.lst (fs.map V.int)) ∧ (fs ++ ls).Perm (upTo 0 8) ∧ fs.length = i)
      ⟨none, upTo 0 8, [], rfl, .of ((same_new nL).trans (same_new nF)), po.same ((same_new nL).trans (same_new nF)), by rw [upd_ne LF]; exact upd_same, upd_same, List.Perm.refl _, rfl⟩ (fun _ _ _ _ _ => trivial) ?_ ?_
    · rintro i x σ H2 H3 hi ⟨v4, ls, fs, rfl, bt, po2, eL, eF, pm, lf⟩ ⟨rfl, rfl⟩
      have ll : fs.length + ls.length = 8 := by
        have := pm.length_eq
        rw [List.length_append, upTo_len] at this
        exact this
      refine ⟨_, rfl, .inl ⟨rfl, _, .of eF⟩, _, rfl, .inl ⟨rfl, _, .of eL⟩, ?_⟩
      refine ⟨_, rfl, _, rfl, L, _, rfl, .inl (.of eL), b, _, rfl, by rw [List.length_map]; omega, by rw [List.length_map]; omega, po2, fun d H4 d0 d1 bt4 po4 => ?_⟩
      rw [List.length_map] at d1
      have eL4 := bt4 L _ (Ne.symm bL) eL
      have eF4 := bt4 F _ (Ne.symm bF) eF
      have dl : d.toNat < ls.length := by omega
      have gd : ls[d.toNat]? = some ls[d.toNat] := List.getElem?_eq_getElem dl
      generalize ls[d.toNat] = y at gd
      have ed : ((d.toNat : Nat) : Int) = d := by omega
      refine ⟨L, _, d, d.toNat, .int y, rfl, rfl, eL4, by omega, by omega, ?_, by rw [List.getElem?_map, gd]; rfl, ?_⟩
      · have := (ixN_seq (ixn (n := (ls.map V.int).length) (j := d.toNat) (by rw [List.length_map]; exact dl))).1
        rw [ed] at this
        exact this
      · have eF5 : upd H4 L (.lst ((ls.map V.int).eraseIdx d.toNat)) F = some (.lst (fs.map V.int)) := by rw [upd_ne (Ne.symm LF)]; exact eF4
        refine ⟨F, _, _, rfl, rfl, eF5, small_line (by rw [List.length_map]; omega), ?_⟩
        refine ⟨_, ls.eraseIdx d.toNat, fs ++ [y], rfl, ((bt.trans bt4).write nL).write nF0, ?_, ?_, ?_, (perm_pop gd fs).trans pm, by rw [List.length_append, lf]; rfl⟩
        · obtain ⟨p1, p2, e⟩ := po4
          exact ⟨p1, p2, by rw [upd_ne bF, upd_ne bL]; exact e⟩
        · rw [upd_ne LF, upd_same, erase_map]
        · rw [upd_same, List.map_append]
          rfl
    · rintro σ H2 ⟨v4, ls, fs, rfl, bt, po2, eL, eF, pm, lf⟩
      have ll : fs.length + ls.length = 8 := by
        have := pm.length_eq
        rw [List.length_append, upTo_len] at this
        exact this
      have le : ls = [] := List.length_eq_zero_iff.mp (by omega)
      subst le
      rw [List.append_nil] at pm
      exact ⟨_, rfl, q F fs H2 bt po2 nF0 eF (nm_of pm)⟩
end
end Kd

set_option Elab.async false
set_option linter.all false
set_option maxRecDepth 100000
set_option maxHeartbeats 4000000
namespace Kd
open PySem PySem.Spec PyProof.Rows L2
theorem iteN {p : Prop} {i : Decidable p} {A B : Prop} (h : ¬ p) (a : B) : if p then A else B := by
  rw [if_neg h]
  exact a
theorem nodupP_at {α : Type} {l : List α} (h : l.Nodup) {i j : Nat} {x : α} (a : l[i]? = some x) (b : l[j]? = some x) : i = j := by
  obtain ⟨h1, e1⟩ := List.getElem?_eq_some_iff.mp a
  obtain ⟨h2, e2⟩ := List.getElem?_eq_some_iff.mp b
  have q := List.pairwise_iff_getElem.mp h
  rcases Nat.lt_trichotomy i j with c | c | c
  · exact absurd (e1.trans e2.symm) (q i j h1 h2 c)
  · exact c
  · exact absurd (e2.trans e1.symm) (q j i h2 h1 c)
theorem nx_go {a b c : L2.St → Hp → Prop} {r : VK} {σ : L2.St} {H : Hp} (h : a σ H) : Ends.nx ⟨a, r, b, c⟩ σ H := h
theorem seq_go {t u : TS} {D : Ends} {σ : L2.St} {H : Hp} (h : t { D with nx := u D } σ H) : tSeq t u D σ H := h
theorem for_go {ta : TA} {g : TG} {tb : TS} {D : Ends} {σ : L2.St} {H : Hp} (h : ta σ H fun vs H1 => ∃ j : Int, vs = [.int j] ∧ -(2 ^ 62) ≤ j ∧ j < 2 ^ 62 ∧ ∃ W : Nat → Nat → L2.St → Hp → Prop, (∃ m, W 0 m σ H1) ∧ ∀ i m σ H, W i m σ H →
    ((Itr 0 j.toNat).stop i H ∧ D.nx σ H) ∨ ((Itr 0 j.toNat).go i H ∧ ∃ N : L2.St → Hp → Prop, (∀ σ' H', N σ' H' → ∃ m', m' < m ∧ W (i + 1) m' σ' H') ∧ ∀ x H', (Itr 0 j.toNat).yld i H x H' → g x σ H' fun σ2 H2 => tb { D with nx := N, ct := N, bk := D.nx } σ2 H2)) :
    tFor (iRng1 ta) g tb D σ H := h
theorem nil_go {σ : L2.St} {H : Hp} {Q : List V → Hp → Prop} (h : Q [] H) : tNil σ H Q := h
theorem bothA {T : (List V → Hp → Prop) → Prop} {Q : List V → Hp → Prop} (G : List V → Hp → Prop) (h : ∀ Q : List V → Hp → Prop, (∀ v H', G v H' → Q v H') → T Q) (r : ∀ v H', G v H' → Q v H') : T Q := h Q r
section
variable {P : Program} {w : World} {K : PySem.W.Frag} {mg : Str → Option Value} {base : Heap}
abbrev s__law_shape : Stmt := topS 46
theorem sc__law_shape : FnScope ["_law_pot_here", "_law_way"] ["_law_pot_here", "_law_way"] (defScope s__law_shape) := ⟨rfl, rfl, rfl, by decide +kernel, rfl, by decide +kernel, by decide +kernel⟩
def spShape (K : PySem.W.Frag) : Sp := fun vs H Q _ => ∃ (v : V) (way : Int), vs = [v, .int way] ∧ ∀ p vs l H', Same H H' → H p = none → H' p = some (.lst vs) → DpAll K H' vs (l.map pD) → Shp l → Q (.ref p) H'
theorem ok__law_shape (B : Bn mg) {f__law_shape : Addr} {fd__law_shape : FuncData} (D__law_shape : Dd K mg "_law_shape" s__law_shape f__law_shape fd__law_shape ["_law_pot_here", "_law_way"]) {f__law_all_pairs : Addr} {fd__law_all_pairs : FuncData} (D__law_all_pairs : Dd K mg "_law_all_pairs" s__law_all_pairs f__law_all_pairs fd__law_all_pairs ["_law_places"]) (G__law_all_pairs : FnOk P w K mg base CX0 1 f__law_all_pairs fd__law_all_pairs ["_law_places"] (spAllPairs K)) : FnOk P w K mg base CX0 2 f__law_shape fd__law_shape ["_law_pot_here", "_law_way"] (spShape K) := by
  refine D__law_shape.F.ok sc__law_shape (fun vs H Q E h => ?_) (fun cdv A outer s H vs Q E hr h => ?_)
  · obtain ⟨v, way, rfl, _⟩ := h
    rfl
  · obtain ⟨v, way, rfl, q⟩ := h
    refine ⟨_, (pss_cons (ps_if (pt_cmpR op_eq (pv 1) pe_int (nomark _)) (pss_one (ps_ret (pe_lst (pa_cons (pe_tup (pa_cons pe_int (pa_cons pe_int pa_nil))) (pa_cons (pe_tup (pa_cons pe_int (pa_cons pe_int pa_nil))) (pa_cons (pe_tup (pa_cons pe_int (pa_cons pe_int pa_nil))) (pa_cons (pe_tup (pa_cons pe_int (pa_cons pe_int pa_nil))) (pa_cons (pe_tup (pa_cons pe_int (pa_cons pe_int pa_nil))) pa_nil)))))))) pss_nil)
      (pss_cons (ps_if (pt_cmpR op_eq (pv 1) pe_int (nomark _)) (pss_one (ps_ret (pe_call G__law_all_pairs (hr.mono (by decide)) (by rfl) D__law_all_pairs.m D__law_all_pairs.F.kp D__law_all_pairs.b .nil pass0 (pa_cons (pe_lst (pa_cons pe_int (pa_cons pe_int (pa_cons pe_int (pa_cons pe_int pa_nil))))) pa_nil)))) pss_nil)
      (pss_cons (ps_if (pt_cmpR op_eq (pv 1) pe_int (nomark _)) (pss_one (ps_ret (pe_lst (pa_cons (pe_tup (pa_cons pe_int (pa_cons pe_int pa_nil))) (pa_cons (pe_tup (pa_cons pe_int (pa_cons pe_int pa_nil))) (pa_cons (pe_tup (pa_cons pe_int (pa_cons pe_int pa_nil))) pa_nil)))))) pss_nil)
      (pss_cons (ps_if (pt_cmpR op_eq (pv 1) pe_int (nomark _)) (pss_one (ps_ret (pe_lst (pa_cons (pe_tup (pa_cons pe_int (pa_cons pe_int pa_nil))) (pa_cons (pe_tup (pa_cons pe_int (pa_cons pe_int pa_nil))) (pa_cons (pe_tup (pa_cons pe_int (pa_cons pe_int pa_nil))) (pa_cons (pe_tup (pa_cons pe_int (pa_cons pe_int pa_nil))) pa_nil))))))) pss_nil)
      (pss_cons (ps_if (pt_cmpR op_eq (pv 1) pe_int (nomark _)) (pss_one (ps_ret (pe_lst (pa_cons (pe_tup (pa_cons pe_int (pa_cons pe_int pa_nil))) (pa_cons (pe_tup (pa_cons pe_int (pa_cons pe_int pa_nil))) (pa_cons (pe_tup (pa_cons pe_int (pa_cons pe_int pa_nil))) (pa_cons (pe_tup (pa_cons pe_int (pa_cons pe_int pa_nil))) (pa_cons (pe_tup (pa_cons pe_int (pa_cons pe_int pa_nil))) (pa_cons (pe_tup (pa_cons pe_int (pa_cons pe_int pa_nil))) pa_nil))))))))) pss_nil)
      (pss_one (ps_ret (pe_lst pa_nil)))))))), ?_⟩
    refine ⟨_, rfl, rfl, _, rfl, ?_⟩
    by_cases h0 : way = 0
    · refine iteP (decide_eq_true (by rw [h0])) ?_
      refine ⟨(by show 2 ≤ sizeLine; decide), fun T0 n0 => ?_⟩
      refine ⟨(by show 2 ≤ sizeLine; decide), fun T1 n1 => ?_⟩
      refine ⟨(by show 2 ≤ sizeLine; decide), fun T2 n2 => ?_⟩
      refine ⟨(by show 2 ≤ sizeLine; decide), fun T3 n3 => ?_⟩
      refine ⟨(by show 2 ≤ sizeLine; decide), fun T4 n4 => ?_⟩
      refine ⟨(by show 5 ≤ sizeLine; decide), fun L nL => ?_⟩
      have s4 := same_new (o := .lst [.ref T0, .ref T1, .ref T2, .ref T3, .ref T4]) nL
      have s3 := (same_new (o := .tup [.int 0, .int 4]) n4).trans s4
      have s2 := (same_new (o := .tup [.int 3, .int 4]) n3).trans s3
      have s1 := (same_new (o := .tup [.int 2, .int 3]) n2).trans s2
      have s0 := (same_new (o := .tup [.int 1, .int 2]) n1).trans s1
      have sa := (same_new (o := .tup [.int 0, .int 1]) n0).trans s0
      exact q L _ [(0, 1), (1, 2), (2, 3), (3, 4), (0, 4)] _ sa ((same_new n0).free ((same_new n1).free ((same_new n2).free ((same_new n3).free ((same_new n4).free nL))))) upd_same (.cons (dp_same (fix_p (0, 1)) s0 (p_mk (p := (0, 1)) (.of upd_same))) (.cons (dp_same (fix_p (1, 2)) s1 (p_mk (p := (1, 2)) (.of upd_same))) (.cons (dp_same (fix_p (2, 3)) s2 (p_mk (p := (2, 3)) (.of upd_same))) (.cons (dp_same (fix_p (3, 4)) s3 (p_mk (p := (3, 4)) (.of upd_same))) (.cons (dp_same (fix_p (0, 4)) s4 (p_mk (p := (0, 4)) (.of upd_same))) .nil))))) ⟨by decide, by decide, by show ∀ q ∈ ([(0, 1), (1, 2), (2, 3), (3, 4), (0, 4)] : List Pr), 0 ≤ q.1 ∧ q.1 < q.2 ∧ q.2 < 8; decide⟩
    refine iteN (fun e => h0 (by have := of_decide_eq_true e; injection this)) ?_
    refine ⟨_, rfl, rfl, _, rfl, ?_⟩
    by_cases h1 : way = 1
    · refine iteP (decide_eq_true (by rw [h1])) ?_
      refine ⟨(by show 4 ≤ sizeLine; decide), fun L nL => ?_⟩
      refine ⟨L, [0, 1, 2, 3], rfl, .of upd_same, by decide, fun p vs H2 s2 n e d => ?_⟩
      exact q p vs (pairsOf [0, 1, 2, 3]) H2 ((same_new nL).trans s2) ((same_new nL).free n) e d ⟨by decide, by decide, by show ∀ q ∈ pairsOf [0, 1, 2, 3], 0 ≤ q.1 ∧ q.1 < q.2 ∧ q.2 < 8; decide⟩
    refine iteN (fun e => h1 (by have := of_decide_eq_true e; injection this)) ?_
    refine ⟨_, rfl, rfl, _, rfl, ?_⟩
    by_cases h2 : way = 2
    · refine iteP (decide_eq_true (by rw [h2])) ?_
      refine ⟨(by show 2 ≤ sizeLine; decide), fun T0 n0 => ?_⟩
      refine ⟨(by show 2 ≤ sizeLine; decide), fun T1 n1 => ?_⟩
      refine ⟨(by show 2 ≤ sizeLine; decide), fun T2 n2 => ?_⟩
      refine ⟨(by show 3 ≤ sizeLine; decide), fun L nL => ?_⟩
      have s2 := same_new (o := .lst [.ref T0, .ref T1, .ref T2]) nL
      have s1 := (same_new (o := .tup [.int 4, .int 5]) n2).trans s2
      have s0 := (same_new (o := .tup [.int 2, .int 3]) n1).trans s1
      have sa := (same_new (o := .tup [.int 0, .int 1]) n0).trans s0
      exact q L _ [(0, 1), (2, 3), (4, 5)] _ sa ((same_new n0).free ((same_new n1).free ((same_new n2).free nL))) upd_same (.cons (dp_same (fix_p (0, 1)) s0 (p_mk (p := (0, 1)) (.of upd_same))) (.cons (dp_same (fix_p (2, 3)) s1 (p_mk (p := (2, 3)) (.of upd_same))) (.cons (dp_same (fix_p (4, 5)) s2 (p_mk (p := (4, 5)) (.of upd_same))) .nil))) ⟨by decide, by decide, by show ∀ q ∈ ([(0, 1), (2, 3), (4, 5)] : List Pr), 0 ≤ q.1 ∧ q.1 < q.2 ∧ q.2 < 8; decide⟩
    refine iteN (fun e => h2 (by have := of_decide_eq_true e; injection this)) ?_
    refine ⟨_, rfl, rfl, _, rfl, ?_⟩
    by_cases h3 : way = 3
    · refine iteP (decide_eq_true (by rw [h3])) ?_
      refine ⟨(by show 2 ≤ sizeLine; decide), fun T0 n0 => ?_⟩
      refine ⟨(by show 2 ≤ sizeLine; decide), fun T1 n1 => ?_⟩
      refine ⟨(by show 2 ≤ sizeLine; decide), fun T2 n2 => ?_⟩
      refine ⟨(by show 2 ≤ sizeLine; decide), fun T3 n3 => ?_⟩
      refine ⟨(by show 4 ≤ sizeLine; decide), fun L nL => ?_⟩
      have s3 := same_new (o := .lst [.ref T0, .ref T1, .ref T2, .ref T3]) nL
      have s2 := (same_new (o := .tup [.int 3, .int 4]) n3).trans s3
      have s1 := (same_new (o := .tup [.int 1, .int 2]) n2).trans s2
      have s0 := (same_new (o := .tup [.int 0, .int 2]) n1).trans s1
      have sa := (same_new (o := .tup [.int 0, .int 1]) n0).trans s0
      exact q L _ [(0, 1), (0, 2), (1, 2), (3, 4)] _ sa ((same_new n0).free ((same_new n1).free ((same_new n2).free ((same_new n3).free nL)))) upd_same (.cons (dp_same (fix_p (0, 1)) s0 (p_mk (p := (0, 1)) (.of upd_same))) (.cons (dp_same (fix_p (0, 2)) s1 (p_mk (p := (0, 2)) (.of upd_same))) (.cons (dp_same (fix_p (1, 2)) s2 (p_mk (p := (1, 2)) (.of upd_same))) (.cons (dp_same (fix_p (3, 4)) s3 (p_mk (p := (3, 4)) (.of upd_same))) .nil)))) ⟨by decide, by decide, by show ∀ q ∈ ([(0, 1), (0, 2), (1, 2), (3, 4)] : List Pr), 0 ≤ q.1 ∧ q.1 < q.2 ∧ q.2 < 8; decide⟩
    refine iteN (fun e => h3 (by have := of_decide_eq_true e; injection this)) ?_
    refine ⟨_, rfl, rfl, _, rfl, ?_⟩
    by_cases h4 : way = 4
    · refine iteP (decide_eq_true (by rw [h4])) ?_
      refine ⟨(by show 2 ≤ sizeLine; decide), fun T0 n0 => ?_⟩
      refine ⟨(by show 2 ≤ sizeLine; decide), fun T1 n1 => ?_⟩
      refine ⟨(by show 2 ≤ sizeLine; decide), fun T2 n2 => ?_⟩
      refine ⟨(by show 2 ≤ sizeLine; decide), fun T3 n3 => ?_⟩
      refine ⟨(by show 2 ≤ sizeLine; decide), fun T4 n4 => ?_⟩
      refine ⟨(by show 2 ≤ sizeLine; decide), fun T5 n5 => ?_⟩
      refine ⟨(by show 6 ≤ sizeLine; decide), fun L nL => ?_⟩
      have s5 := same_new (o := .lst [.ref T0, .ref T1, .ref T2, .ref T3, .ref T4, .ref T5]) nL
      have s4 := (same_new (o := .tup [.int 0, .int 1]) n5).trans s5
      have s3 := (same_new (o := .tup [.int 1, .int 5]) n4).trans s4
      have s2 := (same_new (o := .tup [.int 1, .int 2]) n3).trans s3
      have s1 := (same_new (o := .tup [.int 0, .int 4]) n2).trans s2
      have s0 := (same_new (o := .tup [.int 0, .int 3]) n1).trans s1
      have sa := (same_new (o := .tup [.int 0, .int 2]) n0).trans s0
      exact q L _ [(0, 2), (0, 3), (0, 4), (1, 2), (1, 5), (0, 1)] _ sa ((same_new n0).free ((same_new n1).free ((same_new n2).free ((same_new n3).free ((same_new n4).free ((same_new n5).free nL)))))) upd_same (.cons (dp_same (fix_p (0, 2)) s0 (p_mk (p := (0, 2)) (.of upd_same))) (.cons (dp_same (fix_p (0, 3)) s1 (p_mk (p := (0, 3)) (.of upd_same))) (.cons (dp_same (fix_p (0, 4)) s2 (p_mk (p := (0, 4)) (.of upd_same))) (.cons (dp_same (fix_p (1, 2)) s3 (p_mk (p := (1, 2)) (.of upd_same))) (.cons (dp_same (fix_p (1, 5)) s4 (p_mk (p := (1, 5)) (.of upd_same))) (.cons (dp_same (fix_p (0, 1)) s5 (p_mk (p := (0, 1)) (.of upd_same))) .nil)))))) ⟨by decide, by decide, by show ∀ q ∈ ([(0, 2), (0, 3), (0, 4), (1, 2), (1, 5), (0, 1)] : List Pr), 0 ≤ q.1 ∧ q.1 < q.2 ∧ q.2 < 8; decide⟩
    refine iteN (fun e => h4 (by have := of_decide_eq_true e; injection this)) ?_
    refine ⟨Nat.zero_le _, fun L nL => ?_⟩
    exact q L [] [] _ (same_new nL) nL upd_same .nil ⟨by decide, by decide, fun q h => absurd h List.not_mem_nil⟩
abbrev s__law_pairs : Stmt := topS 47
theorem sc__law_pairs : FnScope ["_law_pot_here", "_law_names_here", "_law_found", "_law_one", "_law_other", "_law_turn", "_law_pair"] ["_law_pot_here"] (defScope s__law_pairs) := ⟨rfl, rfl, rfl, by decide +kernel, rfl, by decide +kernel, by decide +kernel⟩
def spPairs (K : PySem.W.Frag) : Sp := fun vs H Q _ => ∃ (b : Addr), vs = [.ref b] ∧ Po H b ∧ ∀ v ps H', But b H H' → WF ps → Dp K H' v (psD ps) → Q v H'
theorem ok__law_pairs (B : Bn mg) {f__law_pairs : Addr} {fd__law_pairs : FuncData} (D__law_pairs : Dd K mg "_law_pairs" s__law_pairs f__law_pairs fd__law_pairs ["_law_pot_here"]) {f__law_names : Addr} {fd__law_names : FuncData} (D__law_names : Dd K mg "_law_names" s__law_names f__law_names fd__law_names ["_law_pot_here", "_law_many"]) (G__law_names : FnOk P w K mg base CX0 2 f__law_names fd__law_names ["_law_pot_here", "_law_many"] (spNames K)) {f__law_shape : Addr} {fd__law_shape : FuncData} (D__law_shape : Dd K mg "_law_shape" s__law_shape f__law_shape fd__law_shape ["_law_pot_here", "_law_way"]) (G__law_shape : FnOk P w K mg base CX0 2 f__law_shape fd__law_shape ["_law_pot_here", "_law_way"] (spShape K)) {f__law_draw : Addr} {fd__law_draw : FuncData} (D__law_draw : Dd K mg "_law_draw" s__law_draw f__law_draw fd__law_draw ["_law_pot_here", "_law_many"]) (G__law_draw : FnOk P w K mg base CX0 1 f__law_draw fd__law_draw ["_law_pot_here", "_law_many"] (spDraw K)) {f__law_pick : Addr} {fd__law_pick : FuncData} (D__law_pick : Dd K mg "_law_pick" s__law_pick f__law_pick fd__law_pick ["_law_pot_here", "_law_some"]) (G__law_pick : FnOk P w K mg base CX0 2 f__law_pick fd__law_pick ["_law_pot_here", "_law_some"] (spPick K)) {f__law_all_pairs : Addr} {fd__law_all_pairs : FuncData} (D__law_all_pairs : Dd K mg "_law_all_pairs" s__law_all_pairs f__law_all_pairs fd__law_all_pairs ["_law_places"]) (G__law_all_pairs : FnOk P w K mg base CX0 1 f__law_all_pairs fd__law_all_pairs ["_law_places"] (spAllPairs K)) : FnOk P w K mg base CX0 3 f__law_pairs fd__law_pairs ["_law_pot_here"] (spPairs K) := by
  refine D__law_pairs.F.ok sc__law_pairs (fun vs H Q E h => ?_) (fun cdv A outer s H vs Q E hr h => ?_)
  · obtain ⟨b, rfl, _⟩ := h
    rfl
  · obtain ⟨b, rfl, po, q⟩ := h
    refine ⟨_, (pss_cons (ps_par (i := 1) (j := 2) (by rfl) sc__law_pairs.nd rfl rfl (by decide) rfl rfl (pa_cons (pe_call G__law_names (hr.mono (by decide)) (by rfl) D__law_names.m D__law_names.F.kp D__law_names.b .nil pass0 (pa_cons (pv 0) (pa_cons pe_int pa_nil))) (pa_cons (pe_lst pa_nil) pa_nil)) (by rfl))
      (pss_cons (ps_for PassesOwn.never rfl (piL K (pe_call G__law_shape (hr.mono (by decide)) (by rfl) D__law_shape.m D__law_shape.F.kp D__law_shape.b .nil pass0 (pa_cons (pv 0) (pa_cons (pe_call G__law_draw (hr.mono (by decide)) (by rfl) D__law_draw.m D__law_draw.F.kp D__law_draw.b .nil pass0 (pa_cons (pv 0) (pa_cons pe_int pa_nil))) pa_nil)))) (pgT K 2 (pgs_cons (pg_name (i := 3) sc__law_pairs.nd rfl (.inl rfl)) (pgs_cons (pg_name (i := 4) sc__law_pairs.nd rfl (.inl rfl)) pgs_nil))) (pss_one (ps_if (pt_cmpR op_gt (pe_call G__law_draw (hr.mono (by decide)) (by rfl) D__law_draw.m D__law_draw.F.kp D__law_draw.b .nil pass0 (pa_cons (pv 0) (pa_cons pe_int pa_nil))) pe_int (nomark _)) (pss_one (ps_expr (pe_bm PySem.F.plainAttrs_list PySem.F.slot_list_append PySem.F.type_list_append mt_append (pv 2) (pa_cons (pe_callTy (cTuple K) (by rfl) B.tuple (by decide +kernel) (pa_cons (pe_callB (cSorted K) (by rfl) B.sorted (by decide +kernel) (pa_cons (pe_lst (pa_cons (pe_ix (ixL K) (pv 1) (pv 3) (fun _ _ => rfl)) (pa_cons (pe_ix (ixL K) (pv 1) (pv 4) (fun _ _ => rfl)) pa_nil))) pa_nil)) pa_nil)) pa_nil)))) pss_nil)))
      (pss_cons (ps_for PassesOwn.never rfl (pi_range1 (by rfl) B.range (pa_cons (pe_ifExp (pt_cmpR (opNeD K (by exact hr.units)) (pv 2) (pe_lst pa_nil) (nomark _)) (pe_call G__law_draw (hr.mono (by decide)) (by rfl) D__law_draw.m D__law_draw.F.kp D__law_draw.b .nil pass0 (pa_cons (pv 0) (pa_cons pe_int pa_nil))) (pe_op op_add pe_int (pe_call G__law_draw (hr.mono (by decide)) (by rfl) D__law_draw.m D__law_draw.F.kp D__law_draw.b .nil pass0 (pa_cons (pv 0) (pa_cons pe_int pa_nil))))) pa_nil)) (pg_name (i := 5) sc__law_pairs.nd rfl (.inl rfl)) (pss_cons (ps_set (i := 6) sc__law_pairs.nd rfl (.inl rfl) (pe_call G__law_pick (hr.mono (by decide)) (by rfl) D__law_pick.m D__law_pick.F.kp D__law_pick.b .nil pass0 (pa_cons (pv 0) (pa_cons (pe_call G__law_all_pairs (hr.mono (by decide)) (by rfl) D__law_all_pairs.m D__law_all_pairs.F.kp D__law_all_pairs.b .nil pass0 (pa_cons (pe_callB (cSorted K) (by rfl) B.sorted (by decide +kernel) (pa_cons (pe_slice (slL K) (pv 1) po_none (po_some (pe_op op_add pe_int (pe_call G__law_draw (hr.mono (by decide)) (by rfl) D__law_draw.m D__law_draw.F.kp D__law_draw.b .nil pass0 (pa_cons (pv 0) (pa_cons pe_int pa_nil)))))) pa_nil)) pa_nil)) pa_nil))))
      (pss_one (ps_if (PW.pt (pw_and (pt_cmpR (opNotInD K (by exact hu65 hr)) (pv 6) (pv 2) (by rfl)) (pw_and1 (pt_cmpR op_lt (pe_callB (cLen K) (by rfl) B.len (by decide +kernel) (pa_cons (pv 2) pa_nil)) pe_int (nomark _))))) (pss_one (ps_expr (pe_bm PySem.F.plainAttrs_list PySem.F.slot_list_append PySem.F.type_list_append mt_append (pv 2) (pa_cons (pv 6) pa_nil)))) pss_nil))))
      (pss_one (ps_ret (pe_callTy (cTuple K) (by rfl) B.tuple (by decide +kernel) (pa_cons (pe_callB (cSortD K pD (by exact hu70 hr)) (by rfl) B.sorted (by decide +kernel) (pa_cons (pv 2) pa_nil)) pa_nil))))))), ?_⟩
    -- names, found = ..
    refine ⟨_, rfl, b, rfl, po, fun n ns H1 bt1 po1 nn en nm => ⟨Nat.zero_le _, fun o no => ⟨_, _, rfl, ?_⟩⟩⟩
    have bn := po_ne po nn
    have bo := po_ne po1 no
    have neo : n ≠ o := ne_of_none en no
    have no0 : H o = none := bt1.free po1 no
    have s2 := same_new (H := H1) (o := .lst []) no
    -- for one, other in shape(pot, draw(pot, 8))
    refine ⟨_, rfl, _, rfl, b, 8, rfl, by decide, by decide, po1.same s2, fun d H3 _ _ bt3 po3 => ?_⟩
    refine ⟨_, d, rfl, fun m rs l H4 s4 nm4 em dm shp => ?_⟩
    have bt4 : But b H H4 := (bt1.trans (.of s2)).trans (bt3.trans (.of s4))
    have en4 : H4 n = some (.lst (ns.map V.int)) := s4 _ _ (bt3 _ _ (Ne.symm bn) (s2 _ _ en))
    have eo4 : H4 o = some (.lst []) := s4 _ _ (bt3 _ _ (Ne.symm bo) upd_same)
    have om : o ≠ m := ne_of_none (bt3 _ _ (Ne.symm bo) upd_same) nm4
    have bm : b ≠ m := po_ne po3 nm4
    have lr : rs.length = l.length := by rw [dps_len dm, List.length_map]
    have l6 := shp.len
    refine ⟨m, rfl, ⟨_, .of em⟩, ?_⟩
    refine for_it (walk_list (a := m) (xs := rs)) (fun i σ H5 => ∃ v3 v4 fs acc, σ = [some (.ref b), some (.ref n), some (.ref o), v3, v4, none, none] ∧ But b H H5 ∧ Po H5 b ∧ H5 n = some (.lst (ns.map V.int)) ∧ H5 m = some (.lst rs) ∧ DpAll K H5 rs (l.map pD) ∧
        H5 o = some (.lst fs) ∧ DpAll K H5 fs (acc.map pD) ∧ Fnd acc ∧ acc.length ≤ i ∧ ∀ p ∈ acc, ∃ r ∈ l.take i, p = pairAt ns r)
      ⟨none, none, [], [], rfl, bt4, po3.same s4, en4, em, dm, eo4, .nil, fnd_nil, Nat.le_refl _, fun p h => absurd h List.not_mem_nil⟩ (fun i σ H2 _ ⟨_, _, _, _, _, _, _, _, e, _⟩ => .of e) ?_ ?_
    · rintro i x σ H5 H6 hi ⟨v3, v4, fs, acc, rfl, bt5, po5, en5, em5, dm5, eo5, df, fnd, la, src⟩ ⟨rfl, hxi⟩
      obtain ⟨r, hr2, dr⟩ := enc_get dm5 hxi
      have okr := shp.ok r (List.mem_of_getElem? hr2)
      obtain ⟨c, rfl, tc⟩ := p_of dr
      refine ⟨c, _, rfl, tc, rfl, _, _, rfl, _, _, rfl, rfl, ?_⟩
      -- if draw(pot, 12) > 0
      refine ⟨_, rfl, b, 12, rfl, by decide, by decide, po5, fun d7 H7 _ _ bt7 po7 => ?_⟩
      have bt57 := bt5.trans bt7
      have en7 := bt7 _ _ (Ne.symm bn) en5
      have em7 := bt7 _ _ (Ne.symm bm) em5
      have dm7 := dps_keep (bt7.keeps po5) _ _ (fixDs_map fix_p _) dm5
      have eo7 := bt7 _ _ (Ne.symm bo) eo5
      have df7 := dps_keep (bt7.keeps po5) _ _ (fixDs_map fix_p _) df
      refine ⟨_, _, rfl, rfl, _, rfl, ?_⟩
      cases e : decide (0 < d7) with
      | false =>
        refine iteF ⟨_, _, fs, acc, rfl, bt57, po7, en7, em7, dm7, eo7, df7, fnd, by omega, fun p hp => ?_⟩
        obtain ⟨t, h1, h2⟩ := src p hp
        exact ⟨t, by rw [take_one hr2]; exact List.mem_append_left _ h1, h2⟩
      | true =>
        obtain ⟨o1, o2, o3⟩ := okr
        have g1 := nm_get nm (i := r.1) o1 (by omega)
        have g2 := nm_get nm (i := r.2) (by omega) o3
        refine iteT ⟨_, rfl, .inl ⟨rfl, _, .of eo7⟩, ?_⟩
        refine ⟨_, rfl, _, rfl, n, _, _, .int (nmAt ns r.1), rfl, rfl, .of en7, at_of (j := r.1.toNat) (by omega) (by rw [List.getElem?_map, g1]; rfl), ?_⟩
        refine ⟨_, rfl, _, rfl, n, _, _, .int (nmAt ns r.2), rfl, rfl, .of en7, at_of (j := r.2.toNat) (by omega) (by rw [List.getElem?_map, g2]; rfl), (by show 2 ≤ sizeLine; decide), fun G nG => ?_⟩
        refine ⟨G, [nmAt ns r.1, nmAt ns r.2], rfl, .of upd_same, (by show 2 < 64; decide), fun ys p pm sr np => ?_⟩
        have es := srt_two pm sr
        refine ⟨p, _, rfl, .inl ⟨.of upd_same, fun U nU => ?_⟩⟩
        have s8 := ((same_new (o := .lst [.int (nmAt ns r.1), .int (nmAt ns r.2)]) nG).trans (same_new (o := .lst (ys.map V.int)) np)).trans (same_new (o := .tup (ys.map V.int)) nU)
        have eo8 := s8 _ _ eo7
        have lf := dps_len df7
        rw [List.length_map] at lf
        refine ⟨o, fs, _, rfl, rfl, eo8, small_line (by omega), ?_⟩
        have k8 := keeps_upd_lst (o := .lst (fs ++ [.ref U])) eo8
        have nin : pairAt ns r ∉ acc := fun h => by
          obtain ⟨t, h1, h2⟩ := src _ h
          have okt := shp.ok t (List.mem_of_mem_take h1)
          have et := pairAt_inj nm ⟨o1, o2, o3⟩ okt h2
          subst et
          obtain ⟨j, hj⟩ := List.mem_iff_getElem?.mp h1
          rw [List.getElem?_take] at hj
          split at hj
          · have := nodupP_at shp.nd hj hr2
            omega
          · cases hj
        refine ⟨_, _, fs ++ [.ref U], acc ++ [pairAt ns r], rfl, (bt57.trans (.of s8)).write no0, ?_, ?_, ?_, ?_, upd_same, ?_, fnd.add (pairAt_ok nm ⟨o1, o2, o3⟩) nin, by rw [List.length_append]; exact Nat.add_le_add_right la 1, fun p hp => ?_⟩
        · obtain ⟨p1, p2, e⟩ := po7.same s8
          exact ⟨p1, p2, by rw [upd_ne bo]; exact e⟩
        · rw [upd_ne neo]
          exact s8 _ _ en7
        · rw [upd_ne (Ne.symm om)]
          exact s8 _ _ em7
        · exact dps_keep k8 _ _ (fixDs_map fix_p _) (dps_same (fixDs_map fix_p _) s8 dm7)
        · rw [List.map_append]
          refine dps_app (dps_keep k8 _ _ (fixDs_map fix_p _) (dps_same (fixDs_map fix_p _) s8 df7)) (dps_one (dp_keep k8 _ _ (fix_p _) (p_mk (p := pairAt ns r) (.of ?_))))
          rw [upd_same, es]
          rfl
        · rcases List.mem_append.mp hp with hp | hp
          · obtain ⟨t, h1, h2⟩ := src p hp
            exact ⟨t, by rw [take_one hr2]; exact List.mem_append_left _ h1, h2⟩
          · exact ⟨r, by rw [take_one hr2]; exact List.mem_append_right _ List.mem_cons_self, List.mem_singleton.mp hp⟩
    · rintro σ H5 ⟨v3, v4, fs, acc, rfl, bt5, po5, en5, em5, dm5, eo5, df, fnd, la, src⟩
      have la6 : acc.length ≤ 6 := by omega
      -- for turn in range(draw(pot, 4) if found != [] else 1 + draw(pot, 6))
      refine nx_go (seq_go (for_go ?_))
      refine bothA (T := tCons _ tNil _ _) (fun vs H' => ∃ n : Int, vs = [.int n] ∧ 0 ≤ n ∧ n ≤ 6 ∧ (acc = [] → 1 ≤ n) ∧ But b H5 H' ∧ Po H' b) (fun Q q => ?_) ?_
      · refine ⟨_, rfl, Nat.zero_le _, fun N nN => ?_⟩
        have s6 := same_new (H := H5) (o := .lst []) nN
        refine ⟨.list (acc.map pD), .list [], .lst (.of (s6 _ _ eo5)) (dps_same (fixDs_map fix_p _) s6 df), .lst (.of upd_same) .nil, shape_pl _, by decide, _, rfl, ?_⟩
        rw [eqv_empty]
        cases ea : acc with
        | nil =>
          refine iteF ⟨_, rfl, b, 6, rfl, by decide, by decide, po5.same s6, fun d7 H7 d0 d1 bt7 po7 => ?_⟩
          refine ⟨_, _, rfl, rfl, ?_⟩
          exact q _ _ ⟨_, rfl, by omega, by omega, fun _ => by omega, (But.of s6).trans bt7, po7⟩
        | cons a0 ar =>
          refine iteT ⟨_, rfl, b, 4, rfl, by decide, by decide, po5.same s6, fun d7 H7 d0 d1 bt7 po7 => ?_⟩
          exact q _ _ ⟨_, rfl, by omega, by omega, (fun e => by rw [ea] at e; cases e), (But.of s6).trans bt7, po7⟩
      · rintro _ H6 ⟨k, rfl, k0, k6, kn, bt6, po6⟩
        refine ⟨k, rfl, by omega, by omega, ?_⟩
        have bt56 := bt5.trans bt6
        refine for_it walk_range (fun i σ H7 => ∃ v5 v6 fs acc2, σ = [some (.ref b), some (.ref n), some (.ref o), v3, v4, v5, v6] ∧ But b H H7 ∧ Po H7 b ∧ H7 n = some (.lst (ns.map V.int)) ∧ H7 o = some (.lst fs) ∧ DpAll K H7 fs (acc2.map pD) ∧ Fnd acc2 ∧ acc2.length ≤ 6 ∧ (acc2 = [] → acc = [] ∧ i = 0))
          ⟨none, none, fs, acc, rfl, bt56, po6, bt6 _ _ (Ne.symm bn) en5, bt6 _ _ (Ne.symm bo) eo5, dps_keep (bt6.keeps po5) _ _ (fixDs_map fix_p _) df, fnd, la6, fun e => ⟨e, rfl⟩⟩ (fun _ _ _ _ _ => trivial) ?_ ?_
        · rintro i x σ H7 H8 hi ⟨v5, v6, fs, acc2, rfl, bt7, po7, en7, eo7, df7, fnd7, la7, em7⟩ ⟨rfl, rfl⟩
          -- pair = pick(pot, all_pairs(sorted(names[:3 + draw(pot, 6)])))
          refine ⟨_, rfl, _, rfl, _, rfl, b, 6, rfl, by decide, by decide, po7, fun d H9 d0 d1 bt9 po9 => ?_⟩
          have en9 := bt9 _ _ (Ne.symm bn) en7
          refine ⟨_, _, rfl, rfl, _, rfl, n, _, rfl, .of en9, fun c nc => ?_⟩
          have ec : cutV (ns.map V.int) none (some (3 + d)) = (ns.take (3 + d).toNat).map V.int := by
            rw [show (3 + d : Int) = (((3 + d).toNat : Nat) : Int) by omega, cut_to, List.map_take, Int.toNat_natCast]
          rw [ec]
          have lt8 := List.length_take_le (3 + d).toNat ns
          have lt9 : (ns.take (3 + d).toNat).length ≤ 8 := by rw [List.length_take, nm.len]; omega
          refine ⟨c, ns.take (3 + d).toNat, rfl, .of upd_same, by omega, fun ys p pm sr np => ?_⟩
          obtain ⟨okl, l8, nel⟩ := pairs_of_names (ms := ns) nm pm sr
          have lp := pairsOf_len ys
          have l64 : ys.length * ys.length ≤ 8 * 8 := Nat.mul_le_mul l8 l8
          refine ⟨p, ys, rfl, .of upd_same, l8, fun m2 rs2 H10 s10 nm2 em2 dm2 => ?_⟩
          have s9 := ((same_new (o := .lst ((ns.take (3 + d).toNat).map V.int)) nc).trans (same_new (o := .lst (ys.map V.int)) np)).trans s10
          have po10 := po9.same s9
          have bm2 : b ≠ m2 := po_ne (po9.same ((same_new (o := .lst ((ns.take (3 + d).toNat).map V.int)) nc).trans (same_new (o := .lst (ys.map V.int)) np))) nm2
          refine ⟨b, m2, rs2, pairsOf ys, rfl, po10, bm2, em2, dm2, nel (by omega), by omega, fun v pr H11 bt11 po11 hm dv => ?_⟩
          have bt711 := (bt9.trans (.of s9)).trans bt11
          have en11 := bt711 _ _ (Ne.symm bn) en7
          have eo11 := bt711 _ _ (Ne.symm bo) eo7
          have df11 := dps_keep (bt711.keeps po7) _ _ (fixDs_map fix_p _) df7
          have okp := okl pr hm
          -- if pair not in found and len(found) < 6
          refine ⟨_, rfl, _, rfl, pD pr, acc2.map pD, dv, .lst (.of eo11) df11, shape_p _, shape_pl _, _, rfl, ?_⟩
          rw [any_p]
          have lf := dps_len df11
          rw [List.length_map] at lf
          cases e1 : acc2.contains pr with
          | true =>
            have hin : pr ∈ acc2 := List.contains_iff_mem.mp e1
            refine iteF (iteF ⟨_, _, fs, acc2, rfl, bt7.trans bt711, po11, en11, eo11, df11, fnd7, la7, fun e => ?_⟩)
            rw [e] at hin
            exact absurd hin List.not_mem_nil
          | false =>
            have hnin : pr ∉ acc2 := fun h => by rw [List.contains_iff_mem.mpr h] at e1; cases e1
            refine iteT ⟨_, rfl, o, _, rfl, .inl (.of eo11), _, 6, rfl, rfl, _, rfl, ?_⟩
            by_cases h6 : acc2.length < 6
            · refine iteP (decide_eq_true (by omega)) ?_
              refine ⟨_, rfl, .inl ⟨rfl, _, .of eo11⟩, _, rfl, o, fs, _, rfl, rfl, eo11, small_line (by omega), ?_⟩
              have k12 := keeps_upd_lst (o := .lst (fs ++ [v])) eo11
              refine ⟨_, _, fs ++ [v], acc2 ++ [pr], rfl, (bt7.trans bt711).write no0, ?_, by rw [upd_ne neo]; exact en11, upd_same, ?_, fnd7.add okp hnin, by rw [List.length_append]; exact h6, fun e => ?_⟩
              · obtain ⟨p1, p2, e⟩ := po11
                exact ⟨p1, p2, by rw [upd_ne bo]; exact e⟩
              · rw [List.map_append]
                exact dps_app (dps_keep k12 _ _ (fixDs_map fix_p _) df11) (dps_one (dp_keep k12 _ _ (fix_p _) dv))
              · cases acc2 <;> cases e
            · refine iteN (fun e => by have := of_decide_eq_true e; omega) ?_
              refine ⟨_, _, fs, acc2, rfl, bt7.trans bt711, po11, en11, eo11, df11, fnd7, la7, fun e => ?_⟩
              rw [e] at h6
              exact absurd (by decide : ([] : List Pr).length < 6) h6
        · rintro σ H7 ⟨v5, v6, fs, acc2, rfl, bt7, po7, en7, eo7, df7, fnd7, la7, em7⟩
          have ne2 : acc2 ≠ [] := fun e => by
            obtain ⟨e1, e2⟩ := em7 e
            have := kn e1
            omega
          refine ⟨_, rfl, nil_go ?_⟩
          refine sort_done (K := K) (enc := pD) acc2 _ (.of eo7) df7 alike_p tup_p (fun x => by rw [depth_p]; decide) fix_p rfl fun p ws H8 s8 np ep dw => ?_
          refine ⟨p, ws, rfl, .inl ⟨.of ep, fun U nU => ?_⟩⟩
          refine q _ _ _ ((bt7.trans (.of s8)).trans (.of (same_new nU))) (fnd_wf fnd7 ne2 la7) (.tup (.of upd_same) (dps_same (fixDs_map fix_p _) (same_new nU) dw))
end
end Kd

set_option Elab.async false
set_option linter.all false
set_option maxRecDepth 100000
set_option maxHeartbeats 4000000
namespace Kd
open PySem PySem.Spec PyProof.Rows L2
/-! ## what is shown is short -/
structure Sm (k n : Nat) (d : PyData) : Prop where
  lay : d.canLay0 = true
  lv : d.leavesShort 8 = true
  sh : d.showable = true
  dp : d.depth ≤ k
  wt : d.weight ≤ n
structure SmA (k n : Nat) (ds : List PyData) : Prop where
  lay : PyData.canLayAll0 ds = true
  lv : PyData.leavesShortAll 8 ds = true
  sh : PyData.showableAll ds = true
  dp : PyData.depthAll ds ≤ k
  wt : PyData.weightAll ds ≤ n
theorem sma_nil {k n : Nat} : SmA k n [] := ⟨by simp [PyData.canLayAll0], by simp [PyData.leavesShortAll], by simp [PyData.showableAll], by simp [PyData.depthAll], by simp [PyData.weightAll]⟩
theorem sma_cons {k n m : Nat} {d : PyData} {ds : List PyData} (a : Sm k n d) (b : SmA k m ds) : SmA k (n + 1 + m) (d :: ds) :=
  ⟨by simp [PyData.canLayAll0, a.lay, b.lay], by simp [PyData.leavesShortAll, a.lv, b.lv], by simp [PyData.showableAll, a.sh, b.sh], by
    have := a.dp
    have := b.dp
    simp only [PyData.depthAll]
    omega, by
    have := a.wt
    have := b.wt
    simp only [PyData.weightAll]
    omega⟩
theorem Sm.mono {k n k2 n2 : Nat} {d : PyData} (a : Sm k n d) (hk : k ≤ k2) (hn : n ≤ n2) : Sm k2 n2 d := ⟨a.lay, a.lv, a.sh, Nat.le_trans a.dp hk, Nat.le_trans a.wt hn⟩
theorem SmA.mono {k n k2 n2 : Nat} {d : List PyData} (a : SmA k n d) (hk : k ≤ k2) (hn : n ≤ n2) : SmA k2 n2 d := ⟨a.lay, a.lv, a.sh, Nat.le_trans a.dp hk, Nat.le_trans a.wt hn⟩
theorem sm_list {k n : Nat} {ds : List PyData} (a : SmA k n ds) : Sm (k + 1) n (.list ds) :=
  ⟨by simp only [PyData.canLay0]; exact a.lay, by simp only [PyData.leavesShort]; exact a.lv, by simp only [PyData.showable]; exact a.sh, by simp only [PyData.depth]; exact Nat.succ_le_succ a.dp, by simp only [PyData.weight]; exact a.wt⟩
theorem sm_tup {k n : Nat} {ds : List PyData} (a : SmA k n ds) : Sm (k + 1) n (.tuple ds) :=
  ⟨by simp only [PyData.canLay0]; exact a.lay, by simp only [PyData.leavesShort]; exact a.lv, by simp only [PyData.showable]; exact a.sh, by simp only [PyData.depth]; exact Nat.succ_le_succ a.dp, by simp only [PyData.weight]; exact a.wt⟩
theorem sma_map {α : Type} {enc : α → PyData} {k n : Nat} : ∀ {l : List α}, (∀ x ∈ l, Sm k n (enc x)) → SmA k ((n + 1) * l.length) (l.map enc)
  | [], _ => sma_nil
  | x :: l, h => by
    refine SmA.mono (sma_cons (h x List.mem_cons_self) (sma_map (fun y hy => h y (List.mem_cons_of_mem _ hy)))) (Nat.le_refl _) ?_
    rw [List.length_cons, Nat.mul_succ]
    omega
theorem sm_int {i : Int} (h0 : 0 ≤ i) (h8 : i < 8) : Sm 0 3 (.int i) := by
  have h : i = 0 ∨ i = 1 ∨ i = 2 ∨ i = 3 ∨ i = 4 ∨ i = 5 ∨ i = 6 ∨ i = 7 := by omega
  rcases h with rfl | rfl | rfl | rfl | rfl | rfl | rfl | rfl <;> exact ⟨by decide +kernel, by decide +kernel, by decide +kernel, by decide +kernel, by decide +kernel⟩
theorem sm_none : Sm 0 0 .none := ⟨by decide +kernel, by decide +kernel, by decide +kernel, by decide +kernel, by decide +kernel⟩
theorem sm_bool (b : Bool) : Sm 0 0 (.bool b) := by cases b <;> exact ⟨by decide +kernel, by decide +kernel, by decide +kernel, by decide +kernel, by decide +kernel⟩
theorem sm_hubs : Sm 0 10 (.str "hubs") := ⟨by decide +kernel, by decide +kernel, by decide +kernel, by decide +kernel, by decide +kernel⟩
theorem sm_four : Sm 0 10 (.str "four") := ⟨by decide +kernel, by decide +kernel, by decide +kernel, by decide +kernel, by decide +kernel⟩
theorem sm_ring : Sm 0 10 (.str "ring") := ⟨by decide +kernel, by decide +kernel, by decide +kernel, by decide +kernel, by decide +kernel⟩
theorem sm_apart : Sm 0 10 (.str "apart") := ⟨by decide +kernel, by decide +kernel, by decide +kernel, by decide +kernel, by decide +kernel⟩
theorem sm_beside : Sm 0 10 (.str "beside") := ⟨by decide +kernel, by decide +kernel, by decide +kernel, by decide +kernel, by decide +kernel⟩
theorem sm_p {p : Pr} (h : 0 ≤ p.1 ∧ p.1 < p.2 ∧ p.2 < 8) : Sm 1 8 (pD p) := by
  have h1 := sma_cons (sm_int h.1 (by omega)) (sma_cons (sm_int (i := p.2) (by omega) h.2.2) (sma_nil (n := 0)))
  exact sm_tup (h1.mono (Nat.le_refl _) (by decide))
theorem sm_row {r : List Int} (h : ∀ x ∈ r, 0 ≤ x ∧ x < 8) : Sm 1 (4 * r.length) (rowD r) := sm_tup (sma_map (enc := PyData.int) fun x hx => sm_int (h x hx).1 (h x hx).2)
section
variable {ps : List Pr} (wf : WF ps)
include wf
theorem rng_mem {x : Int} (h : x ∈ mem ps) : 0 ≤ x ∧ x < 8 := mem_places.mp (List.mem_filter.mp h).1
theorem sm_t3 {t : Pr × Pr × Pr} (h : t ∈ apart3 ps) : Sm 2 27 (t3D t) := by
  obtain ⟨a, b, c, _⟩ := apart3_mem h
  have h1 := sma_cons (sm_p (wf.rng _ a)) (sma_cons (sm_p (wf.rng _ b)) (sma_cons (sm_p (wf.rng _ c)) (sma_nil (n := 0))))
  exact sm_tup (h1.mono (Nat.le_refl _) (by decide))
theorem sm_r3 {t : R3} (h : t ∈ ring3 ps) : Sm 1 12 (r3D t) := by
  obtain ⟨a, b, c, d⟩ := (mem_ring3 wf.rng).mp h
  have a1 := wf.rng _ a
  have b1 := wf.rng _ b
  have c1 := wf.rng _ c
  simp only at a1 b1 c1
  have h1 := sma_cons (sm_int (i := t.1) a1.1 (by omega)) (sma_cons (sm_int (i := t.2.1) (by omega) (by omega)) (sma_cons (sm_int (i := t.2.2) (by omega) (by omega)) (sma_nil (n := 0))))
  exact sm_tup (h1.mono (Nat.le_refl _) (by decide))
theorem sm_bs {t : R3 × Pr} (h : t ∈ beside ps) : Sm 2 22 (bsD t) := by
  obtain ⟨a, b, _⟩ := mem_beside.mp h
  have h1 := sma_cons (sm_r3 wf a) (sma_cons (sm_p (wf.rng _ b)) (sma_nil (n := 0)))
  exact sm_tup (h1.mono (Nat.le_refl _) (by decide))
def listsD (ps : List Pr) : PyData := .list [.list ((apart3 ps).map t3D), .list ((ring3 ps).map r3D), .list ((beside ps).map bsD)]
theorem sm_lists : Sm 4 100000 (listsD ps) := by
  have l1 := apart3_216 wf
  have l2 := ring3_48 wf
  have l3 := beside_288 wf
  have a := sm_list (sma_map fun t (h : t ∈ apart3 ps) => sm_t3 wf h)
  have b := (sm_list (sma_map fun t (h : t ∈ ring3 ps) => sm_r3 wf h)).mono (k2 := 3) (by decide) (Nat.le_refl _)
  have c := sm_list (sma_map fun t (h : t ∈ beside ps) => sm_bs wf h)
  have h1 := sma_cons a (sma_cons b (sma_cons c (sma_nil (n := 0))))
  exact sm_list (h1.mono (Nat.le_refl _) (by omega))
theorem sm_hub {h : Pr} (e : hubs ps = some h) : Sm 1 8 (pD h) := by
  have hm := List.mem_of_find?_eq_some e
  obtain ⟨a, b, c⟩ := (mem_pairsOf (x := h.1) (y := h.2) (mem_sorted ps)).mp hm
  exact sm_p ⟨(rng_mem wf a).1, c, (rng_mem wf b).2⟩
theorem sm_ringOf {r : List Int} (e : ringOf ps = some r) : Sm 1 20 (rowD r) := by
  unfold ringOf at e
  split at e
  · rename_i h5
    have hne : mem ps ≠ [] := fun e => by rw [e] at h5; cases h5
    obtain ⟨a, b, c, d, rfl, _, hm⟩ := of_mem_rows (head_mem hne) (List.mem_of_find?_eq_some e)
    exact sm_row fun x hx => rng_mem wf (hm x hx)
  · cases e
theorem sm_mem : Sm 1 32 (rowD (mem ps)) := (sm_row fun x hx => rng_mem wf hx).mono (Nat.le_refl _) (by have := mem_len ps; omega)
theorem sm_kind : Sm 3 100 (kindD ps) := by
  have pair : ∀ {d e : PyData} {k n : Nat}, Sm 0 10 d → Sm k n e → k ≤ 2 → n ≤ 80 → Sm 3 100 (.tuple [d, e]) := fun a b hk hn =>
    sm_tup ((sma_cons (a.mono (k2 := 2) (by decide) (Nat.le_refl _)) (sma_cons (b.mono hk hn) (sma_nil (n := 0)))).mono (Nat.le_refl _) (by decide))
  unfold kindD
  cases e1 : hubs ps with
  | some h => exact pair sm_hubs (sm_hub wf e1) (by decide) (by decide)
  | none =>
    simp only
    split
    · exact pair sm_four (sm_mem wf) (by decide) (by decide)
    · cases e2 : ringOf ps with
      | some r => exact pair sm_ring (sm_ringOf wf e2) (by decide) (by decide)
      | none =>
        simp only
        cases e3 : apart3 ps with
        | cons t l => exact pair sm_apart (sm_t3 wf (by rw [e3]; exact List.mem_cons_self)) (by decide) (by decide)
        | nil =>
          simp only
          cases e4 : beside ps with
          | cons t l =>
            obtain ⟨a, b, _⟩ := mem_beside.mp (show t ∈ beside ps by rw [e4]; exact List.mem_cons_self)
            have h1 := sma_cons (sm_beside.mono (k2 := 2) (by decide) (Nat.le_refl _)) (sma_cons ((sm_r3 wf a).mono (k2 := 2) (by decide) (Nat.le_refl _)) (sma_cons ((sm_p (wf.rng _ b)).mono (k2 := 2) (by decide) (Nat.le_refl _)) (sma_nil (n := 0))))
            exact sm_tup (h1.mono (Nat.le_refl _) (by decide))
          | nil => exact sm_none.mono (by decide) (by decide)
theorem sm_kinds : Sm 4 300 (.list [kindD ps, kindD ps]) := by
  have h1 := sma_cons (sm_kind wf) (sma_cons (sm_kind wf) (sma_nil (n := 0)))
  exact sm_list (h1.mono (Nat.le_refl _) (by decide))
def toldD (ps : List Pr) : PyData := .list [optD pD (hubs ps), fourD ps, optD rowD (ringOf ps), .bool (goodB ps)]
theorem sm_told : Sm 3 300 (toldD ps) := by
  have a : Sm 2 40 (optD pD (hubs ps)) := by
    cases e : hubs ps with
    | none => exact sm_none.mono (by decide) (by decide)
    | some h => exact (sm_hub wf e).mono (by decide) (by decide)
  have b : Sm 2 40 (fourD ps) := by
    unfold fourD
    split
    · exact (sm_mem wf).mono (by decide) (by decide)
    · exact sm_none.mono (by decide) (by decide)
  have c : Sm 2 40 (optD rowD (ringOf ps)) := by
    cases e : ringOf ps with
    | none => exact sm_none.mono (by decide) (by decide)
    | some h => exact (sm_ringOf wf e).mono (by decide) (by decide)
  have h1 := sma_cons a (sma_cons b (sma_cons c (sma_cons ((sm_bool (goodB ps)).mono (k2 := 2) (n2 := 0) (by decide) (by decide)) (sma_nil (n := 0)))))
  exact sm_list (h1.mono (Nat.le_refl _) (by decide))
/-- the kind's name -/
theorem kind_head : ∃ z l, kindD ps = .tuple (.str z :: l) ∧ inV (.str z) [.str "hubs", .str "four", .str "ring"] = goodB ps := by
  have g := good_iff wf
  unfold goodB noBad at *
  unfold kindD
  cases e1 : hubs ps with
  | some h => exact ⟨_, _, rfl, by rw [Option.isSome_some, Bool.true_or]; decide +kernel⟩
  | none =>
    rw [e1] at g
    simp only
    by_cases h4 : (mem ps).length ≤ 4
    · rw [if_pos h4, decide_eq_true h4]
      exact ⟨_, _, rfl, by rw [Bool.true_or, Bool.or_true]; decide +kernel⟩
    · rw [if_neg h4]
      rw [decide_eq_false h4] at g ⊢
      cases e2 : ringOf ps with
      | some r => exact ⟨_, _, rfl, by rw [Option.isSome_some, Bool.or_true, Bool.or_true]; decide +kernel⟩
      | none =>
        rw [e2] at g
        simp only
        cases e3 : apart3 ps with
        | cons t l => exact ⟨_, _, rfl, by decide +kernel⟩
        | nil =>
          simp only
          cases e4 : beside ps with
          | cons t l => exact ⟨_, _, rfl, by decide +kernel⟩
          | nil =>
            rw [e3, e4] at g
            cases g
end
theorem repr_go {K : PySem.W.Frag} {H : Hp} {Q : VK} {a : Addr} {d : PyData} {k n : Nat} (h : Dp K H (.ref a) d) (s : Sm k n d) (hk : k ≤ 60) (hn : n ≤ 2 ^ 20) (q : Q (.str d.shown) H) : rRepr K [.ref a] H Q :=
  ⟨a, d, rfl, h, s.sh, PyData.hasDict_of_canLay d s.lay, Nat.le_trans s.dp (by omega), PyData.shown_fits (B := 8) (Nat.le_refl _) (by decide) s.lv (Nat.le_trans s.wt hn), q⟩
end Kd

set_option Elab.async false
set_option linter.all false
set_option maxRecDepth 100000
set_option maxHeartbeats 4000000
namespace Kd
open PySem PySem.Spec PyProof.Rows L2
section
variable {P : Program} {w : World} {K : PySem.W.Frag} {mg : Str → Option Value} {base : Heap}
theorem asg_go {te : TE} {g : TG} {D : Ends} {σ : L2.St} {H : Hp} (h : te σ H fun v H1 => g v σ H1 D.nx) : tAsg te g D σ H := h
theorem bothV {T : VK → Prop} {Q : VK} (G : V → Hp → Prop) (h : ∀ Q : VK, (∀ v H', G v H' → Q v H') → T Q) (r : ∀ v H', G v H' → Q v H') : T Q := h Q r
def spTrue (K : PySem.W.Frag) : Sp := fun vs H Q _ => ∃ v ps, vs = [v] ∧ WF ps ∧ Dp K H v (psD ps) ∧ ∀ H', Same H H' → Q (.bl true) H'
abbrev s__law_lists_right : Stmt := topS 57
theorem sc__law_lists_right : FnScope ["_law_pairs_here", "_law_dues", "_law_told", "_law_one"] ["_law_pairs_here"] (defScope s__law_lists_right) := ⟨rfl, rfl, rfl, by decide +kernel, rfl, by decide +kernel, by decide +kernel⟩
theorem ok__law_lists_right (B : Bn mg) {f__law_lists_right : Addr} {fd__law_lists_right : FuncData} (D__law_lists_right : Dd K mg "_law_lists_right" s__law_lists_right f__law_lists_right fd__law_lists_right ["_law_pairs_here"]) {f__law_apart : Addr} {fd__law_apart : FuncData} (D__law_apart : Dd K mg "_law_apart" s__law_apart f__law_apart fd__law_apart ["_law_pairs_here"]) (G__law_apart : FnOk P w K mg base CX0 2 f__law_apart fd__law_apart ["_law_pairs_here"] (spPL K fun ps => (apart3 ps).map t3D)) {f__law_rings : Addr} {fd__law_rings : FuncData} (D__law_rings : Dd K mg "_law_rings" s__law_rings f__law_rings fd__law_rings ["_law_pairs_here"]) (G__law_rings : FnOk P w K mg base CX0 1 f__law_rings fd__law_rings ["_law_pairs_here"] (spPL K fun ps => (ring3 ps).map r3D)) {f__law_besides : Addr} {fd__law_besides : FuncData} (D__law_besides : Dd K mg "_law_besides" s__law_besides f__law_besides fd__law_besides ["_law_pairs_here"]) (G__law_besides : FnOk P w K mg base CX0 2 f__law_besides fd__law_besides ["_law_pairs_here"] (spPL K fun ps => (beside ps).map bsD))
    {f_apart_threes : Addr} {fd_apart_threes : FuncData} (D_apart_threes : Dd K mg "apart_threes" s_apart_threes f_apart_threes fd_apart_threes ["pairs"]) (G_apart_threes : FnOk P w K mg base CX0 7 f_apart_threes fd_apart_threes ["pairs"] (spPL K fun ps => (apart3 ps).map t3D)) {f_rings_of_three : Addr} {fd_rings_of_three : FuncData} (D_rings_of_three : Dd K mg "rings_of_three" s_rings_of_three f_rings_of_three fd_rings_of_three ["pairs"]) (G_rings_of_three : FnOk P w K mg base CX0 7 f_rings_of_three fd_rings_of_three ["pairs"] (spPL K fun ps => (ring3 ps).map r3D)) {f_besides : Addr} {fd_besides : FuncData} (D_besides : Dd K mg "besides" s_besides f_besides fd_besides ["pairs"]) (G_besides : FnOk P w K mg base CX0 7 f_besides fd_besides ["pairs"] (spPL K fun ps => (beside ps).map bsD)) (K_apart_threes : Binds1 K fd_apart_threes "pairs") (K_rings_of_three : Binds1 K fd_rings_of_three "pairs") (K_besides : Binds1 K fd_besides "pairs") : FnOkG P w K mg base 8 f__law_lists_right fd__law_lists_right ["_law_pairs_here"] (spTrue K) := by
  refine Fun_okG D__law_lists_right.F sc__law_lists_right (fun vs H Q E h => ?_) (fun cdv A outer s H vs Q E hg hr h => ?_)
  · obtain ⟨v, ps, rfl, _⟩ := h
    rfl
  · obtain ⟨v, ps, rfl, wf, hd, q⟩ := h
    refine ⟨_, (pss_cons (ps_set (i := 1) sc__law_lists_right.nd rfl (.inl rfl) (pe_lst (pa_cons (pe_call G__law_apart (hr.mono (by decide)) (by rfl) D__law_apart.m D__law_apart.F.kp D__law_apart.b .nil pass0 (pa_cons (pv 0) pa_nil)) (pa_cons (pe_call G__law_rings (hr.mono (by decide)) (by rfl) D__law_rings.m D__law_rings.F.kp D__law_rings.b .nil pass0 (pa_cons (pv 0) pa_nil)) (pa_cons (pe_call G__law_besides (hr.mono (by decide)) (by rfl) D__law_besides.m D__law_besides.F.kp D__law_besides.b .nil pass0 (pa_cons (pv 0) pa_nil)) pa_nil)))))
      (pss_cons (ps_set (i := 2) sc__law_lists_right.nd rfl (.inl rfl) (pe_lst (pa_cons (pe_call G_apart_threes (hr.mono (by decide)) (by rfl) D_apart_threes.m D_apart_threes.F.kp D_apart_threes.b .nil pass0 (pa_cons (pv 0) pa_nil)) (pa_cons (pe_call G_rings_of_three (hr.mono (by decide)) (by rfl) D_rings_of_three.m D_rings_of_three.F.kp D_rings_of_three.b .nil pass0 (pa_cons (pv 0) pa_nil)) (pa_cons (pe_call G_besides (hr.mono (by decide)) (by rfl) D_besides.m D_besides.F.kp D_besides.b .nil pass0 (pa_cons (pv 0) pa_nil)) pa_nil)))))
      (pss_cons (ps_if (pt_cmpR op_ne (pe_callB (cRepr K hg (by exact hu110 hr)) (by rfl) B.repr (by decide +kernel) (pa_cons (pv 2) pa_nil)) (pe_callB (cRepr K hg (by exact hu110 hr)) (by rfl) B.repr (by decide +kernel) (pa_cons (pv 1) pa_nil)) (nomark _)) (pss_one (ps_ret pe_bl)) pss_nil)
      (pss_cons (ps_for PassesOwn.never rfl (piL K (pv 2)) (pg_name (i := 3) sc__law_lists_right.nd rfl (.inl rfl)) (pss_one (ps_expr (pe_bm PySem.F.plainAttrs_list PySem.F.slot_list_append PySem.F.type_list_append mt_append (pv 3) (pa_cons pe_non pa_nil)))))
      (pss_cons (ps_set (i := 2) sc__law_lists_right.nd rfl (.inl rfl) (pe_lst (pa_cons (pe_call1 G_apart_threes (hr.mono (by decide)) (by rfl) D_apart_threes.m D_apart_threes.F.kp K_apart_threes (pv 0)) (pa_cons (pe_call1 G_rings_of_three (hr.mono (by decide)) (by rfl) D_rings_of_three.m D_rings_of_three.F.kp K_rings_of_three (pv 0)) (pa_cons (pe_call1 G_besides (hr.mono (by decide)) (by rfl) D_besides.m D_besides.F.kp K_besides (pv 0)) pa_nil)))))
      (pss_one (ps_ret (pe_cmpR op_eq (pe_callB (cRepr K hg (by exact hu110 hr)) (by rfl) B.repr (by decide +kernel) (pa_cons (pv 2) pa_nil)) (pe_callB (cRepr K hg (by exact hu110 hr)) (by rfl) B.repr (by decide +kernel) (pa_cons (pv 1) pa_nil)) (nomark _))))))))), ?_⟩
    have hdx : ∀ {H2 : Hp}, Same H H2 → Dp K H2 v (psD ps) := fun s => dp_same (fix_ps ps) s hd
    have f1 := fixDs_map fix_t3 (apart3 ps)
    have f2 := fixDs_map fix_r3 (ring3 ps)
    have f3 := fixDs_map fix_bs (beside ps)
    -- dues
    refine ⟨_, rfl, v, ps, rfl, wf, hd, fun a1 x1 H1 s1 n1 e1 d1 => ?_⟩
    refine ⟨_, rfl, v, ps, rfl, wf, hdx s1, fun a2 x2 H2 s2 n2 e2 d2 => ?_⟩
    refine ⟨_, rfl, v, ps, rfl, wf, hdx (s1.trans s2), fun a3 x3 H3 s3 n3 e3 d3 => ?_⟩
    refine ⟨(by show 3 ≤ sizeLine; decide), fun L nL => ?_⟩
    have sL := same_new (H := H3) (o := .lst [.ref a1, .ref a2, .ref a3]) nL
    have s04 := (s1.trans (s2.trans s3)).trans sL
    have t1 := ((s2.trans s3).trans sL) _ _ e1
    have t2 := (s3.trans sL) _ _ e2
    have t3 := sL _ _ e3
    have u1 := dps_same f1 ((s2.trans s3).trans sL) d1
    have u2 := dps_same f2 (s3.trans sL) d2
    have u3 := dps_same f3 sL d3
    have tL : upd H3 L (.lst [.ref a1, .ref a2, .ref a3]) L = some (.lst [.ref a1, .ref a2, .ref a3]) := upd_same
    generalize upd H3 L (.lst [.ref a1, .ref a2, .ref a3]) = H4 at *
    have dues : ∀ {H5 : Hp}, Same H4 H5 → Dp K H5 (.ref L) (listsD ps) := fun s => .lst (.of (s _ _ tL)) (.cons (.lst (.of (s _ _ t1)) (dps_same f1 s u1)) (.cons (.lst (.of (s _ _ t2)) (dps_same f2 s u2)) (.cons (.lst (.of (s _ _ t3)) (dps_same f3 s u3)) .nil)))
    -- told
    refine ⟨_, rfl, v, ps, rfl, wf, hdx s04, fun b1 y1 H5 r1 m1 g1 k1 => ?_⟩
    refine ⟨_, rfl, v, ps, rfl, wf, hdx (s04.trans r1), fun b2 y2 H6 r2 m2 g2 k2 => ?_⟩
    refine ⟨_, rfl, v, ps, rfl, wf, hdx (s04.trans (r1.trans r2)), fun b3 y3 H7 r3 m3 g3 k3 => ?_⟩
    refine ⟨(by show 3 ≤ sizeLine; decide), fun M nM => ?_⟩
    have sM := same_new (H := H7) (o := .lst [.ref b1, .ref b2, .ref b3]) nM
    have r48 := (r1.trans (r2.trans r3)).trans sM
    have j1 := ((r2.trans r3).trans sM) _ _ g1
    have j2 := (r3.trans sM) _ _ g2
    have j3 := sM _ _ g3
    have l1 := dps_same f1 ((r2.trans r3).trans sM) k1
    have l2 := dps_same f2 (r3.trans sM) k2
    have l3 := dps_same f3 sM k3
    have b12 : b1 ≠ b2 := ne_of_none g1 m2
    have b13 : b1 ≠ b3 := ne_of_none (r2 _ _ g1) m3
    have b23 : b2 ≠ b3 := ne_of_none g2 m3
    have b1M : b1 ≠ M := ne_of_none ((r2.trans r3) _ _ g1) nM
    have b2M : b2 ≠ M := ne_of_none (r3 _ _ g2) nM
    have b3M : b3 ≠ M := ne_of_none g3 nM
    have p2 : H4 b2 = none := r1.free m2
    have p3 : H4 b3 = none := (r1.trans r2).free m3
    have tM : upd H7 M (.lst [.ref b1, .ref b2, .ref b3]) M = some (.lst [.ref b1, .ref b2, .ref b3]) := upd_same
    generalize upd H7 M (.lst [.ref b1, .ref b2, .ref b3]) = H8 at *
    have q1 : y1.length ≤ 300 := by rw [dps_len k1, List.length_map]; have := apart3_216 wf; omega
    have q2 : y2.length ≤ 300 := by rw [dps_len k2, List.length_map]; have := ring3_48 wf; omega
    have q3 : y3.length ≤ 300 := by rw [dps_len k3, List.length_map]; have := beside_288 wf; omega
    -- repr(told) != repr(dues)
    refine ⟨_, rfl, nil_go (repr_go (d := listsD ps) (.lst (.of tM) (.cons (.lst (.of j1) l1) (.cons (.lst (.of j2) l2) (.cons (.lst (.of j3) l3) .nil)))) (sm_lists wf) (by decide) (by decide) ?_)⟩
    refine ⟨_, rfl, nil_go (repr_go (dues r48) (sm_lists wf) (by decide) (by decide) ?_)⟩
    refine ⟨rfl, _, rfl, iteN (by rw [decide_eq_true rfl]; exact Bool.false_ne_true) ?_⟩
    -- for one in told: one.append(None)
    refine ⟨_, rfl, M, rfl, ⟨_, .of tM⟩, ?_⟩
    refine for_it (walk_list (a := M) (xs := [.ref b1, .ref b2, .ref b3])) (fun i σ H9 => ∃ v3 z1 z2 z3, σ = [some v, some (.ref L), some (.ref M), v3] ∧ Same H4 H9 ∧ H9 M = some (.lst [.ref b1, .ref b2, .ref b3]) ∧ H9 b1 = some (.lst z1) ∧ H9 b2 = some (.lst z2) ∧ H9 b3 = some (.lst z3) ∧ z1.length ≤ 300 + i ∧ z2.length ≤ 300 + i ∧ z3.length ≤ 300 + i)
      ⟨none, y1, y2, y3, rfl, r48, tM, j1, j2, j3, q1, q2, q3⟩ (fun i σ H2 _ ⟨_, _, _, _, _, _, e, _⟩ => .of e) ?_ ?_
    · rintro i x σ H9 H10 hi ⟨v3, z1, z2, z3, rfl, s9, eM, c1, c2, c3, w1, w2, w3⟩ ⟨rfl, hxi⟩
      have hi3 : i < 3 := hi
      match i, hi3, hxi with
      | 0, _, hxi =>
        cases hxi
        refine ⟨_, rfl, .inl ⟨rfl, _, .of c1⟩, b1, z1, _, rfl, rfl, c1, small_line (by omega), ?_⟩
        exact ⟨_, z1 ++ [.non], z2, z3, rfl, same_write s9 m1, by rw [upd_ne (Ne.symm b1M)]; exact eM, upd_same, by rw [upd_ne (Ne.symm b12)]; exact c2, by rw [upd_ne (Ne.symm b13)]; exact c3, by rw [List.length_append]; exact Nat.add_le_add_right w1 1, by omega, by omega⟩
      | 1, _, hxi =>
        cases hxi
        refine ⟨_, rfl, .inl ⟨rfl, _, .of c2⟩, b2, z2, _, rfl, rfl, c2, small_line (by omega), ?_⟩
        exact ⟨_, z1, z2 ++ [.non], z3, rfl, same_write s9 p2, by rw [upd_ne (Ne.symm b2M)]; exact eM, by rw [upd_ne b12]; exact c1, upd_same, by rw [upd_ne (Ne.symm b23)]; exact c3, by omega, by rw [List.length_append]; exact Nat.add_le_add_right w2 1, by omega⟩
      | 2, _, hxi =>
        cases hxi
        refine ⟨_, rfl, .inl ⟨rfl, _, .of c3⟩, b3, z3, _, rfl, rfl, c3, small_line (by omega), ?_⟩
        exact ⟨_, z1, z2, z3 ++ [.non], rfl, same_write s9 p3, by rw [upd_ne (Ne.symm b3M)]; exact eM, by rw [upd_ne b13]; exact c1, by rw [upd_ne b23]; exact c2, upd_same, by omega, by omega, by rw [List.length_append]; exact Nat.add_le_add_right w3 1⟩
      | n + 3, h, _ => exact absurd h (by omega)
    · rintro σ H9 ⟨v3, z1, z2, z3, rfl, s9, eM, c1, c2, c3, w1, w2, w3⟩
      have s09 := s04.trans s9
      -- told, by name
      refine ⟨_, rfl, v, ps, rfl, wf, hdx s09, fun b1 y1 H5 r1 m1 g1 k1 => ?_⟩
      refine ⟨_, rfl, v, ps, rfl, wf, hdx (s09.trans r1), fun b2 y2 H6 r2 m2 g2 k2 => ?_⟩
      refine ⟨_, rfl, v, ps, rfl, wf, hdx (s09.trans (r1.trans r2)), fun b3 y3 H7 r3 m3 g3 k3 => ?_⟩
      refine ⟨(by show 3 ≤ sizeLine; decide), fun M nM => ?_⟩
      have sM := same_new (H := H7) (o := .lst [.ref b1, .ref b2, .ref b3]) nM
      have r98 := (r1.trans (r2.trans r3)).trans sM
      have j1 := ((r2.trans r3).trans sM) _ _ g1
      have j2 := (r3.trans sM) _ _ g2
      have j3 := sM _ _ g3
      have l1 := dps_same f1 ((r2.trans r3).trans sM) k1
      have l2 := dps_same f2 (r3.trans sM) k2
      have l3 := dps_same f3 sM k3
      refine ⟨_, rfl, nil_go (repr_go (d := listsD ps) (.lst (.of upd_same) (.cons (.lst (.of j1) l1) (.cons (.lst (.of j2) l2) (.cons (.lst (.of j3) l3) .nil)))) (sm_lists wf) (by decide) (by decide) ?_)⟩
      refine ⟨_, rfl, nil_go (repr_go (dues (s9.trans r98)) (sm_lists wf) (by decide) (by decide) ?_)⟩
      exact ⟨rfl, qb (decide_eq_true rfl) (q _ (s09.trans r98))⟩
abbrev s__law_right : Stmt := topS 58
theorem sc__law_right : FnScope ["_law_pot_here", "_law_pairs_here", "_law_kind_here", "_law_members_here", "_law_four", "_law_told"] ["_law_pot_here"] (defScope s__law_right) := ⟨rfl, rfl, rfl, by decide +kernel, rfl, by decide +kernel, by decide +kernel⟩
def spRight (K : PySem.W.Frag) : Sp := fun vs H Q _ => ∃ (b : Addr), vs = [.ref b] ∧ Po H b ∧ ∀ H', Q (.bl true) H'
theorem ok__law_right (B : Bn mg) {f__law_right : Addr} {fd__law_right : FuncData} (D__law_right : Dd K mg "_law_right" s__law_right f__law_right fd__law_right ["_law_pot_here"]) {f__law_pairs : Addr} {fd__law_pairs : FuncData} (D__law_pairs : Dd K mg "_law_pairs" s__law_pairs f__law_pairs fd__law_pairs ["_law_pot_here"]) (G__law_pairs : FnOk P w K mg base CX0 3 f__law_pairs fd__law_pairs ["_law_pot_here"] (spPairs K)) {f__law_lists_right : Addr} {fd__law_lists_right : FuncData} (D__law_lists_right : Dd K mg "_law_lists_right" s__law_lists_right f__law_lists_right fd__law_lists_right ["_law_pairs_here"]) (G__law_lists_right : FnOkG P w K mg base 8 f__law_lists_right fd__law_lists_right ["_law_pairs_here"] (spTrue K)) {f__law_kind : Addr} {fd__law_kind : FuncData} (D__law_kind : Dd K mg "_law_kind" s__law_kind f__law_kind fd__law_kind ["_law_pairs_here"]) (G__law_kind : FnOk P w K mg base CX0 3 f__law_kind fd__law_kind ["_law_pairs_here"] (spP K kindD)) {f__law_members : Addr} {fd__law_members : FuncData} (D__law_members : Dd K mg "_law_members" s__law_members f__law_members fd__law_members ["_law_pairs_here"]) (G__law_members : FnOk P w K mg base CX0 1 f__law_members fd__law_members ["_law_pairs_here"] (spPL K fun ps => (mem ps).map PyData.int)) {f_kind_of : Addr} {fd_kind_of : FuncData} (D_kind_of : Dd K mg "kind_of" s_kind_of f_kind_of fd_kind_of ["pairs"]) (G_kind_of : FnOk P w K mg base CX0 7 f_kind_of fd_kind_of ["pairs"] (spP K kindD)) (K_kind_of : Binds1 K fd_kind_of "pairs")
    {f__law_is_good : Addr} {fd__law_is_good : FuncData} (D__law_is_good : Dd K mg "_law_is_good" s__law_is_good f__law_is_good fd__law_is_good ["_law_pairs_here"]) (G__law_is_good : FnOk P w K mg base CX0 3 f__law_is_good fd__law_is_good ["_law_pairs_here"] (spP K fun ps => .bool (goodB ps))) {f_hubs_of : Addr} {fd_hubs_of : FuncData} (D_hubs_of : Dd K mg "hubs_of" s_hubs_of f_hubs_of fd_hubs_of ["pairs"]) (G_hubs_of : FnOk P w K mg base CX0 7 f_hubs_of fd_hubs_of ["pairs"] (spP K fun ps => optD pD (hubs ps))) {f_four_of : Addr} {fd_four_of : FuncData} (D_four_of : Dd K mg "four_of" s_four_of f_four_of fd_four_of ["pairs"]) (G_four_of : FnOk P w K mg base CX0 7 f_four_of fd_four_of ["pairs"] (spP K fourD)) {f_ring_of : Addr} {fd_ring_of : FuncData} (D_ring_of : Dd K mg "ring_of" s_ring_of f_ring_of fd_ring_of ["pairs"]) (G_ring_of : FnOk P w K mg base CX0 7 f_ring_of fd_ring_of ["pairs"] (spP K fun ps => optD rowD (ringOf ps))) {f_are_good : Addr} {fd_are_good : FuncData} (D_are_good : Dd K mg "are_good" s_are_good f_are_good fd_are_good ["pairs"]) (G_are_good : FnOk P w K mg base CX0 7 f_are_good fd_are_good ["pairs"] (spP K fun ps => .bool (goodB ps)))
    {f__law_hubs : Addr} {fd__law_hubs : FuncData} (D__law_hubs : Dd K mg "_law_hubs" s__law_hubs f__law_hubs fd__law_hubs ["_law_pairs_here"]) (G__law_hubs : FnOk P w K mg base CX0 2 f__law_hubs fd__law_hubs ["_law_pairs_here"] (spP K fun ps => optD pD (hubs ps))) {f__law_ring : Addr} {fd__law_ring : FuncData} (D__law_ring : Dd K mg "_law_ring" s__law_ring f__law_ring fd__law_ring ["_law_pairs_here"]) (G__law_ring : FnOk P w K mg base CX0 2 f__law_ring fd__law_ring ["_law_pairs_here"] (spP K fun ps => optD rowD (ringOf ps))) : FnOkG P w K mg base 9 f__law_right fd__law_right ["_law_pot_here"] (spRight K) := by
  refine Fun_okG D__law_right.F sc__law_right (fun vs H Q E h => ?_) (fun cdv A outer s H vs Q E hg hr h => ?_)
  · obtain ⟨b, rfl, _⟩ := h
    rfl
  · obtain ⟨b, rfl, po, q⟩ := h
    refine ⟨_, (pss_cons (ps_set (i := 1) sc__law_right.nd rfl (.inl rfl) (pe_call G__law_pairs (hr.mono (by decide)) (by rfl) D__law_pairs.m D__law_pairs.F.kp D__law_pairs.b .nil pass0 (pa_cons (pv 0) pa_nil)))
      (pss_cons (ps_if (pt_not (pt_val (pe_callG G__law_lists_right hg (hr.mono (by decide)) (by rfl) D__law_lists_right.m D__law_lists_right.F.kp D__law_lists_right.b pass0 (pa_cons (pv 1) pa_nil)))) (pss_one (ps_ret pe_bl)) pss_nil)
      (pss_cons (ps_par (i := 2) (j := 3) (by rfl) sc__law_right.nd rfl rfl (by decide) rfl rfl (pa_cons (pe_call G__law_kind (hr.mono (by decide)) (by rfl) D__law_kind.m D__law_kind.F.kp D__law_kind.b .nil pass0 (pa_cons (pv 1) pa_nil)) (pa_cons (pe_call G__law_members (hr.mono (by decide)) (by rfl) D__law_members.m D__law_members.F.kp D__law_members.b .nil pass0 (pa_cons (pv 1) pa_nil)) pa_nil)) (by rfl))
      (pss_cons (ps_if (pt_cmpR op_ne (pe_callB (cRepr K hg (by exact hu110 hr)) (by rfl) B.repr (by decide +kernel) (pa_cons (pe_lst (pa_cons (pe_call G_kind_of (hr.mono (by decide)) (by rfl) D_kind_of.m D_kind_of.F.kp D_kind_of.b .nil pass0 (pa_cons (pv 1) pa_nil)) (pa_cons (pe_call1 G_kind_of (hr.mono (by decide)) (by rfl) D_kind_of.m D_kind_of.F.kp K_kind_of (pv 1)) pa_nil))) pa_nil)) (pe_callB (cRepr K hg (by exact hu110 hr)) (by rfl) B.repr (by decide +kernel) (pa_cons (pe_lst (pa_cons (pv 2) (pa_cons (pv 2) pa_nil))) pa_nil)) (nomark _)) (pss_one (ps_ret pe_bl)) pss_nil)
      (pss_cons (ps_if (pt_cmpR op_ne (pe_cmpR (opIn K) (pe_ix (ixT K) (pv 2) pe_int (fun _ _ => rfl)) (pe_tup (pa_cons pe_str (pa_cons pe_str (pa_cons pe_str pa_nil)))) (by rfl)) (pe_call G__law_is_good (hr.mono (by decide)) (by rfl) D__law_is_good.m D__law_is_good.F.kp D__law_is_good.b .nil pass0 (pa_cons (pv 1) pa_nil)) (nomark _)) (pss_one (ps_ret pe_bl)) pss_nil)
      (pss_cons (ps_set (i := 4) sc__law_right.nd rfl (.inl rfl) (pe_ifExp (pt_cmpR op_le (pe_callB (cLen K) (by rfl) B.len (by decide +kernel) (pa_cons (pv 3) pa_nil)) pe_int (nomark _)) (pe_callTy (cTuple K) (by rfl) B.tuple (by decide +kernel) (pa_cons (pv 3) pa_nil)) pe_non))
      (pss_cons (ps_set (i := 5) sc__law_right.nd rfl (.inl rfl) (pe_lst (pa_cons (pe_call G_hubs_of (hr.mono (by decide)) (by rfl) D_hubs_of.m D_hubs_of.F.kp D_hubs_of.b .nil pass0 (pa_cons (pv 1) pa_nil)) (pa_cons (pe_call G_four_of (hr.mono (by decide)) (by rfl) D_four_of.m D_four_of.F.kp D_four_of.b .nil pass0 (pa_cons (pv 1) pa_nil)) (pa_cons (pe_call G_ring_of (hr.mono (by decide)) (by rfl) D_ring_of.m D_ring_of.F.kp D_ring_of.b .nil pass0 (pa_cons (pv 1) pa_nil)) (pa_cons (pe_call G_are_good (hr.mono (by decide)) (by rfl) D_are_good.m D_are_good.F.kp D_are_good.b .nil pass0 (pa_cons (pv 1) pa_nil)) pa_nil))))))
      (pss_one (ps_ret (pe_cmpR op_eq (pe_callB (cRepr K hg (by exact hu110 hr)) (by rfl) B.repr (by decide +kernel) (pa_cons (pv 5) pa_nil)) (pe_callB (cRepr K hg (by exact hu110 hr)) (by rfl) B.repr (by decide +kernel) (pa_cons (pe_lst (pa_cons (pe_call G__law_hubs (hr.mono (by decide)) (by rfl) D__law_hubs.m D__law_hubs.F.kp D__law_hubs.b .nil pass0 (pa_cons (pv 1) pa_nil)) (pa_cons (pv 4) (pa_cons (pe_call G__law_ring (hr.mono (by decide)) (by rfl) D__law_ring.m D__law_ring.F.kp D__law_ring.b .nil pass0 (pa_cons (pv 1) pa_nil)) (pa_cons (pe_call G__law_is_good (hr.mono (by decide)) (by rfl) D__law_is_good.m D__law_is_good.F.kp D__law_is_good.b .nil pass0 (pa_cons (pv 1) pa_nil)) pa_nil))))) pa_nil)) (nomark _))))))))))), ?_⟩
    refine ⟨_, rfl, b, rfl, po, fun v ps H1 _ wf hd => ?_⟩
    have hdx : ∀ {H2 : Hp}, Same H1 H2 → Dp K H2 v (psD ps) := fun s => dp_same (fix_ps ps) s hd
    -- lists right
    refine ⟨_, rfl, v, ps, rfl, wf, hd, fun H2 s2 => ⟨true, rfl, iteF ?_⟩⟩
    refine ⟨_, rfl, v, ps, rfl, wf, hdx s2, fun k H3 s3 dk => ?_⟩
    have s13 := s2.trans s3
    refine ⟨_, rfl, v, ps, rfl, wf, hdx s13, fun m ms H4 s4 nm em dm => ⟨_, _, rfl, ?_⟩⟩
    rw [ints_of_dps dm] at em
    have s14 := s13.trans s4
    have fk := fix_kind ps
    -- repr of the kinds
    refine ⟨_, rfl, v, ps, rfl, wf, hdx s14, fun k1 H5 s5 dk1 => ?_⟩
    refine ⟨_, rfl, v, ps, rfl, wf, hdx (s14.trans s5), fun k2 H6 s6 dk2 => ?_⟩
    have s16 := s14.trans (s5.trans s6)
    refine ⟨(by show 2 ≤ sizeLine; decide), fun L1 nL1 => ?_⟩
    have sL1 := same_new (o := .lst [k1, k2]) nL1
    refine nil_go (repr_go (d := .list [kindD ps, kindD ps]) (.lst (.of upd_same) (.cons (dp_same fk (s6.trans sL1) dk1) (.cons (dp_same fk sL1 dk2) .nil))) (sm_kinds wf) (by decide) (by decide) ?_)
    refine ⟨_, rfl, _, rfl, (by show 2 ≤ sizeLine; decide), fun L2 nL2 => ?_⟩
    have sL2 := same_new (o := .lst [k, k]) nL2
    have s18 := (s16.trans sL1).trans sL2
    have dk8 := dp_same fk (s4.trans ((s5.trans s6).trans (sL1.trans sL2))) dk
    refine nil_go (repr_go (d := .list [kindD ps, kindD ps]) (.lst (.of upd_same) (.cons dk8 (.cons dk8 .nil))) (sm_kinds wf) (by decide) (by decide) ?_)
    refine ⟨rfl, _, rfl, iteN (by rw [decide_eq_true rfl]; exact Bool.false_ne_true) ?_⟩
    have em8 := ((s5.trans s6).trans (sL1.trans sL2)) _ _ em
    -- (kind[0] in ..) != is_good
    obtain ⟨z, zs, ek, hk⟩ := kind_head wf
    have dk9 := dk8
    rw [ek] at dk9
    obtain ⟨a, ys, rfl, ta, da⟩ := tup_of dk9
    cases da with
    | cons da1 da2 =>
    cases da1
    refine ⟨_, rfl, a, _, 0, .str z, rfl, rfl, ta, atI_nat (j := 0) rfl, (by show 3 ≤ sizeLine; decide), fun T nT => ?_⟩
    have sT := same_new (o := .tup [.str "hubs", .str "four", .str "ring"]) nT
    refine ⟨T, _, rfl, .inr (.of upd_same), rfl, rfl, ?_⟩
    refine ⟨_, rfl, v, ps, rfl, wf, hdx (s18.trans sT), fun u H9 s9 du => ?_⟩
    cases du
    have s19 := (s18.trans sT).trans s9
    refine ⟨rfl, _, rfl, iteN (by rw [if_neg Bool.false_ne_true, hk, decide_eq_true rfl]; exact Bool.false_ne_true) ?_⟩
    have em9 := (sT.trans s9) _ _ em8
    have el : (((mem ps).map V.int).length : Int) = ((mem ps).length : Nat) := by rw [List.length_map]
    -- four
    refine nx_go (seq_go (asg_go ?_))
    refine bothV (T := tIf _ _ _ _ _) (fun f H' => Dp K H' f (fourD ps) ∧ Same H9 H') (fun Q q => ?_) ?_
    · refine ⟨_, rfl, m, _, rfl, .inl (.of em9), _, 4, rfl, rfl, _, rfl, ?_⟩
      by_cases h4 : (mem ps).length ≤ 4
      · refine iteP (decide_eq_true (by omega)) ⟨_, rfl, m, _, rfl, .inl ⟨.of em9, fun l nl => ?_⟩⟩
        refine q _ _ ⟨?_, same_new nl⟩
        unfold fourD
        rw [if_pos h4]
        exact row_mk (.of upd_same)
      · refine iteN (fun e => by have := of_decide_eq_true e; omega) ?_
        refine q _ _ ⟨?_, Same.refl _⟩
        unfold fourD
        rw [if_neg h4]
        exact .non
    · rintro f H10 ⟨df, s10⟩
      have s110 := s19.trans s10
      refine ⟨_, rfl, v, ps, rfl, wf, hdx s110, fun w1 H11 s11 dw1 => ?_⟩
      refine ⟨_, rfl, v, ps, rfl, wf, hdx (s110.trans s11), fun w2 H12 s12 dw2 => ?_⟩
      refine ⟨_, rfl, v, ps, rfl, wf, hdx (s110.trans (s11.trans s12)), fun w3 H13 s13 dw3 => ?_⟩
      refine ⟨_, rfl, v, ps, rfl, wf, hdx (s110.trans ((s11.trans s12).trans s13)), fun w4 H14 s14 dw4 => ?_⟩
      have s1014 := ((s11.trans s12).trans s13).trans s14
      have s114 := s110.trans s1014
      refine ⟨(by show 4 ≤ sizeLine; decide), fun M nM => ?_⟩
      have sM := same_new (o := .lst [w1, w2, w3, w4]) nM
      have fh := fix_opt fix_p (hubs ps)
      have fr := fix_opt fix_row (ringOf ps)
      have f4 := fix_four ps
      have fb : fixD (.bool (goodB ps)) = true := by simp [fixD]
      refine ⟨_, rfl, nil_go (repr_go (d := toldD ps) (.lst (.of upd_same) (.cons (dp_same fh (((s12.trans s13).trans s14).trans sM) dw1) (.cons (dp_same f4 ((s13.trans s14).trans sM) dw2) (.cons (dp_same fr (s14.trans sM) dw3) (.cons (dp_same fb sM dw4) .nil))))) (sm_told wf) (by decide) (by decide) ?_)⟩
      have s115 := s114.trans sM
      refine ⟨_, rfl, v, ps, rfl, wf, hdx s115, fun x1 H16 s16 dx1 => ?_⟩
      refine ⟨_, rfl, _, rfl, v, ps, rfl, wf, hdx (s115.trans s16), fun x3 H17 s17 dx3 => ?_⟩
      refine ⟨_, rfl, v, ps, rfl, wf, hdx (s115.trans (s16.trans s17)), fun x4 H18 s18 dx4 => ?_⟩
      refine ⟨(by show 4 ≤ sizeLine; decide), fun N nN => ?_⟩
      have sN := same_new (o := .lst [x1, f, x3, x4]) nN
      refine nil_go (repr_go (d := toldD ps) (.lst (.of upd_same) (.cons (dp_same fh ((s17.trans s18).trans sN) dx1) (.cons (dp_same f4 ((s1014.trans sM).trans (((s16.trans s17).trans s18).trans sN)) df) (.cons (dp_same fr (s18.trans sN) dx3) (.cons (dp_same fb sN dx4) .nil))))) (sm_told wf) (by decide) (by decide) ?_)
      exact ⟨rfl, qb (decide_eq_true rfl) (q _)⟩
abbrev s_law : Stmt := topS 59
theorem sc_law : FnScope ["_law_script"] ["_law_script"] (defScope s_law) := ⟨rfl, rfl, rfl, by decide +kernel, rfl, by decide +kernel, by decide +kernel⟩
def spLaw (K : PySem.W.Frag) : Sp := fun vs H Q _ => ∃ (a : Addr) (ks : List Int), vs = [.ref a] ∧ SqL K H a (ks.map V.int) ∧ ∀ H', Q (.bl true) H'
theorem ok_law (B : Bn mg) {f_law : Addr} {fd_law : FuncData} (D_law : Dd K mg "law" s_law f_law fd_law ["_law_script"]) {f__law_pot : Addr} {fd__law_pot : FuncData} (D__law_pot : Dd K mg "_law_pot" s__law_pot f__law_pot fd__law_pot ["_law_script", "_law_k"]) (G__law_pot : FnOk P w K mg base CX0 1 f__law_pot fd__law_pot ["_law_script", "_law_k"] (spPot K)) {f__law_right : Addr} {fd__law_right : FuncData} (D__law_right : Dd K mg "_law_right" s__law_right f__law_right fd__law_right ["_law_pot_here"]) (G__law_right : FnOkG P w K mg base 9 f__law_right fd__law_right ["_law_pot_here"] (spRight K)) : FnOkG P w K mg base 10 f_law fd_law ["_law_script"] (spLaw K) := by
  refine Fun_okG D_law.F sc_law (fun vs H Q E h => ?_) (fun cdv A outer s H vs Q E hg hr h => ?_)
  · obtain ⟨a, ks, rfl, _⟩ := h
    rfl
  · obtain ⟨a, ks, rfl, ha, q⟩ := h
    refine ⟨_, (pss_one (ps_ret (pe_callG G__law_right hg (hr.mono (by decide)) (by rfl) D__law_right.m D__law_right.F.kp D__law_right.b pass0 (pa_cons (pe_call G__law_pot (hr.mono (by decide)) (by rfl) D__law_pot.m D__law_pot.F.kp D__law_pot.b .nil pass0 (pa_cons (pv 0) (pa_cons pe_int pa_nil))) pa_nil)))), ?_⟩
    exact ⟨_, rfl, a, ks, rfl, ha, fun p H1 s1 po => ⟨p, rfl, po, fun H' => q H'⟩⟩
end
end Kd

set_option Elab.async false
set_option linter.all false
set_option maxRecDepth 100000
set_option maxHeartbeats 4000000
namespace Kd
open PySem PySem.Spec PyProof.Rows L2
/-! ## what the top has written, and the law's own head -/
theorem all_mk {l : PySem.W.OpenLaw} {w : World} {K : PySem.W.Frag} {h : Heap} {mg : Str → Option Value} {fa : Addr} (KX : K.In h) (G : h.Ns mainGlobals mg) (hfa : mg "law" = some (.ref fa))
    {f_is_integer : Addr} {od_is_integer an_is_integer : Option Addr} {sl_is_integer : Array (Option Value)} {oc_is_integer kV_is_integer dc_is_integer pm_is_integer cd_is_integer ct_is_integer : Value}
    (a_is_integer : PySem.W.nsIn K mainGlobals "is_integer" = some (some (.ref f_is_integer))) (l_is_integer : K.lookup f_is_integer = some ⟨oc_is_integer, od_is_integer, .func (PySem.W.fnOf "is_integer" "is_integer" (defArgs s_is_integer) (defBody s_is_integer) (defScope s_is_integer) .none kV_is_integer dc_is_integer pm_is_integer an_is_integer cd_is_integer ct_is_integer), sl_is_integer⟩)
    (c_is_integer : PySem.W.codeIn K cd_is_integer "is_integer" = true) (k_is_integer : PySem.W.keepIn K (.ref f_is_integer) = true)
    {f_is_count : Addr} {od_is_count an_is_count : Option Addr} {sl_is_count : Array (Option Value)} {oc_is_count kV_is_count dc_is_count pm_is_count cd_is_count ct_is_count : Value}
    (a_is_count : PySem.W.nsIn K mainGlobals "is_count" = some (some (.ref f_is_count))) (l_is_count : K.lookup f_is_count = some ⟨oc_is_count, od_is_count, .func (PySem.W.fnOf "is_count" "is_count" (defArgs s_is_count) (defBody s_is_count) (defScope s_is_count) .none kV_is_count dc_is_count pm_is_count an_is_count cd_is_count ct_is_count), sl_is_count⟩)
    (c_is_count : PySem.W.codeIn K cd_is_count "is_count" = true) (k_is_count : PySem.W.keepIn K (.ref f_is_count) = true)
    {f_are_two_places : Addr} {od_are_two_places an_are_two_places : Option Addr} {sl_are_two_places : Array (Option Value)} {oc_are_two_places kV_are_two_places dc_are_two_places pm_are_two_places cd_are_two_places ct_are_two_places : Value}
    (a_are_two_places : PySem.W.nsIn K mainGlobals "are_two_places" = some (some (.ref f_are_two_places))) (l_are_two_places : K.lookup f_are_two_places = some ⟨oc_are_two_places, od_are_two_places, .func (PySem.W.fnOf "are_two_places" "are_two_places" (defArgs s_are_two_places) (defBody s_are_two_places) (defScope s_are_two_places) .none kV_are_two_places dc_are_two_places pm_are_two_places an_are_two_places cd_are_two_places ct_are_two_places), sl_are_two_places⟩)
    (c_are_two_places : PySem.W.codeIn K cd_are_two_places "are_two_places" = true) (k_are_two_places : PySem.W.keepIn K (.ref f_are_two_places) = true)
    {f_are_rising : Addr} {od_are_rising an_are_rising : Option Addr} {sl_are_rising : Array (Option Value)} {oc_are_rising kV_are_rising dc_are_rising pm_are_rising cd_are_rising ct_are_rising : Value}
    (a_are_rising : PySem.W.nsIn K mainGlobals "are_rising" = some (some (.ref f_are_rising))) (l_are_rising : K.lookup f_are_rising = some ⟨oc_are_rising, od_are_rising, .func (PySem.W.fnOf "are_rising" "are_rising" (defArgs s_are_rising) (defBody s_are_rising) (defScope s_are_rising) .none kV_are_rising dc_are_rising pm_are_rising an_are_rising cd_are_rising ct_are_rising), sl_are_rising⟩)
    (c_are_rising : PySem.W.codeIn K cd_are_rising "are_rising" = true) (k_are_rising : PySem.W.keepIn K (.ref f_are_rising) = true)
    {f_is_pair : Addr} {od_is_pair an_is_pair : Option Addr} {sl_is_pair : Array (Option Value)} {oc_is_pair kV_is_pair dc_is_pair pm_is_pair cd_is_pair ct_is_pair : Value}
    (a_is_pair : PySem.W.nsIn K mainGlobals "is_pair" = some (some (.ref f_is_pair))) (l_is_pair : K.lookup f_is_pair = some ⟨oc_is_pair, od_is_pair, .func (PySem.W.fnOf "is_pair" "is_pair" (defArgs s_is_pair) (defBody s_is_pair) (defScope s_is_pair) .none kV_is_pair dc_is_pair pm_is_pair an_is_pair cd_is_pair ct_is_pair), sl_is_pair⟩)
    (c_is_pair : PySem.W.codeIn K cd_is_pair "is_pair" = true) (k_is_pair : PySem.W.keepIn K (.ref f_is_pair) = true)
    {f_are_pairs : Addr} {od_are_pairs an_are_pairs : Option Addr} {sl_are_pairs : Array (Option Value)} {oc_are_pairs kV_are_pairs dc_are_pairs pm_are_pairs cd_are_pairs ct_are_pairs : Value}
    (a_are_pairs : PySem.W.nsIn K mainGlobals "are_pairs" = some (some (.ref f_are_pairs))) (l_are_pairs : K.lookup f_are_pairs = some ⟨oc_are_pairs, od_are_pairs, .func (PySem.W.fnOf "are_pairs" "are_pairs" (defArgs s_are_pairs) (defBody s_are_pairs) (defScope s_are_pairs) .none kV_are_pairs dc_are_pairs pm_are_pairs an_are_pairs cd_are_pairs ct_are_pairs), sl_are_pairs⟩)
    (c_are_pairs : PySem.W.codeIn K cd_are_pairs "are_pairs" = true) (k_are_pairs : PySem.W.keepIn K (.ref f_are_pairs) = true)
    {f_want_pairs : Addr} {od_want_pairs an_want_pairs : Option Addr} {sl_want_pairs : Array (Option Value)} {oc_want_pairs kV_want_pairs dc_want_pairs pm_want_pairs cd_want_pairs ct_want_pairs : Value}
    (a_want_pairs : PySem.W.nsIn K mainGlobals "want_pairs" = some (some (.ref f_want_pairs))) (l_want_pairs : K.lookup f_want_pairs = some ⟨oc_want_pairs, od_want_pairs, .func (PySem.W.fnOf "want_pairs" "want_pairs" (defArgs s_want_pairs) (defBody s_want_pairs) (defScope s_want_pairs) .none kV_want_pairs dc_want_pairs pm_want_pairs an_want_pairs cd_want_pairs ct_want_pairs), sl_want_pairs⟩)
    (c_want_pairs : PySem.W.codeIn K cd_want_pairs "want_pairs" = true) (k_want_pairs : PySem.W.keepIn K (.ref f_want_pairs) = true)
    {f_members_in : Addr} {od_members_in an_members_in : Option Addr} {sl_members_in : Array (Option Value)} {oc_members_in kV_members_in dc_members_in pm_members_in cd_members_in ct_members_in : Value}
    (a_members_in : PySem.W.nsIn K mainGlobals "members_in" = some (some (.ref f_members_in))) (l_members_in : K.lookup f_members_in = some ⟨oc_members_in, od_members_in, .func (PySem.W.fnOf "members_in" "members_in" (defArgs s_members_in) (defBody s_members_in) (defScope s_members_in) .none kV_members_in dc_members_in pm_members_in an_members_in cd_members_in ct_members_in), sl_members_in⟩)
    (c_members_in : PySem.W.codeIn K cd_members_in "members_in" = true) (k_members_in : PySem.W.keepIn K (.ref f_members_in) = true)
    {f_hubs_in : Addr} {od_hubs_in an_hubs_in : Option Addr} {sl_hubs_in : Array (Option Value)} {oc_hubs_in kV_hubs_in dc_hubs_in pm_hubs_in cd_hubs_in ct_hubs_in : Value}
    (a_hubs_in : PySem.W.nsIn K mainGlobals "hubs_in" = some (some (.ref f_hubs_in))) (l_hubs_in : K.lookup f_hubs_in = some ⟨oc_hubs_in, od_hubs_in, .func (PySem.W.fnOf "hubs_in" "hubs_in" (defArgs s_hubs_in) (defBody s_hubs_in) (defScope s_hubs_in) .none kV_hubs_in dc_hubs_in pm_hubs_in an_hubs_in cd_hubs_in ct_hubs_in), sl_hubs_in⟩)
    (c_hubs_in : PySem.W.codeIn K cd_hubs_in "hubs_in" = true) (k_hubs_in : PySem.W.keepIn K (.ref f_hubs_in) = true)
    {f_hubs_of : Addr} {od_hubs_of an_hubs_of : Option Addr} {sl_hubs_of : Array (Option Value)} {oc_hubs_of kV_hubs_of dc_hubs_of pm_hubs_of cd_hubs_of ct_hubs_of : Value}
    (a_hubs_of : PySem.W.nsIn K mainGlobals "hubs_of" = some (some (.ref f_hubs_of))) (l_hubs_of : K.lookup f_hubs_of = some ⟨oc_hubs_of, od_hubs_of, .func (PySem.W.fnOf "hubs_of" "hubs_of" (defArgs s_hubs_of) (defBody s_hubs_of) (defScope s_hubs_of) .none kV_hubs_of dc_hubs_of pm_hubs_of an_hubs_of cd_hubs_of ct_hubs_of), sl_hubs_of⟩)
    (c_hubs_of : PySem.W.codeIn K cd_hubs_of "hubs_of" = true) (k_hubs_of : PySem.W.keepIn K (.ref f_hubs_of) = true)
    {f_four_in : Addr} {od_four_in an_four_in : Option Addr} {sl_four_in : Array (Option Value)} {oc_four_in kV_four_in dc_four_in pm_four_in cd_four_in ct_four_in : Value}
    (a_four_in : PySem.W.nsIn K mainGlobals "four_in" = some (some (.ref f_four_in))) (l_four_in : K.lookup f_four_in = some ⟨oc_four_in, od_four_in, .func (PySem.W.fnOf "four_in" "four_in" (defArgs s_four_in) (defBody s_four_in) (defScope s_four_in) .none kV_four_in dc_four_in pm_four_in an_four_in cd_four_in ct_four_in), sl_four_in⟩)
    (c_four_in : PySem.W.codeIn K cd_four_in "four_in" = true) (k_four_in : PySem.W.keepIn K (.ref f_four_in) = true)
    {f_rows_without : Addr} {od_rows_without an_rows_without : Option Addr} {sl_rows_without : Array (Option Value)} {oc_rows_without kV_rows_without dc_rows_without pm_rows_without cd_rows_without ct_rows_without : Value}
    (a_rows_without : PySem.W.nsIn K mainGlobals "rows_without" = some (some (.ref f_rows_without))) (l_rows_without : K.lookup f_rows_without = some ⟨oc_rows_without, od_rows_without, .func (PySem.W.fnOf "rows_without" "rows_without" (defArgs s_rows_without) (defBody s_rows_without) (defScope s_rows_without) .none kV_rows_without dc_rows_without pm_rows_without an_rows_without cd_rows_without ct_rows_without), sl_rows_without⟩)
    (c_rows_without : PySem.W.codeIn K cd_rows_without "rows_without" = true) (k_rows_without : PySem.W.keepIn K (.ref f_rows_without) = true)
    {f_is_ring_for : Addr} {od_is_ring_for an_is_ring_for : Option Addr} {sl_is_ring_for : Array (Option Value)} {oc_is_ring_for kV_is_ring_for dc_is_ring_for pm_is_ring_for cd_is_ring_for ct_is_ring_for : Value}
    (a_is_ring_for : PySem.W.nsIn K mainGlobals "is_ring_for" = some (some (.ref f_is_ring_for))) (l_is_ring_for : K.lookup f_is_ring_for = some ⟨oc_is_ring_for, od_is_ring_for, .func (PySem.W.fnOf "is_ring_for" "is_ring_for" (defArgs s_is_ring_for) (defBody s_is_ring_for) (defScope s_is_ring_for) .none kV_is_ring_for dc_is_ring_for pm_is_ring_for an_is_ring_for cd_is_ring_for ct_is_ring_for), sl_is_ring_for⟩)
    (c_is_ring_for : PySem.W.codeIn K cd_is_ring_for "is_ring_for" = true) (k_is_ring_for : PySem.W.keepIn K (.ref f_is_ring_for) = true)
    {f_ring_in : Addr} {od_ring_in an_ring_in : Option Addr} {sl_ring_in : Array (Option Value)} {oc_ring_in kV_ring_in dc_ring_in pm_ring_in cd_ring_in ct_ring_in : Value}
    (a_ring_in : PySem.W.nsIn K mainGlobals "ring_in" = some (some (.ref f_ring_in))) (l_ring_in : K.lookup f_ring_in = some ⟨oc_ring_in, od_ring_in, .func (PySem.W.fnOf "ring_in" "ring_in" (defArgs s_ring_in) (defBody s_ring_in) (defScope s_ring_in) .none kV_ring_in dc_ring_in pm_ring_in an_ring_in cd_ring_in ct_ring_in), sl_ring_in⟩)
    (c_ring_in : PySem.W.codeIn K cd_ring_in "ring_in" = true) (k_ring_in : PySem.W.keepIn K (.ref f_ring_in) = true)
    {f_is_good_in : Addr} {od_is_good_in an_is_good_in : Option Addr} {sl_is_good_in : Array (Option Value)} {oc_is_good_in kV_is_good_in dc_is_good_in pm_is_good_in cd_is_good_in ct_is_good_in : Value}
    (a_is_good_in : PySem.W.nsIn K mainGlobals "is_good_in" = some (some (.ref f_is_good_in))) (l_is_good_in : K.lookup f_is_good_in = some ⟨oc_is_good_in, od_is_good_in, .func (PySem.W.fnOf "is_good_in" "is_good_in" (defArgs s_is_good_in) (defBody s_is_good_in) (defScope s_is_good_in) .none kV_is_good_in dc_is_good_in pm_is_good_in an_is_good_in cd_is_good_in ct_is_good_in), sl_is_good_in⟩)
    (c_is_good_in : PySem.W.codeIn K cd_is_good_in "is_good_in" = true) (k_is_good_in : PySem.W.keepIn K (.ref f_is_good_in) = true)
    {f_four_of : Addr} {od_four_of an_four_of : Option Addr} {sl_four_of : Array (Option Value)} {oc_four_of kV_four_of dc_four_of pm_four_of cd_four_of ct_four_of : Value}
    (a_four_of : PySem.W.nsIn K mainGlobals "four_of" = some (some (.ref f_four_of))) (l_four_of : K.lookup f_four_of = some ⟨oc_four_of, od_four_of, .func (PySem.W.fnOf "four_of" "four_of" (defArgs s_four_of) (defBody s_four_of) (defScope s_four_of) .none kV_four_of dc_four_of pm_four_of an_four_of cd_four_of ct_four_of), sl_four_of⟩)
    (c_four_of : PySem.W.codeIn K cd_four_of "four_of" = true) (k_four_of : PySem.W.keepIn K (.ref f_four_of) = true)
    {f_ring_of : Addr} {od_ring_of an_ring_of : Option Addr} {sl_ring_of : Array (Option Value)} {oc_ring_of kV_ring_of dc_ring_of pm_ring_of cd_ring_of ct_ring_of : Value}
    (a_ring_of : PySem.W.nsIn K mainGlobals "ring_of" = some (some (.ref f_ring_of))) (l_ring_of : K.lookup f_ring_of = some ⟨oc_ring_of, od_ring_of, .func (PySem.W.fnOf "ring_of" "ring_of" (defArgs s_ring_of) (defBody s_ring_of) (defScope s_ring_of) .none kV_ring_of dc_ring_of pm_ring_of an_ring_of cd_ring_of ct_ring_of), sl_ring_of⟩)
    (c_ring_of : PySem.W.codeIn K cd_ring_of "ring_of" = true) (k_ring_of : PySem.W.keepIn K (.ref f_ring_of) = true)
    {f_are_good : Addr} {od_are_good an_are_good : Option Addr} {sl_are_good : Array (Option Value)} {oc_are_good kV_are_good dc_are_good pm_are_good cd_are_good ct_are_good : Value}
    (a_are_good : PySem.W.nsIn K mainGlobals "are_good" = some (some (.ref f_are_good))) (l_are_good : K.lookup f_are_good = some ⟨oc_are_good, od_are_good, .func (PySem.W.fnOf "are_good" "are_good" (defArgs s_are_good) (defBody s_are_good) (defScope s_are_good) .none kV_are_good dc_are_good pm_are_good an_are_good cd_are_good ct_are_good), sl_are_good⟩)
    (c_are_good : PySem.W.codeIn K cd_are_good "are_good" = true) (k_are_good : PySem.W.keepIn K (.ref f_are_good) = true)
    {f_do_lie_apart : Addr} {od_do_lie_apart an_do_lie_apart : Option Addr} {sl_do_lie_apart : Array (Option Value)} {oc_do_lie_apart kV_do_lie_apart dc_do_lie_apart pm_do_lie_apart cd_do_lie_apart ct_do_lie_apart : Value}
    (a_do_lie_apart : PySem.W.nsIn K mainGlobals "do_lie_apart" = some (some (.ref f_do_lie_apart))) (l_do_lie_apart : K.lookup f_do_lie_apart = some ⟨oc_do_lie_apart, od_do_lie_apart, .func (PySem.W.fnOf "do_lie_apart" "do_lie_apart" (defArgs s_do_lie_apart) (defBody s_do_lie_apart) (defScope s_do_lie_apart) .none kV_do_lie_apart dc_do_lie_apart pm_do_lie_apart an_do_lie_apart cd_do_lie_apart ct_do_lie_apart), sl_do_lie_apart⟩)
    (c_do_lie_apart : PySem.W.codeIn K cd_do_lie_apart "do_lie_apart" = true) (k_do_lie_apart : PySem.W.keepIn K (.ref f_do_lie_apart) = true)
    {f_threes_apart : Addr} {od_threes_apart an_threes_apart : Option Addr} {sl_threes_apart : Array (Option Value)} {oc_threes_apart kV_threes_apart dc_threes_apart pm_threes_apart cd_threes_apart ct_threes_apart : Value}
    (a_threes_apart : PySem.W.nsIn K mainGlobals "threes_apart" = some (some (.ref f_threes_apart))) (l_threes_apart : K.lookup f_threes_apart = some ⟨oc_threes_apart, od_threes_apart, .func (PySem.W.fnOf "threes_apart" "threes_apart" (defArgs s_threes_apart) (defBody s_threes_apart) (defScope s_threes_apart) .none kV_threes_apart dc_threes_apart pm_threes_apart an_threes_apart cd_threes_apart ct_threes_apart), sl_threes_apart⟩)
    (c_threes_apart : PySem.W.codeIn K cd_threes_apart "threes_apart" = true) (k_threes_apart : PySem.W.keepIn K (.ref f_threes_apart) = true)
    {f_threes_in_ring : Addr} {od_threes_in_ring an_threes_in_ring : Option Addr} {sl_threes_in_ring : Array (Option Value)} {oc_threes_in_ring kV_threes_in_ring dc_threes_in_ring pm_threes_in_ring cd_threes_in_ring ct_threes_in_ring : Value}
    (a_threes_in_ring : PySem.W.nsIn K mainGlobals "threes_in_ring" = some (some (.ref f_threes_in_ring))) (l_threes_in_ring : K.lookup f_threes_in_ring = some ⟨oc_threes_in_ring, od_threes_in_ring, .func (PySem.W.fnOf "threes_in_ring" "threes_in_ring" (defArgs s_threes_in_ring) (defBody s_threes_in_ring) (defScope s_threes_in_ring) .none kV_threes_in_ring dc_threes_in_ring pm_threes_in_ring an_threes_in_ring cd_threes_in_ring ct_threes_in_ring), sl_threes_in_ring⟩)
    (c_threes_in_ring : PySem.W.codeIn K cd_threes_in_ring "threes_in_ring" = true) (k_threes_in_ring : PySem.W.keepIn K (.ref f_threes_in_ring) = true)
    {f_rings_beside : Addr} {od_rings_beside an_rings_beside : Option Addr} {sl_rings_beside : Array (Option Value)} {oc_rings_beside kV_rings_beside dc_rings_beside pm_rings_beside cd_rings_beside ct_rings_beside : Value}
    (a_rings_beside : PySem.W.nsIn K mainGlobals "rings_beside" = some (some (.ref f_rings_beside))) (l_rings_beside : K.lookup f_rings_beside = some ⟨oc_rings_beside, od_rings_beside, .func (PySem.W.fnOf "rings_beside" "rings_beside" (defArgs s_rings_beside) (defBody s_rings_beside) (defScope s_rings_beside) .none kV_rings_beside dc_rings_beside pm_rings_beside an_rings_beside cd_rings_beside ct_rings_beside), sl_rings_beside⟩)
    (c_rings_beside : PySem.W.codeIn K cd_rings_beside "rings_beside" = true) (k_rings_beside : PySem.W.keepIn K (.ref f_rings_beside) = true)
    {f_kind_of_pairs : Addr} {od_kind_of_pairs an_kind_of_pairs : Option Addr} {sl_kind_of_pairs : Array (Option Value)} {oc_kind_of_pairs kV_kind_of_pairs dc_kind_of_pairs pm_kind_of_pairs cd_kind_of_pairs ct_kind_of_pairs : Value}
    (a_kind_of_pairs : PySem.W.nsIn K mainGlobals "kind_of_pairs" = some (some (.ref f_kind_of_pairs))) (l_kind_of_pairs : K.lookup f_kind_of_pairs = some ⟨oc_kind_of_pairs, od_kind_of_pairs, .func (PySem.W.fnOf "kind_of_pairs" "kind_of_pairs" (defArgs s_kind_of_pairs) (defBody s_kind_of_pairs) (defScope s_kind_of_pairs) .none kV_kind_of_pairs dc_kind_of_pairs pm_kind_of_pairs an_kind_of_pairs cd_kind_of_pairs ct_kind_of_pairs), sl_kind_of_pairs⟩)
    (c_kind_of_pairs : PySem.W.codeIn K cd_kind_of_pairs "kind_of_pairs" = true) (k_kind_of_pairs : PySem.W.keepIn K (.ref f_kind_of_pairs) = true)
    {f_apart_threes : Addr} {od_apart_threes an_apart_threes : Option Addr} {sl_apart_threes : Array (Option Value)} {oc_apart_threes kV_apart_threes dc_apart_threes pm_apart_threes cd_apart_threes ct_apart_threes : Value}
    (a_apart_threes : PySem.W.nsIn K mainGlobals "apart_threes" = some (some (.ref f_apart_threes))) (l_apart_threes : K.lookup f_apart_threes = some ⟨oc_apart_threes, od_apart_threes, .func (PySem.W.fnOf "apart_threes" "apart_threes" (defArgs s_apart_threes) (defBody s_apart_threes) (defScope s_apart_threes) .none kV_apart_threes dc_apart_threes pm_apart_threes an_apart_threes cd_apart_threes ct_apart_threes), sl_apart_threes⟩)
    (c_apart_threes : PySem.W.codeIn K cd_apart_threes "apart_threes" = true) (k_apart_threes : PySem.W.keepIn K (.ref f_apart_threes) = true)
    {f_rings_of_three : Addr} {od_rings_of_three an_rings_of_three : Option Addr} {sl_rings_of_three : Array (Option Value)} {oc_rings_of_three kV_rings_of_three dc_rings_of_three pm_rings_of_three cd_rings_of_three ct_rings_of_three : Value}
    (a_rings_of_three : PySem.W.nsIn K mainGlobals "rings_of_three" = some (some (.ref f_rings_of_three))) (l_rings_of_three : K.lookup f_rings_of_three = some ⟨oc_rings_of_three, od_rings_of_three, .func (PySem.W.fnOf "rings_of_three" "rings_of_three" (defArgs s_rings_of_three) (defBody s_rings_of_three) (defScope s_rings_of_three) .none kV_rings_of_three dc_rings_of_three pm_rings_of_three an_rings_of_three cd_rings_of_three ct_rings_of_three), sl_rings_of_three⟩)
    (c_rings_of_three : PySem.W.codeIn K cd_rings_of_three "rings_of_three" = true) (k_rings_of_three : PySem.W.keepIn K (.ref f_rings_of_three) = true)
    {f_besides : Addr} {od_besides an_besides : Option Addr} {sl_besides : Array (Option Value)} {oc_besides kV_besides dc_besides pm_besides cd_besides ct_besides : Value}
    (a_besides : PySem.W.nsIn K mainGlobals "besides" = some (some (.ref f_besides))) (l_besides : K.lookup f_besides = some ⟨oc_besides, od_besides, .func (PySem.W.fnOf "besides" "besides" (defArgs s_besides) (defBody s_besides) (defScope s_besides) .none kV_besides dc_besides pm_besides an_besides cd_besides ct_besides), sl_besides⟩)
    (c_besides : PySem.W.codeIn K cd_besides "besides" = true) (k_besides : PySem.W.keepIn K (.ref f_besides) = true)
    {f_kind_of : Addr} {od_kind_of an_kind_of : Option Addr} {sl_kind_of : Array (Option Value)} {oc_kind_of kV_kind_of dc_kind_of pm_kind_of cd_kind_of ct_kind_of : Value}
    (a_kind_of : PySem.W.nsIn K mainGlobals "kind_of" = some (some (.ref f_kind_of))) (l_kind_of : K.lookup f_kind_of = some ⟨oc_kind_of, od_kind_of, .func (PySem.W.fnOf "kind_of" "kind_of" (defArgs s_kind_of) (defBody s_kind_of) (defScope s_kind_of) .none kV_kind_of dc_kind_of pm_kind_of an_kind_of cd_kind_of ct_kind_of), sl_kind_of⟩)
    (c_kind_of : PySem.W.codeIn K cd_kind_of "kind_of" = true) (k_kind_of : PySem.W.keepIn K (.ref f_kind_of) = true)
    {f__law_pot : Addr} {od__law_pot an__law_pot : Option Addr} {sl__law_pot : Array (Option Value)} {oc__law_pot kV__law_pot dc__law_pot pm__law_pot cd__law_pot ct__law_pot : Value}
    (a__law_pot : PySem.W.nsIn K mainGlobals "_law_pot" = some (some (.ref f__law_pot))) (l__law_pot : K.lookup f__law_pot = some ⟨oc__law_pot, od__law_pot, .func (PySem.W.fnOf "_law_pot" "_law_pot" (defArgs s__law_pot) (defBody s__law_pot) (defScope s__law_pot) .none kV__law_pot dc__law_pot pm__law_pot an__law_pot cd__law_pot ct__law_pot), sl__law_pot⟩)
    (c__law_pot : PySem.W.codeIn K cd__law_pot "_law_pot" = true) (k__law_pot : PySem.W.keepIn K (.ref f__law_pot) = true)
    {f__law_draw : Addr} {od__law_draw an__law_draw : Option Addr} {sl__law_draw : Array (Option Value)} {oc__law_draw kV__law_draw dc__law_draw pm__law_draw cd__law_draw ct__law_draw : Value}
    (a__law_draw : PySem.W.nsIn K mainGlobals "_law_draw" = some (some (.ref f__law_draw))) (l__law_draw : K.lookup f__law_draw = some ⟨oc__law_draw, od__law_draw, .func (PySem.W.fnOf "_law_draw" "_law_draw" (defArgs s__law_draw) (defBody s__law_draw) (defScope s__law_draw) .none kV__law_draw dc__law_draw pm__law_draw an__law_draw cd__law_draw ct__law_draw), sl__law_draw⟩)
    (c__law_draw : PySem.W.codeIn K cd__law_draw "_law_draw" = true) (k__law_draw : PySem.W.keepIn K (.ref f__law_draw) = true)
    {f__law_pick : Addr} {od__law_pick an__law_pick : Option Addr} {sl__law_pick : Array (Option Value)} {oc__law_pick kV__law_pick dc__law_pick pm__law_pick cd__law_pick ct__law_pick : Value}
    (a__law_pick : PySem.W.nsIn K mainGlobals "_law_pick" = some (some (.ref f__law_pick))) (l__law_pick : K.lookup f__law_pick = some ⟨oc__law_pick, od__law_pick, .func (PySem.W.fnOf "_law_pick" "_law_pick" (defArgs s__law_pick) (defBody s__law_pick) (defScope s__law_pick) .none kV__law_pick dc__law_pick pm__law_pick an__law_pick cd__law_pick ct__law_pick), sl__law_pick⟩)
    (c__law_pick : PySem.W.codeIn K cd__law_pick "_law_pick" = true) (k__law_pick : PySem.W.keepIn K (.ref f__law_pick) = true)
    {f__law_names : Addr} {od__law_names an__law_names : Option Addr} {sl__law_names : Array (Option Value)} {oc__law_names kV__law_names dc__law_names pm__law_names cd__law_names ct__law_names : Value}
    (a__law_names : PySem.W.nsIn K mainGlobals "_law_names" = some (some (.ref f__law_names))) (l__law_names : K.lookup f__law_names = some ⟨oc__law_names, od__law_names, .func (PySem.W.fnOf "_law_names" "_law_names" (defArgs s__law_names) (defBody s__law_names) (defScope s__law_names) .none kV__law_names dc__law_names pm__law_names an__law_names cd__law_names ct__law_names), sl__law_names⟩)
    (c__law_names : PySem.W.codeIn K cd__law_names "_law_names" = true) (k__law_names : PySem.W.keepIn K (.ref f__law_names) = true)
    {f__law_all_pairs : Addr} {od__law_all_pairs an__law_all_pairs : Option Addr} {sl__law_all_pairs : Array (Option Value)} {oc__law_all_pairs kV__law_all_pairs dc__law_all_pairs pm__law_all_pairs cd__law_all_pairs ct__law_all_pairs : Value}
    (a__law_all_pairs : PySem.W.nsIn K mainGlobals "_law_all_pairs" = some (some (.ref f__law_all_pairs))) (l__law_all_pairs : K.lookup f__law_all_pairs = some ⟨oc__law_all_pairs, od__law_all_pairs, .func (PySem.W.fnOf "_law_all_pairs" "_law_all_pairs" (defArgs s__law_all_pairs) (defBody s__law_all_pairs) (defScope s__law_all_pairs) .none kV__law_all_pairs dc__law_all_pairs pm__law_all_pairs an__law_all_pairs cd__law_all_pairs ct__law_all_pairs), sl__law_all_pairs⟩)
    (c__law_all_pairs : PySem.W.codeIn K cd__law_all_pairs "_law_all_pairs" = true) (k__law_all_pairs : PySem.W.keepIn K (.ref f__law_all_pairs) = true)
    {f__law_shape : Addr} {od__law_shape an__law_shape : Option Addr} {sl__law_shape : Array (Option Value)} {oc__law_shape kV__law_shape dc__law_shape pm__law_shape cd__law_shape ct__law_shape : Value}
    (a__law_shape : PySem.W.nsIn K mainGlobals "_law_shape" = some (some (.ref f__law_shape))) (l__law_shape : K.lookup f__law_shape = some ⟨oc__law_shape, od__law_shape, .func (PySem.W.fnOf "_law_shape" "_law_shape" (defArgs s__law_shape) (defBody s__law_shape) (defScope s__law_shape) .none kV__law_shape dc__law_shape pm__law_shape an__law_shape cd__law_shape ct__law_shape), sl__law_shape⟩)
    (c__law_shape : PySem.W.codeIn K cd__law_shape "_law_shape" = true) (k__law_shape : PySem.W.keepIn K (.ref f__law_shape) = true)
    {f__law_pairs : Addr} {od__law_pairs an__law_pairs : Option Addr} {sl__law_pairs : Array (Option Value)} {oc__law_pairs kV__law_pairs dc__law_pairs pm__law_pairs cd__law_pairs ct__law_pairs : Value}
    (a__law_pairs : PySem.W.nsIn K mainGlobals "_law_pairs" = some (some (.ref f__law_pairs))) (l__law_pairs : K.lookup f__law_pairs = some ⟨oc__law_pairs, od__law_pairs, .func (PySem.W.fnOf "_law_pairs" "_law_pairs" (defArgs s__law_pairs) (defBody s__law_pairs) (defScope s__law_pairs) .none kV__law_pairs dc__law_pairs pm__law_pairs an__law_pairs cd__law_pairs ct__law_pairs), sl__law_pairs⟩)
    (c__law_pairs : PySem.W.codeIn K cd__law_pairs "_law_pairs" = true) (k__law_pairs : PySem.W.keepIn K (.ref f__law_pairs) = true)
    {f__law_are_apart : Addr} {od__law_are_apart an__law_are_apart : Option Addr} {sl__law_are_apart : Array (Option Value)} {oc__law_are_apart kV__law_are_apart dc__law_are_apart pm__law_are_apart cd__law_are_apart ct__law_are_apart : Value}
    (a__law_are_apart : PySem.W.nsIn K mainGlobals "_law_are_apart" = some (some (.ref f__law_are_apart))) (l__law_are_apart : K.lookup f__law_are_apart = some ⟨oc__law_are_apart, od__law_are_apart, .func (PySem.W.fnOf "_law_are_apart" "_law_are_apart" (defArgs s__law_are_apart) (defBody s__law_are_apart) (defScope s__law_are_apart) .none kV__law_are_apart dc__law_are_apart pm__law_are_apart an__law_are_apart cd__law_are_apart ct__law_are_apart), sl__law_are_apart⟩)
    (c__law_are_apart : PySem.W.codeIn K cd__law_are_apart "_law_are_apart" = true) (k__law_are_apart : PySem.W.keepIn K (.ref f__law_are_apart) = true)
    {f__law_apart : Addr} {od__law_apart an__law_apart : Option Addr} {sl__law_apart : Array (Option Value)} {oc__law_apart kV__law_apart dc__law_apart pm__law_apart cd__law_apart ct__law_apart : Value}
    (a__law_apart : PySem.W.nsIn K mainGlobals "_law_apart" = some (some (.ref f__law_apart))) (l__law_apart : K.lookup f__law_apart = some ⟨oc__law_apart, od__law_apart, .func (PySem.W.fnOf "_law_apart" "_law_apart" (defArgs s__law_apart) (defBody s__law_apart) (defScope s__law_apart) .none kV__law_apart dc__law_apart pm__law_apart an__law_apart cd__law_apart ct__law_apart), sl__law_apart⟩)
    (c__law_apart : PySem.W.codeIn K cd__law_apart "_law_apart" = true) (k__law_apart : PySem.W.keepIn K (.ref f__law_apart) = true)
    {f__law_rings : Addr} {od__law_rings an__law_rings : Option Addr} {sl__law_rings : Array (Option Value)} {oc__law_rings kV__law_rings dc__law_rings pm__law_rings cd__law_rings ct__law_rings : Value}
    (a__law_rings : PySem.W.nsIn K mainGlobals "_law_rings" = some (some (.ref f__law_rings))) (l__law_rings : K.lookup f__law_rings = some ⟨oc__law_rings, od__law_rings, .func (PySem.W.fnOf "_law_rings" "_law_rings" (defArgs s__law_rings) (defBody s__law_rings) (defScope s__law_rings) .none kV__law_rings dc__law_rings pm__law_rings an__law_rings cd__law_rings ct__law_rings), sl__law_rings⟩)
    (c__law_rings : PySem.W.codeIn K cd__law_rings "_law_rings" = true) (k__law_rings : PySem.W.keepIn K (.ref f__law_rings) = true)
    {f__law_besides : Addr} {od__law_besides an__law_besides : Option Addr} {sl__law_besides : Array (Option Value)} {oc__law_besides kV__law_besides dc__law_besides pm__law_besides cd__law_besides ct__law_besides : Value}
    (a__law_besides : PySem.W.nsIn K mainGlobals "_law_besides" = some (some (.ref f__law_besides))) (l__law_besides : K.lookup f__law_besides = some ⟨oc__law_besides, od__law_besides, .func (PySem.W.fnOf "_law_besides" "_law_besides" (defArgs s__law_besides) (defBody s__law_besides) (defScope s__law_besides) .none kV__law_besides dc__law_besides pm__law_besides an__law_besides cd__law_besides ct__law_besides), sl__law_besides⟩)
    (c__law_besides : PySem.W.codeIn K cd__law_besides "_law_besides" = true) (k__law_besides : PySem.W.keepIn K (.ref f__law_besides) = true)
    {f__law_is_good : Addr} {od__law_is_good an__law_is_good : Option Addr} {sl__law_is_good : Array (Option Value)} {oc__law_is_good kV__law_is_good dc__law_is_good pm__law_is_good cd__law_is_good ct__law_is_good : Value}
    (a__law_is_good : PySem.W.nsIn K mainGlobals "_law_is_good" = some (some (.ref f__law_is_good))) (l__law_is_good : K.lookup f__law_is_good = some ⟨oc__law_is_good, od__law_is_good, .func (PySem.W.fnOf "_law_is_good" "_law_is_good" (defArgs s__law_is_good) (defBody s__law_is_good) (defScope s__law_is_good) .none kV__law_is_good dc__law_is_good pm__law_is_good an__law_is_good cd__law_is_good ct__law_is_good), sl__law_is_good⟩)
    (c__law_is_good : PySem.W.codeIn K cd__law_is_good "_law_is_good" = true) (k__law_is_good : PySem.W.keepIn K (.ref f__law_is_good) = true)
    {f__law_members : Addr} {od__law_members an__law_members : Option Addr} {sl__law_members : Array (Option Value)} {oc__law_members kV__law_members dc__law_members pm__law_members cd__law_members ct__law_members : Value}
    (a__law_members : PySem.W.nsIn K mainGlobals "_law_members" = some (some (.ref f__law_members))) (l__law_members : K.lookup f__law_members = some ⟨oc__law_members, od__law_members, .func (PySem.W.fnOf "_law_members" "_law_members" (defArgs s__law_members) (defBody s__law_members) (defScope s__law_members) .none kV__law_members dc__law_members pm__law_members an__law_members cd__law_members ct__law_members), sl__law_members⟩)
    (c__law_members : PySem.W.codeIn K cd__law_members "_law_members" = true) (k__law_members : PySem.W.keepIn K (.ref f__law_members) = true)
    {f__law_hubs : Addr} {od__law_hubs an__law_hubs : Option Addr} {sl__law_hubs : Array (Option Value)} {oc__law_hubs kV__law_hubs dc__law_hubs pm__law_hubs cd__law_hubs ct__law_hubs : Value}
    (a__law_hubs : PySem.W.nsIn K mainGlobals "_law_hubs" = some (some (.ref f__law_hubs))) (l__law_hubs : K.lookup f__law_hubs = some ⟨oc__law_hubs, od__law_hubs, .func (PySem.W.fnOf "_law_hubs" "_law_hubs" (defArgs s__law_hubs) (defBody s__law_hubs) (defScope s__law_hubs) .none kV__law_hubs dc__law_hubs pm__law_hubs an__law_hubs cd__law_hubs ct__law_hubs), sl__law_hubs⟩)
    (c__law_hubs : PySem.W.codeIn K cd__law_hubs "_law_hubs" = true) (k__law_hubs : PySem.W.keepIn K (.ref f__law_hubs) = true)
    {f__law_ring : Addr} {od__law_ring an__law_ring : Option Addr} {sl__law_ring : Array (Option Value)} {oc__law_ring kV__law_ring dc__law_ring pm__law_ring cd__law_ring ct__law_ring : Value}
    (a__law_ring : PySem.W.nsIn K mainGlobals "_law_ring" = some (some (.ref f__law_ring))) (l__law_ring : K.lookup f__law_ring = some ⟨oc__law_ring, od__law_ring, .func (PySem.W.fnOf "_law_ring" "_law_ring" (defArgs s__law_ring) (defBody s__law_ring) (defScope s__law_ring) .none kV__law_ring dc__law_ring pm__law_ring an__law_ring cd__law_ring ct__law_ring), sl__law_ring⟩)
    (c__law_ring : PySem.W.codeIn K cd__law_ring "_law_ring" = true) (k__law_ring : PySem.W.keepIn K (.ref f__law_ring) = true)
    {f__law_kind : Addr} {od__law_kind an__law_kind : Option Addr} {sl__law_kind : Array (Option Value)} {oc__law_kind kV__law_kind dc__law_kind pm__law_kind cd__law_kind ct__law_kind : Value}
    (a__law_kind : PySem.W.nsIn K mainGlobals "_law_kind" = some (some (.ref f__law_kind))) (l__law_kind : K.lookup f__law_kind = some ⟨oc__law_kind, od__law_kind, .func (PySem.W.fnOf "_law_kind" "_law_kind" (defArgs s__law_kind) (defBody s__law_kind) (defScope s__law_kind) .none kV__law_kind dc__law_kind pm__law_kind an__law_kind cd__law_kind ct__law_kind), sl__law_kind⟩)
    (c__law_kind : PySem.W.codeIn K cd__law_kind "_law_kind" = true) (k__law_kind : PySem.W.keepIn K (.ref f__law_kind) = true)
    {f__law_lists_right : Addr} {od__law_lists_right an__law_lists_right : Option Addr} {sl__law_lists_right : Array (Option Value)} {oc__law_lists_right kV__law_lists_right dc__law_lists_right pm__law_lists_right cd__law_lists_right ct__law_lists_right : Value}
    (a__law_lists_right : PySem.W.nsIn K mainGlobals "_law_lists_right" = some (some (.ref f__law_lists_right))) (l__law_lists_right : K.lookup f__law_lists_right = some ⟨oc__law_lists_right, od__law_lists_right, .func (PySem.W.fnOf "_law_lists_right" "_law_lists_right" (defArgs s__law_lists_right) (defBody s__law_lists_right) (defScope s__law_lists_right) .none kV__law_lists_right dc__law_lists_right pm__law_lists_right an__law_lists_right cd__law_lists_right ct__law_lists_right), sl__law_lists_right⟩)
    (c__law_lists_right : PySem.W.codeIn K cd__law_lists_right "_law_lists_right" = true) (k__law_lists_right : PySem.W.keepIn K (.ref f__law_lists_right) = true)
    {f__law_right : Addr} {od__law_right an__law_right : Option Addr} {sl__law_right : Array (Option Value)} {oc__law_right kV__law_right dc__law_right pm__law_right cd__law_right ct__law_right : Value}
    (a__law_right : PySem.W.nsIn K mainGlobals "_law_right" = some (some (.ref f__law_right))) (l__law_right : K.lookup f__law_right = some ⟨oc__law_right, od__law_right, .func (PySem.W.fnOf "_law_right" "_law_right" (defArgs s__law_right) (defBody s__law_right) (defScope s__law_right) .none kV__law_right dc__law_right pm__law_right an__law_right cd__law_right ct__law_right), sl__law_right⟩)
    (c__law_right : PySem.W.codeIn K cd__law_right "_law_right" = true) (k__law_right : PySem.W.keepIn K (.ref f__law_right) = true)
    {f_law : Addr} {od_law an_law : Option Addr} {sl_law : Array (Option Value)} {oc_law kV_law dc_law pm_law cd_law ct_law : Value}
    (a_law : PySem.W.nsIn K mainGlobals "law" = some (some (.ref f_law))) (l_law : K.lookup f_law = some ⟨oc_law, od_law, .func (PySem.W.fnOf "law" "law" (defArgs s_law) (defBody s_law) (defScope s_law) .none kV_law dc_law pm_law an_law cd_law ct_law), sl_law⟩)
    (c_law : PySem.W.codeIn K cd_law "law" = true) (k_law : PySem.W.keepIn K (.ref f_law) = true)
    (z_len : PySem.W.nsIn K mainGlobals "len" = some none)
    (z_sorted : PySem.W.nsIn K mainGlobals "sorted" = some none)
    (z_set : PySem.W.nsIn K mainGlobals "set" = some none)
    (z_all : PySem.W.nsIn K mainGlobals "all" = some none)
    (z_enumerate : PySem.W.nsIn K mainGlobals "enumerate" = some none)
    (z_range : PySem.W.nsIn K mainGlobals "range" = some none)
    (z_zip : PySem.W.nsIn K mainGlobals "zip" = some none)
    (z_list : PySem.W.nsIn K mainGlobals "list" = some none)
    (z_tuple : PySem.W.nsIn K mainGlobals "tuple" = some none)
    (z_repr : PySem.W.nsIn K mainGlobals "repr" = some none)
    (z_isinstance : PySem.W.nsIn K mainGlobals "isinstance" = some none)
    (z_int : PySem.W.nsIn K mainGlobals "int" = some none)
    (z_bool : PySem.W.nsIn K mainGlobals "bool" = some none)
    (z_sum : PySem.W.nsIn K mainGlobals "sum" = some none)
    (z_max : PySem.W.nsIn K mainGlobals "max" = some none)
    (z_abs : PySem.W.nsIn K mainGlobals "abs" = some none)
    (z_divmod : PySem.W.nsIn K mainGlobals "divmod" = some none)
    {t_MOST_PLACES : Tok} (g_MOST_PLACES : PySem.W.nsIn K mainGlobals "MOST_PLACES" = some (some (.int 8 t_MOST_PLACES)))
    {t_MOST_WISHES : Tok} (g_MOST_WISHES : PySem.W.nsIn K mainGlobals "MOST_WISHES" = some (some (.int 6 t_MOST_WISHES)))
    {t_FOUR_fourplaces : Tok} (g_FOUR_fourplaces : PySem.W.nsIn K mainGlobals "FOUR_fourplaces" = some (some (.int 4 t_FOUR_fourplaces)))
    {t_FIVE : Tok} (g_FIVE : PySem.W.nsIn K mainGlobals "FIVE" = some (some (.int 5 t_FIVE)))
    {t_FOUR_kinds : Tok} (g_FOUR_kinds : PySem.W.nsIn K mainGlobals "FOUR_kinds" = some (some (.int 4 t_FOUR_kinds)))
    : ∃ fd : FuncData, (∀ (s : Shared) (v : Value), BindsTo s fd ⟨[v], []⟩ [("_law_script", v)]) ∧ ∀ base : Heap, K.In base → base.Ns mainGlobals mg → FnOkG l.prog w K mg base 10 fa fd ["_law_script"] (spLaw K) := by
  have e : f_law = fa := by
    have e := (PySem.W.mg_of KX G a_law).symm.trans hfa
    cases e
    rfl
  subst e
  have B : Bn mg := ⟨PySem.W.mg_none_of KX G z_len, PySem.W.mg_none_of KX G z_sorted, PySem.W.mg_none_of KX G z_set, PySem.W.mg_none_of KX G z_all, PySem.W.mg_none_of KX G z_enumerate, PySem.W.mg_none_of KX G z_range, PySem.W.mg_none_of KX G z_zip, PySem.W.mg_none_of KX G z_list, PySem.W.mg_none_of KX G z_tuple, PySem.W.mg_none_of KX G z_repr, PySem.W.mg_none_of KX G z_isinstance, PySem.W.mg_none_of KX G z_int, PySem.W.mg_none_of KX G z_bool, PySem.W.mg_none_of KX G z_sum, PySem.W.mg_none_of KX G z_max, PySem.W.mg_none_of KX G z_abs, PySem.W.mg_none_of KX G z_divmod, ⟨_, PySem.W.mg_of KX G g_MOST_PLACES⟩, ⟨_, PySem.W.mg_of KX G g_MOST_WISHES⟩, ⟨_, PySem.W.mg_of KX G g_FOUR_fourplaces⟩, ⟨_, PySem.W.mg_of KX G g_FIVE⟩, ⟨_, PySem.W.mg_of KX G g_FOUR_kinds⟩⟩
  have F_is_integer := fun_mk (st := s_is_integer) l_is_integer c_is_integer k_is_integer
  have D_is_integer : Dd K mg "is_integer" s_is_integer f_is_integer _ ["value"] := ⟨F_is_integer, PySem.W.mg_of KX G a_is_integer, F_is_integer.binds (ps := ["value"]) (fun _ _ _ _ _ _ us hl => match us, hl with | [_], _ => rfl)⟩
  have F_is_count := fun_mk (st := s_is_count) l_is_count c_is_count k_is_count
  have D_is_count : Dd K mg "is_count" s_is_count f_is_count _ ["value"] := ⟨F_is_count, PySem.W.mg_of KX G a_is_count, F_is_count.binds (ps := ["value"]) (fun _ _ _ _ _ _ us hl => match us, hl with | [_], _ => rfl)⟩
  have F_are_two_places := fun_mk (st := s_are_two_places) l_are_two_places c_are_two_places k_are_two_places
  have D_are_two_places : Dd K mg "are_two_places" s_are_two_places f_are_two_places _ ["one", "other", "many"] := ⟨F_are_two_places, PySem.W.mg_of KX G a_are_two_places, F_are_two_places.binds (ps := ["one", "other", "many"]) (fun _ _ _ _ _ _ us hl => match us, hl with | [_, _, _], _ => rfl)⟩
  have F_are_rising := fun_mk (st := s_are_rising) l_are_rising c_are_rising k_are_rising
  have D_are_rising : Dd K mg "are_rising" s_are_rising f_are_rising _ ["rows"] := ⟨F_are_rising, PySem.W.mg_of KX G a_are_rising, F_are_rising.binds (ps := ["rows"]) (fun _ _ _ _ _ _ us hl => match us, hl with | [_], _ => rfl)⟩
  have F_is_pair := fun_mk (st := s_is_pair) l_is_pair c_is_pair k_is_pair
  have D_is_pair : Dd K mg "is_pair" s_is_pair f_is_pair _ ["value"] := ⟨F_is_pair, PySem.W.mg_of KX G a_is_pair, F_is_pair.binds (ps := ["value"]) (fun _ _ _ _ _ _ us hl => match us, hl with | [_], _ => rfl)⟩
  have F_are_pairs := fun_mk (st := s_are_pairs) l_are_pairs c_are_pairs k_are_pairs
  have D_are_pairs : Dd K mg "are_pairs" s_are_pairs f_are_pairs _ ["value"] := ⟨F_are_pairs, PySem.W.mg_of KX G a_are_pairs, F_are_pairs.binds (ps := ["value"]) (fun _ _ _ _ _ _ us hl => match us, hl with | [_], _ => rfl)⟩
  have F_want_pairs := fun_mk (st := s_want_pairs) l_want_pairs c_want_pairs k_want_pairs
  have D_want_pairs : Dd K mg "want_pairs" s_want_pairs f_want_pairs _ ["value"] := ⟨F_want_pairs, PySem.W.mg_of KX G a_want_pairs, F_want_pairs.binds (ps := ["value"]) (fun _ _ _ _ _ _ us hl => match us, hl with | [_], _ => rfl)⟩
  have F_members_in := fun_mk (st := s_members_in) l_members_in c_members_in k_members_in
  have D_members_in : Dd K mg "members_in" s_members_in f_members_in _ ["pairs"] := ⟨F_members_in, PySem.W.mg_of KX G a_members_in, F_members_in.binds (ps := ["pairs"]) (fun _ _ _ _ _ _ us hl => match us, hl with | [_], _ => rfl)⟩
  have F_hubs_in := fun_mk (st := s_hubs_in) l_hubs_in c_hubs_in k_hubs_in
  have D_hubs_in : Dd K mg "hubs_in" s_hubs_in f_hubs_in _ ["pairs"] := ⟨F_hubs_in, PySem.W.mg_of KX G a_hubs_in, F_hubs_in.binds (ps := ["pairs"]) (fun _ _ _ _ _ _ us hl => match us, hl with | [_], _ => rfl)⟩
  have F_hubs_of := fun_mk (st := s_hubs_of) l_hubs_of c_hubs_of k_hubs_of
  have D_hubs_of : Dd K mg "hubs_of" s_hubs_of f_hubs_of _ ["pairs"] := ⟨F_hubs_of, PySem.W.mg_of KX G a_hubs_of, F_hubs_of.binds (ps := ["pairs"]) (fun _ _ _ _ _ _ us hl => match us, hl with | [_], _ => rfl)⟩
  have F_four_in := fun_mk (st := s_four_in) l_four_in c_four_in k_four_in
  have D_four_in : Dd K mg "four_in" s_four_in f_four_in _ ["pairs"] := ⟨F_four_in, PySem.W.mg_of KX G a_four_in, F_four_in.binds (ps := ["pairs"]) (fun _ _ _ _ _ _ us hl => match us, hl with | [_], _ => rfl)⟩
  have F_rows_without := fun_mk (st := s_rows_without) l_rows_without c_rows_without k_rows_without
  have D_rows_without : Dd K mg "rows_without" s_rows_without f_rows_without _ ["row", "members"] := ⟨F_rows_without, PySem.W.mg_of KX G a_rows_without, F_rows_without.binds (ps := ["row", "members"]) (fun _ _ _ _ _ _ us hl => match us, hl with | [_, _], _ => rfl)⟩
  have F_is_ring_for := fun_mk (st := s_is_ring_for) l_is_ring_for c_is_ring_for k_is_ring_for
  have D_is_ring_for : Dd K mg "is_ring_for" s_is_ring_for f_is_ring_for _ ["ring", "pairs"] := ⟨F_is_ring_for, PySem.W.mg_of KX G a_is_ring_for, F_is_ring_for.binds (ps := ["ring", "pairs"]) (fun _ _ _ _ _ _ us hl => match us, hl with | [_, _], _ => rfl)⟩
  have F_ring_in := fun_mk (st := s_ring_in) l_ring_in c_ring_in k_ring_in
  have D_ring_in : Dd K mg "ring_in" s_ring_in f_ring_in _ ["pairs"] := ⟨F_ring_in, PySem.W.mg_of KX G a_ring_in, F_ring_in.binds (ps := ["pairs"]) (fun _ _ _ _ _ _ us hl => match us, hl with | [_], _ => rfl)⟩
  have F_is_good_in := fun_mk (st := s_is_good_in) l_is_good_in c_is_good_in k_is_good_in
  have D_is_good_in : Dd K mg "is_good_in" s_is_good_in f_is_good_in _ ["pairs"] := ⟨F_is_good_in, PySem.W.mg_of KX G a_is_good_in, F_is_good_in.binds (ps := ["pairs"]) (fun _ _ _ _ _ _ us hl => match us, hl with | [_], _ => rfl)⟩
  have F_four_of := fun_mk (st := s_four_of) l_four_of c_four_of k_four_of
  have D_four_of : Dd K mg "four_of" s_four_of f_four_of _ ["pairs"] := ⟨F_four_of, PySem.W.mg_of KX G a_four_of, F_four_of.binds (ps := ["pairs"]) (fun _ _ _ _ _ _ us hl => match us, hl with | [_], _ => rfl)⟩
  have F_ring_of := fun_mk (st := s_ring_of) l_ring_of c_ring_of k_ring_of
  have D_ring_of : Dd K mg "ring_of" s_ring_of f_ring_of _ ["pairs"] := ⟨F_ring_of, PySem.W.mg_of KX G a_ring_of, F_ring_of.binds (ps := ["pairs"]) (fun _ _ _ _ _ _ us hl => match us, hl with | [_], _ => rfl)⟩
  have F_are_good := fun_mk (st := s_are_good) l_are_good c_are_good k_are_good
  have D_are_good : Dd K mg "are_good" s_are_good f_are_good _ ["pairs"] := ⟨F_are_good, PySem.W.mg_of KX G a_are_good, F_are_good.binds (ps := ["pairs"]) (fun _ _ _ _ _ _ us hl => match us, hl with | [_], _ => rfl)⟩
  have F_do_lie_apart := fun_mk (st := s_do_lie_apart) l_do_lie_apart c_do_lie_apart k_do_lie_apart
  have D_do_lie_apart : Dd K mg "do_lie_apart" s_do_lie_apart f_do_lie_apart _ ["pair", "other"] := ⟨F_do_lie_apart, PySem.W.mg_of KX G a_do_lie_apart, F_do_lie_apart.binds (ps := ["pair", "other"]) (fun _ _ _ _ _ _ us hl => match us, hl with | [_, _], _ => rfl)⟩
  have F_threes_apart := fun_mk (st := s_threes_apart) l_threes_apart c_threes_apart k_threes_apart
  have D_threes_apart : Dd K mg "threes_apart" s_threes_apart f_threes_apart _ ["pairs"] := ⟨F_threes_apart, PySem.W.mg_of KX G a_threes_apart, F_threes_apart.binds (ps := ["pairs"]) (fun _ _ _ _ _ _ us hl => match us, hl with | [_], _ => rfl)⟩
  have F_threes_in_ring := fun_mk (st := s_threes_in_ring) l_threes_in_ring c_threes_in_ring k_threes_in_ring
  have D_threes_in_ring : Dd K mg "threes_in_ring" s_threes_in_ring f_threes_in_ring _ ["pairs"] := ⟨F_threes_in_ring, PySem.W.mg_of KX G a_threes_in_ring, F_threes_in_ring.binds (ps := ["pairs"]) (fun _ _ _ _ _ _ us hl => match us, hl with | [_], _ => rfl)⟩
  have F_rings_beside := fun_mk (st := s_rings_beside) l_rings_beside c_rings_beside k_rings_beside
  have D_rings_beside : Dd K mg "rings_beside" s_rings_beside f_rings_beside _ ["pairs"] := ⟨F_rings_beside, PySem.W.mg_of KX G a_rings_beside, F_rings_beside.binds (ps := ["pairs"]) (fun _ _ _ _ _ _ us hl => match us, hl with | [_], _ => rfl)⟩
  have F_kind_of_pairs := fun_mk (st := s_kind_of_pairs) l_kind_of_pairs c_kind_of_pairs k_kind_of_pairs
  have D_kind_of_pairs : Dd K mg "kind_of_pairs" s_kind_of_pairs f_kind_of_pairs _ ["pairs"] := ⟨F_kind_of_pairs, PySem.W.mg_of KX G a_kind_of_pairs, F_kind_of_pairs.binds (ps := ["pairs"]) (fun _ _ _ _ _ _ us hl => match us, hl with | [_], _ => rfl)⟩
  have F_apart_threes := fun_mk (st := s_apart_threes) l_apart_threes c_apart_threes k_apart_threes
  have D_apart_threes : Dd K mg "apart_threes" s_apart_threes f_apart_threes _ ["pairs"] := ⟨F_apart_threes, PySem.W.mg_of KX G a_apart_threes, F_apart_threes.binds (ps := ["pairs"]) (fun _ _ _ _ _ _ us hl => match us, hl with | [_], _ => rfl)⟩
  have F_rings_of_three := fun_mk (st := s_rings_of_three) l_rings_of_three c_rings_of_three k_rings_of_three
  have D_rings_of_three : Dd K mg "rings_of_three" s_rings_of_three f_rings_of_three _ ["pairs"] := ⟨F_rings_of_three, PySem.W.mg_of KX G a_rings_of_three, F_rings_of_three.binds (ps := ["pairs"]) (fun _ _ _ _ _ _ us hl => match us, hl with | [_], _ => rfl)⟩
  have F_besides := fun_mk (st := s_besides) l_besides c_besides k_besides
  have D_besides : Dd K mg "besides" s_besides f_besides _ ["pairs"] := ⟨F_besides, PySem.W.mg_of KX G a_besides, F_besides.binds (ps := ["pairs"]) (fun _ _ _ _ _ _ us hl => match us, hl with | [_], _ => rfl)⟩
  have F_kind_of := fun_mk (st := s_kind_of) l_kind_of c_kind_of k_kind_of
  have D_kind_of : Dd K mg "kind_of" s_kind_of f_kind_of _ ["pairs"] := ⟨F_kind_of, PySem.W.mg_of KX G a_kind_of, F_kind_of.binds (ps := ["pairs"]) (fun _ _ _ _ _ _ us hl => match us, hl with | [_], _ => rfl)⟩
  have F__law_pot := fun_mk (st := s__law_pot) l__law_pot c__law_pot k__law_pot
  have D__law_pot : Dd K mg "_law_pot" s__law_pot f__law_pot _ ["_law_script", "_law_k"] := ⟨F__law_pot, PySem.W.mg_of KX G a__law_pot, F__law_pot.binds (ps := ["_law_script", "_law_k"]) (fun _ _ _ _ _ _ us hl => match us, hl with | [_, _], _ => rfl)⟩
  have F__law_draw := fun_mk (st := s__law_draw) l__law_draw c__law_draw k__law_draw
  have D__law_draw : Dd K mg "_law_draw" s__law_draw f__law_draw _ ["_law_pot_here", "_law_many"] := ⟨F__law_draw, PySem.W.mg_of KX G a__law_draw, F__law_draw.binds (ps := ["_law_pot_here", "_law_many"]) (fun _ _ _ _ _ _ us hl => match us, hl with | [_, _], _ => rfl)⟩
  have F__law_pick := fun_mk (st := s__law_pick) l__law_pick c__law_pick k__law_pick
  have D__law_pick : Dd K mg "_law_pick" s__law_pick f__law_pick _ ["_law_pot_here", "_law_some"] := ⟨F__law_pick, PySem.W.mg_of KX G a__law_pick, F__law_pick.binds (ps := ["_law_pot_here", "_law_some"]) (fun _ _ _ _ _ _ us hl => match us, hl with | [_, _], _ => rfl)⟩
  have F__law_names := fun_mk (st := s__law_names) l__law_names c__law_names k__law_names
  have D__law_names : Dd K mg "_law_names" s__law_names f__law_names _ ["_law_pot_here", "_law_many"] := ⟨F__law_names, PySem.W.mg_of KX G a__law_names, F__law_names.binds (ps := ["_law_pot_here", "_law_many"]) (fun _ _ _ _ _ _ us hl => match us, hl with | [_, _], _ => rfl)⟩
  have F__law_all_pairs := fun_mk (st := s__law_all_pairs) l__law_all_pairs c__law_all_pairs k__law_all_pairs
  have D__law_all_pairs : Dd K mg "_law_all_pairs" s__law_all_pairs f__law_all_pairs _ ["_law_places"] := ⟨F__law_all_pairs, PySem.W.mg_of KX G a__law_all_pairs, F__law_all_pairs.binds (ps := ["_law_places"]) (fun _ _ _ _ _ _ us hl => match us, hl with | [_], _ => rfl)⟩
  have F__law_shape := fun_mk (st := s__law_shape) l__law_shape c__law_shape k__law_shape
  have D__law_shape : Dd K mg "_law_shape" s__law_shape f__law_shape _ ["_law_pot_here", "_law_way"] := ⟨F__law_shape, PySem.W.mg_of KX G a__law_shape, F__law_shape.binds (ps := ["_law_pot_here", "_law_way"]) (fun _ _ _ _ _ _ us hl => match us, hl with | [_, _], _ => rfl)⟩
  have F__law_pairs := fun_mk (st := s__law_pairs) l__law_pairs c__law_pairs k__law_pairs
  have D__law_pairs : Dd K mg "_law_pairs" s__law_pairs f__law_pairs _ ["_law_pot_here"] := ⟨F__law_pairs, PySem.W.mg_of KX G a__law_pairs, F__law_pairs.binds (ps := ["_law_pot_here"]) (fun _ _ _ _ _ _ us hl => match us, hl with | [_], _ => rfl)⟩
  have F__law_are_apart := fun_mk (st := s__law_are_apart) l__law_are_apart c__law_are_apart k__law_are_apart
  have D__law_are_apart : Dd K mg "_law_are_apart" s__law_are_apart f__law_are_apart _ ["_law_pair", "_law_other"] := ⟨F__law_are_apart, PySem.W.mg_of KX G a__law_are_apart, F__law_are_apart.binds (ps := ["_law_pair", "_law_other"]) (fun _ _ _ _ _ _ us hl => match us, hl with | [_, _], _ => rfl)⟩
  have F__law_apart := fun_mk (st := s__law_apart) l__law_apart c__law_apart k__law_apart
  have D__law_apart : Dd K mg "_law_apart" s__law_apart f__law_apart _ ["_law_pairs_here"] := ⟨F__law_apart, PySem.W.mg_of KX G a__law_apart, F__law_apart.binds (ps := ["_law_pairs_here"]) (fun _ _ _ _ _ _ us hl => match us, hl with | [_], _ => rfl)⟩
  have F__law_rings := fun_mk (st := s__law_rings) l__law_rings c__law_rings k__law_rings
  have D__law_rings : Dd K mg "_law_rings" s__law_rings f__law_rings _ ["_law_pairs_here"] := ⟨F__law_rings, PySem.W.mg_of KX G a__law_rings, F__law_rings.binds (ps := ["_law_pairs_here"]) (fun _ _ _ _ _ _ us hl => match us, hl with | [_], _ => rfl)⟩
  have F__law_besides := fun_mk (st := s__law_besides) l__law_besides c__law_besides k__law_besides
  have D__law_besides : Dd K mg "_law_besides" s__law_besides f__law_besides _ ["_law_pairs_here"] := ⟨F__law_besides, PySem.W.mg_of KX G a__law_besides, F__law_besides.binds (ps := ["_law_pairs_here"]) (fun _ _ _ _ _ _ us hl => match us, hl with | [_], _ => rfl)⟩
  have F__law_is_good := fun_mk (st := s__law_is_good) l__law_is_good c__law_is_good k__law_is_good
  have D__law_is_good : Dd K mg "_law_is_good" s__law_is_good f__law_is_good _ ["_law_pairs_here"] := ⟨F__law_is_good, PySem.W.mg_of KX G a__law_is_good, F__law_is_good.binds (ps := ["_law_pairs_here"]) (fun _ _ _ _ _ _ us hl => match us, hl with | [_], _ => rfl)⟩
  have F__law_members := fun_mk (st := s__law_members) l__law_members c__law_members k__law_members
  have D__law_members : Dd K mg "_law_members" s__law_members f__law_members _ ["_law_pairs_here"] := ⟨F__law_members, PySem.W.mg_of KX G a__law_members, F__law_members.binds (ps := ["_law_pairs_here"]) (fun _ _ _ _ _ _ us hl => match us, hl with | [_], _ => rfl)⟩
  have F__law_hubs := fun_mk (st := s__law_hubs) l__law_hubs c__law_hubs k__law_hubs
  have D__law_hubs : Dd K mg "_law_hubs" s__law_hubs f__law_hubs _ ["_law_pairs_here"] := ⟨F__law_hubs, PySem.W.mg_of KX G a__law_hubs, F__law_hubs.binds (ps := ["_law_pairs_here"]) (fun _ _ _ _ _ _ us hl => match us, hl with | [_], _ => rfl)⟩
  have F__law_ring := fun_mk (st := s__law_ring) l__law_ring c__law_ring k__law_ring
  have D__law_ring : Dd K mg "_law_ring" s__law_ring f__law_ring _ ["_law_pairs_here"] := ⟨F__law_ring, PySem.W.mg_of KX G a__law_ring, F__law_ring.binds (ps := ["_law_pairs_here"]) (fun _ _ _ _ _ _ us hl => match us, hl with | [_], _ => rfl)⟩
  have F__law_kind := fun_mk (st := s__law_kind) l__law_kind c__law_kind k__law_kind
  have D__law_kind : Dd K mg "_law_kind" s__law_kind f__law_kind _ ["_law_pairs_here"] := ⟨F__law_kind, PySem.W.mg_of KX G a__law_kind, F__law_kind.binds (ps := ["_law_pairs_here"]) (fun _ _ _ _ _ _ us hl => match us, hl with | [_], _ => rfl)⟩
  have F__law_lists_right := fun_mk (st := s__law_lists_right) l__law_lists_right c__law_lists_right k__law_lists_right
  have D__law_lists_right : Dd K mg "_law_lists_right" s__law_lists_right f__law_lists_right _ ["_law_pairs_here"] := ⟨F__law_lists_right, PySem.W.mg_of KX G a__law_lists_right, F__law_lists_right.binds (ps := ["_law_pairs_here"]) (fun _ _ _ _ _ _ us hl => match us, hl with | [_], _ => rfl)⟩
  have F__law_right := fun_mk (st := s__law_right) l__law_right c__law_right k__law_right
  have D__law_right : Dd K mg "_law_right" s__law_right f__law_right _ ["_law_pot_here"] := ⟨F__law_right, PySem.W.mg_of KX G a__law_right, F__law_right.binds (ps := ["_law_pot_here"]) (fun _ _ _ _ _ _ us hl => match us, hl with | [_], _ => rfl)⟩
  have F_law := fun_mk (st := s_law) l_law c_law k_law
  have D_law : Dd K mg "law" s_law f_law _ ["_law_script"] := ⟨F_law, PySem.W.mg_of KX G a_law, F_law.binds (ps := ["_law_script"]) (fun _ _ _ _ _ _ us hl => match us, hl with | [_], _ => rfl)⟩
  have K_apart_threes := binds1 (a := "pairs") F_apart_threes fun _ _ _ _ _ _ _ => rfl
  have K_besides := binds1 (a := "pairs") F_besides fun _ _ _ _ _ _ _ => rfl
  have K_kind_of := binds1 (a := "pairs") F_kind_of fun _ _ _ _ _ _ _ => rfl
  have K_rings_of_three := binds1 (a := "pairs") F_rings_of_three fun _ _ _ _ _ _ _ => rfl
  refine ⟨PySem.W.fnOf "law" "law" (defArgs s_law) (defBody s_law) (defScope s_law) .none kV_law dc_law pm_law an_law cd_law ct_law, fun s v => .of_eq rfl, fun base _ _ => ?_⟩
  have G_is_integer := ok_is_integer (P := l.prog) (w := w) (base := base) B D_is_integer
  have G_is_count := ok_is_count (P := l.prog) (w := w) (base := base) B D_is_count D_is_integer G_is_integer
  have G_are_two_places := ok_are_two_places (P := l.prog) (w := w) (base := base) B D_are_two_places D_is_count G_is_count
  have G_is_pair := ok_is_pair (P := l.prog) (w := w) (base := base) B D_is_pair D_are_two_places G_are_two_places
  have G_are_rising := ok_are_rising (P := l.prog) (w := w) (base := base) B D_are_rising
  have G_are_pairs := ok_are_pairs (P := l.prog) (w := w) (base := base) B D_are_pairs D_is_pair G_is_pair D_are_rising G_are_rising
  have G_want_pairs := ok_want_pairs (P := l.prog) (w := w) (base := base) B D_want_pairs D_are_pairs G_are_pairs
  have G_members_in := ok_members_in (P := l.prog) (w := w) (base := base) B D_members_in
  have G_hubs_in := ok_hubs_in (P := l.prog) (w := w) (base := base) B D_hubs_in D_members_in G_members_in
  have G_four_in := ok_four_in (P := l.prog) (w := w) (base := base) B D_four_in D_members_in G_members_in
  have G_rows_without := ok_rows_without (P := l.prog) (w := w) (base := base) B D_rows_without
  have G_is_ring_for := ok_is_ring_for (P := l.prog) (w := w) (base := base) B D_is_ring_for
  have G_ring_in := ok_ring_in (P := l.prog) (w := w) (base := base) B D_ring_in D_members_in G_members_in D_rows_without G_rows_without D_is_ring_for G_is_ring_for
  have G_do_lie_apart := ok_do_lie_apart (P := l.prog) (w := w) (base := base) B D_do_lie_apart
  have G_threes_apart := ok_threes_apart (P := l.prog) (w := w) (base := base) B D_threes_apart D_do_lie_apart G_do_lie_apart
  have G_threes_in_ring := ok_threes_in_ring (P := l.prog) (w := w) (base := base) B D_threes_in_ring D_members_in G_members_in
  have G_rings_beside := ok_rings_beside (P := l.prog) (w := w) (base := base) B D_rings_beside D_threes_in_ring G_threes_in_ring
  have G_is_good_in := ok_is_good_in (P := l.prog) (w := w) (base := base) B D_is_good_in D_hubs_in G_hubs_in D_four_in G_four_in D_ring_in G_ring_in
  have G_kind_of_pairs := ok_kind_of_pairs (P := l.prog) (w := w) (base := base) B D_kind_of_pairs D_hubs_in G_hubs_in D_members_in G_members_in D_ring_in G_ring_in D_threes_apart G_threes_apart D_rings_beside G_rings_beside
  have G_hubs_of := ok_hubs_of (P := l.prog) (w := w) (base := base) B D_hubs_of D_want_pairs G_want_pairs D_hubs_in G_hubs_in
  have G_four_of := ok_four_of (P := l.prog) (w := w) (base := base) B D_four_of D_want_pairs G_want_pairs D_four_in G_four_in
  have G_ring_of := ok_ring_of (P := l.prog) (w := w) (base := base) B D_ring_of D_want_pairs G_want_pairs D_ring_in G_ring_in
  have G_are_good := ok_are_good (P := l.prog) (w := w) (base := base) B D_are_good D_want_pairs G_want_pairs D_is_good_in G_is_good_in
  have G_apart_threes := ok_apart_threes (P := l.prog) (w := w) (base := base) B D_apart_threes D_want_pairs G_want_pairs D_threes_apart G_threes_apart
  have G_rings_of_three := ok_rings_of_three (P := l.prog) (w := w) (base := base) B D_rings_of_three D_want_pairs G_want_pairs D_threes_in_ring G_threes_in_ring
  have G_besides := ok_besides (P := l.prog) (w := w) (base := base) B D_besides D_want_pairs G_want_pairs D_rings_beside G_rings_beside
  have G_kind_of := ok_kind_of (P := l.prog) (w := w) (base := base) B D_kind_of D_want_pairs G_want_pairs D_kind_of_pairs G_kind_of_pairs
  have G__law_are_apart := ok__law_are_apart (P := l.prog) (w := w) (base := base) B D__law_are_apart
  have G__law_apart := ok__law_apart (P := l.prog) (w := w) (base := base) B D__law_apart D__law_are_apart G__law_are_apart
  have G__law_rings := ok__law_rings (P := l.prog) (w := w) (base := base) B D__law_rings
  have G__law_besides := ok__law_besides (P := l.prog) (w := w) (base := base) B D__law_besides D__law_rings G__law_rings
  have G__law_is_good := ok__law_is_good (P := l.prog) (w := w) (base := base) B D__law_is_good D__law_apart G__law_apart D__law_besides G__law_besides
  have G__law_members := ok__law_members (P := l.prog) (w := w) (base := base) B D__law_members
  have G__law_all_pairs := ok__law_all_pairs (P := l.prog) (w := w) (base := base) B D__law_all_pairs
  have G__law_hubs := ok__law_hubs (P := l.prog) (w := w) (base := base) B D__law_hubs D__law_members G__law_members D__law_all_pairs G__law_all_pairs
  have G__law_ring := ok__law_ring (P := l.prog) (w := w) (base := base) B D__law_ring D__law_members G__law_members
  have G__law_kind := ok__law_kind (P := l.prog) (w := w) (base := base) B D__law_kind D__law_hubs G__law_hubs D__law_members G__law_members D__law_ring G__law_ring D__law_apart G__law_apart D__law_besides G__law_besides
  have G__law_pot := ok__law_pot (P := l.prog) (w := w) (base := base) B D__law_pot
  have G__law_draw := ok__law_draw (P := l.prog) (w := w) (base := base) B D__law_draw
  have G__law_pick := ok__law_pick (P := l.prog) (w := w) (base := base) B D__law_pick D__law_draw G__law_draw
  have G__law_names := ok__law_names (P := l.prog) (w := w) (base := base) B D__law_names D__law_draw G__law_draw
  have G__law_shape := ok__law_shape (P := l.prog) (w := w) (base := base) B D__law_shape D__law_all_pairs G__law_all_pairs
  have G__law_pairs := ok__law_pairs (P := l.prog) (w := w) (base := base) B D__law_pairs D__law_names G__law_names D__law_shape G__law_shape D__law_draw G__law_draw D__law_pick G__law_pick D__law_all_pairs G__law_all_pairs
  have G__law_lists_right := ok__law_lists_right (P := l.prog) (w := w) (base := base) B D__law_lists_right D__law_apart G__law_apart D__law_rings G__law_rings D__law_besides G__law_besides D_apart_threes G_apart_threes D_rings_of_three G_rings_of_three D_besides G_besides K_apart_threes K_rings_of_three K_besides
  have G__law_right := ok__law_right (P := l.prog) (w := w) (base := base) B D__law_right D__law_pairs G__law_pairs D__law_lists_right G__law_lists_right D__law_kind G__law_kind D__law_members G__law_members D_kind_of G_kind_of K_kind_of D__law_is_good G__law_is_good D_hubs_of G_hubs_of D_four_of G_four_of D_ring_of G_ring_of D_are_good G_are_good D__law_hubs G__law_hubs D__law_ring G__law_ring
  exact ok_law (P := l.prog) (w := w) (base := base) B D_law D__law_pot G__law_pot D__law_right G__law_right
end Kd
open PySem PySem.W PyProof.Rows
set_option maxRecDepth 100000 in
set_option maxHeartbeats 0 in
theorem PySem.Challenge.cw_wishways_k61_whole_kinds_of_pairs_holds : PySem.Challenge.rw_wishways_k61_whole_kinds_of_pairs.Holds := by
  w_on; o_law; k_head; (case hw => w_witness2)
  k_fill
  refine Kd.walkG_of (l := PySem.Challenge.rw_wishways_k61_whole_kinds_of_pairs) (n := 63) (k := 10) (x := "_law_script") (sp := fun w => Kd.spLaw _) rfl (by decide) rfl ⟨rfl, by decide, by decide⟩ (fun w h Y => PySem.W.kIn_of Y) ?F (fun _ _ a ks _ _ hS => ⟨a, ks, rfl, hS, fun _ => rfl⟩)
  case F =>
    intro w mg fa h KX G hmg
    refine' Kd.all_mk KX G hmg ?a_is_integer ?l_is_integer ?c_is_integer ?k_is_integer ?a_is_count ?l_is_count ?c_is_count ?k_is_count ?a_are_two_places ?l_are_two_places ?c_are_two_places ?k_are_two_places ?a_are_rising ?l_are_rising ?c_are_rising ?k_are_rising ?a_is_pair ?l_is_pair ?c_is_pair ?k_is_pair ?a_are_pairs ?l_are_pairs ?c_are_pairs ?k_are_pairs ?a_want_pairs ?l_want_pairs ?c_want_pairs ?k_want_pairs ?a_members_in ?l_members_in ?c_members_in ?k_members_in ?a_hubs_in ?l_hubs_in ?c_hubs_in ?k_hubs_in ?a_hubs_of ?l_hubs_of ?c_hubs_of ?k_hubs_of ?a_four_in ?l_four_in ?c_four_in ?k_four_in ?a_rows_without ?l_rows_without ?c_rows_without ?k_rows_without ?a_is_ring_for ?l_is_ring_for ?c_is_ring_for ?k_is_ring_for ?a_ring_in ?l_ring_in ?c_ring_in ?k_ring_in ?a_is_good_in ?l_is_good_in ?c_is_good_in ?k_is_good_in ?a_four_of ?l_four_of ?c_four_of ?k_four_of ?a_ring_of ?l_ring_of ?c_ring_of ?k_ring_of ?a_are_good ?l_are_good ?c_are_good ?k_are_good ?a_do_lie_apart ?l_do_lie_apart ?c_do_lie_apart ?k_do_lie_apart ?a_threes_apart ?l_threes_apart ?c_threes_apart ?k_threes_apart ?a_threes_in_ring ?l_threes_in_ring ?c_threes_in_ring ?k_threes_in_ring ?a_rings_beside ?l_rings_beside ?c_rings_beside ?k_rings_beside ?a_kind_of_pairs ?l_kind_of_pairs ?c_kind_of_pairs ?k_kind_of_pairs ?a_apart_threes ?l_apart_threes ?c_apart_threes ?k_apart_threes ?a_rings_of_three ?l_rings_of_three ?c_rings_of_three ?k_rings_of_three ?a_besides ?l_besides ?c_besides ?k_besides ?a_kind_of ?l_kind_of ?c_kind_of ?k_kind_of ?a__law_pot ?l__law_pot ?c__law_pot ?k__law_pot ?a__law_draw ?l__law_draw ?c__law_draw ?k__law_draw ?a__law_pick ?l__law_pick ?c__law_pick ?k__law_pick ?a__law_names ?l__law_names ?c__law_names ?k__law_names ?a__law_all_pairs ?l__law_all_pairs ?c__law_all_pairs ?k__law_all_pairs ?a__law_shape ?l__law_shape ?c__law_shape ?k__law_shape ?a__law_pairs ?l__law_pairs ?c__law_pairs ?k__law_pairs ?a__law_are_apart ?l__law_are_apart ?c__law_are_apart ?k__law_are_apart ?a__law_apart ?l__law_apart ?c__law_apart ?k__law_apart ?a__law_rings ?l__law_rings ?c__law_rings ?k__law_rings ?a__law_besides ?l__law_besides ?c__law_besides ?k__law_besides ?a__law_is_good ?l__law_is_good ?c__law_is_good ?k__law_is_good ?a__law_members ?l__law_members ?c__law_members ?k__law_members ?a__law_hubs ?l__law_hubs ?c__law_hubs ?k__law_hubs ?a__law_ring ?l__law_ring ?c__law_ring ?k__law_ring ?a__law_kind ?l__law_kind ?c__law_kind ?k__law_kind ?a__law_lists_right ?l__law_lists_right ?c__law_lists_right ?k__law_lists_right ?a__law_right ?l__law_right ?c__law_right ?k__law_right ?a_law ?l_law ?c_law ?k_law ?z_len ?z_sorted ?z_set ?z_all ?z_enumerate ?z_range ?z_zip ?z_list ?z_tuple ?z_repr ?z_isinstance ?z_int ?z_bool ?z_sum ?z_max ?z_abs ?z_divmod ?g_MOST_PLACES ?g_MOST_WISHES ?g_FOUR_fourplaces ?g_FIVE ?g_FOUR_kinds
    (case a_is_integer => k_is)
    (case l_is_integer => k_is)
    (case c_is_integer => k_is)
    (case k_is_integer => k_is)
    (case a_is_count => k_is)
    (case l_is_count => k_is)
    (case c_is_count => k_is)
    (case k_is_count => k_is)
    (case a_are_two_places => k_is)
    (case l_are_two_places => k_is)
    (case c_are_two_places => k_is)
    (case k_are_two_places => k_is)
    (case a_are_rising => k_is)
    (case l_are_rising => k_is)
    (case c_are_rising => k_is)
    (case k_are_rising => k_is)
    (case a_is_pair => k_is)
    (case l_is_pair => k_is)
    (case c_is_pair => k_is)
    (case k_is_pair => k_is)
    (case a_are_pairs => k_is)
    (case l_are_pairs => k_is)
    (case c_are_pairs => k_is)
    (case k_are_pairs => k_is)
    (case a_want_pairs => k_is)
    (case l_want_pairs => k_is)
    (case c_want_pairs => k_is)
    (case k_want_pairs => k_is)
    (case a_members_in => k_is)
    (case l_members_in => k_is)
    (case c_members_in => k_is)
    (case k_members_in => k_is)
    (case a_hubs_in => k_is)
    (case l_hubs_in => k_is)
    (case c_hubs_in => k_is)
    (case k_hubs_in => k_is)
    (case a_hubs_of => k_is)
    (case l_hubs_of => k_is)
    (case c_hubs_of => k_is)
    (case k_hubs_of => k_is)
    (case a_four_in => k_is)
    (case l_four_in => k_is)
    (case c_four_in => k_is)
    (case k_four_in => k_is)
    (case a_rows_without => k_is)
    (case l_rows_without => k_is)
    (case c_rows_without => k_is)
    (case k_rows_without => k_is)
    (case a_is_ring_for => k_is)
    (case l_is_ring_for => k_is)
    (case c_is_ring_for => k_is)
    (case k_is_ring_for => k_is)
    (case a_ring_in => k_is)
    (case l_ring_in => k_is)
    (case c_ring_in => k_is)
    (case k_ring_in => k_is)
    (case a_is_good_in => k_is)
    (case l_is_good_in => k_is)
    (case c_is_good_in => k_is)
    (case k_is_good_in => k_is)
    (case a_four_of => k_is)
    (case l_four_of => k_is)
    (case c_four_of => k_is)
    (case k_four_of => k_is)
    (case a_ring_of => k_is)
    (case l_ring_of => k_is)
    (case c_ring_of => k_is)
    (case k_ring_of => k_is)
    (case a_are_good => k_is)
    (case l_are_good => k_is)
    (case c_are_good => k_is)
    (case k_are_good => k_is)
    (case a_do_lie_apart => k_is)
    (case l_do_lie_apart => k_is)
    (case c_do_lie_apart => k_is)
    (case k_do_lie_apart => k_is)
    (case a_threes_apart => k_is)
    (case l_threes_apart => k_is)
    (case c_threes_apart => k_is)
    (case k_threes_apart => k_is)
    (case a_threes_in_ring => k_is)
    (case l_threes_in_ring => k_is)
    (case c_threes_in_ring => k_is)
    (case k_threes_in_ring => k_is)
    (case a_rings_beside => k_is)
    (case l_rings_beside => k_is)
    (case c_rings_beside => k_is)
    (case k_rings_beside => k_is)
    (case a_kind_of_pairs => k_is)
    (case l_kind_of_pairs => k_is)
    (case c_kind_of_pairs => k_is)
    (case k_kind_of_pairs => k_is)
    (case a_apart_threes => k_is)
    (case l_apart_threes => k_is)
    (case c_apart_threes => k_is)
    (case k_apart_threes => k_is)
    (case a_rings_of_three => k_is)
    (case l_rings_of_three => k_is)
    (case c_rings_of_three => k_is)
    (case k_rings_of_three => k_is)
    (case a_besides => k_is)
    (case l_besides => k_is)
    (case c_besides => k_is)
    (case k_besides => k_is)
    (case a_kind_of => k_is)
    (case l_kind_of => k_is)
    (case c_kind_of => k_is)
    (case k_kind_of => k_is)
    (case a__law_pot => k_is)
    (case l__law_pot => k_is)
    (case c__law_pot => k_is)
    (case k__law_pot => k_is)
    (case a__law_draw => k_is)
    (case l__law_draw => k_is)
    (case c__law_draw => k_is)
    (case k__law_draw => k_is)
    (case a__law_pick => k_is)
    (case l__law_pick => k_is)
    (case c__law_pick => k_is)
    (case k__law_pick => k_is)
    (case a__law_names => k_is)
    (case l__law_names => k_is)
    (case c__law_names => k_is)
    (case k__law_names => k_is)
    (case a__law_all_pairs => k_is)
    (case l__law_all_pairs => k_is)
    (case c__law_all_pairs => k_is)
    (case k__law_all_pairs => k_is)
    (case a__law_shape => k_is)
    (case l__law_shape => k_is)
    (case c__law_shape => k_is)
    (case k__law_shape => k_is)
    (case a__law_pairs => k_is)
    (case l__law_pairs => k_is)
    (case c__law_pairs => k_is)
    (case k__law_pairs => k_is)
    (case a__law_are_apart => k_is)
    (case l__law_are_apart => k_is)
    (case c__law_are_apart => k_is)
    (case k__law_are_apart => k_is)
    (case a__law_apart => k_is)
    (case l__law_apart => k_is)
    (case c__law_apart => k_is)
    (case k__law_apart => k_is)
    (case a__law_rings => k_is)
    (case l__law_rings => k_is)
    (case c__law_rings => k_is)
    (case k__law_rings => k_is)
    (case a__law_besides => k_is)
    (case l__law_besides => k_is)
    (case c__law_besides => k_is)
    (case k__law_besides => k_is)
    (case a__law_is_good => k_is)
    (case l__law_is_good => k_is)
    (case c__law_is_good => k_is)
    (case k__law_is_good => k_is)
    (case a__law_members => k_is)
    (case l__law_members => k_is)
    (case c__law_members => k_is)
    (case k__law_members => k_is)
    (case a__law_hubs => k_is)
    (case l__law_hubs => k_is)
    (case c__law_hubs => k_is)
    (case k__law_hubs => k_is)
    (case a__law_ring => k_is)
    (case l__law_ring => k_is)
    (case c__law_ring => k_is)
    (case k__law_ring => k_is)
    (case a__law_kind => k_is)
    (case l__law_kind => k_is)
    (case c__law_kind => k_is)
    (case k__law_kind => k_is)
    (case a__law_lists_right => k_is)
    (case l__law_lists_right => k_is)
    (case c__law_lists_right => k_is)
    (case k__law_lists_right => k_is)
    (case a__law_right => k_is)
    (case l__law_right => k_is)
    (case c__law_right => k_is)
    (case k__law_right => k_is)
    (case a_law => k_is)
    (case l_law => k_is)
    (case c_law => k_is)
    (case k_law => k_is)
    (case z_len => k_is)
    (case z_sorted => k_is)
    (case z_set => k_is)
    (case z_all => k_is)
    (case z_enumerate => k_is)
    (case z_range => k_is)
    (case z_zip => k_is)
    (case z_list => k_is)
    (case z_tuple => k_is)
    (case z_repr => k_is)
    (case z_isinstance => k_is)
    (case z_int => k_is)
    (case z_bool => k_is)
    (case z_sum => k_is)
    (case z_max => k_is)
    (case z_abs => k_is)
    (case z_divmod => k_is)
    (case g_MOST_PLACES => k_is)
    (case g_MOST_WISHES => k_is)
    (case g_FOUR_fourplaces => k_is)
    (case g_FIVE => k_is)
    (case g_FOUR_kinds => k_is)

