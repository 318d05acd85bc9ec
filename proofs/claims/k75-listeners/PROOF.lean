import PyProof.Rows.All
import Wide.All
import OpenK.AllK
import Wide.FinOn
import HandS.ForMost
import HandS.Wide
import HandS.Evl
import HandS.DictTup
import HandS.SortInts
import HandS.Style
import HandS.NoneIn
import HandS.IsInst
import PyProof.ReprRoads
import PyProof.ReprBulk
import HandS.EndBits
import HandS.RaiseMore
import PyProof.EqAt
import PyProof.EqKinds
import PyProof.TupleCall
import KE.KExcSuper
import HandS.ForExc
import HandS.ExcField
import HandS.ExcIs
import HandS.Lambda
import HandS.TupMul
import KE.KDictList
import HandS.Conv
import HandS.MakeKwOnly
import HandS.Walk
import HandS.Zip
import HandS.More
import HandS.WordsDict
import PySem.Challenge.RW_seenandheard_k75_whole_listeners
import HandS.EndTab
set_option Elab.async false
set_option linter.all false
set_option maxRecDepth 100000
set_option maxHeartbeats 4000000
section
/-! KS: d.items() and sorted(d.items()), keys and values whole numbers. -/
namespace KS
open PySem L2 Evl
section
variable {X : Cx} {pins : List (Addr × Obj)} {σ : L2.St} {H : Hp} {s : Shared}
abbrev X1 (X : Cx) : Cx := { X with A := X.A.in1 }
theorem inv1 (I : Inv X pins σ H s) : Inv (X1 X) pins σ H s :=
  ⟨⟨I.ok.mod, I.ok.kind, I.ok.glob, I.ok.blt, I.ok.above, I.ok.inj, I.ok.has, I.ok.cab, I.ok.hd, I.ok.frames, I.ok.stk, I.ok.exf, I.ok.bs, I.ok.bsz, I.ok.noex, I.ok.exfs, I.ok.funs, I.ok.frf⟩, I.os, I.bare, I.base, I.loc, I.cell, I.free, I.freeC, I.pin, I.hok, I.len⟩
theorem inv0 (I0 : X.Ok) (I : Inv (X1 X) pins σ H s) : Inv X pins σ H s := ⟨I0, I.os, I.bare, I.base, I.loc, I.cell, I.free, I.freeC, I.pin, I.hok, I.len⟩
def ent (z : Int × Int) : L2.Key × V := (Sum.inl z.1, V.int z.2)
def rItemsK : V → List V → Hp → VK → Prop := fun x xs H Q => ∃ (d : Addr) (zs : List (Int × Int)), x = .ref d ∧ xs = [] ∧ H d = some (.dK (zs.map ent)) ∧ ∀ p, H p = none → Q (.ref p) (upd H p (DX.itemsO p d))
theorem mt_itemsK : MtR X "dict.items" rItemsK := by
  intro pins s σ H x xs v us Q I rx rxs h
  obtain ⟨d, zs, rfl, rfl, hd, q⟩ := h
  cases rx
  cases rxs
  obtain ⟨_, ns, vs, _, o, es, ep, h1, h2, h3, _⟩ := dk_of I.hok hd
  refine DT.callItems (es := es) (ep := ep) ns ⟨o, h1, h2, h3⟩ ?_
  have fr : H s.heap.objs.size = none := I.hok.fresh (Nat.le_refl _)
  exact ⟨V.ref s.heap.objs.size, _, I.laid (t' := s.toks) (fun b u e => Heap.get?_push_of_some _ e) (Nat.le_refl _) (DX.itemsO_ok (Heap.get?_push_size _ rfl)), rfl, q _ fr⟩
theorem pairs_at {K : Type} [DecidableEq K] {prog : Program} {w : World} {knd : KeyKind prog w K} : ∀ {es : List DictEntry} {kvs : List (K × Value)}, PySem.Pairs knd es kvs → es.length = kvs.length ∧
    ∀ (j : Nat) (e : DictEntry), es[j]? = some e → ∃ kv, kvs[j]? = some kv ∧ knd.is kv.1 e.key = true ∧ e.val = kv.2
  | _, _, .nil => ⟨rfl, fun j e h => by simp at h⟩
  | _, _, .cons a b r => ⟨by rw [List.length_cons, List.length_cons, (pairs_at r).1], fun j e h => by
      cases j with
      | zero =>
        cases (show some _ = some e from h)
        exact ⟨_, rfl, a, b⟩
      | succ j => exact (pairs_at r).2 j e (by simpa using h)⟩
def kOf (H : Hp) : V → Int × Int
  | .ref a => match H a with
    | some (.tup [.int i, .int j]) => (i, j)
    | _ => (0, 0)
  | _ => (0, 0)
def rSortK : List V → Hp → VK → Prop := fun vs H Q => ∃ (p d : Addr) (zs : List (Int × Int)), vs = [.ref p] ∧ H p = some (DX.itemsO p d) ∧ H d = some (.dK (zs.map ent)) ∧ zs.length ≤ 1000 ∧
  ∀ (H' : Hp) (l : Addr) (ys : List V) (k : V → Int × Int), Ex H H' → H' l = some (.lst ys) → (∀ y ∈ ys, ∃ t, y = .ref t ∧ H' t = some (.tup [.int (k y).1, .int (k y).2])) →
    (ys.map k).Perm zs → (ys.map k).Pairwise (fun x y => x.1 < y.1 ∨ (x.1 = y.1 ∧ x.2 ≤ y.2)) → Q (.ref l) H'
theorem cr_sortK (hc : X.calm = true) : CallR X (.builtin "sorted") rSortK := by
  intro pins s σ H xs us Q I r h
  obtain ⟨p, d, zs, rfl, hp, hd, hlen, q⟩ := h
  obtain rfl := Vals.ref1 r
  have view : s.heap.IsItemsView p d := (show ObjOk X.prog X.w H s.heap p (DX.itemsO p d) from I.hok p _ hp).1
  obtain ⟨_, ns, vs, rel, o, es, ep, h1, h2, h3, _, prs, _⟩ := dk_of I.hok hd
  obtain ⟨pl, pat⟩ := pairs_at prs
  have lz : zs.length = vs.length := by
    have e : (zs.map ent).length = vs.length := Paired.length rel
    rw [List.length_map] at e
    exact e
  have les : es.size = zs.length := by rw [← Array.length_toList, pl, lz]
  refine DT.sortedI (es := es) (ep := ep) (I.ok.hd hc) view ⟨o, h1, h2, h3⟩ (by rw [sizeLine_eq]; omega) fun h' tk as hk hlt hl hG => ?_
  have nd : as.Nodup := hG.rise.imp Nat.ne_of_lt
  have made : ∀ (j : Nat) (a : Addr), as[j]? = some a → ∃ z its, zs[j]? = some z ∧ Vals [V.int z.1, V.int z.2] its ∧ h'.get? a = some { cls := .type "tuple", data := .seq its.toArray } := by
    intro j a ha
    obtain ⟨e, he, hg⟩ := hG.pairs j a ha
    obtain ⟨⟨kk, vv⟩, hv, ik, iv⟩ := pat j e (by rw [Array.getElem?_toList]; exact he)
    obtain ⟨x, hx, rx⟩ := KV.at' rel hv
    rw [List.getElem?_map] at hx
    cases hz : zs[j]? with
    | none => rw [hz] at hx; cases hx
    | some z =>
      rw [hz] at hx
      have ee : ent z = (kk, x) := Option.some.inj hx
      obtain ⟨rfl, rfl⟩ := Prod.mk.inj ee
      rcases keyIs_shape (show keyIs (Sum.inl z.1) e.key = true from ik) with ⟨i, t, e1, e2⟩ | ⟨i, t, e1, e2⟩
      · cases e1
        refine ⟨z, [e.key, e.val], rfl, .cons ?_ (.cons ?_ .nil), hg⟩
        · rw [e2]; exact ⟨t, rfl⟩
        · rw [iv]; exact rx
      · exact nomatch e1
  generalize hL : h'.objs.size = L at *
  have new : (h'.push { cls := .type "list", data := .seq (as.map Value.ref).toArray }).get? L = some { cls := .type "list", data := .seq (as.map Value.ref).toArray } := by rw [← hL]; exact Heap.get?_push_size _ rfl
  have old : ∀ b u, h'.get? b = some u → (h'.push { cls := .type "list", data := .seq (as.map Value.ref).toArray }).get? b = some u := fun b u e => Heap.get?_push_of_some _ e
  have far : ∀ b u, h'.get? b = some u → b ≠ L := fun b u e => Nat.ne_of_lt (by rw [← hL]; exact Heap.lt_size e)
  generalize h'.push { cls := .type "list", data := .seq (as.map Value.ref).toArray } = g at *
  have Ia : Inv X pins σ H { s with heap := g, toks := tk } := I.kept fun b u e => old b u (hk b u e)
  have hL0 : H L = none := I.hok.fresh (Nat.le_of_lt hlt)
  have Ib : Inv X pins σ (upd H L (.lst (as.map V.ref))) { s with heap := g, toks := tk } := by
    refine Ia.take (h' := g) (t' := tk) (fun b u _ e => e) (I.fpOk (Nat.le_of_lt hlt) hL0) ⟨?_, as.map Value.ref, 0, ?_, new⟩
    · rw [List.length_map, hl, sizeLine_eq]; omega
    · exact vals_maps V.ref Value.ref as fun _ _ => rfl
  obtain ⟨H2, Ic, ex, tk2⟩ := DX.takeT (P := fun a ws => ∃ (j : Nat) (z : Int × Int), as[j]? = some a ∧ zs[j]? = some z ∧ ws = [V.int z.1, V.int z.2]) I as _ Ib nd fun a ha => by
    obtain ⟨j, hj⟩ := List.mem_iff_getElem?.mp ha
    obtain ⟨z, its, hz, rv, hg⟩ := made j a hj
    have hlo : s.heap.objs.size ≤ a := Nat.le_of_lt (hG.above a ha)
    refine ⟨hlo, by rw [upd_ne (far _ _ hg)]; exact I.hok.fresh hlo, _, ⟨j, z, hj, hz, rfl⟩, fun H3 => ⟨by rw [sizeLine_eq]; show 2 ≤ 16777216; omega, its, rv, ⟨_, old _ _ hg, rfl, 0, rfl⟩⟩⟩
  have at2 : ∀ (j : Nat) (a : Addr), as[j]? = some a → ∃ z, zs[j]? = some z ∧ H2 a = some (.tup [.int z.1, .int z.2]) := by
    intro j a ha
    obtain ⟨ws, ⟨i, z, hi, hz, rfl⟩, hh⟩ := tk2 a (List.mem_of_getElem? ha)
    have e : j = i := (List.getElem?_inj (List.getElem?_eq_some_iff.mp ha).1 nd).mp (ha.trans hi.symm)
    subst e
    exact ⟨z, hz, hh⟩
  have kk : ∀ (j : Nat) (a : Addr), as[j]? = some a → zs[j]? = some (kOf H2 (.ref a)) ∧ H2 a = some (.tup [.int (kOf H2 (.ref a)).1, .int (kOf H2 (.ref a)).2]) := by
    intro j a ha
    obtain ⟨z, hz, hh⟩ := at2 j a ha
    have e : kOf H2 (.ref a) = z := by show (match H2 a with | some (.tup [.int i, .int j]) => (i, j) | _ => ((0 : Int), (0 : Int))) = z; rw [hh]
    rw [e]; exact ⟨hz, hh⟩
  have hmap : (as.map V.ref).map (kOf H2) = zs := by
    refine List.ext_getElem? fun j => ?_
    rw [List.map_map, List.getElem?_map]
    cases ha : as[j]? with
    | none =>
      have : as.length ≤ j := List.getElem?_eq_none_iff.mp ha
      rw [List.getElem?_eq_none_iff.mpr (by omega)]; rfl
    | some a => exact (kk j a ha).1.symm
  have ex0 : Ex H H2 := fun a o e => ex a o (by rw [upd_ne (ne_of_none e hL0)]; exact e)
  have hl2 : H2 L = some (.lst (as.map V.ref)) := ex _ _ upd_same
  have fin := mt_sortPO (X := X1 X) pins { s with heap := g, toks := tk } σ H2 (.ref L) [] (.ref L) [] (fun _ H3 => Q (.ref L) H3) (inv1 Ic) rfl .nil ⟨L, _, kOf H2, rfl, rfl, hl2, fun y hy => by
      obtain ⟨a, ha, rfl⟩ := List.mem_map.mp hy
      obtain ⟨j, hj⟩ := List.mem_iff_getElem?.mp ha
      exact ⟨a, rfl, (kk j a hj).2⟩, fun ys sr st => by
      refine q _ L ys (kOf H2) (fun a o e => ?_) upd_same (fun y hy => ?_) ?_ ?_
      · rw [upd_ne (ne_of_none e hL0)]; exact ex0 a o e
      · obtain ⟨a, ha, rfl⟩ := List.mem_map.mp (st.perm.mem_iff.mp hy)
        obtain ⟨j, hj⟩ := List.mem_iff_getElem?.mp ha
        refine ⟨a, rfl, ?_⟩
        have hh := (kk j a hj).2
        rw [upd_ne (ne_of hh hl2 (fun z => nomatch z))]; exact hh
      · have e := st.perm.map (kOf H2)
        rw [hmap] at e
        exact e
      · rw [List.pairwise_map]
        refine List.Pairwise.imp (fun {x y} e => ?_) sr
        have := SrtO.lexB_no.mp e
        omega⟩
  refine wpAny_mono fin (fun v s' y => ?_) fun _ _ e => e
  obtain ⟨y, H3, I3, _, q3⟩ := y
  exact ⟨V.ref L, H3, inv0 I.ok I3, rfl, q3⟩
/-- two lists of pairs, the same up to order, both in order -/
theorem same_list {l m : List (Int × Int)} (hp : l.Perm m) (h1 : l.Pairwise (fun x y => x.1 < y.1 ∨ (x.1 = y.1 ∧ x.2 ≤ y.2))) (h2 : m.Pairwise (fun x y => x.1 < y.1 ∨ (x.1 = y.1 ∧ x.2 ≤ y.2))) : l = m :=
  hp.eq_of_pairwise (fun a b _ _ c d => Prod.ext (by omega) (by omega)) h1 h2
end
end KS
end
section
/-! KA: one-step lemmas for readings, forward, by heads. -/
namespace KA
open PySem L2 Evl

/-! ### values that go on -/
def kTup (xs : List V) (H : Hp) (Q : VK) : Prop := xs.length ≤ sizeLine ∧ ∀ p, H p = none → Q (.ref p) (upd H p (.tup xs))
def kLst (xs : List V) (H : Hp) (Q : VK) : Prop := xs.length ≤ sizeLine ∧ ∀ p, H p = none → Q (.ref p) (upd H p (.lst xs))
def kPar (D : Ends) (i j : Nat) (σ : L2.St) (vs : List V) (H : Hp) : Prop := ∃ v w, vs = [v, w] ∧ D.nx ((σ.set i (some v)).set j (some w)) H
def kPar3 (D : Ends) (i j l : Nat) (σ : L2.St) (vs : List V) (H : Hp) : Prop := ∃ u v w, vs = [u, v, w] ∧ D.nx (((σ.set i (some u)).set j (some v)).set l (some w)) H
def kBl (x : V) (H : Hp) (Q : Bool → Hp → Prop) : Prop := ∃ k, x = .bl k ∧ Q k H
def kB (b : Bool) (A B : Prop) : Prop := if b = true then A else B
def kBV (x : V) (A B : Prop) : Prop := ∃ c, x = .bl c ∧ if c = true then A else B
def kFld (K : PySem.W.Frag) (f : Str) (x : V) (H : Hp) (Q : VK) : Prop := ∃ a C dx fs v, x = .ref a ∧ H a = some (.ins C dx fs) ∧ Cls K C ∧ NoAttr K C f ∧ fs.lookup f = some v ∧ Q v H
section
variable {D : Ends} {σ σ' : L2.St} {H H' : Hp} {t u : TS} {ta tb tc te : TE} {tt tu : TT} {tA tr : TA} {Q : VK} {R : Bool → Hp → Prop} {QA : List V → Hp → Prop} {i j l : Nat} {x y v w : V} {xo : Option V} {K : PySem.W.Frag} {xs : List V} {r r' : R2} {A B : Prop} {b : Bool} {f : Str} {sp : Sp} {dvs : List V} {E : XK}

theorem g_nrm (h : σ.set i xo = σ') (k : t D σ' H) : t D (σ.set i xo) H := by subst h; exact k
theorem g_seq (h : t { D with nx := u D } σ H) : tSeq t u D σ H := h
theorem g_asg {g : TG} (h : te σ H fun x H1 => g x σ H1 D.nx) : tAsg te g D σ H := h
theorem g_name {QS : L2.St → Hp → Prop} (k : QS (σ.set i (some v)) H) : gName i v σ H QS := k
theorem g_nameN {QS : L2.St → Hp → Prop} (h : σ.set i (some v) = σ') (k : QS σ' H) : gName i v σ H QS := by subst h; exact k
theorem g_yes (k : R true H) : tYes σ H R := k
theorem g_ret (h : te σ H D.rt) : tRet te D σ H := h
theorem g_retN (h : D.rt .non H) : tRetN D σ H := h
theorem g_drop (h : te σ H fun _ H1 => D.nx σ H1) : tDrop te D σ H := h
theorem g_next (h : D.nx σ H) : tNext D σ H := h
theorem g_brk (h : D.bk σ H) : tBreak D σ H := h
theorem g_cont (h : D.ct σ H) : tCont D σ H := h
theorem g_ifs (h : tt σ H fun b H1 => kB b (t D σ H1) (u D σ H1)) : tIfS tt t u D σ H := h
theorem g_if (h : tt σ H fun b H1 => kB b (ta σ H1 Q) (tb σ H1 Q)) : tIf tt ta tb σ H Q := h
theorem g_and (h : tt σ H fun b H1 => kB b (tu σ H1 R) (R false H1)) : tAnd tt tu σ H R := h
theorem g_or (h : tt σ H fun b H1 => kB b (R true H1) (tu σ H1 R)) : tOr tt tu σ H R := h
theorem g_not (h : tt σ H fun b H1 => R (!b) H1) : tNot tt σ H R := h
theorem g_andV (h : ta σ H fun x H1 => kBV x (tb σ H1 Q) (Q (.bl false) H1)) : tAndV ta tb σ H Q := h
theorem g_orV (h : ta σ H fun x H1 => kBV x (Q (.bl true) H1) (tb σ H1 Q)) : tOrV ta tb σ H Q := h
theorem g_notV (h : ta σ H fun x H1 => ∃ c, x = .bl c ∧ Q (.bl (!c)) H1) : tNotV ta σ H Q := h
theorem g_ex1 {P : Bool → Prop} (k : P b) : ∃ c, V.bl b = .bl c ∧ P c := ⟨b, rfl, k⟩
theorem g_kbv (k : kB b A B) : kBV (.bl b) A B := ⟨b, rfl, k⟩
theorem g_test (h : ta σ H fun x H1 => kBl x H1 R) : tTest ta σ H R := h
theorem g_tb (h : ta σ H fun x H1 => kBl x H1 R) : tB ta σ H R := h
theorem g_kbl (k : R b H) : kBl (.bl b) H R := ⟨b, rfl, k⟩
theorem kB_t (h : A) : kB true A B := h
theorem kB_f (h : B) : kB false A B := h
theorem kB_d {p : Prop} [Decidable p] (h1 : p → A) (h2 : ¬ p → B) : kB (decide p) A B := by
  unfold kB
  by_cases h : p
  · rw [decide_eq_true h]; exact h1 h
  · rw [decide_eq_false h]; exact h2 h
theorem kB_nd {p : Prop} [Decidable p] (h1 : ¬ p → A) (h2 : p → B) : kB (!decide p) A B := by
  unfold kB
  by_cases h : p
  · rw [decide_eq_true h]; exact h2 h
  · rw [decide_eq_false h]; exact h1 h
theorem kB_yes {p : Prop} [Decidable p] (h : p) (k : A) : kB (decide p) A B := kB_d (fun _ => k) fun n => absurd h n
theorem kB_no {p : Prop} [Decidable p] (h : ¬ p) (k : B) : kB (decide p) A B := kB_d (fun q => absurd q h) fun _ => k
theorem kB_nyes {p : Prop} [Decidable p] (h : ¬ p) (k : A) : kB (!decide p) A B := kB_nd (fun _ => k) fun q => absurd q h
theorem kB_nno {p : Prop} [Decidable p] (h : p) (k : B) : kB (!decide p) A B := kB_nd (fun n => absurd h n) fun _ => k
theorem kB_b (h1 : b = true → A) (h2 : b = false → B) : kB b A B := by
  cases b with
  | true => exact h1 rfl
  | false => exact h2 rfl
theorem kB_nn (h : kB b B A) : kB (!b) A B := by
  cases b with
  | true => exact h
  | false => exact h

theorem g_var (h : σ[i]? = some (some v)) (k : Q v H) : tVar i σ H Q := ⟨v, h, k⟩
theorem g_c (k : Q v H) : tC v σ H Q := k
theorem g_op (h : ta σ H fun x H1 => tb σ H1 fun y H2 => r x y H2 Q) : tOp r ta tb σ H Q := h
theorem g_un {r : V → Hp → VK → Prop} (h : ta σ H fun x H1 => r x H1 Q) : tUn r ta σ H Q := h
theorem g_cb {r : List V → Hp → VK → Prop} (h : tA σ H fun vs H1 => r vs H1 Q) : tCB r tA σ H Q := h
theorem g_nil (k : QA [] H) : tNil σ H QA := k
theorem g_cons (h : ta σ H fun x H1 => tr σ H1 fun xs H2 => QA (x :: xs) H2) : tCons ta tr σ H QA := h
theorem g_tup (h : tA σ H fun xs H1 => kTup xs H1 Q) : tTup tA σ H Q := h
theorem g_lst (h : tA σ H fun xs H1 => kLst xs H1 Q) : tLst tA σ H Q := h
theorem g_ktup (hl : xs.length ≤ 1000) (k : ∀ p H', H p = none → Ex H H' → H' p = some (.tup xs) → Q (.ref p) H') : kTup xs H Q :=
  ⟨Nat.le_trans hl (by decide), fun p hp => k p _ hp (Ex.new hp) upd_same⟩
theorem g_klst (hl : xs.length ≤ 1000) (k : ∀ p H', H p = none → Ex H H' → H' p = some (.lst xs) → Q (.ref p) H') : kLst xs H Q :=
  ⟨Nat.le_trans hl (by decide), fun p hp => k p _ hp (Ex.new hp) upd_same⟩
theorem g_par (h : tA σ H (kPar D i j σ)) : tPar i j tA D σ H := h
theorem g_par3 (h : tA σ H (kPar3 D i j l σ)) : tPar3 i j l tA D σ H := h
theorem g_kpar (k : D.nx ((σ.set i (some v)).set j (some w)) H) : kPar D i j σ [v, w] H := ⟨v, w, rfl, k⟩
theorem g_kpar3 (k : D.nx (((σ.set i (some x)).set j (some v)).set l (some w)) H) : kPar3 D i j l σ [x, v, w] H := ⟨x, v, w, rfl, k⟩
theorem g_call (h : tA σ H fun vs H1 => sp (vs ++ dvs) H1 Q E) : tCall sp dvs E tA σ H Q := h
theorem g_fld (h : ta σ H fun x H1 => kFld K f x H1 Q) : tFld K ta f σ H Q := h
theorem g_aug {f : Int → Int → Int} {a : Int} (hx : σ[i]? = some (some (.int a))) (h : te σ H fun y H1 => ipI f (.int a) y H1 fun z H2 => D.nx (σ.set i (some z)) H2) : tAug i te (ipI f) D σ H := ⟨.int a, hx, h⟩
theorem g_ipi {f : Int → Int → Int} {a c : Int} (k : Q (.int (f a c)) H) : ipI f (.int a) (.int c) H Q := ⟨a, c, rfl, rfl, k⟩
theorem g_gtup {n : Nat} {tg : TGs} {a : Addr} {QS : L2.St → Hp → Prop} (h : SqT K H a xs) (hl : xs.length = n) (k : tg xs σ H QS) : gTup K n tg (.ref a) σ H QS := ⟨a, xs, rfl, h, hl, k⟩
theorem g_gunl {n : Nat} {tg : TGs} {a : Addr} {QS : L2.St → Hp → Prop} (h : SqL K H a xs) (hl : xs.length = n) (k : tg xs σ H QS) : gUnl K n tg (.ref a) σ H QS := ⟨a, xs, rfl, h, hl, k⟩
theorem g_gcons {g : TG} {tg : TGs} {QS : L2.St → Hp → Prop} (k : g v σ H fun σ' H' => tg xs σ' H' QS) : gCons g tg (v :: xs) σ H QS := ⟨v, xs, rfl, k⟩
theorem g_gnil {QS : L2.St → Hp → Prop} (k : QS σ H) : gNil [] σ H QS := ⟨rfl, k⟩
theorem g_chain (h : ta σ H fun x H1 => tb σ H1 fun y H2 => r x y H2 fun z H3 => kBV z (tc σ H3 fun w' H4 => r' y w' H4 Q) (Q (.bl false) H3)) : tChain r r' ta tb tc σ H Q := h

/-! ### ints -/
theorem g_I0 {g : Int → Int → V} {a c : Int} (k : Q (g a c) H) : rI0 g (.int a) (.int c) H Q := ⟨a, c, rfl, rfl, k⟩
theorem g_I {C : Int → Int → Prop} {g : Int → Int → V} {a c : Int} (hc : C a c) (k : Q (g a c) H) : rI C g (.int a) (.int c) H Q := ⟨a, c, rfl, rfl, hc, k⟩
theorem g_U {g : Int → V} {a : Int} (k : Q (g a) H) : rU g (.int a) H Q := ⟨a, rfl, k⟩
theorem g_eqi {a c : Int} (k : Q (.bl (decide (a = c))) H) : rEq (.int a) (.int c) H Q := ⟨rfl, by
  have e : decide (V.int a = V.int c) = decide (a = c) := by rw [Bool.eq_iff_iff]; simp
  rw [e]; exact k⟩
theorem g_nei {a c : Int} (k : Q (.bl (!decide (a = c))) H) : rNe (.int a) (.int c) H Q := ⟨rfl, by
  have e : decide (V.int a = V.int c) = decide (a = c) := by rw [Bool.eq_iff_iff]; simp
  rw [e]; exact k⟩
end
/-! ### built-in calls by named readings -/
def rAbs : List V → Hp → VK → Prop := fun xs H Q => ∃ i, xs = [.int i] ∧ Q (.int (if i < 0 then -i else i)) H
theorem call_absN {X : Cx} : CallR X (.builtin "abs") rAbs := call_abs
theorem g_abs {a : Int} {H : Hp} {Q : VK} (k : Q (.int (a.natAbs : Int)) H) : rAbs [.int a] H Q := ⟨a, rfl, by
  have e : (if a < 0 then -a else a) = (a.natAbs : Int) := by split <;> omega
  rw [e]; exact k⟩
def rMx : List V → Hp → VK → Prop := fun xs H Q => ∃ i j, xs = [.int i, .int j] ∧ Q (.int (if j > i then j else i)) H
theorem call_mx {X : Cx} (hc : X.calm = true) : CallR X (.builtin "max") rMx := call_max2 hc
theorem g_mx {a c : Int} {H : Hp} {Q : VK} (k : Q (.int (max a c)) H) : rMx [.int a, .int c] H Q := ⟨a, c, rfl, by
  have e : (if c > a then c else a) = max a c := by split <;> omega
  rw [e]; exact k⟩
def rMn : List V → Hp → VK → Prop := fun xs H Q => ∃ i j, xs = [.int i, .int j] ∧ Q (.int (if j < i then j else i)) H
theorem call_mn {X : Cx} (hc : X.calm = true) : CallR X (.builtin "min") rMn := call_min2 hc
theorem g_mn {a c : Int} {H : Hp} {Q : VK} (k : Q (.int (min a c)) H) : rMn [.int a, .int c] H Q := ⟨a, c, rfl, by
  have e : (if c < a then c else a) = min a c := by split <;> omega
  rw [e]; exact k⟩
def rInt1 : List V → Hp → VK → Prop := fun xs H Q => (∃ i, xs = [.int i] ∧ Q (.int i) H) ∨ ∃ k, xs = [.bl k] ∧ Q (.int (if k then 1 else 0)) H
theorem call_intN {X : Cx} : CallR X (.type "int") rInt1 := call_int1
theorem g_int {a : Int} {H : Hp} {Q : VK} (k : Q (.int a) H) : rInt1 [.int a] H Q := .inl ⟨a, rfl, k⟩
theorem g_intb {b : Bool} {H : Hp} {Q : VK} (k : Q (.int (if b then 1 else 0)) H) : rInt1 [.bl b] H Q := .inr ⟨b, rfl, k⟩
def rLn (K : PySem.W.Frag) : List V → Hp → VK → Prop := fun xs H Q => ∃ p ys, xs = [.ref p] ∧ (SqL K H p ys ∨ SqT K H p ys) ∧ Q (.int ys.length) H
theorem call_ln {X : Cx} : CallR X (.builtin "len") (rLn X.K) := call_len_seq
theorem g_lnL {K : PySem.W.Frag} {p : Addr} {ys : List V} {H : Hp} {Q : VK} (h : H p = some (.lst ys)) (k : Q (.int ys.length) H) : rLn K [.ref p] H Q := ⟨p, ys, rfl, .inl (SqL.of h), k⟩
theorem g_lnT {K : PySem.W.Frag} {p : Addr} {ys : List V} {H : Hp} {Q : VK} (h : H p = some (.tup ys)) (k : Q (.int ys.length) H) : rLn K [.ref p] H Q := ⟨p, ys, rfl, .inr (SqT.of h), k⟩
section
variable {K : PySem.W.Frag} {H : Hp} {Q : VK}
theorem g_isi {x : V} {a b : String} {r : Bool} (h : TyX K H x (.type a)) (e : kitB a b = some r) (k : Q (.bl r) H) : rIsi K [x, .ty b] H Q :=
  ⟨x, .ty b, .type a, .type b, r, rfl, .ty b, h, kit_ty e, k⟩
theorem kb_ii : kitB "int" "int" = some true := by decide +kernel
theorem kb_ib : kitB "int" "bool" = some false := by decide +kernel
theorem kb_tt : kitB "tuple" "tuple" = some true := by decide +kernel
theorem kb_ss : kitB "str" "str" = some true := by decide +kernel
theorem g_isi_ii {a : Int} (k : Q (.bl true) H) : rIsi K [.int a, .ty "int"] H Q := g_isi (.base (.int a)) kb_ii k
theorem g_isi_ib {a : Int} (k : Q (.bl false) H) : rIsi K [.int a, .ty "bool"] H Q := g_isi (.base (.int a)) kb_ib k
theorem g_isi_ss {a : Str} (k : Q (.bl true) H) : rIsi K [.str a, .ty "str"] H Q := g_isi (.base (.str a)) kb_ss k
theorem g_isi_tt {p : Addr} {xs : List V} (h : H p = some (.tup xs)) (k : Q (.bl true) H) : rIsi K [.ref p, .ty "tuple"] H Q := g_isi (.base (.tup h)) kb_tt k
end
def rIsN : R2 := fun x y H Q => y = .non ∧ Q (.bl (decide (x = .non))) H
def rNotN : R2 := fun x y H Q => y = .non ∧ Q (.bl (!decide (x = .non))) H
theorem op_isNn {X : Cx} : OpR X (compareOp .Is) rIsN := op_isN
theorem op_notNn {X : Cx} : OpR X (compareOp .IsNot) rNotN := op_notN
section
variable {H : Hp} {Q : VK}
theorem g_isN_i {a : Int} (k : Q (.bl false) H) : rIsN (.int a) .non H Q := ⟨rfl, by simpa using k⟩
theorem g_isN_n (k : Q (.bl true) H) : rIsN .non .non H Q := ⟨rfl, by simpa using k⟩
theorem g_isN_r {a : Addr} (k : Q (.bl false) H) : rIsN (.ref a) .non H Q := ⟨rfl, by simpa using k⟩
end
/-! ### joined ways -/
theorem g_cut {t u : TS} {D : Ends} {σ : L2.St} {H : Hp} (Mid : L2.St → Hp → Prop) (h1 : t { D with nx := Mid } σ H) (h2 : ∀ σ' H', Mid σ' H' → u D σ' H') : tCut t u D σ H := ⟨Mid, h1, h2⟩
/-! ### for, over a list backwards -/
theorem g_forRev {K : PySem.W.Frag} {g : TG} {tb : TS} {D : Ends} {σ : L2.St} {H : Hp} {j : Nat} {a : Addr} {xs : List V} (Pv : Nat → L2.St → Hp → Prop)
    (hx : σ[j]? = some (some (.ref a))) (hq : SqL K H a xs) (h0 : Pv 0 σ H) (hl : ∀ i σ H, i ≤ xs.length → Pv i σ H → SqL K H a xs)
    (hs : ∀ i x σ H, i < xs.length → xs[xs.length - 1 - i]? = some x → Pv i σ H → g x σ H fun σ2 H2 => tb { D with nx := Pv (i + 1), ct := Pv (i + 1), bk := D.nx } σ2 H2)
    (hd : ∀ σ H, Pv xs.length σ H → D.nx σ H) : tFor (iRev K (tCons (tVar j) tNil)) g tb D σ H := by
  refine ⟨.ref a, hx, a, xs, rfl, hq, fun i m σ H => m = xs.length - i ∧ i ≤ xs.length ∧ Pv i σ H, ⟨xs.length, by simp, Nat.zero_le _, h0⟩, ?_⟩
  rintro i m σ H ⟨rfl, hi, p⟩
  have q := hl i σ H hi p
  by_cases hlt : i < xs.length
  · refine .inr ⟨⟨hlt, xs, xs[xs.length - 1 - i], q, by simp [show xs.length - 1 - i < xs.length by omega]⟩, Pv (i + 1), fun σ' H' p' => ⟨xs.length - (i + 1), by omega, rfl, hlt, p'⟩, fun x H' y => ?_⟩
    obtain ⟨e, y⟩ := y
    subst e
    exact hs i x σ _ hlt (y xs q) p
  · have e : i = xs.length := by omega
    subst e
    exact .inl ⟨Nat.le_refl _, hd σ H p⟩
/-! ### comprehensions -/
theorem ite_kB {b : Bool} {A B : Prop} (h : kB b A B) : if b = true then A else B := h
/-- behind i items the new list at D is out i, all else as at H1 -/
def LcP (H1 : Hp) (out : Nat → List V) (D : Addr) (i : Nat) (H : Hp) : Prop := Ex H1 H ∧ H D = some (.lst (out i))
theorem lc_end {H1 H2 H4 : Hp} {D : Addr} {out : Nat → List V} {i : Nat} {y : V} (hD : H1 D = none) (h2 : LcP H1 out D i H2) (e : Ex H2 H4) (hl : (out i).length < 100000) (ho : out (i + 1) = out i ++ [y]) :
    ∃ acc, H4 D = some (.lst acc) ∧ acc.length < sizeLine ∧ LcP H1 out D (i + 1) (upd H4 D (.lst (acc ++ [y]))) :=
  ⟨out i, e _ _ h2.2, Nat.lt_of_lt_of_le hl (by decide), Ex.mut (h2.1.trans e) hD, by rw [upd_same, ho]⟩
theorem lc_skip {H1 H2 H4 : Hp} {D : Addr} {out : Nat → List V} {i : Nat} (h2 : LcP H1 out D i H2) (e : Ex H2 H4) (ho : out (i + 1) = out i) : LcP H1 out D (i + 1) H4 :=
  ⟨h2.1.trans e, by rw [ho]; exact e _ _ h2.2⟩
def kLc (g : TG) (tt : TT) (te : TE) (vs : List Nat) (σ : L2.St) (Q : VK) (J : It) (H1 : Hp) : Prop := ∀ D, H1 D = none → ∃ W : Nat → Nat → Hp → Prop, (∃ m, W 0 m (upd H1 D (.lst []))) ∧ ∀ i m H, W i m H →
  (J.stop i H ∧ Q (.ref D) H) ∨ (J.go i H ∧ ∃ Nx : Hp → Prop, (∀ H', Nx H' → ∃ m', m' < m ∧ W (i + 1) m' H') ∧ ∀ x H', J.yld i H x H' → g x (wipe σ vs) H' fun σ2 H2 => wipe σ2 vs = wipe σ vs ∧ tt σ2 H2 fun b H3 =>
    if b = true then te σ2 H3 fun y H4 => ∃ acc, H4 D = some (.lst acc) ∧ acc.length < sizeLine ∧ Nx (upd H4 D (.lst (acc ++ [y]))) else Nx H3)
def kLcT (K : PySem.W.Frag) (R : It → Hp → Prop) (x : V) (H1 : Hp) : Prop := ∃ a, x = .ref a ∧ (∃ xs, SqT K H1 a xs) ∧ R (Itt K a) H1
def kLcL (K : PySem.W.Frag) (R : It → Hp → Prop) (x : V) (H1 : Hp) : Prop := ∃ a, x = .ref a ∧ (∃ xs, SqL K H1 a xs) ∧ R (Itl K a) H1
def kLcR (R : It → Hp → Prop) (vs : List V) (H1 : Hp) : Prop := ∃ j : Int, vs = [.int j] ∧ -(2 ^ 62) ≤ j ∧ j < 2 ^ 62 ∧ R (Itr 0 j.toNat) H1
section
variable {g : TG} {tt : TT} {te tl : TE} {ta : TA} {vs : List Nat} {σ : L2.St} {H H1 : Hp} {Q : VK} {K : PySem.W.Frag} {a : Addr} {xs : List V}
theorem g_lct (h : tl σ H (kLcT K (kLc g tt te vs σ Q))) : tLc (iTup K tl) g tt te vs σ H Q := h
theorem g_lcl (h : tl σ H (kLcL K (kLc g tt te vs σ Q))) : tLc (iList K tl) g tt te vs σ H Q := h
theorem g_lcr (h : ta σ H (kLcR (kLc g tt te vs σ Q))) : tLc (iRng1 ta) g tt te vs σ H Q := h
/-- one turn -/
def LcTurn (g : TG) (tt : TT) (te : TE) (vs : List Nat) (σ : L2.St) (H1 : Hp) (out : Nat → List V) (D : Addr) (i : Nat) (x : V) (H2 : Hp) : Prop :=
  g x (wipe σ vs) H2 fun σ2 H3 => wipe σ2 vs = wipe σ vs ∧ tt σ2 H3 fun b H4 =>
    if b = true then te σ2 H4 fun y H5 => ∃ acc, H5 D = some (.lst acc) ∧ acc.length < sizeLine ∧ LcP H1 out D (i + 1) (upd H5 D (.lst (acc ++ [y]))) else LcP H1 out D (i + 1) H4
theorem g_lcT (out : Nat → List V) (hx : SqT K H1 a xs) (h0 : out 0 = []) (hs : ∀ D, H1 D = none → ∀ i x H2, xs[i]? = some x → LcP H1 out D i H2 → LcTurn g tt te vs σ H1 out D i x H2)
    (hd : ∀ D H2, H1 D = none → Ex H1 H2 → H2 D = some (.lst (out xs.length)) → Q (.ref D) H2) : kLcT K (kLc g tt te vs σ Q) (.ref a) H1 :=
  ⟨a, rfl, ⟨xs, hx⟩, fun D hD => lc_tup (LcP H1 out D) ⟨Ex.new hD, by rw [upd_same, h0]⟩ (fun i H' _ p => ex_t p.1 hx) (fun i x H' hi p => hs D hD i x H' hi p) fun H' p => hd D H' hD p.1 p.2⟩
theorem g_lcL (out : Nat → List V) (hx : SqL K H1 a xs) (h0 : out 0 = []) (hs : ∀ D, H1 D = none → ∀ i x H2, xs[i]? = some x → LcP H1 out D i H2 → LcTurn g tt te vs σ H1 out D i x H2)
    (hd : ∀ D H2, H1 D = none → Ex H1 H2 → H2 D = some (.lst (out xs.length)) → Q (.ref D) H2) : kLcL K (kLc g tt te vs σ Q) (.ref a) H1 :=
  ⟨a, rfl, ⟨xs, hx⟩, fun D hD => lc_list (LcP H1 out D) ⟨Ex.new hD, by rw [upd_same, h0]⟩ (fun i H' _ p => ex_l p.1 hx) (fun i x H' hi p => hs D hD i x H' hi p) fun H' p => hd D H' hD p.1 p.2⟩
theorem g_lcR {n : Int} (out : Nat → List V) (hn : 0 ≤ n ∧ n ≤ 100000) (h0 : out 0 = []) (hs : ∀ D, H1 D = none → ∀ (i : Nat) H2, (i : Int) < n → LcP H1 out D i H2 → LcTurn g tt te vs σ H1 out D i (.int (0 + (i : Int))) H2)
    (hd : ∀ D H2, H1 D = none → Ex H1 H2 → H2 D = some (.lst (out n.toNat)) → Q (.ref D) H2) : kLcR (kLc g tt te vs σ Q) [.int n] H1 :=
  ⟨n, rfl, by omega, by omega, fun D hD => lc_range (LcP H1 out D) ⟨Ex.new hD, by rw [upd_same, h0]⟩ (fun i H' hi p => hs D hD i H' (by omega) p) fun H' p => hd D H' hD p.1 p.2⟩
/-- a slice of a tuple -/
def kSlT (K : PySem.W.Frag) (x : V) (lo hi : Option Int) (H : Hp) (Q : VK) : Prop := rSlT K x lo hi H Q
theorem g_sl {r : V → Option Int → Option Int → Hp → VK → Prop} {to ti : TO} (h : tl σ H fun x H1 => to σ H1 fun l H2 => ti σ H2 fun u H3 => r x l u H3 Q) : tSl r tl to ti σ H Q := h
theorem g_nop {QO : Option Int → Hp → Prop} (k : QO none H) : tNoPart σ H QO := k
theorem g_part {QO : Option Int → Hp → Prop} (h : tl σ H fun x H1 => ∃ i, x = .int i ∧ QO (some i) H1) : tPart tl σ H QO := h
theorem g_exi {P : Int → Prop} {n : Int} (k : P n) : ∃ i, V.int n = .int i ∧ P i := ⟨n, rfl, k⟩
/-- t[k:] -/
theorem g_slt {k : Nat} (hx : SqT K H a xs) (hk : 0 < k) (hl : k ≤ xs.length) (q : ∀ p H', H p = none → Ex H H' → H' p = some (.tup (xs.drop k)) → Q (.ref p) H') : rSlT K (.ref a) (some (k : Int)) none H Q := by
  have e1 : HT.sIx xs.length 0 (some (k : Int)) = k := by rw [HT.sIx_nat]; omega
  have e2 : HT.sIx xs.length xs.length none = xs.length := HT.sIx_none _ _
  refine ⟨a, xs, rfl, hx, by rw [e1]; omega, fun p hp => q p _ hp (Ex.new hp) ?_⟩
  rw [upd_same]
  unfold cutV
  rw [e1, e2, List.take_of_length_le (by rw [List.length_drop]; omega)]
theorem g_ixT {i : Nat} {v : V} (hx : SqT K H a xs) (hi : xs[i]? = some v) (k : Q v H) : rIxT K (.ref a) (.int (i : Int)) H Q := ⟨a, xs, i, v, rfl, rfl, hx, atI_nat hi, k⟩
theorem g_ixL {i : Nat} {v : V} (hx : SqL K H a xs) (hi : xs[i]? = some v) (k : Q v H) : rIxL K (.ref a) (.int (i : Int)) H Q := ⟨a, xs, i, v, rfl, rfl, hx, atI_nat hi, k⟩
theorem g_ixT0 {v : V} {ys : List V} (hx : SqT K H a (v :: ys)) (k : Q v H) : rIxT K (.ref a) (.int 0) H Q := g_ixT (i := 0) hx rfl k
theorem g_ixT1 {u v : V} {ys : List V} (hx : SqT K H a (u :: v :: ys)) (k : Q v H) : rIxT K (.ref a) (.int 1) H Q := g_ixT (i := 1) hx rfl k
theorem g_slt1 (hx : SqT K H a xs) (hl : 1 ≤ xs.length) (q : ∀ p H', H p = none → Ex H H' → H' p = some (.tup (xs.drop 1)) → Q (.ref p) H') : rSlT K (.ref a) (some 1) none H Q := g_slt (k := 1) hx (by decide) hl q
theorem g_notIn {x : V} (hx : SqT K H a xs) (h1 : flatV x = true) (h2 : xs.all flatV = true) (k : Q (.bl (!inV x xs)) H) : rIn K true x (.ref a) H Q := ⟨a, xs, rfl, .inr hx, h1, h2, k⟩
theorem g_all {bs : List Bool} (hx : SqL K H a (bs.map V.bl)) (k : Q (.bl (bs.all id)) H) : rAll K [.ref a] H Q := ⟨a, bs, rfl, hx, k⟩
theorem g_eqs {x y : Str} (k : Q (.bl (decide (x = y))) H) : rEq (.str x) (.str y) H Q := ⟨rfl, by
  have e : decide (V.str x = V.str y) = decide (x = y) := by rw [Bool.eq_iff_iff]; simp
  rw [e]; exact k⟩
theorem g_nes {x y : Str} (k : Q (.bl (!decide (x = y))) H) : rNe (.str x) (.str y) H Q := ⟨rfl, by
  have e : decide (V.str x = V.str y) = decide (x = y) := by rw [Bool.eq_iff_iff]; simp
  rw [e]; exact k⟩
/-- t + u, neither empty -/
theorem g_catT {b : Addr} {ys : List V} (hx : SqT K H a xs) (hy : SqT K H b ys) (h1 : xs ≠ []) (h2 : ys ≠ []) (hl : xs.length + ys.length ≤ 1000) (q : ∀ p H', H p = none → Ex H H' → H' p = some (.tup (xs ++ ys)) → Q (.ref p) H') : rCatT K (.ref a) (.ref b) H Q :=
  ⟨a, b, xs, ys, rfl, rfl, hx, hy, h1, Nat.le_trans hl (by decide), fun z => absurd z h2, fun _ p hp => q p _ hp (Ex.new hp) upd_same⟩
end
/-! ### while -/
def kWh (t : TS) (D : Ends) (W : Nat → L2.St → Hp → Prop) (m : Nat) (σ : L2.St) (b : Bool) (H1 : Hp) : Prop :=
  if b = true then ∃ N : L2.St → Hp → Prop, (∀ σ' H', N σ' H' → ∃ m', m' < m ∧ W m' σ' H') ∧ t { D with nx := N, ct := N, bk := D.nx } σ H1 else D.nx σ H1
def WI {α : Type} (I : α → L2.St → Hp → Prop) (μ : α → Nat) : Nat → L2.St → Hp → Prop := fun m σ H => ∃ a, m = μ a ∧ I a σ H
def Nx {α : Type} (I : α → L2.St → Hp → Prop) (μ : α → Nat) (a : α) : L2.St → Hp → Prop := fun σ H => ∃ a', μ a' < μ a ∧ I a' σ H
theorem g_while {α : Type} {tt : TT} {t : TS} {D : Ends} {σ : L2.St} {H : Hp} (I : α → L2.St → Hp → Prop) (μ : α → Nat) (a0 : α) (h0 : I a0 σ H)
    (st : ∀ a σ H, I a σ H → tt σ H (kWh t D (WI I μ) (μ a) σ)) : tWhile tt t D σ H := by
  refine ⟨WI I μ, ⟨μ a0, a0, rfl, h0⟩, ?_⟩
  rintro m σ H ⟨a, rfl, h⟩
  exact st a σ H h
theorem kWh_d {α : Type} {t : TS} {D : Ends} {σ : L2.St} {H : Hp} {I : α → L2.St → Hp → Prop} {μ : α → Nat} {a : α} {p : Prop} [Decidable p]
    (h1 : p → t { D with nx := Nx I μ a, ct := Nx I μ a, bk := D.nx } σ H) (h2 : ¬ p → D.nx σ H) : kWh t D (WI I μ) (μ a) σ (decide p) H := by
  unfold kWh
  by_cases h : p
  · rw [decide_eq_true h, if_pos rfl]
    exact ⟨Nx I μ a, fun σ' H' ⟨a', l, i⟩ => ⟨μ a', l, a', rfl, i⟩, h1 h⟩
  · rw [decide_eq_false h, if_neg Bool.false_ne_true]
    exact h2 h
theorem kWh_b {α : Type} {t : TS} {D : Ends} {σ : L2.St} {H : Hp} {I : α → L2.St → Hp → Prop} {μ : α → Nat} {a : α} {b : Bool}
    (h1 : b = true → t { D with nx := Nx I μ a, ct := Nx I μ a, bk := D.nx } σ H) (h2 : b = false → D.nx σ H) : kWh t D (WI I μ) (μ a) σ b H := by
  unfold kWh
  cases b with
  | true => exact ⟨Nx I μ a, fun σ' H' ⟨a', l, i⟩ => ⟨μ a', l, a', rfl, i⟩, h1 rfl⟩
  | false => exact h2 rfl
theorem cmul_l {a c : Int} (h1 : -18446744073709551616 < a) (h2 : a < 18446744073709551616) : CMul a c := .inl ⟨h1, h2⟩
theorem cmul_r {a c : Int} (h1 : -18446744073709551616 < c) (h2 : c < 18446744073709551616) : CMul a c := .inr ⟨h1, h2⟩
def CDv (_ j : Int) : Prop := 0 < j ∧ j < 18446744073709551616
theorem op_dv {X : Cx} : OpR X (binaryOp .FloorDiv) (rI CDv fun i j => .int (i / j)) := by
  intro pins s σ H x y v u Q I rx ry h
  obtain ⟨i, j, rfl, rfl, ⟨h1, h2⟩, q⟩ := h
  refine op_fdivW pins s σ H _ _ v u Q I rx ry ⟨i, j, rfl, rfl, wide_div (b := 64) h1 ?_ (by decide) (by decide), q⟩
  have e : (2 : Nat) ^ 64 = 18446744073709551616 := by decide
  rw [e]; omega
end KA
end
section
/-! KW: loops over lists, dicts, one step each. -/
namespace KW
open PySem L2 Evl
section
variable {D : Ends} {σ : L2.St} {H : Hp} {tb : TS} {tl td ty tx tv to : TE} {t : TA} {g : TG} {Q : VK} {K : PySem.W.Frag} {a d : Addr} {xs : List V} {kvs : List (L2.Key × V)} {k : L2.Key} {v z x : V}
def kFor (K : PySem.W.Frag) (g : TG) (tb : TS) (D : Ends) (σ : L2.St) (x : V) (H1 : Hp) : Prop := ∃ a, x = .ref a ∧ (∃ xs, SqL K H1 a xs) ∧ ∃ W : Nat → Nat → L2.St → Hp → Prop, (∃ m, W 0 m σ H1) ∧ ∀ i m σ H, W i m σ H →
  ((Itl K a).stop i H ∧ D.nx σ H) ∨ ((Itl K a).go i H ∧ ∃ N : L2.St → Hp → Prop, (∀ σ' H', N σ' H' → ∃ m', m' < m ∧ W (i + 1) m' σ' H') ∧ ∀ x H', (Itl K a).yld i H x H' → g x σ H' fun σ2 H2 => tb { D with nx := N, ct := N, bk := D.nx } σ2 H2)
theorem g_for (h : tl σ H (kFor K g tb D σ)) : tFor (iList K tl) g tb D σ H := h
theorem g_forL (Pv : Nat → L2.St → Hp → Prop) (hq : SqL K H a xs) (h0 : Pv 0 σ H) (hl : ∀ i σ H, i ≤ xs.length → Pv i σ H → SqL K H a xs)
    (hs : ∀ i x σ H, xs[i]? = some x → Pv i σ H → g x σ H fun σ2 H2 => tb { D with nx := Pv (i + 1), ct := Pv (i + 1), bk := D.nx } σ2 H2) (hd : ∀ σ H, Pv xs.length σ H → D.nx σ H) : kFor K g tb D σ (.ref a) H :=
  ⟨a, rfl, ⟨xs, hq⟩, for_list Pv h0 hl hs hd⟩
theorem g_dnew (h : ∀ p H', H p = none → Ex H H' → H' p = some (.dK []) → Q (.ref p) H') : tDNewK σ H Q := fun p hp => h p _ hp (Ex.new hp) upd_same
def kDg (ty tx : TE) (σ : L2.St) (Q : VK) (x : V) (H1 : Hp) : Prop := ∃ a, x = .ref a ∧ IsD H1 a ∧ ty σ H1 fun y H2 => tx σ H2 fun z H3 => ∃ o, DGet H3 a y o ∧ Q (o.getD z) H3
def kDo (a : Addr) (y : V) (Q : VK) (z : V) (H : Hp) : Prop := ∃ o, DGet H a y o ∧ Q (o.getD z) H
theorem g_dg (h : td σ H (kDg ty tx σ Q)) : tDGet2 td ty tx σ H Q := h
theorem g_kdg (hd : H d = some (.dK kvs)) (h : ty σ H fun y H2 => tx σ H2 (kDo d y Q)) : kDg ty tx σ Q (.ref d) H := ⟨d, rfl, .inl ⟨kvs, .inl hd⟩, h⟩
theorem g_kdo (hd : H d = some (.dK kvs)) (h : Q ((valV kvs k).getD z) H) : kDo d (kV k) Q z H := ⟨_, DGet.k hd, h⟩
def kSub (x y : V) (Q : VK) (H : Hp) : Prop := ∃ a v, x = .ref a ∧ DGet H a y (some v) ∧ Q v H
theorem g_sub (h : td σ H fun x H1 => ty σ H1 fun y H2 => kSub x y Q H2) : tDGet td ty σ H Q := h
theorem g_ksub (hd : H d = some (.dK kvs)) (hv : valV kvs k = some v) (h : Q v H) : kSub (.ref d) (kV k) Q H := ⟨d, v, rfl, hv ▸ DGet.k hd, h⟩
def kPut (D : Ends) (σ : L2.St) (x y v : V) (H : Hp) : Prop := ∃ a H4, x = .ref a ∧ DPut H a y v H4 ∧ D.nx σ H4
theorem g_put (h : tv σ H fun v H1 => td σ H1 fun x H2 => ty σ H2 fun y H3 => kPut D σ x y v H3) : sDPut td ty tv D σ H := h
theorem g_kput (hd : H d = some (.dK kvs)) (hl : kvs.length ≤ 1000) (h : D.nx σ (upd H d (.dK (putK kvs k v)))) : kPut D σ (.ref d) (kV k) v H := ⟨d, _, rfl, DPut.k hd (Nat.lt_of_le_of_lt hl (by decide)), h⟩
def kBM (K : PySem.W.Frag) (T : String) (r : V → List V → Hp → VK → Prop) (t : TA) (σ : L2.St) (Q : VK) (x : V) (H1 : Hp) : Prop := tyV K T x H1 ∧ t σ H1 fun xs H2 => r x xs H2 Q
def kBM0 (K : PySem.W.Frag) (T : String) (r : V → List V → Hp → VK → Prop) (Q : VK) (x : V) (H1 : Hp) : Prop := tyV K T x H1 ∧ r x [] H1 Q
theorem g_bm0 {T : String} {r : V → List V → Hp → VK → Prop} (h : to σ H (kBM0 K T r Q)) : tBM0 K T r to σ H Q := h
theorem ty_d (hd : H d = some (.dK kvs)) : tyV K "dict" (.ref d) H := .inr (.inr (.inl ⟨rfl, .inl ⟨_, hd⟩⟩))
theorem g_items {zs : List (Int × Int)} (hd : H d = some (.dK (zs.map KS.ent))) (h : ∀ p H', H p = none → Ex H H' → H' p = some (DX.itemsO p d) → Q (.ref p) H') : kBM0 K "dict" KS.rItemsK Q (.ref d) H :=
  ⟨ty_d hd, d, zs, rfl, rfl, hd, fun p hp => h p _ hp (Ex.new hp) upd_same⟩
end
/-! dicts of whole numbers -/
def getZ (zs : List (Int × Int)) (k : Int) : Option Int := (zs.find? fun z => decide (z.1 = k)).map (·.2)
def putZ (zs : List (Int × Int)) (k v : Int) : List (Int × Int) := if (zs.any fun z => decide (z.1 = k)) = true then zs.map (fun z => if z.1 = k then (z.1, v) else z) else zs ++ [(k, v)]
theorem inl_d {a b : Int} : decide ((Sum.inl a : L2.Key) = Sum.inl b) = decide (a = b) := by rw [Bool.eq_iff_iff]; simp
theorem getZ_ent {zs : List (Int × Int)} {k : Int} : valV (zs.map KS.ent) (Sum.inl k : L2.Key) = (getZ zs k).map V.int := by
  unfold valV getZ
  induction zs with
  | nil => rfl
  | cons z zs ih =>
    rw [List.map_cons, List.find?_cons, List.find?_cons]
    have e : decide ((KS.ent z).1 = (Sum.inl k : L2.Key)) = decide (z.1 = k) := inl_d
    rw [e]
    by_cases h : z.1 = k
    · rw [decide_eq_true h]; rfl
    · rw [decide_eq_false h]; exact ih
theorem putZ_ent {zs : List (Int × Int)} {k v : Int} : putK (zs.map KS.ent) (Sum.inl k : L2.Key) (V.int v) = (putZ zs k v).map KS.ent := by
  unfold putK putZ
  have e : ((zs.map KS.ent).any fun kv => decide (kv.1 = (Sum.inl k : L2.Key))) = zs.any fun z => decide (z.1 = k) := by
    rw [List.any_map]
    congr 1
    funext z
    exact inl_d
  rw [e]
  by_cases h : (zs.any fun z => decide (z.1 = k)) = true
  · rw [if_pos h, if_pos h, List.map_map, List.map_map]
    refine List.map_congr_left fun z _ => ?_
    show (if (Sum.inl z.1 : L2.Key) = Sum.inl k then ((Sum.inl z.1 : L2.Key), V.int v) else KS.ent z) = KS.ent (if z.1 = k then (z.1, v) else z)
    by_cases c : z.1 = k
    · rw [if_pos c, if_pos (by rw [c])]; rfl
    · rw [if_neg c, if_neg (fun x => c (Sum.inl.inj x))]
  · rw [if_neg h, if_neg h, List.map_append]; rfl
/-- one wait more -/
def addW (zs : List (Int × Int)) (k m : Int) : List (Int × Int) := if 0 < m then putZ zs k ((getZ zs k).getD 0 + m) else zs
theorem getD_int {o : Option Int} : ((o.map V.int).getD (.int 0)) = .int (o.getD 0) := by cases o <;> rfl
theorem three {k1 m1 k2 m2 m3 : Int} (a1 : 1 ≤ k1) (a2 : 1 ≤ k2) (b1 : 1 ≤ m1) (b2 : 1 ≤ m2) :
    addW (addW (addW [] k1 m1) k2 m2) (k1 + k2) m3 = (if k1 = k2 then [(k1, m1 + m2)] else [(k1, m1), (k2, m2)]) ++ (if 0 < m3 then [(k1 + k2, m3)] else []) := by
  have e1 : addW [] k1 m1 = [(k1, m1)] := by
    unfold addW
    rw [if_pos (by omega)]
    show [(k1, 0 + m1)] = _
    rw [Int.zero_add]
  rw [e1]
  have e2 : addW [(k1, m1)] k2 m2 = if k1 = k2 then [(k1, m1 + m2)] else [(k1, m1), (k2, m2)] := by
    unfold addW putZ getZ
    rw [if_pos (by omega)]
    by_cases c : k1 = k2
    · simp [c]
    · simp [c]
  rw [e2]
  unfold addW putZ getZ
  by_cases c3 : 0 < m3
  · rw [if_pos c3, if_pos c3]
    by_cases c : k1 = k2
    · subst c
      have n1 : ¬ k1 = k1 + k1 := by omega
      simp [n1]
    · have n1 : ¬ k1 = k1 + k2 := by omega
      have n2 : ¬ k2 = k1 + k2 := by omega
      simp [c, n1, n2]
  · rw [if_neg c3, if_neg c3, List.append_nil]
end KW
namespace KW
open PySem L2 Evl
/-- pairs of whole numbers, as tuples at some addresses -/
def Prs (H : Hp) : List V → List (Int × Int) → Prop
  | [], [] => True
  | y :: ys, z :: zs => (∃ t, y = .ref t ∧ H t = some (.tup [.int z.1, .int z.2])) ∧ Prs H ys zs
  | _, _ => False
theorem Prs.mono {H H' : Hp} (e : Ex H H') : ∀ {ys : List V} {zs : List (Int × Int)}, Prs H ys zs → Prs H' ys zs
  | [], [], _ => trivial
  | y :: ys, z :: zs, ⟨⟨t, h1, h2⟩, h⟩ => ⟨⟨t, h1, e _ _ h2⟩, Prs.mono e h⟩
  | [], _ :: _, h => h.elim
  | _ :: _, [], h => h.elim
theorem Prs.of {H : Hp} {k : V → Int × Int} : ∀ {ys : List V}, (∀ y ∈ ys, ∃ t, y = V.ref t ∧ H t = some (.tup [.int (k y).1, .int (k y).2])) → Prs H ys (ys.map k)
  | [], _ => trivial
  | y :: ys, h => ⟨h y (List.mem_cons_self ..), Prs.of fun z hz => h z (List.mem_cons_of_mem _ hz)⟩
theorem Prs.len {H : Hp} : ∀ {ys : List V} {zs : List (Int × Int)}, Prs H ys zs → ys.length = zs.length
  | [], [], _ => rfl
  | y :: ys, z :: zs, h => by rw [List.length_cons, List.length_cons, Prs.len h.2]
  | [], _ :: _, h => h.elim
  | _ :: _, [], h => h.elim
theorem addW_len {zs : List (Int × Int)} {k m : Int} : (addW zs k m).length ≤ zs.length + 1 := by
  unfold addW putZ
  split
  · split
    · rw [List.length_map]; omega
    · rw [List.length_append]; exact Nat.le_refl _
  · omega
end KW
end
section
/-! KT: a law's tape of draws. -/
namespace KT
open PySem L2 Evl
abbrev kL : L2.Key := Sum.inr ("large" : Str)
abbrev kR : L2.Key := Sum.inr ("rest" : Str)
abbrev kC : L2.Key := Sum.inr ("cells" : Str)
abbrev kT : L2.Key := Sum.inr ("turn" : Str)
def tape4 (l c : Addr) (r u : Int) : List (L2.Key × V) := [(kL, .ref l), (kR, .int r), (kC, .ref c), (kT, .int u)]
theorem n1 : decide (kL = kR) = false := by decide +kernel
theorem n2 : decide (kL = kC) = false := by decide +kernel
theorem n3 : decide (kL = kT) = false := by decide +kernel
theorem n4 : decide (kR = kC) = false := by decide +kernel
theorem n5 : decide (kR = kT) = false := by decide +kernel
theorem n6 : decide (kC = kT) = false := by decide +kernel
theorem y1 : decide (kL = kL) = true := by decide +kernel
theorem y2 : decide (kR = kR) = true := by decide +kernel
theorem y3 : decide (kC = kC) = true := by decide +kernel
theorem y4 : decide (kT = kT) = true := by decide +kernel
section
variable {l c : Addr} {r u r' u' : Int}
theorem v_L : valV (tape4 l c r u) kL = some (.ref l) := by
  unfold valV tape4; rw [List.find?_cons, y1]; rfl
theorem v_R : valV (tape4 l c r u) kR = some (.int r) := by
  unfold valV tape4; rw [List.find?_cons, n1, List.find?_cons, y2]; rfl
theorem v_C : valV (tape4 l c r u) kC = some (.ref c) := by
  unfold valV tape4; rw [List.find?_cons, n2, List.find?_cons, n4, List.find?_cons, y3]; rfl
theorem v_T : valV (tape4 l c r u) kT = some (.int u) := by
  unfold valV tape4; rw [List.find?_cons, n3, List.find?_cons, n5, List.find?_cons, n6, List.find?_cons, y4]; rfl
theorem ne_of_d {a b : L2.Key} (h : decide (a = b) = false) : ¬ a = b := of_decide_eq_false h
theorem p_R : putK (tape4 l c r u) kR (.int r') = tape4 l c r' u := by
  unfold putK tape4
  rw [if_pos (by rw [List.any_cons, List.any_cons, y2]; simp)]
  have a1 := ne_of_d n1
  have a2 : ¬ kC = kR := fun z => ne_of_d n4 z.symm
  have a3 : ¬ kT = kR := fun z => ne_of_d n5 z.symm
  simp only [List.map_cons, List.map_nil, a1, a2, a3, if_true, if_false]
theorem p_T : putK (tape4 l c r u) kT (.int u') = tape4 l c r u' := by
  unfold putK tape4
  rw [if_pos (by rw [List.any_cons, List.any_cons, List.any_cons, List.any_cons, y4]; simp)]
  have a1 := ne_of_d n3
  have a2 := ne_of_d n5
  have a3 := ne_of_d n6
  simp only [List.map_cons, List.map_nil, a1, a2, a3, if_true, if_false]
theorem made4 {xl xr xc xt : V} : mergeK [] [(kL, xl), (kR, xr), (kC, xc), (kT, xt)] = [(kL, xl), (kR, xr), (kC, xc), (kT, xt)] := by
  unfold mergeK
  rw [List.foldl_cons, List.foldl_cons, List.foldl_cons, List.foldl_cons, List.foldl_nil]
  have e1 : putK [] kL xl = [(kL, xl)] := rfl
  have e2 : putK [(kL, xl)] kR xr = [(kL, xl), (kR, xr)] := by unfold putK; rw [if_neg (by rw [List.any_cons, n1]; simp)]; rfl
  have e3 : putK [(kL, xl), (kR, xr)] kC xc = [(kL, xl), (kR, xr), (kC, xc)] := by unfold putK; rw [if_neg (by rw [List.any_cons, List.any_cons, n2, n4]; simp)]; rfl
  have e4 : putK [(kL, xl), (kR, xr), (kC, xc)] kT xt = [(kL, xl), (kR, xr), (kC, xc), (kT, xt)] := by unfold putK; rw [if_neg (by rw [List.any_cons, List.any_cons, List.any_cons, n3, n5, n6]; simp)]; rfl
  show putK (putK (putK (putK [] kL xl) kR xr) kC xc) kT xt = _
  rw [e1, e2, e3, e4]
end
/-- the tape stands at t: its numbers in lists l and c -/
structure Tape (H : Hp) (t l c : Addr) : Prop where
  at_ : ∃ r u, H t = some (.dK (tape4 l c r u))
  lar : ∃ ls : List Int, H l = some (.lst (ls.map V.int))
  cel : ∃ cs : List Int, H c = some (.lst (cs.map V.int))
  ne : l ≠ c
theorem Tape.mono {H H' : Hp} {t l c : Addr} (e : Ex H H') (T : Tape H t l c) : Tape H' t l c :=
  ⟨T.at_.imp fun _ h => h.imp fun _ q => e _ _ q, T.lar.imp fun _ q => e _ _ q, T.cel.imp fun _ q => e _ _ q, T.ne⟩
/-- all but the tape and its list stay -/
def TX (t l : Addr) (H H' : Hp) : Prop := ∀ a o, a ≠ t → a ≠ l → H a = some o → H' a = some o
theorem TX.of {t l : Addr} {H H' : Hp} (e : Ex H H') : TX t l H H' := fun a o _ _ h => e a o h
theorem TX.trans {t l : Addr} {H H' H'' : Hp} (e : TX t l H H') (f : TX t l H' H'') : TX t l H H'' := fun a o h1 h2 h => f a o h1 h2 (e a o h1 h2 h)
theorem TX.put {t l : Addr} {H : Hp} {o : HO} : TX t l H (upd H t o) := fun a o h1 _ h => by rw [upd_ne h1]; exact h
theorem TX.pop {t l : Addr} {H : Hp} {o : HO} : TX t l H (upd H l o) := fun a o _ h2 h => by rw [upd_ne h2]; exact h
/-- what is neither a dict of this kind nor a list stays -/
theorem TX.ins {t l c a : Addr} {H H' : Hp} {C dx : Addr} {fs : List (Str × V)} (T : Tape H t l c) (e : TX t l H H') (h : H a = some (.ins C dx fs)) : H' a = some (.ins C dx fs) := by
  refine e a _ (fun z => ?_) (fun z => ?_) h
  · subst z; obtain ⟨r, u, q⟩ := T.at_; rw [q] at h; cases h
  · subst z; obtain ⟨ls, q⟩ := T.lar; rw [q] at h; cases h
theorem TX.tup {t l c a : Addr} {H H' : Hp} {xs : List V} (T : Tape H t l c) (e : TX t l H H') (h : H a = some (.tup xs)) : H' a = some (.tup xs) := by
  refine e a _ (fun z => ?_) (fun z => ?_) h
  · subst z; obtain ⟨r, u, q⟩ := T.at_; rw [q] at h; cases h
  · subst z; obtain ⟨ls, q⟩ := T.lar; rw [q] at h; cases h
theorem TX.lst {t l c a : Addr} {H H' : Hp} {xs : List V} (T : Tape H t l c) (e : TX t l H H') (n : a ≠ l) (h : H a = some (.lst xs)) : H' a = some (.lst xs) := by
  refine e a _ (fun z => ?_) n h
  subst z; obtain ⟨r, u, q⟩ := T.at_; rw [q] at h; cases h
/-! lists of whole numbers -/
theorem dp_ints {K : PySem.W.Frag} {H : Hp} : ∀ ns : List Int, DpAll K H (ns.map V.int) (ns.map PyData.int)
  | [] => .nil
  | n :: ns => .cons (.int n) (dp_ints ns)
theorem can_ints : ∀ ns : List Int, PyData.canLayAll0 (ns.map PyData.int) = true
  | [] => rfl
  | n :: ns => by show (PyData.canLay0 (.int n) && PyData.canLayAll0 (ns.map PyData.int)) = true; rw [can_ints ns]; rfl
theorem dep_ints : ∀ ns : List Int, PyData.depthAll (ns.map PyData.int) ≤ 1
  | [] => by show (0 : Nat) ≤ 1; decide
  | n :: ns => by
    have := dep_ints ns
    show max (PyData.depth (.int n)) (PyData.depthAll (ns.map PyData.int)) ≤ 1
    have e : PyData.depth (.int n) ≤ 1 := by show (0 : Nat) ≤ 1; decide
    omega
theorem g_neNil {K : PySem.W.Frag} {H : Hp} {l e : Addr} {ls : List Int} {Q : VK} (hl : H l = some (.lst (ls.map V.int))) (he : H e = some (.lst [])) (h : Q (.bl (!ls.isEmpty)) H) : rNeD K (.ref l) (.ref e) H Q := by
  have sh : ∀ ns : List Int, SeqAt.shaped (.list (ns.map PyData.int)) = true := by
    intro ns
    unfold SeqAt.shaped
    rw [Bool.and_eq_true_iff]
    refine ⟨can_ints ns, decide_eq_true ?_⟩
    have := dep_ints ns
    show PyData.depthAll (ns.map PyData.int) + 1 ≤ 64
    omega
  refine ⟨.list (ls.map PyData.int), .list [], .lst (SqL.of hl) (dp_ints ls), .lst (SqL.of he) .nil, sh ls, sh [], ?_⟩
  cases ls with
  | nil => exact h
  | cons n ns => exact h
end KT
namespace KT
open PySem L2 Evl
section
variable {D : Ends} {σ : L2.St} {H : Hp} {t l c : Addr} {r u r' u' : Int} {Q : VK}
theorem s_L (h : H t = some (.dK (tape4 l c r u))) (k : Q (.ref l) H) : KW.kSub (.ref t) (.str ("large" : Str)) Q H := KW.g_ksub (k := kL) h v_L k
theorem s_R (h : H t = some (.dK (tape4 l c r u))) (k : Q (.int r) H) : KW.kSub (.ref t) (.str ("rest" : Str)) Q H := KW.g_ksub (k := kR) h v_R k
theorem s_C (h : H t = some (.dK (tape4 l c r u))) (k : Q (.ref c) H) : KW.kSub (.ref t) (.str ("cells" : Str)) Q H := KW.g_ksub (k := kC) h v_C k
theorem s_T (h : H t = some (.dK (tape4 l c r u))) (k : Q (.int u) H) : KW.kSub (.ref t) (.str ("turn" : Str)) Q H := KW.g_ksub (k := kT) h v_T k
theorem w_R (h : H t = some (.dK (tape4 l c r u))) (k : D.nx σ (upd H t (.dK (tape4 l c r' u)))) : KW.kPut D σ (.ref t) (.str ("rest" : Str)) (.int r') H := KW.g_kput (k := kR) h (by show 4 ≤ 1000; decide) (by rw [p_R]; exact k)
theorem w_T (h : H t = some (.dK (tape4 l c r u))) (k : D.nx σ (upd H t (.dK (tape4 l c r u')))) : KW.kPut D σ (.ref t) (.str ("turn" : Str)) (.int u') H := KW.g_kput (k := kT) h (by show 4 ≤ 1000; decide) (by rw [p_T]; exact k)
theorem Tape.put (T : Tape H t l c) : Tape (upd H t (.dK (tape4 l c r u))) t l c := by
  obtain ⟨⟨r0, u0, h⟩, ⟨ls, hl⟩, ⟨cs, hc⟩, ne⟩ := T
  refine ⟨⟨r, u, upd_same⟩, ⟨ls, ?_⟩, ⟨cs, ?_⟩, ne⟩
  · rw [upd_ne (fun z => by subst z; rw [h] at hl; cases hl)]; exact hl
  · rw [upd_ne (fun z => by subst z; rw [h] at hc; cases hc)]; exact hc
theorem Tape.pop {ls : List Int} (T : Tape H t l c) : Tape (upd H l (.lst (ls.map V.int))) t l c := by
  obtain ⟨⟨r0, u0, h⟩, ⟨ls0, hl⟩, ⟨cs, hc⟩, ne⟩ := T
  refine ⟨⟨r0, u0, ?_⟩, ⟨ls, upd_same⟩, ⟨cs, ?_⟩, ne⟩
  · rw [upd_ne (fun z => by subst z; rw [h] at hl; cases hl)]; exact h
  · rw [upd_ne (fun z => ne z.symm)]; exact hc
theorem g_pw {f : Int → Int → V} {a b : Int} (hb : 0 ≤ b ∧ b ≤ 1000000) (ha : -18446744073709551616 < a ∧ a < 18446744073709551616) (k : Q (f a b) H) : rI CPow f (.int a) (.int b) H Q :=
  KA.g_I (C := CPow) ⟨hb.1, hb.2, by omega⟩ k
end
end KT
namespace KT
open PySem L2 Evl
theorem g_bm {K : PySem.W.Frag} {σ : L2.St} {H : Hp} {Q : VK} {T : String} {r : V → List V → Hp → VK → Prop} {to : TE} {ta : TA} (h : to σ H (KW.kBM K T r ta σ Q)) : tBM K T r to ta σ H Q := h
theorem g_pop0 {H : Hp} {Q : VK} {l : Addr} {v : V} {xs : List V} (h : H l = some (.lst (v :: xs))) (k : Q v (upd H l (.lst xs))) : rPopAt (.ref l) [.int 0] H Q := by
  refine ⟨l, v :: xs, 0, 0, v, rfl, rfl, h, by decide, by decide, ?_, rfl, k⟩
  unfold seqIndex?
  simp
end KT
namespace KT
open PySem L2 Evl
theorem at_int {xs : List Int} {d : Int} (d0 : 0 ≤ d) (d1 : d < xs.length) : ∃ x, x ∈ xs ∧ atI (xs.map V.int) d = some (.int x) := by
  obtain ⟨n, rfl⟩ : ∃ n : Nat, d = n := ⟨d.toNat, (Int.toNat_of_nonneg d0).symm⟩
  have h : n < xs.length := by omega
  refine ⟨xs[n], List.getElem_mem h, atI_nat ?_⟩
  rw [List.getElem?_map, List.getElem?_eq_getElem h]
  rfl
theorem at_last2 {α : Type} (xs : List α) (u v : α) : atI (xs ++ [u, v]) (-2) = some u := by
  have hl : (xs ++ [u, v]).length = xs.length + 2 := by simp
  unfold atI ixN
  rw [hl, if_neg (by decide), if_pos (by omega)]
  have e : ((-2 : Int) + ((xs.length + 2 : Nat) : Int)).toNat = xs.length := by omega
  show (xs ++ [u, v])[((-2 : Int) + ((xs.length + 2 : Nat) : Int)).toNat]? = some u
  rw [e]; simp
theorem at_last1 {α : Type} (xs : List α) (u v : α) : atI (xs ++ [u, v]) (-1) = some v := by
  have e : xs ++ [u, v] = (xs ++ [u]) ++ [v] := by simp
  rw [e]; exact atI_last _ _
def kDisp (p : Addr) (Q : VK) (ps : List (V × V)) (H2 : Hp) : Prop := H2 p = some (.dK []) ∧ ∃ kvs : List (L2.Key × V), ps = kvs.map (fun kv => (kV kv.1, kv.2)) ∧ kvs.length ≤ 15 ∧ Q (.ref p) (upd H2 p (.dK (mergeK [] kvs)))
theorem g_disp {trs : List (TE × TE)} {σ : L2.St} {H : Hp} {Q : VK} (h : ∀ p H', H p = none → Ex H H' → H' p = some (.dK []) → tPairs trs σ H' (kDisp p Q)) : tDisp trs σ H Q := fun p hp => h p _ hp (Ex.new hp) upd_same
theorem g_pairs {tk tv : TE} {r : List (TE × TE)} {σ : L2.St} {H : Hp} {Q : List (V × V) → Hp → Prop} (h : tk σ H fun x H1 => tv σ H1 fun y H2 => tPairs r σ H2 fun ps H3 => Q ((x, y) :: ps) H3) : tPairs ((tk, tv) :: r) σ H Q := h
theorem g_pairs0 {σ : L2.St} {H : Hp} {Q : List (V × V) → Hp → Prop} (h : Q [] H) : tPairs [] σ H Q := h
theorem g_kdisp4 {p l c : Addr} {r u : Int} {Q : VK} {H : Hp} (hp : H p = some (.dK [])) (k : Q (.ref p) (upd H p (.dK (tape4 l c r u)))) :
    kDisp p Q [(.str ("large" : Str), .ref l), (.str ("rest" : Str), .int r), (.str ("cells" : Str), .ref c), (.str ("turn" : Str), .int u)] H :=
  ⟨hp, [(kL, .ref l), (kR, .int r), (kC, .ref c), (kT, .int u)], rfl, by show 4 ≤ 15; decide, by rw [made4]; exact k⟩
/-- the numbers of the spiral -/
def fib : Nat → Int
  | 0 => 1
  | 1 => 2
  | n + 2 => fib (n + 1) + fib n
def fibs (n : Nat) : List Int := (List.range n).map fib
theorem fibs_succ (n : Nat) : fibs (n + 1) = fibs n ++ [fib n] := by unfold fibs; rw [List.range_succ, List.map_append]; rfl
theorem fibs_len (n : Nat) : (fibs n).length = n := by unfold fibs; simp
theorem fibs_two (n : Nat) : (fibs (n + 2)).map V.int = (fibs n).map V.int ++ [.int (fib n), .int (fib (n + 1))] := by
  rw [fibs_succ, fibs_succ]; simp
theorem fibs_drop (n : Nat) : ((fibs (n + 3)).map V.int).drop n = [.int (fib n), .int (fib (n + 1)), .int (fib (n + 2))] := by
  rw [fibs_succ, fibs_succ, fibs_succ]
  simp [fibs_len]
end KT
end
section
/-! KG: promises kept where no repr runs around (the stack's guards are none); repr of data. -/
namespace KG
open PySem PySem.Spec PyProof.Rows L2
/-- nothing on the stack guards -/
def Free (A : Around) : Prop := A.guards = some []
/-- a def's promise, asked only where nothing guards -/
structure FnG (P : Program) (w : World) (K : PySem.W.Frag) (mg : Str → Option Value) (base : Heap) (CX : CXT) (k : Nat) (f : Addr) (fd : FuncData) (ps : List Str) (sp : Sp) : Prop where
  len : ∀ vs H Q E, sp vs H Q E → vs.length = ps.length
  go : ∀ (A : Around) (outer : List Env) (s : Shared) (H : Hp) (args : Args) (us : List Value) (vs : List V) (Q : VK) (E : XK), Free A → Room k A →
    Env0 P w K mg base A outer s H → BindsTo s fd args (ps.zip us) → Vals vs us → sp vs H Q E →
    codeAny (model P w) A (.call (.ref f) args) (CR CX outer P w H s Q E) s
/-- at one around alone, a promise as the layer has it -/
theorem FnG.at_ {P : Program} {w : World} {K : PySem.W.Frag} {mg : Str → Option Value} {base : Heap} {CX : CXT} {k : Nat} {f : Addr} {fd : FuncData} {ps : List Str} {sp : Sp} (F : FnG P w K mg base CX k f fd ps sp) {A : Around} (hg : Free A) :
    ∀ (outer : List Env) (s : Shared) (H : Hp) (args : Args) (us : List Value) (vs : List V) (Q : VK) (E : XK), Room k A → Env0 P w K mg base A outer s H → BindsTo s fd args (ps.zip us) → Vals vs us → sp vs H Q E →
    codeAny (model P w) A (.call (.ref f) args) (CR CX outer P w H s Q E) s := fun o s H a u v Q E r e b z h => F.go A o s H a u v Q E hg r e b z h
section
variable {P : Program} {w : World} {K : PySem.W.Frag} {mg : Str → Option Value} {base : Heap}
/-- the body's rule -/
theorem okG {x qual : Str} {st : Stmt} {f : Addr} {fd : FuncData} {N ps : List Str} {k : Nat} {sp : Sp} (F : Fun K x qual st f fd) (S : FnScope N ps (defScope st)) (len : ∀ vs H Q E, sp vs H Q E → vs.length = ps.length)
    (body : ∀ (cdv : Value) (A : Around) (outer : List Env) (s : Shared) (H : Hp) (vs : List V) (Q : VK) (E : XK), Free (A.deeper (envOfC qual (defScope st) s.heap.objs.size f cdv)) →
      Room k (A.deeper (envOfC qual (defScope st) s.heap.objs.size f cdv)) → sp vs H Q E →
      ∃ t, PSs (cxOf CX0 P w K mg base N qual (defScope st) f cdv A outer s H E).nox (defBody st) t ∧ t { nx := fun _ H' => Q .non H', rt := Q } (start N vs) H) :
    FnG P w K mg base CX0 (k + 1) f fd ps sp := by
  obtain ⟨oc, od, kV, doc, pm, an, cdv, ct, osl, rfl, lk, hcd⟩ := F.ex
  refine ⟨len, ?_⟩
  intro A outer s H args us vs Q E hg hr e0 hb r hsp
  -- the layer's own rule, its body's promise narrowed to this one around
  have one : FnOk P w K mg base CX0 (k + 1) f (PySem.W.fnOf x qual (defArgs st) (defBody st) (defScope st) .none kV doc pm an cdv ct) ps (fun vs' H' Q' E' => sp vs' H' Q' E') → codeAny (model P w) A (.call (.ref f) args) (CR CX0 outer P w H s Q E) s :=
    fun F => F.run A outer s H args us vs Q E hr e0 hb r hsp
  have hl := len _ _ _ _ hsp
  have kx : K.In s.heap := e0.mod.kin.keeps fun b o e => (e0.bs b o e).1
  have nl : s.heap.NoLimit := e0.mod.nolimit.keeps fun b o e => (e0.bs b o e).1
  have par : ∀ z ∈ ps.zip us, (defScope st).names.lookup z.1 = some .local ∨ ((defScope st).names.lookup z.1 = some .cell ∧ ((cellsFrom (s.heap.objs.size + 1) (defScope st).names []).lookup z.1).isSome = true) := by
    rintro ⟨n, v⟩ hz
    exact (S.par n (List.of_mem_zip hz).1).imp id fun q => ⟨q, PySem.W.cellsFrom_some _ _ _ (.inl q)⟩
  refine codeAny_call_function hr.depth (kx _ _ lk) rfl S.co S.gen rfl (PySem.W.codeRec_of kx hcd) (hb _ _ _ _ ?_)
  refine wpAny_newFunctionEnv_cells S.kind par fun env he s1 x1 => ?_
  subst he
  refine ⟨nl.keeps x1.toInCall.keep, codeAny_func ?_⟩
  obtain ⟨t, ht, hq⟩ := body cdv A outer s H vs Q E hg (hr.deeper _) hsp
  have J := inv_start (CX := CX0) (E := E) S hr.hd e0 hl r x1
  refine wpAny_mono (ht.nox.run [] s1 (start N vs) H _ J hq) (fun fl s' hs => ?_) fun _ _ h => h
  cases fl with
  | ret u =>
    obtain ⟨v, σ', H', I', rv, q⟩ := hs
    exact ⟨v, H', I'.os, I'.bare, I'.base, I'.hok, rv, q⟩
  | next =>
    obtain ⟨σ', H', I', q⟩ := hs
    exact ⟨.non, H', I'.os, I'.bare, I'.base, I'.hok, rfl, q⟩
  | brk =>
    obtain ⟨_, _, _, q⟩ := hs
    exact q.elim
  | cont =>
    obtain ⟨_, _, _, q⟩ := hs
    exact q.elim
end
section
variable {X : Cx} {CX : CXT} {k : Nat} {f : Addr} {fd : FuncData} {ps : List Str} {sp : Sp} {dvs : List V} {ds : List Value} {E : XK} {x : Str} {p pos : Pos} {e : Expr} {es : List Expr} {t : TA}
theorem runG {pins : List (Addr × Obj)} {σ : L2.St} {H : Hp} {s : Shared} {Q : VK} {us : List Value} {vs : List V} (F : FnG X.prog X.w X.K X.mg X.base CX k f fd ps sp) (hg : Free X.A) (hr : Room k X.A) (hb : Binds X.K fd ps ds) (hd : Vals dvs ds) (hx : Passes CX X E)
    (I : Inv X pins σ H s) (r : Vals vs us) (h : sp (vs ++ dvs) H Q E) : wpAny (model X.prog X.w) X.A (call (.ref f) us) (EP X pins σ Q) X.xe s := by
  have rr : Vals (vs ++ dvs) (us ++ ds) := r.append hd
  have ll : (us ++ ds).length = ps.length := rr.length ▸ F.len _ _ _ _ h
  refine wpAny_call (codeAny_mono (F.go X.A X.stack s H ⟨us, []⟩ (us ++ ds) (vs ++ dvs) Q E hg hr I.env0 (hb s us I.kIn ll) rr h) ?_)
  intro res s' hq
  match res, hq with
  | .error e, hq => exact hx pins σ H s e s' I hq
  | .ok (.ret u), hq => exact I.after hq
theorem pe_callG (F : FnG X.prog X.w X.K X.mg X.base CX k f fd ps sp) (hg : Free X.A) (hr : Room k X.A) (gl : Gl X x) (hm : X.mg x = some (.ref f)) (hk : PySem.W.keepIn X.K (.ref f) = true) (hb : Binds X.K fd ps ds) (hd : Vals dvs ds) (hx : Passes CX X E)
    (ha : PA X (e :: es) t) (hdb : (x == ("__debug__" : Str)) = false := by decide) (he : starEach (e :: es) X.env = (false, eval e X.env) :: starEach es X.env := by rfl) (hpl : (backTo pos (starEach es X.env)).any (·.1) = false := by rfl) :
    PE X (.Call (.Name x p) (e :: es) [] pos) (tCall sp dvs E t) := by
  constructor
  intro pins s σ H Q I h
  refine wpAny_Call_Name_kw (ld_glob I gl hm ?_ hdb)
  refine PySem.W.callWith_K (h₀ := X.base) I.ok.mod.kin hk ?_ he hpl
  exact thn (ha.run pos pins s σ H _ I h) fun us s1 ⟨vs, H1, I1, r, q⟩ => ⟨I1.kIn, runG F hg hr hb hd hx I1 r q⟩
/-- repr of data -/
def isRI : V → Bool
  | .int _ => true
  | .ref _ => true
  | _ => false
def rRepr (K : PySem.W.Frag) : List V → Hp → VK → Prop := fun xs H Q => ∃ v d, xs = [v] ∧ isRI v = true ∧ Dp K H v d ∧ d.showable = true ∧ d.hasDict = false ∧ d.depth ≤ 8 ∧ d.shown.length ≤ sizeLine ∧ Q (.str d.shown) H
theorem call_repr (hg : Free X.A) (hr : Room 0 X.A) : CallR X (.builtin "repr") (rRepr X.K) := by
  intro pins s σ H xs us Q I r h
  obtain ⟨v, d, rfl, ri, hd, h1, h2, h3, h4, q⟩ := h
  obtain ⟨u, rfl, ru⟩ := vals1 r
  have hu := hr.un
  cases hd with
  | non => cases ri
  | bl b => cases ri
  | int i =>
    refine SkE.call_repr_int pins s σ H _ _ Q I r ⟨i, rfl, ?_, ?_⟩
    · simpa [PyData.showable] using h1
    · rw [PyData.shown_int] at q; exact q
  | str x => cases ri
  | lst hl hds =>
    cases ru
    obtain ⟨as, rd⟩ := Dp.reads I _ _ _ (.lst hl hds) rfl
    refine repr_of_reads' rd h1 (fun z => by rw [h2] at z; cases z) hg (by omega) (fun _ _ e => e) (fun h' u tk hk => ?_) h4
    exact ⟨.str _, H, I.kept hk, ⟨u, rfl⟩, q⟩
  | tup hl hds =>
    cases ru
    obtain ⟨as, rd⟩ := Dp.reads I _ _ _ (.tup hl hds) rfl
    refine repr_of_reads' rd h1 (fun z => by rw [h2] at z; cases z) hg (by omega) (fun _ _ e => e) (fun h' u tk hk => ?_) h4
    exact ⟨.str _, H, I.kept hk, ⟨u, rfl⟩, q⟩
end
end KG
end
section
/-! KE: the end of a law whose promise is kept where nothing guards. -/
namespace KG
open PySem PySem.Spec PyProof.Rows L2
section
variable {P : Program} {w : World} {K : PySem.W.Frag} {mg mb : Str → Option Value} {s : Shared} {a : Addr} {vs : List Value} {ns : List Int} {H : Hp}
abbrev scriptObj (vs : List Value) : Obj := { cls := .type "list", data := .seq vs.toArray }
/-- the heap seen by the law's own frame -/
theorem stage (kin : K.In s.heap) (glob : s.heap.Ns mainGlobals mg) (bl : s.heap.Ns builtinsNs mb) (blt : ∀ x : Str, x ≠ "__name__" → mb x = bootBuiltins x) (nolim : s.heap.NoLimit) (quiet : s.gens = #[])
    (here : s.heap.get? a = some (scriptObj vs)) (sole : ∀ b, H b ≠ none → b = a) (out : H a ≠ none → K.lookup a = none) (good : HOk P w H s.heap) :
    K.In (hidT s.heap H) ∧ (hidT s.heap H).Ns mainGlobals mg ∧ Env0 P w K mg (hidT s.heap H) callerA [] s H := by
  have off : ∀ {b : Addr} {o : Obj}, s.heap.get? b = some o → (b = a → o ≠ scriptObj vs) → H b = none := by
    intro b o hb hne
    cases hq : H b with
    | none => rfl
    | some u =>
      have eb : b = a := sole b (by rw [hq]; exact fun z => nomatch z)
      exact absurd (Option.some.inj (hb.symm.trans (eb ▸ here))) (hne eb)
  have names : ∀ {b : Addr} {m : Str → Option Value}, s.heap.Ns b m → (hidT s.heap H).Ns b m := by
    intro b m hm
    obtain ⟨o, es, ep, h1, h2, h3⟩ := hm
    refine ⟨o, es, ep, hidT_get h1 (off h1 fun _ z => ?_), h2, h3⟩
    rw [z] at h2
    exact nomatch h2
  have kin2 : K.In (hidT s.heap H) := by
    intro b o hb
    refine hidT_get (kin b o hb) ?_
    cases hq : H b with
    | none => rfl
    | some u =>
      have some_ : H b ≠ none := by rw [hq]; exact fun z => nomatch z
      have eb : b = a := sole b some_
      subst eb
      rw [out some_] at hb
      exact nomatch hb
  obtain ⟨mc, c1, c2⟩ := nolim
  have md : Mod K mg (hidT s.heap H) := ⟨kin2, names glob, ⟨mb, names bl, blt⟩, ⟨mc, names c1, c2⟩⟩
  exact ⟨kin2, names glob, ⟨rfl, md, fun b o e => of_hidT e, Nat.le_of_eq (hidT_size _ _), trivial, fun b hb => (nomatch hb), good, .of_eq quiet⟩⟩
theorem law_G {CX : CXT} {k : Nat} {fa : Addr} {fd : FuncData} {x : Str} {sp : Sp} (kin : K.In s.heap) (glob : s.heap.Ns mainGlobals mg) (bl : s.heap.Ns builtinsNs mb) (blt : ∀ x : Str, x ≠ "__name__" → mb x = bootBuiltins x) (nolim : s.heap.NoLimit) (quiet : s.gens = #[])
    (here : s.heap.get? a = some (scriptObj vs)) (nums : IntsAre vs ns) (short : ns.length ≤ sizeLine) (room : Room k callerA)
    (F : ∀ base : Heap, K.In base → base.Ns mainGlobals mg → FnG P w K mg base CX k fa fd [x] sp) (one : ∀ (s : Shared) (u : Value), BindsTo s fd ⟨[u], []⟩ [(x, u)])
    (told : ∀ H : Hp, SqL K H a (ns.map V.int) → sp [.ref a] H (fun v _ => v = .bl true) fun _ _ _ => False) (clean : ∀ H e s', CX [] H s (fun _ _ _ => False) e s' → False) :
    codeAny (model P w) callerA (.call (.ref fa) ⟨[.ref a], []⟩) (fun r s' => r = .ok (.ret (.bool true)) ∧ OldK s.heap s'.heap ∧ s'.os = s.os ∧ AllBare s'.gens) s := by
  have rel := vals_ints nums
  have go : ∀ H : Hp, SqL K H a (ns.map V.int) → HOk P w H s.heap → (∀ b, H b ≠ none → b = a ∧ ∃ o xs, H b = some (.frz o (.lst xs))) → (H a ≠ none → K.lookup a = none) →
      codeAny (model P w) callerA (.call (.ref fa) ⟨[.ref a], []⟩) (fun r s' => r = .ok (.ret (.bool true)) ∧ OldK s.heap s'.heap ∧ s'.os = s.os ∧ AllBare s'.gens) s := by
    intro H sq good sole out
    obtain ⟨k1, k2, env⟩ := stage (vs := vs) kin glob bl blt nolim quiet here (fun b hb => (sole b hb).1) out good
    have run := (F _ k1 k2).go callerA [] s H ⟨[.ref a], []⟩ [.ref a] [.ref a] _ _ rfl room env (one s (.ref a)) (.cons rfl .nil) (told H sq)
    refine codeAny_mono run fun r s' h => ?_
    match r, h with
    | .error e, h => exact (clean H e s' h).elim
    | .ok .next, h => exact h.elim
    | .ok .brk, h => exact h.elim
    | .ok .cont, h => exact h.elim
    | .ok (.ret u), h =>
      obtain ⟨v, H2, os2, bare2, un2, good2, rv, rfl⟩ := h
      obtain rfl : u = Value.bool true := rv
      refine ⟨rfl, OldK.of_keep fun b o hb => ?_, os2, bare2⟩
      cases hq : H b with
      | none => exact un2.keep b o hb hq (fun z => nomatch z) (fun z => nomatch z)
      | some u =>
        obtain ⟨_, ob, xs, hz⟩ := sole b (by rw [hq]; exact fun z => nomatch z)
        have g1 := (good b _ hz).1
        have g2 := (good2 b _ (un2.frzs b ob _ hz)).1
        exact (g2.trans (g1.symm.trans hb))
  have len2 := nums.length
  cases hk : K.lookup a with
  | some o =>
    obtain rfl : o = scriptObj vs := Option.some.inj ((kin a o hk).symm.trans here)
    exact go (fun _ => none) (.inr ⟨_, vs.toArray, _, hk, rfl, rfl, rfl, by rw [List.size_toArray, len2]; exact short, by simpa using rel⟩) (fun b u z => nomatch z) (fun b z => absurd rfl z) (fun z => absurd rfl z)
  | none =>
    let H1 : Hp := fun b => if b = a then some (.frz (scriptObj vs) (.lst (ns.map V.int))) else none
    have at_a : H1 a = some (.frz (scriptObj vs) (.lst (ns.map V.int))) := if_pos rfl
    have at_no : ∀ b, b ≠ a → H1 b = none := fun b hb => if_neg hb
    refine go H1 (.inl (.inr ⟨_, at_a⟩)) (fun b u hu => ?_) (fun b hb => ?_) fun _ => hk
    · by_cases eb : b = a
      · subst eb
        cases at_a.symm.trans hu
        exact ⟨here, by rw [List.length_map]; exact short, vs, _, rel, here⟩
      · rw [at_no b eb] at hu; exact nomatch hu
    · by_cases eb : b = a
      · subst eb; exact ⟨rfl, _, _, at_a⟩
      · exact absurd (at_no b eb) hb
end
theorem walk_G {l : PySem.W.OpenLaw} {n k : Nat} {q : Program} {loose : List Str} {XP : (Str → Option Value) → Heap → Prop} {YP : World → Heap → Prop} {d : DefRec} {KK : Params → PySem.W.Frag} {CX : CXT} {sp : PySem.W.Frag → Sp} {x : Str}
    (most : l.most = some n) (fits : n ≤ sizeLine) (plain : d.params.defaults = []) (room : Room k callerA) (inn : ∀ (w : World) (h : Heap), YP w h → (KK w.params).In h)
    (F : ∀ (w : World) (mg : Str → Option Value) (fa : Addr) (h : Heap), YP w h → (KK w.params).In h → h.Ns mainGlobals mg → mg d.name = some (.ref fa) →
      ∃ fd : FuncData, (∀ (s : Shared) (u : Value), BindsTo s fd ⟨[u], []⟩ [(x, u)]) ∧ ∀ base : Heap, (KK w.params).In base → base.Ns mainGlobals mg → FnG l.prog w (KK w.params) mg base CX k fa fd [x] (sp (KK w.params)))
    (told : ∀ (K : PySem.W.Frag) (H : Hp) (a : Addr) (ns : List Int), ns.length ≤ n → SqL K H a (ns.map V.int) → sp K [.ref a] H (fun v _ => v = .bl true) fun _ _ _ => False)
    (clean : ∀ (H : Hp) (s : Shared) (e : Value) (s' : Shared), CX [] H s (fun _ _ _ => False) e s' → False) : PySem.W.WalkO q loose XP YP l.row.toRowW d [] (fun f vs => PySem.call f vs) := by
  refine Att.attach_call most plain fun w s₀ s₁ mg mb fa o pm cd doc a vs ns G Y ho hd hcd hmg hobj hints hlen hg => ?_
  have kin := inn w _ Y
  obtain ⟨fd, hb, hF⟩ := F w mg fa _ Y kin G.T.g hmg
  exact law_G kin G.T.g G.T.b G.T.builtins G.T.nolimit hg hobj hints (Nat.le_trans hlen fits) room hF hb (fun H sq => told _ H a ns hlen sq) (fun H e s' => clean H s₁ e s')
/-! data that repr can show -/
/-- ints below 10^40 in lists and tuples of at most ten, k deep -/
structure Ok (k : Nat) (d : PyData) : Prop where
  sh : d.showable = true
  nd : d.hasDict = false
  dp : d.depth ≤ k
  lv : d.leavesShort 41 = true
  bk : d.bulk + 1 ≤ 20 ^ (k + 1)
theorem Ok.int {i : Int} {k : Nat} (h1 : -10000000000000000000000000000000000000000 < i) (h2 : i < 10000000000000000000000000000000000000000) : Ok k (.int i) := by
  have hn : i.natAbs < 10 ^ 40 := by omega
  refine ⟨?_, rfl, Nat.zero_le _, ?_, ?_⟩
  · show decide (i.natAbs.log2 < 1920) = true
    refine decide_eq_true ?_
    by_cases z : i.natAbs = 0
    · rw [z]; decide
    · have : i.natAbs < 2 ^ 140 := Nat.lt_trans hn (by decide)
      exact Nat.lt_trans ((Nat.log2_lt z).mpr this) (by decide)
  · show decide (_ ≤ 41) = true
    refine decide_eq_true ?_
    have e := int_text_length_le10 (k := 40) (by decide) hn
    show (Str.ofString (toString i)).length ≤ 41
    rw [PySem.ofString_length]; exact e
  · show 0 + 1 ≤ 20 ^ (k + 1)
    exact Nat.pow_pos (by decide)
theorem Ok.non {k : Nat} : Ok k .none := ⟨rfl, rfl, Nat.zero_le _, rfl, Nat.pow_pos (by decide)⟩
theorem Ok.all {k : Nat} : ∀ {ds : List PyData}, (∀ d ∈ ds, Ok k d) → PyData.showableAll ds = true ∧ PyData.hasDictAll ds = false ∧ PyData.depthAll ds ≤ k ∧ PyData.leavesShortAll 41 ds = true ∧ PyData.bulkAll ds ≤ ds.length * 20 ^ (k + 1)
  | [], _ => ⟨rfl, rfl, Nat.zero_le _, rfl, Nat.zero_le _⟩
  | d :: ds, h => by
    obtain ⟨a1, a2, a3, a4, a5⟩ := Ok.all fun e he => h e (List.mem_cons_of_mem _ he)
    obtain ⟨b1, b2, b3, b4, b5⟩ := h d (List.mem_cons_self ..)
    refine ⟨?_, ?_, ?_, ?_, ?_⟩
    · show (PyData.showable d && PyData.showableAll ds) = true; rw [b1, a1]; rfl
    · show (PyData.hasDict d || PyData.hasDictAll ds) = false; rw [b2, a2]; rfl
    · show max (PyData.depth d) (PyData.depthAll ds) ≤ k; omega
    · show (PyData.leavesShort 41 d && PyData.leavesShortAll 41 ds) = true; rw [b4, a4]; rfl
    · show PyData.bulk d + 1 + PyData.bulkAll ds ≤ (ds.length + 1) * 20 ^ (k + 1)
      rw [Nat.add_mul]; omega
theorem bulk_up {k n : Nat} (hl : n ≤ 10) : n * 20 ^ (k + 1) + 1 ≤ 20 ^ (k + 1 + 1) := by
  have p : 1 ≤ 20 ^ (k + 1) := Nat.pow_pos (by decide)
  have := Nat.mul_le_mul_right (20 ^ (k + 1)) hl
  rw [Nat.pow_succ 20 (k + 1)]
  omega
theorem Ok.lst {k : Nat} {ds : List PyData} (h : ∀ d ∈ ds, Ok k d) (hl : ds.length ≤ 10) : Ok (k + 1) (.list ds) := by
  obtain ⟨a1, a2, a3, a4, a5⟩ := Ok.all h
  exact ⟨a1, a2, by show PyData.depthAll ds + 1 ≤ k + 1; omega, a4, Nat.le_trans (Nat.add_le_add_right a5 1) (bulk_up hl)⟩
theorem Ok.tup {k : Nat} {ds : List PyData} (h : ∀ d ∈ ds, Ok k d) (hl : ds.length ≤ 10) : Ok (k + 1) (.tuple ds) := by
  obtain ⟨a1, a2, a3, a4, a5⟩ := Ok.all h
  exact ⟨a1, a2, by show PyData.depthAll ds + 1 ≤ k + 1; omega, a4, Nat.le_trans (Nat.add_le_add_right a5 1) (bulk_up hl)⟩
theorem g_repr {K : PySem.W.Frag} {H : Hp} {Q : VK} {v : V} {d : PyData} (ri : isRI v = true) (hd : Dp K H v d) (o : Ok 3 d) (k : Q (.str d.shown) H) : rRepr K [v] H Q := by
  refine ⟨v, d, rfl, ri, hd, o.sh, o.nd, Nat.le_trans o.dp (by decide), ?_, k⟩
  have h := PyData.shown_le_bulk 41 (by decide) d o.lv
  have b := o.bk
  have e : (20 : Nat) ^ (3 + 1) = 160000 := by decide
  rw [e] at b
  rw [sizeLine_eq]
  omega
end KG
end
section
/-! KX1: own errors whose __init__ (of a class above them) says super().__init__(text) and keeps one part. -/
namespace KX
open PySem PySem.W PySem.Calls PyProof.Rows PySem.HandSPX
def iA (p1 p2 : Pos) : Arguments := { posonlyargs := [], args := [{ arg := "self", annotation := none, pos := p1 }, { arg := "part", annotation := none, pos := p2 }], vararg := none, kwonlyargs := [], kw_defaults := [], kwarg := none, defaults := [] }
def iB (m : Str) (j : Nat) (a1 a2 a3 a4 a5 a6 q1 q2 q3 q4 : Pos) : List Stmt :=
  [.Expr (.Call (.Attribute (.Call (.Name "super" a1) [] [] a2) "__init__" a3) [.Constant (.str m) j a4] [] a5) a6,
   .Assign [.Attribute (.Name "self" q1) "part" q2] (.Name "part" q3) q4]
def iS : Scope := { kind := .function, names := [(PySem.Str.ofString "self", .local), (PySem.Str.ofString "part", .local), (PySem.Str.ofString "__class__", .free), (PySem.Str.ofString "super", .globalImplicit)], isGenerator := false, isCoroutine := false, more := [] }
/-- what the written part says of an own error's class at C, its name x; the __init__ at fI is that of the class at D -/
structure PartT (P : Program) (K : Frag) (mg : Str → Option Value) (C D fI : Addr) : Prop where
  cls : ∃ nm q N bs bm sn sub ab col dd k0 k1 k2 k3 k5, K.lookup C = some (excClassObj nm q C N bs bm true sn sub ab col dd k0 k1 k2 k3 k5 "ValueError.__new__") ∧ refsVE bm = true
  sa : findIn K (.ref C) "__setattr__" = some (some (.builtin "object.__setattr__"))
  noN : findIn K (.ref C) "part" = some none
  iC : findIn K (.ref C) "__init__" = some (some (.ref fI))
  tC : typeIn K (.ref fI) = some (.type "function")
  kC : keepIn K (.ref C) = true
  exC : subIn K (.ref C) (.type "BaseException") = some true
  veC : subIn K (.ref C) (.type "ValueError") = some true
  tyC : typeIn K (.ref C) = some (.type "type")
  hD : ∃ cdD, clsIn K D = some cdD
  sub : mroIn K C (.ref D) = some true
  sup : ks_superIn K C D "__init__" = some (some (.builtin "ValueError.__init__"))
  third : nsIn K cStatics "thirdparty.any" = some none
  noS : mg "super" = none
  top : (P.main.scope.names.lookup ("super" : Str)).isSome = false
  fn : ∃ (qual : Str) (oc : Value) (od : Option Addr) (doc pm : Value) (an : Option Addr) (cda cc : Addr) (ct : Value) (osl : Array (Option Value)) (m : Str) (j : Nat) (p1 p2 a1 a2 a3 a4 a5 a6 q1 q2 q3 q4 : Pos),
    K.lookup fI = some ⟨oc, od, .func (ksFn "__init__" qual (iA p1 p2) (iB m j a1 a2 a3 a4 a5 a6 q1 q2 q3 q4) iS .none .none doc pm an (.ref cda) ct cc), osl⟩ ∧ codeIn K (.ref cda) qual = true ∧
    (∃ cl cld csl, K.lookup cc = some ⟨cl, cld, .cell (some (.ref D)), csl⟩) ∧
    ∃ (cl : Value) (cld : Option Addr) (vs : Array Value) (csl : Array (Option Value)) (file : Str) (tf : Tok), K.lookup cda = some ⟨cl, cld, .fields vs, csl⟩ ∧ vs[2]? = some (.str file tf) ∧ ((P.main.file : Str) == file) = true ∧ (a3.endLine == a5.line) = true
/-- what __init__ leaves of a fresh exception at x -/
structure InitEnd (h h' : Heap) (x C dx t1 : Addr) (v : Value) : Prop where
  keep : ∀ b o, b ≠ x → h.get? b = some o → h'.get? b = some o
  obj : h'.get? x = some { cls := .ref C, dict := some dx, data := .fields #[.ref t1, .none, .none, .none, .bool false, .none] }
  dbig : h.objs.size ≤ dx
  dne : dx ≠ x
  ns : h'.Ns1 dx (fun y => if y = "part" then some v else none)
section
variable {prog : Program} {w : World} {A : Around} {E : Value → Shared → Prop} {R : Result → Shared → Prop} {s : Shared} {K : Frag} {mg : Str → Option Value} {C D fI : Addr}
theorem ldS {M : Model} {s : Shared} {env : Env} {m : Str → Option Value} {x : Str} {pos : Pos} {v : Value} {Q : Value → Shared → Prop} {A : Around} {E : Value → Shared → Prop} (hn : s.heap.Ns env.locals m) (hv : m x = some v) (h : Q v s)
    (hk : env.scope.kind = .function) (hl : env.kindOf x = some .local) (hd : (x == ("__debug__" : Str)) = false := by decide) :
    wpAny M A (eval (.Name x pos) env) Q E s := wpAny_Name (wpAny_loadName_local hk hl hn hv h) hd
theorem ns_keep {h h' : Heap} {L : Addr} {m : Str → Option Value} (n : h.Ns L m) (k : ∀ b o, h.get? b = some o → h'.get? b = some o) : h'.Ns L m := by
  obtain ⟨o, es, ep, ho, r⟩ := n
  exact ⟨o, es, ep, k _ _ ho, r⟩
/-- the built-in __init__ bound to x, called: x's args are laid anew -/
theorem call_mw {u x t0 : Addr} {us : List Value} {Q : Value → Shared → Prop} (T : PartT prog K mg C D fI) (X : K.In s.heap) (hu : s.heap.get? u = some (kxs_mw "ValueError.__init__" x)) (hx : s.heap.get? x = some (excO C t0)) (hl : us.length ≤ sizeLine)
    (hq : ∀ h' t1, (∀ b o, b ≠ x → s.heap.get? b = some o → h'.get? b = some o) → h'.get? x = some (excO C t1) → Q .none { s with heap := h' }) : wpAny (model prog w) A (call (.ref u) us) Q E s := by
  obtain ⟨nm, q, N, bs, bm, sn, sub, ab, col, dd, k0, k1, k2, k3, k5, hC, hbm⟩ := T.cls
  obtain ⟨hh, g, d, tk, os⟩ := s
  refine wpAny_call (codeAny_of_tree ?_)
  show wpAny _ A.in1 (callAny (.ref u) ⟨us, []⟩) _ _ _
  simp only [callAny]
  refine wpAny_bind (wpAny_load hu ?_)
  simp only [kxs_mw, show (Value.type "method-wrapper" == Value.type "method" || Value.type "method-wrapper" == Value.type "builtin_function_or_method" || Value.type "method-wrapper" == Value.type "method-wrapper") = true by decide, if_true]
  refine KFB.if_so (by decide) ?_
  have hC' := X _ _ hC
  refine wpAny_bind (check_bound_init F.excBase_ValueError.toExcCallFacts hC' hx rfl ?_)
  refine wpAny_bind (wpAny_pure (wpAny_pure ?_))
  refine ⟨plainId_quiet F.excBase_ValueError.init.plain _, codeAny_builtin F.excBase_ValueError.initEntry ?_⟩
  refine exc_init_tree (cls := .ref C) (t0 := t0) (dv := none) (c2 := .none) (c3 := .none) (b4 := .bool false) hx hl fun h' k1 hx1 _ => ?_
  exact hq h' _ k1 hx1
/-- what stands of the globals and the built-ins -/
structure Ground (K : Frag) (mg : Str → Option Value) (h : Heap) : Prop where
  kin : K.In h
  glob : h.Ns mainGlobals mg
  blt : ∃ mb, h.Ns builtinsNs mb ∧ ∀ x : Str, x ≠ "__name__" → mb x = bootBuiltins x
  lim : h.NoLimit
theorem Ground.keeps {h h' : Heap} (g : Ground K mg h) (k : ∀ b o, h.get? b = some o → h'.get? b = some o) : Ground K mg h' :=
  ⟨g.kin.keeps k, ns_keep g.glob k, (by obtain ⟨mb, n, q⟩ := g.blt; exact ⟨mb, ns_keep n k, q⟩), g.lim.keeps k⟩
theorem mcall {o : Expr} {nm m : Str} {j : Nat} {a3 a4 a5 : Pos} {env : Env} (hl : (a3.endLine == a5.line) = true) : eval (.Call (.Attribute o nm a3) [.Constant (.str m) j a4] [] a5) env = (do
      let ov ← attributeBase o nm env (eval o env)
      standAt a3.atName
      let (f, first) ← holding [ov] (getMethod ov nm (do return (← importBound o env).getD true))
      callWith a5 f first (backTo a5 (starEach [.Constant (.str m) j a4] env)) []) := by
  show (do
    let ov ← attributeBase o nm env (eval o env)
    standAt a3.atName
    methodCall o nm a3 a5 env ov 1 (backTo a5 (starEach [.Constant (.str m) j a4] env)) []) = _
  have hf : methodCallForm 1 (backTo a5 (starEach [.Constant (.str m) j a4] env)) [] = true := rfl
  unfold methodCall methodCallPos calleeOf
  simp only [hf, hl, Bool.not_true, Bool.or_true, if_true, pure_bind]
theorem part_init (T : PartT prog K mg C D fI) {x t0 : Addr} {v : Value} (G : Ground K mg s.heap) (hx : s.heap.get? x = some (excO C t0)) (hnx : K.lookup x = none) (hroom : A.depth < recursionLimit)
    (hq : ∀ h' tk dx t1, InitEnd s.heap h' x C dx t1 v → R (.ok (.ret .none)) { s with heap := h', toks := tk }) :
    codeAny (model prog w) A (.call (.ref fI) ⟨[.ref x, v], []⟩) R s := by
  obtain ⟨qual, oc, od, doc, pm, an, cda, cc, ct, osl, m, j, p1, p2, a1, a2, a3, a4, a5, a6, q1, q2, q3, q4, ho, hcd, ⟨cl, cld, csl, hcc⟩, cl2, cld2, vs, csl2, file, tf, hcda, hvs, hfile, hline⟩ := T.fn
  obtain ⟨nm, q, N, bs, bm, sn, sub, ab, col, dd, k0, k1, k2, k3, k5, hC, hbm⟩ := T.cls
  obtain ⟨cdD, hD⟩ := T.hD
  have hcl : clsIn K C = some { name := nm, bases := bs, mro := .ref C :: bm, ns := N, qualname := q, hasDict := true, slotNames := sn, subclasses := sub, abstract := ab, collection := col, hasDel := false } := by unfold clsIn; rw [hC] <;> rfl
  have X := G.kin
  refine ks_codeAny_call_defAt (fd := ksFn "__init__" qual (iA p1 p2) (iB m j a1 a2 a3 a4 a5 a6 q1 q2 q3 q4) iS .none .none doc pm an (.ref cda) ct cc) (body := iB m j a1 a2 a3 a4 a5 a6 q1 q2 q3 q4) (binds := [("self", .ref x), ("part", v)])
    hroom (X _ _ ho) rfl G.lim (codeRec_of X hcd) rfl (BindsTo.of_eq rfl) (by show ∀ x ∈ iS.names, x.2 ≠ .cell; decide) (by show ∀ y ∈ [(("self" : Str), Value.ref x), ("part", v)], iS.names.lookup y.1 = some .local; intro y hy; simp only [List.mem_cons, List.not_mem_nil, or_false] at hy; rcases hy with rfl | rfl <;> rfl) (fun h₁ hns kk => ?_)
  have G1 : Ground K mg h₁ := G.keeps kk
  have X1 := G1.kin
  have hx1 := kk _ _ hx
  obtain ⟨hh, g, d, tk, os⟩ := s
  have eself : (fun y : Str => ([(("self" : Str), Value.ref x), ("part", v)] : List (Str × Value)).reverse.lookup y) "self" = some (.ref x) := by first | rfl | with_unfolding_all rfl | kernel_rfl
  have epart : (fun y : Str => ([(("self" : Str), Value.ref x), ("part", v)] : List (Str × Value)).reverse.lookup y) "part" = some v := by first | rfl | with_unfolding_all rfl | kernel_rfl
  have oD : ∃ o, h₁.get? D = some o ∧ o.data = .cls cdD := by
    unfold clsIn at hD
    split at hD
    · rename_i c d cd' sl hoD
      cases hD
      exact ⟨_, X1 _ _ hoD, rfl⟩
    · cases hD
  obtain ⟨oD, hD1, hD2⟩ := oD
  obtain ⟨mb, hmb, hmbq⟩ := G1.blt
  have hsup := T.sup
  unfold ks_superIn at hsup
  rw [hcl, Option.bind_some] at hsup
  refine ks_wpAt_execs_cons (ks_wpAt_Expr_any (ks_wpAt_MethodCall ?_ (mcall hline)) rfl rfl)
  refine ks_wpAt_super_base rfl rfl rfl rfl (X1 _ _ ho) rfl rfl rfl (X1 _ _ hcda) rfl hvs hfile T.top ?_
  refine ks_loadName_global rfl rfl (loadGlobal_builtin (mg := mg) (mb := mb) G1.glob T.noS hmb ((hmbq _ (by decide)).trans (by decide +kernel)) ⟨rfl, ?_⟩)
  refine wpAny_loadName_free rfl rfl rfl (v := .ref D) ⟨_, X1 _ _ hcc, rfl⟩ ?_
  refine wpAny_loadName_local rfl rfl hns eself ?_
  refine ks_wpAny_isType_cls hD1 hD2 ⟨rfl, ?_⟩
  refine ks_wpAny_call_super hD1 hD2 hx1 rfl (fun c e => by cases e) (looks_mroIn X1 T.sub) (fun h2 hso kk2 => ?_)
  have G2 : Ground K mg h2 := G1.keeps kk2
  have X2 := G2.kin
  have I2 : InstAt h2 x (excO C t0) C none := ⟨kk2 _ _ hx1, rfl, rfl, trivial⟩
  refine kxs_getMethod kxs_ValueError hso (looks_opaque X2 T.third) (l₀ := .ref C :: bm) ?_ rfl X2 hsup (I2.type.andThen (looks_subIn X2 T.veC)) (ks_ne X2 I2 hcl) (by decide) ?_
  · exact fun A Q E s k q => wpAny_bind ((looks_clsIn X2 hcl) A _ E s k (wpAny_pure q))
  have kk3 : ∀ b o, h2.get? b = some o → (h2.push (kxs_mw "ValueError.__init__" x)).get? b = some o := fun b o e => Heap.get?_push_of_some _ e
  have hu3 : (h2.push (kxs_mw "ValueError.__init__" x)).get? h2.objs.size = some (kxs_mw "ValueError.__init__" x) := Heap.get?_push_at rfl rfl
  refine kxs_callWith (i := "ValueError.__init__") (x := x) rfl (evalArgs_plain (Calls.spliced_cons (Calls.Constant_str (k := j) (pos := a4) (Calls.spliced_nil ⟨hu3, ?_⟩))))
  refine call_mw T (G2.keeps kk3).kin hu3 (kk3 _ _ (kk2 _ _ hx1)) (by show 1 ≤ sizeLine; rw [sizeLine_eq]; omega) fun h4 t1 kk4 hx4 => ?_
  have k14 : ∀ b o, b ≠ x → h₁.get? b = some o → h4.get? b = some o := fun b o hb e => kk4 b o hb (kk3 _ _ (kk2 _ _ e))
  have X4 : K.In h4 := fun a o e => k14 a o (fun z => by rw [z, hnx] at e; cases e) (X1 a o e)
  have hxL : hh.objs.size ≠ x := Nat.ne_of_gt (Heap.lt_size hx)
  have hns4 : h4.Ns hh.objs.size (fun y : Str => ([(("self" : Str), Value.ref x), ("part", v)] : List (Str × Value)).reverse.lookup y) := by
    obtain ⟨o, es, ep, ho, r⟩ := hns
    exact ⟨o, es, ep, k14 _ _ hxL ho, r⟩
  refine ks_wpAt_execs_cons (wpAt_of_wpAny (plainObj_wpAny_Assign_Attribute ?_))
  refine ldS (v := v) hns4 epart (ldS (v := .ref x) hns4 eself ?_ rfl rfl) rfl rfl
  refine set_plain X4 (ox := excO C t1) (od := none) ⟨hx4, rfl, rfl, trivial⟩ T.sa ?_
  refine exc_osa X4 hx4 hcl (show refsVE (.ref C :: bm) = true from hbm) rfl T.noN (fun h5 tk5 dx k5 dn dne hx5 hn5 => ?_)
  exact wpAt_of_wpAny (wpAny_execs_nil (hq h5 tk5 dx t1 ⟨fun b o hb e => k5 b o hb (k14 b o hb (kk b o e)), hx5, Nat.le_of_lt (Nat.lt_of_lt_of_le hns4.lt dn), dne, hn5⟩))
end
end KX
end
section
/-! KX2: raise of an own error with a part; an error that is caught, held by a name, asked for its class and its part. -/
namespace KX
open PySem PySem.Spec PyProof.Rows L2
/-! ### raise -/
structure OwnMade (h h' : Heap) (e C d : Addr) (v : Value) : Prop where
  keep : ∀ b o, h.get? b = some o → h'.get? b = some o
  new : h.objs.size ≤ e
  obj : ∃ t1 : Addr, h'.get? e = some ({ cls := .ref C, dict := some d, data := .fields #[.ref t1, .none, .none, .none, .bool false, .none] } : Obj)
  dbig : h.objs.size ≤ d
  dne : d ≠ e
  ns : h'.Ns1 d (fun y => if y = "part" then some v else none)
section
variable {prog : Program} {w : World} {A : Around} {R : Result → Shared → Prop} {s : Shared} {K : PySem.W.Frag} {mg : Str → Option Value} {C D fI : Addr}
theorem part_made (T : PartT prog K mg C D fI) {v : Value} (G : Ground K mg s.heap) (hroom : A.depth + 1 < recursionLimit)
    (hq : ∀ h' tk e d, OwnMade s.heap h' e C d v → R (.ok (.ret (.ref e))) { s with heap := h', toks := tk }) : codeAny (model prog w) A (.call (.ref C) ⟨[v], []⟩) R s := by
  obtain ⟨nm, q, N, bs, bm, sn, sub, ab, col, dd, k0, k1, k2, k3, k5, hC, hbm⟩ := T.cls
  obtain ⟨hp, g, dr, tk, os⟩ := s
  have X := G.kin
  have k : ∀ b o, hp.get? b = some o → ((hp.push (PySem.W.kdv_tup [v])).push (HandSPX.excO C hp.objs.size)).get? b = some o := fun b o e => Heap.get?_push_of_some _ (Heap.get?_push_of_some _ e)
  have hget : ((hp.push (PySem.W.kdv_tup [v])).push (HandSPX.excO C hp.objs.size)).get? (hp.objs.size + 1) = some (HandSPX.excO C hp.objs.size) := by heap_get
  have hnx : K.lookup (hp.objs.size + 1) = none := by
    cases e : K.lookup (hp.objs.size + 1) with
    | none => rfl
    | some o => exact absurd (Nat.lt_of_succ_lt (Heap.lt_size (show hp.get? (hp.objs.size + 1) = some o from X _ _ e))) (Nat.lt_irrefl _)
  have h1 : [v].length ≤ sizeLine := by rw [sizeLine_eq]; exact (by decide : 1 ≤ 16777216)
  refine HandSPX.call_own F.excBase_ValueError (fun Y => HandSPX.refsVE_contains Y bm hbm) (X _ _ hC) (PySem.W.looks_findIn X T.iC) (fun self => PySem.W.bind_fn X self T.tC) h1 ?_
  refine part_init (s := ⟨(hp.push (PySem.W.kdv_tup [v])).push (HandSPX.excO C hp.objs.size), g, dr, tk, os⟩) T (G.keeps k) hget hnx (show A.depth + 1 < recursionLimit from hroom) fun h' tk' dx t1 M => ?_
  have old : ∀ b o, hp.get? b = some o → h'.get? b = some o := fun b o e => M.keep b o (Nat.ne_of_lt (Nat.lt_succ_of_lt (Heap.lt_size e))) (k b o e)
  have z : hp.objs.size + 1 + 1 ≤ dx := by
    have q := M.dbig
    first | exact q | (simpa only [Heap.size_push] using q)
  exact ⟨rfl, hq h' tk' (hp.objs.size + 1) dx ⟨old, Nat.le_succ _, ⟨t1, M.obj⟩, Nat.le_trans (Nat.le_trans (Nat.le_succ _) (Nat.le_succ _)) z, M.dne, M.ns⟩⟩
end
theorem relO_part {v : V} {u : Value} (r : RelV v u) (f : Str) : RelO (List.lookup f [(("part" : Str), v)]) (if f = "part" then some u else none) := by
  by_cases e : f = "part"
  · subst e; rw [if_pos rfl]
    have q : List.lookup ("part" : Str) [(("part" : Str), v)] = some v := by simp [List.lookup]
    rw [q]; exact r
  · rw [if_neg e]
    have q : List.lookup f [(("part" : Str), v)] = none := by
      have z : (f == ("part" : Str)) = false := by simpa using e
      simp [List.lookup, z]
    rw [q]; trivial
theorem ground_of {X : Cx} {pins : List (Addr × Obj)} {σ : L2.St} {H : Hp} {s : Shared} (I : Inv X pins σ H s) : Ground X.K X.mg s.heap :=
  ⟨I.kIn, ns_keep I.ok.mod.glob I.bk, (by obtain ⟨mb, n, q⟩ := I.mod.blt; exact ⟨mb, ns_keep n I.bk, q⟩), I.nolimit⟩
section
variable {X : Cx} {C D fI : Addr}
/-- C(e), an own error with a part -/
def tMkP (C : Addr) (ta : TA) : L2.St → Hp → XK → Prop := fun σ H Q => ta σ H fun vs H1 => ∃ v, vs = [v] ∧ ∀ d, H1 d = none → Q (.ref C) (some d) (upd H1 d (.xd [(("part" : Str), v)]))
theorem pmk_part {x : Str} {a : Expr} {ta : TA} {p pos : Pos} {k : Nat} (T : PartT X.prog X.K X.mg C D fI) (gC : X.mg x = some (.ref C)) (hg : Gl X x) (hr : Room k X.A) (ha : PA X [a] ta) (hdb : (x == ("__debug__" : Str)) = false := by decide)
    (he : starEach (a :: []) X.env = (false, eval a X.env) :: starEach [] X.env := by rfl) (hpl : (backTo pos (starEach [] X.env)).any (·.1) = false := by rfl) : PMk X (.Call (.Name x p) [a] [] pos) (tMkP C ta) := by
  intro pins s σ H Q I h
  refine wpAny_Call_Name_kw (ld_glob I hg gC ?_ hdb)
  refine PySem.W.callWith_K (h₀ := X.base) I.ok.mod.kin T.kC (thn (ha.run pos pins s σ H _ I h) fun us s1 hh => ?_) he hpl
  obtain ⟨vs, H1, I1, r1, v, rfl, q1⟩ := hh
  refine ⟨I1.kIn, ?_⟩
  cases r1 with
  | @cons _ v' _ us' rv rn =>
    cases rn
    show wpAny _ _ (call (.ref C) [v']) _ _ _
    have G := ground_of I1
    obtain ⟨hp, g, dr, tk, os⟩ := s1
    refine wpAny_call (part_made T G (by have := hr.dp; omega) fun h' tk' e d M => ?_)
    show MkP X pins σ Q (.ref e) ⟨h', g, dr, tk', os⟩
    obtain ⟨t1, hoe⟩ := M.obj
    obtain ⟨G', g1, g2⟩ := restrict h' fun b => decide (b ≠ e)
    have gk : ∀ b, b ≠ e → G'.get? b = h'.get? b := fun b hb => g1 b (decide_eq_true hb)
    have ge : G'.get? e = none := g2 e (by simp)
    have hlt : ∀ b o, hp.get? b = some o → b ≠ e := fun b o q => Nat.ne_of_lt (Nat.lt_of_lt_of_le (Heap.lt_size q) M.new)
    have J : Inv X pins σ (upd H1 d (.xd [(("part" : Str), v)])) ⟨G', g, dr, tk', os⟩ :=
      I1.laid (t' := tk') (fun b o q => (gk b (hlt b o q)).trans (M.keep b o q)) M.dbig ⟨_, M.ns.at (fun o q => (gk d M.dne).trans q), fun f => relO_part rv f⟩
    refine ⟨e, _, _, ⟨G', g, dr, tk', os⟩, _, .ref C, some d, rfl, J, fun b o q => ?_, ge, hoe, ⟨rfl, rfl⟩, rfl, rfl, ?_, rfl, I1.bare, raises_own T.exC T.tyC, q1 d (I1.hok.fresh M.dbig)⟩
    · by_cases hb : b = e
      · subst hb; rw [show G'.get? b = none from ge] at q; cases q
      · exact (gk b hb).symm.trans q
    · rw [upd_ne (Ne.symm M.dne)]; exact I1.hok.fresh M.new
end
/-! ### an error held by a name -/
/-- at a: an error of the class cls, its own dict at d -/
def XO (cls : Value) (d : Option Addr) (a : Addr) : HO := .ext fun h => ∃ (oe : Obj) (vs : Array Value), h.get? a = some oe ∧ Zc cls d oe ∧ oe.data = .fields vs
theorem xo_ok {P : Program} {w : World} {H : Hp} {h : Heap} {a : Addr} {cls : Value} {d : Option Addr} {oe : Obj} {vs : Array Value} (e : h.get? a = some oe) (z : Zc cls d oe) (dt : oe.data = .fields vs) : ObjOk P w H h a (XO cls d a) :=
  ⟨⟨oe, vs, e, z, dt⟩, ⟨oe, e⟩, fun _ _ ⟨o, v, q, r⟩ k => ⟨o, v, k o q, r⟩⟩
section
variable {X : Cx} {pins : List (Addr × Obj)} {σ : L2.St} {H : Hp} {s : Shared}
theorem track {a : Addr} {φ : Heap → Prop} (I : Inv X pins σ H s) (ha : H a = none) (h0 : X.s_0.heap.get? a = none) (nL : a ≠ X.env.locals) (nC : ∀ x c, X.env.cells.lookup x = some c → c ≠ a) (np : ∀ p ∈ X.pn ++ pins, p.1 ≠ a)
    (new : ObjOk X.prog X.w (upd H a (.ext φ)) s.heap a (.ext φ)) : Inv X pins σ (upd H a (.ext φ)) s := by
  have sm : ∀ b u, H b = some u → b ≠ a := fun b u e => ne_of_none e ha
  refine ⟨I.ok, I.os, I.bare, ⟨I.base.keep, I.base.slot, fun b o e n hx => ?_, I.base.there, fun b xs e => ?_, fun b o u e => ?_, fun b ps e => ?_⟩, I.loc, I.cell, ?_, fun x c e => ?_, fun p hp => ?_, fun b u e => ?_, I.len⟩
  · rw [upd_ne (fun z => by rw [z, h0] at e; cases e)]; exact I.base.free b o e n hx
  · have q := I.base.tups b xs e; rw [upd_ne (sm b _ q)]; exact q
  · have q := I.base.frzs b o u e; rw [upd_ne (sm b _ q)]; exact q
  · obtain ⟨m, q⟩ := I.base.tbls b ps e; exact ⟨m, by rw [upd_ne (sm b _ q)]; exact q⟩
  · rw [upd_ne (Ne.symm nL)]; exact I.free
  · rw [upd_ne (nC x c e)]; exact I.freeC x c e
  · obtain ⟨h1, h2, h3⟩ := I.pin p hp; exact ⟨h1, by rw [upd_ne (np p hp)]; exact h2, h3⟩
  · by_cases hb : b = a
    · subst hb; rw [upd_same] at e; cases e; exact new
    · rw [upd_ne hb] at e
      exact (I.hok b u e).stay (fun c v _ q => q) (fun c q => by rw [upd_ne (sm c _ q)]; exact q) fun c xs q => by rw [upd_ne (sm c _ q)]; exact q
end
/-- the wish of a try whose clause 'except c as n' keeps the error: behind the suite the name is gone, the error is told of -/
def wAsT (K : PySem.W.Frag) (c : Value) (i : Nat) (ts : Addr → Value → Option Addr → TS) (Wout : WX) (D : Ends) : WX := fun cls d σ H =>
  ∃ b, PySem.W.exmOne K cls c = some b ∧ (b = false → Wout cls d σ H) ∧ (b = true → ∀ a, H a = none →
    ts a cls d { nx := fun σ1 H1 => D.nx (σ1.set i none) (upd H1 a (XO cls d a)), rt := fun v H1 => D.rt v (upd H1 a (XO cls d a)), bk := fun σ1 H1 => D.bk (σ1.set i none) (upd H1 a (XO cls d a)), ct := fun σ1 H1 => D.ct (σ1.set i none) (upd H1 a (XO cls d a)) } (σ.set i (some (.ref a))) H)
section
variable {X : Cx} {x n : Str} {c : Value} {i : Nat} {body suite : List Stmt} {b₀ : Stmt} {np pos pos' : Pos} {tb : WX → TS} {ts : Addr → Value → Option Addr → TS} {Wout : WX}
theorem ps_try_asT (hs : X.stack = X.env :: X.outer) (hf : X.env.frame = some X.env.locals) (hex : X.ex = []) (hN : X.N.Nodup) (hi : X.N[i]? = some n) (hln : X.env.kindOf n = some .local) (hc : Names X x c) (tk : Takes X Wout)
    (hb : ∀ (W : WX) (pn : List (Addr × Obj)) (xe : Value → Shared → Prop), Takes (X.tr pn xe) W → PassesOwn (model X.prog X.w) X.A X.env xe → PSs (X.tr pn xe) body (tb W))
    (hsu : ∀ (a : Addr) (oe : Obj) (cls : Value) (d : Option Addr) (pn : List (Addr × Obj)), Zc cls d oe → (∃ vs, oe.data = .fields vs) → PSs (X.suite a ((a, oe) :: pn)) (b₀ :: suite) (ts a cls d)) :
    PS X (.Try body [.ExceptHandler (some (.Name x np)) (some n) (b₀ :: suite) pos'] [] [] pos) (fun D σ H => tb (wAsT X.K c i ts Wout D) D σ H) := by
  constructor
  intro pins s σ H D I h
  have ok := I.ok
  have hfr : X.A.frames = some (X.env :: X.outer) := ok.frames.trans (by rw [hs])
  refine wpAny_Try_except ?_
  have HB := (hb (wAsT X.K c i ts Wout D) (X.pn ++ pins) (fun e s₁ => wpAny (model X.prog X.w) X.A (noteFrame e X.env) (fun _ s₂ => wpAny (model X.prog X.w) X.A (setFlight e none) (fun _ s₃ =>
    wpAny (model X.prog X.w) X.A (handleBy e X.env [.ExceptHandler (some (.Name x np)) (some n) (b₀ :: suite) pos']) (SP X pins D) X.xe s₃) X.xe s₂) X.xe s₁) (fun u s' xx => ?_) PassesOwn.looking).run [] s σ H D (I.toTry _) h
  · refine wpAny_mono HB (fun f s1 hsp => ?_) fun _ _ z => z
    cases f with
    | ret u => obtain ⟨v, σ', H', J', r, q⟩ := hsp; exact ⟨v, σ', H', J'.ofTry ok, r, q⟩
    | next => obtain ⟨σ', H', J', q⟩ := hsp; exact wpAny_execs_nil ⟨σ', H', J'.ofTry ok, q⟩
    | brk => obtain ⟨σ', H', J', q⟩ := hsp; exact ⟨σ', H', J'.ofTry ok, q⟩
    | cont => obtain ⟨σ', H', J', q⟩ := hsp; exact ⟨σ', H', J'.ofTry ok, q⟩
  · obtain ⟨a, B, sI, pins', σ', H', cls, d, rfl, J', nb, up, sky, na, os, ag, b, hb1, hno, hyes⟩ := xx
    have J : Inv X pins σ' H' sI := J'.ofTry ok
    rw [show (X.tr (X.pn ++ pins) _).stack = X.env :: X.outer from hs] at sky
    show wpAny (model X.prog X.w) X.A (noteFrame (.ref a) X.env) _ _ _
    refine Sky.land Zc.steady hfr hf sky fun h3 fl3 up3 => ?_
    have J3 : Inv X pins σ' H' { s' with heap := h3 } := J.landed nb fl3.1 (up.trans up3) os ag
    obtain ⟨oe3, vs3, he3, hz3, hd3⟩ := fl3.there
    have nfr : a ∉ frs (X.env :: X.outer) := fun hm => by
      obtain ⟨_, o', e', hnf⟩ := fl3.2.2.1.mem hm
      rw [he3] at e'; cases e'; exact hnf _ hd3
    have nL : a ≠ X.env.locals := fun z => nfr (List.mem_filterMap.mpr ⟨X.env, List.mem_cons_self, by rw [hf, z]⟩)
    have nF : a ∉ X.fs := fun hm => by
      obtain ⟨e, he, q⟩ := List.mem_filterMap.mp hm
      exact nfr (List.mem_filterMap.mpr ⟨e, List.mem_cons_of_mem _ he, q⟩)
    have nI : sI.heap.get? a = none := by
      cases e : sI.heap.get? a with
      | none => rfl
      | some o =>
        have z := nb a o e (by show a ∉ frs X.stack; rw [hs]; exact nfr)
        rw [fl3.2.1] at z; cases z
    have n0 : X.s_0.heap.get? a = none := by
      cases e : X.s_0.heap.get? a with
      | none => rfl
      | some o =>
        obtain ⟨o', z⟩ := J.base.there a o e (by rw [hex]; exact fun z => nomatch z)
        rw [nI] at z; cases z
    have npin : ∀ p ∈ X.pn ++ pins, p.1 ≠ a := fun p hp z => by
      have q := (J.pin p hp).1
      rw [z, nI] at q; cases q
    have S3 := J3.suite he3 hd3 na nL nF
    refine wpAny_handleBy_cons (codeAny_handlers_test ?_) (fun q => by cases q)
    have LT : PySem.W.Looks (model X.prog X.w) h3 (typeOf (.ref a)) cls := fun A Q E s k q => wpAny_typeOf_ref (k _ _ he3) (by rw [hz3.1]; exact q)
    have LM := PySem.W.exm_one (M := model X.prog X.w) (J3.kIn) LT hb1
    obtain ⟨hg, hdbg, hm⟩ := hc
    have test : ∀ {Q : Value → Shared → Prop} {E : Value → Shared → Prop}, Q c { s' with heap := h3 } → wpAny (model X.prog X.w) (X.A.mark (some (.ref a))) (eval (.Name x np) X.env) Q E { s' with heap := h3 } := fun q => by
      rcases hm with hm | ⟨hm, hv, hnn⟩
      · exact ld_glob (X := X.suite a ((a, oe3) :: (X.pn ++ pins))) S3 hg hm q hdbg
      · exact ld_blt (X := X.suite a ((a, oe3) :: (X.pn ++ pins))) S3 hg hm hv q hnn hdbg
    refine test (LM.here ?_)
    cases b with
    | false =>
      show wpAny _ X.A (handleBy (.ref a) X.env []) _ _ _
      refine wpAny_handleBy_nil ?_
      obtain ⟨k1, k2, k3, oe, vs, T, oT, ts', he, hz, hd, h1, hr⟩ := id fl3
      unfold PySem.passOn
      refine wpAny_bind (wpAny_field he hd h1 ?_)
      rw [if_neg (show ¬ ((Value.ref T == Value.none) = true) from by simp)]
      have fin : wpAny (model X.prog X.w) X.A (setFlight (.ref a) X.env.frame) (fun _ s4 => wpAny (model X.prog X.w) X.A (throw (.ref a) : Sem Flow) (SP X pins D) X.xe s4) X.xe { s' with heap := h3 } := by
        rw [hf]
        refine HandSPX.setFlight_upZ fl3 fun h4 hh4 up4 => wpAny_throw (tk _ _ ⟨a, B, sI, pins, σ', H', cls, d, rfl, J, nb, (up.trans up3).trans up4, .inr (.inr (by rw [hs]; exact hh4)), na, os, ag, hno rfl⟩)
      first | exact wpAny_bind (wpAny_pure (wpAny_bind fin)) | exact wpAny_bind fin
    | true =>
      refine codeAny_handlers_suite_as (HandSPX.lands_againZ fl3 fun h4 fl4 up4 => ?_)
      have J4 : Inv X pins σ' H' { s' with heap := h4 } := J.landed nb fl4.1 ((up.trans up3).trans up4) os ag
      obtain ⟨oe4, vs4, he4, hz4, hd4⟩ := fl4.there
      have S4 := J4.suite he4 hd4 na nL nF
      refine store_ok (X := X.suite a ((a, oe4) :: (X.pn ++ pins))) (v := .ref a) S4 hN hi (Or.inl hln) rfl (fun s5 S5 => ?_) (.inr hln)
      refine wpAny_mono ((hsu a oe4 cls d (X.pn ++ pins) hz4 ⟨_, hd4⟩).run [] s5 _ H' _ S5 (hyes rfl a na)) (fun f s6 hsp => ?_) (fun _ _ z => False.elim z)
      have fin : ∀ {σ6 : L2.St} {H6 : Hp} {Q : Shared → Prop}, Inv (X.suite a ((a, oe4) :: (X.pn ++ pins))) [] σ6 H6 s6 → (∀ s7, Inv X pins (σ6.set i none) (upd H6 a (XO cls d a)) s7 → Q s7) →
          wpAny (model X.prog X.w) X.A (do bindName X.env n .none; unbindBehindTheSuite X.env n pos') (fun _ s7 => Q s7) X.xe s6 := fun {σ6 H6 Q} S6 hq => by
        obtain ⟨g6, n6, _⟩ := S6.pin (a, oe4) (List.mem_append_left _ List.mem_cons_self)
        have J6 : Inv X pins σ6 H6 s6 := S6.unsuite ok
        have nC : ∀ x c, X.env.cells.lookup x = some c → c ≠ a := fun x c e z => by
          obtain ⟨v, o, ho, hd⟩ := J6.cell x c e
          rw [z, show s6.heap.get? a = some oe4 from g6] at ho; cases ho; rw [hd4] at hd; cases hd
        exact gone_ok (track J6 n6 n0 nL nC npin (xo_ok g6 hz4 hd4)) hN hi hln hq
      cases f with
      | next => obtain ⟨σ6, H6, S6, q6⟩ := hsp; exact fin S6 fun s7 J7 => ⟨_, _, J7, q6⟩
      | brk => obtain ⟨σ6, H6, S6, q6⟩ := hsp; exact fin S6 fun s7 J7 => ⟨_, _, J7, q6⟩
      | cont => obtain ⟨σ6, H6, S6, q6⟩ := hsp; exact fin S6 fun s7 J7 => ⟨_, _, J7, q6⟩
      | ret u => obtain ⟨v6, σ6, H6, S6, r6, q6⟩ := hsp; exact fin S6 fun s7 J7 => ⟨_, _, _, J7, r6, q6⟩
end
/-! ### isinstance, e.f -/
section
open PySem.W PySem.Calls
variable {prog : Program} {w : World} {A : Around} {E : Value → Shared → Prop} {K : Frag} {x D : Addr} {ox : Obj} {od : Option Obj}
theorem find_cls (C : ExcC K D) : findObj K D od "__class__" = some (.bind (.builtin "getset_descriptor.__get__") (.builtin "object.__class__")) := by
  have hc : (clsIn K D).isSome = true := by obtain ⟨cd, hc, _⟩ := any_some C.hd; rw [hc]; rfl
  cases od with
  | none => exact findObj_dataN hc C.ha C.hn C.ht
  | some o => exact findObj_data hc C.ha C.hn C.ht
/-- e.__class__ of an error, with or without an own dict -/
theorem class_of_err {s : Shared} {Q : Option Value → Shared → Prop} (C : ExcC K D) (X : K.In s.heap) (I : InstAt s.heap x ox D od) (h : Q (some (.ref D)) { s with toks := s.toks + 1 }) : wpAny (model prog w) A (getAttr? (.ref x) "__class__") Q E s := by
  obtain ⟨hp, g, d, t, os⟩ := s
  have LT := I.type (M := model prog w)
  have LF := looks_find (M := model prog w) X I (find_cls C)
  have sub : Looks (model prog w) hp (isInstance (.ref x) (.type "BaseException")) true := LT.andThen (looks_subIn X C.hs)
  have ne : (Value.builtin "BaseException.__getattribute__" == Value.builtin "object.__getattribute__") = false := by decide +kernel
  unfold getAttr? getAttrBy? getAttrBy
  refine wpAny_bind (wpAny_mkText (wpAny_bind (wpAny_attempt (wpAny_holding (wpAny_bind (LT.at (wpAny_bind ((looks_findIn (M := model prog w) X C.hg).at ?_))))))))
  show wpAny _ _ (if (onTheHeap (Value.ref D) && Value.builtin "BaseException.__getattribute__" == Value.builtin "object.__getattribute__") = true then _ else _) _ _ _
  rw [ne, Bool.and_false, if_neg Bool.false_ne_true]
  unfold getAttrByItsOwn hookBefore
  refine wpAny_bind ?_
  rw [if_pos (show onTheHeap (Value.ref D) = true from rfl)]
  refine (looks_findIn (M := model prog w) X C.hk).at (wpAny_bind (wpAny_attempt (wpAny_holding ?_)))
  unfold callGetattribute
  rw [if_neg (show ¬ ((false && onTheHeap (Value.builtin "BaseException.__getattribute__")) = true) from Bool.false_ne_true)]
  unfold boundAndCalled
  rw [PySem.F.excAttr_ValueError.ga.bind (.ref x)]
  refine wpAny_bind (wpAny_pure ?_)
  show wpAny _ _ (call (.builtin "BaseException.__getattribute__") [.ref x, .str "__class__" t]) _ _ _
  refine wpAny_call (codeAny_call_builtin PySem.F.excAttr_ValueError.ga.plain PySem.F.entry_bexc_ga ?_)
  refine @check_slot (model prog w) _ _ ⟨hp, g, d, t + 1, os⟩ "BaseException.__getattribute__" "BaseException" "__getattribute__" (.ref x) [.str "__class__" t] [] _ (by decide +kernel) (by decide +kernel) sub (PySem.F.args_bexc_ga (.ref x) (.str "__class__" t)) ?_
  unfold Builtin.«object.__getattribute__»
  refine wpAny_bind (wpAny_of_eq (a := ((Value.ref x : Value), [Value.str "__class__" t])) (by first | rfl | (simp only [slotArgs]; rfl)) (wpAny_bind (wpAny_pure (wpAny_bind (LT.at (wpAny_bind (LF.at ?_)))))))
  show wpAny _ _ (holding [Value.builtin "object.__class__"] (call (.builtin "getset_descriptor.__get__") [.builtin "object.__class__", .ref x, .ref D]) >>= ret) _ _ _
  refine wpAny_bind (wpAny_holding (wpAny_call (class_get (s := ⟨hp, g, d, t + 1, os⟩) (ox := ox) (od := od) X I C.hm (wpAny_pure ?_))))
  show wpAny _ _ (handedOut (.ref D)) _ _ _
  rw [handedOut_of (v := .ref D) rfl]
  first | exact wpAny_pure (wpAny_pure h) | exact wpAny_pure h | exact wpAny_pure (wpAny_bind (wpAny_pure (wpAny_pure h)))
theorem kitx_err (C : ExcC K D) : KitX K (.ref x) (.ref D) (fun h => ∃ od, InstAt h x ox D od) where
  ty := fun _ _ _ ⟨_, I⟩ => I.type
  it := fun M h X _ => by
    obtain ⟨cd, hc, _⟩ := any_some C.hd
    have oD : ∃ o, h.get? D = some o ∧ o.data = .cls cd := by
      unfold clsIn at hc
      split at hc
      · rename_i ho; cases hc; exact ⟨_, X _ _ ho, rfl⟩
      · cases hc
    obtain ⟨o, ho, hd⟩ := oD
    intro A' Q' E' s' k q
    obtain ⟨h', g, d, t, os⟩ := s'
    exact ks_wpAny_isType_cls (k _ _ ho) hd q
  ne := fun h tp dd its n sl X htp => (handS_kitx_exc (x := x) (ox := ox) C.hg C.hk C.hs C.hd C.ha C.hn C.ht C.hm).ne h tp dd its n sl X htp
  ca := fun X ⟨_, I⟩ k => class_of_err C X I k
end
/-- isinstance(e, c), e an error that is told of; or None -/
def rIsX (K : PySem.W.Frag) : List V → Hp → VK → Prop := fun xs H Q => ∃ (a D : Addr) (d : Option Addr) (c : V) (cv : Value) (b : Bool), xs = [.ref a, c] ∧ H a = some (XO (.ref D) d a) ∧ (∀ dd, d = some dd → ∃ fs, H dd = some (.xd fs)) ∧ ExcC K D ∧
  (∀ u, RelV c u → u = cv) ∧ PySem.W.kitOne K (.ref D) cv = some b ∧ Q (.bl b) H
def tPartOf (K : PySem.W.Frag) (f : Str) (te : TE) : TE := fun σ H Q => te σ H fun x H1 => ∃ (a C dd : Addr) (fs : List (Str × V)) (v : V), x = .ref a ∧ H1 a = some (XO (.ref C) (some dd) a) ∧ XfC K C ∧ PySem.W.findIn K (.ref C) f = some none ∧ H1 dd = some (.xd fs) ∧ fs.lookup f = some v ∧ Q v H1
theorem xo_at {P : Program} {w : World} {H : Hp} {h : Heap} {a : Addr} {cls : Value} {d : Option Addr} (hok : HOk P w H h) (e : H a = some (XO cls d a)) : ∃ (oe : Obj) (vs : Array Value), h.get? a = some oe ∧ Zc cls d oe ∧ oe.data = .fields vs := by
  have z : ObjOk P w H h a (.ext fun h => ∃ (oe : Obj) (vs : Array Value), h.get? a = some oe ∧ Zc cls d oe ∧ oe.data = .fields vs) := hok a _ e
  exact z.1
section
variable {X : Cx}
theorem pe_partOf {e : Expr} {te : TE} {pos : Pos} {n : Str} (he : PE X e te) (hb : attributeBase e n X.env (eval e X.env) = eval e X.env := by rfl) : PE X (.Attribute e n pos) (tPartOf X.K n te) := by
  constructor
  intro pins s σ H Q I h
  refine attr_of hb (thn (he.run pins s σ H _ I h) fun u s1 hh => ?_)
  obtain ⟨x, H1, I1, rx, a, C, dd, fs, v, rfl, ea, T, hno, ed, l, q⟩ := hh
  obtain rfl : u = Value.ref a := rx
  obtain ⟨oe, vs, ha, hz, hd⟩ := xo_at I1.hok ea
  have hx : ObjOk X.prog X.w H1 s1.heap dd (.xd fs) := I1.hok dd _ ed
  obtain ⟨mA, hns, hr⟩ := hx
  obtain ⟨od, ho, hl⟩ := lookIn_ns hns
  obtain ⟨u, hu, ru⟩ := RelO.some_of (v := v) (o := mA n) (by rw [← l]; exact hr n)
  have J : PySem.W.InstAt s1.heap a oe C (some od) := ⟨ha, hz.1, by unfold PySem.W.notCls; rw [hd] <;> rfl, by rw [hz.2]; exact ho⟩
  exact HandSPX.exc_get I1.kIn J T.ga T.gg T.exC (PySem.W.findObj_own T.hdC hno rfl (by rw [hl, hu])) (handed_of ru) ⟨v, H1, I1.tok _, ru, q⟩
theorem call_isX : CallR X (.builtin "isinstance") (rIsX X.K) := by
  intro pins s σ H xs us Q I r h
  obtain ⟨a, D, d, c, cv, b, rfl, ea, ed, C, hcv, e, q⟩ := h
  cases r with
  | cons rx rr =>
    cases rr with
    | cons rt rr =>
      cases rr; cases rx
      have ec := hcv _ rt
      subst ec
      obtain ⟨oe, vs, ha, hz, hd⟩ := xo_at I.hok ea
      have J : ∃ od, PySem.W.InstAt s.heap a oe D od := by
        have no : PySem.W.notCls oe = true := by unfold PySem.W.notCls; rw [hd] <;> rfl
        cases d with
        | none => exact ⟨none, ha, hz.1, no, by rw [hz.2]; trivial⟩
        | some dd =>
          obtain ⟨fs, ex⟩ := ed dd rfl
          obtain ⟨mA, hns, _⟩ := (show ObjOk X.prog X.w H s.heap dd (.xd fs) from I.hok dd _ ex)
          obtain ⟨od, ho, _⟩ := lookIn_ns hns
          exact ⟨some od, ha, hz.1, no, by rw [hz.2]; exact ho⟩
      exact PySem.W.kia_one (kitx_err C) I.kIn J e (fun z => nomatch z) fun tk => ⟨.bl b, H, I.kept (t' := tk) fun _ _ z => z, rfl, q⟩
end
end KX
end
section
/-! KX3: a def that calls what it got and hands back the error that came, None if none did. -/
namespace KX
open PySem PySem.Spec PyProof.Rows L2 LamX
/-- what it makes of the lambda's reading: an error of a class under CS is handed back; others are not wished -/
def TCau (K : PySem.W.Frag) (CS : Addr) : (XK → Hp → VK → Prop) → Hp → VK → Prop := fun tl H Q =>
  tl (fun cls d H' => PySem.W.exmOne K cls (.ref CS) = some true ∧ ∀ a, H' a = none → Q (.ref a) (upd H' a (XO cls d a))) H (fun _ H' => Q .non H')
abbrev cauBody (w ca er ce : Str) (j : Nat) (p1 p2 p3 p4 p5 p6 p7 p8 p9 p10 p11 p12 p13 p14 p15 : Pos) : List Stmt :=
  [.Assign [.Name ca p1] (.Constant .none j p2) p3,
   .Try [.Expr (.Call (.Name w p4) [] [] p5) p6] [.ExceptHandler (some (.Name ce p7)) (some er) [.Assign [.Name ca p8] (.Name er p9) p10] p11] [] [] p12,
   .Return (some (.Name ca p13)) p14]
theorem takes_len {X : Cx} {W : WX} (tk : Takes X W) : Takes X (fun c d σ H => σ.length = X.N.length → W c d σ H) := fun u s' ⟨a, B, sI, pins, σ, H, cls, d, e, I, nb, up, sky, na, os, ag, w⟩ =>
  tk u s' ⟨a, B, sI, pins, σ, H, cls, d, e, I, nb, up, sky, na, os, ag, w I.len⟩
theorem caught_gives {X : Cx} {w ca er ce x q : Str} {sg : Scope} {g CS : Addr} {cdg : Value} {j : Nat} {p1 p2 p3 p4 p5 p6 p7 p8 p9 p10 p11 p12 p13 p14 p15 : Pos} (nd : [w, ca, er].Nodup)
    (h1 : sg.names.lookup ca = some .local) (h2 : sg.names.lookup er = some .local) (hge : sg.names.lookup ce = some .globalImplicit) (hme : X.mg ce = some (.ref CS)) (hde : (ce == ("__debug__" : Str)) = false)
    (d1 : (ca == ("__debug__" : Str)) = false) (d2 : (ca == ("__classdict__" : Str)) = false) (d3 : (er == ("__debug__" : Str)) = false) (d4 : (er == ("__classdict__" : Str)) = false) :
    GivesTo X [w, ca, er] x sg g cdg (cauBody w ca er ce j p1 p2 p3 p4 p5 p6 p7 p8 p9 p10 p11 p12 p13 p14 p15) w q (TCau X.K CS) := by
  intro f c' s H Q tl act hc h
  refine ⟨_, pss_cons (ps_asg (pe_non) (pg_name (i := 1) nd rfl (.inl h1))) (pss_cons (ps_try_asT (i := 2) (c := .ref CS) (ts := fun a cls d => tAsg (tVar 2) (gName 1))
      (tb := fun W D σ H => ∃ Ech : XK, (∀ cls d σ' H', σ'.length = 3 → Ech cls d H' → W cls d σ' H') ∧ σ[0]? = some (some (.ref f)) ∧ H c' = some (CodeO c' q) ∧ tl Ech H (fun _ H1 => D.nx σ H1))
      rfl rfl rfl nd rfl h2 ⟨hge, hde, .inl hme⟩ L2.takes0 (fun W pn xe tk _ => ?_) (fun a oe cls d pn _ _ => ?_)) (pss_one (ps_ret (pe_var (i := 1) rfl (.inl h1) d1 d2)))), ?_⟩
  · refine ⟨fun pins s' σ H' D I h' => ?_⟩
    obtain ⟨Ech, hW, h1, h2, h3⟩ := h'
    have hp := act (fun c d σ H => σ.length = 3 → W c d σ H) pn xe Ech p4 p5 (takes_len tk) (fun cls d σ' H' e l => hW cls d σ' H' l e)
    have hq := pss_one (ps_expr (pos := p6) hp)
    exact hq.run pins s' σ H' D I ⟨h1, h2, h3⟩
  · exact pss_one (ps_asg (pe_var (i := 2) rfl (.inl h2) d3 d4) (pg_name (i := 1) nd rfl (.inl h1)))
  · show tSeq _ _ _ [some (.ref f), none, none] H
    refine ⟨fun cls d H' => PySem.W.exmOne X.K cls (.ref CS) = some true ∧ ∀ a, H' a = none → Q (.ref a) (upd H' a (XO cls d a)), fun cls d σ' H' l e => ?_, rfl, hc, ?_⟩
    · obtain ⟨e1, e2⟩ := e
      refine ⟨true, e1, (fun z => nomatch z), fun _ a ha => ?_⟩
      match σ', l with
      | [x0, x1, x2], _ => exact ⟨.ref a, rfl, .ref a, rfl, e2 a ha⟩
    · have e : (fun (_ : V) (H1 : Hp) => Q .non H1) = fun _ H1 => ∃ v, ([some (V.ref f), some V.non, none] : L2.St)[1]? = some (some v) ∧ Q v H1 := by
        funext _ H1
        exact propext ⟨fun z => ⟨.non, rfl, z⟩, fun ⟨v, ev, z⟩ => by cases ev; exact z⟩
      unfold TCau at h
      rw [e] at h
      exact h
end KX
end
section
/-! KX4: what is let out; a def's promise with its own code told; the call of the catching def. -/
namespace KX
open PySem PySem.Spec PyProof.Rows L2 LamX
section
variable {P : Program} {w : World} {K : PySem.W.Frag} {mg : Str → Option Value} {base : Heap}
theorem passX {N : List Str} {qual : Str} {sc : Scope} {f : Addr} {cdv : Value} {A : Around} {outer : List Env} {s : Shared} {H : Hp} {E : XK} :
    Passes (L2.CX P w) (cxOf (L2.CX P w) P w K mg base N qual sc f cdv A outer s H E) E := passes_call (takes_of rfl rfl rfl rfl) (fun _ _ _ _ h => h)
theorem passLam {X : Cx} {A : Around} {outer : List Env} {s : Shared} {H : Hp} {E : XK} {scope : Scope} {f c : Addr} :
    Passes (L2.CX X.prog X.w) (lamCx X A outer s H E scope f c) E := passes_call (takes_of rfl rfl rfl rfl) (fun _ _ _ _ h => h)
/-- as Fun.ok, the def's own code told -/
theorem okC {x qual : Str} {st : Stmt} {f : Addr} {fd : FuncData} {N ps : List Str} {k : Nat} {sp : Sp} (F : Fun K x qual st f fd) (S : FnScope N ps (defScope st)) (len : ∀ vs H Q E, sp vs H Q E → vs.length = ps.length)
    (hbody : ∀ (cdv : Value) (A : Around) (outer : List Env) (s : Shared) (H : Hp) (vs : List V) (Q : VK) (E : XK), fd.code = cdv → Room k (A.deeper (envOfC qual (defScope st) s.heap.objs.size f cdv)) → sp vs H Q E →
      ∃ t, PSs (cxOf CX0 P w K mg base N qual (defScope st) f cdv A outer s H E).nox (defBody st) t ∧ t { nx := fun _ H' => Q .non H', rt := Q } (start N vs) H) : FnOk P w K mg base CX0 (k + 1) f fd ps sp := by
  obtain ⟨oc, od, kV, doc, pm, an, cdv, ct, osl, rfl, lk, hcd⟩ := F.ex
  refine fn_of lk hcd S len fun A outer s H vs Q E hr hsp => ?_
  obtain ⟨t, h, q⟩ := hbody cdv A outer s H vs Q E rfl hr hsp
  exact ⟨t, h.nox, q⟩
end
/-- the text of the catching def -/
structure CauT (st : Stmt) : Prop where
  sc : FnScope ["work", "caught", "error"] ["work"] (defScope st)
  body : ∃ (j : Nat) (p1 p2 p3 p4 p5 p6 p7 p8 p9 p10 p11 p12 p13 p14 : Pos), defBody st = cauBody "work" "caught" "error" "CallError" j p1 p2 p3 p4 p5 p6 p7 p8 p9 p10 p11 p12 p13 p14 p14
  h0 : (defScope st).names.lookup ("work" : Str) = some .local
  h1 : (defScope st).names.lookup ("caught" : Str) = some .local
  h2 : (defScope st).names.lookup ("error" : Str) = some .local
  h3 : (defScope st).names.lookup ("CallError" : Str) = some .globalImplicit
theorem one_tab {P : Addr} {q : Str} : ∀ p ∈ [(P, q)], p.1 = P → p.2 = q := fun p hp _ => by
  rw [List.mem_singleton.mp hp]
theorem pe_cau {X : Cx} {x : Str} {st : Stmt} {f CS c Pt : Addr} {fd : FuncData} {T : List (Addr × Str)} {k : Nat} {params : Arguments} {body : Expr} {scope : Scope} {t : XK → TE} {p lpos pos : Pos}
    (F : Fun X.K x x st f fd) (C : CauT st) (hb : Binds X.K fd ["work"] []) (hg : Gl X x) (hm : X.mg x = some (.ref f)) (hCE : X.mg "CallError" = some (.ref CS)) (TB : TabB X.base X.mg c Pt) (hcode : X.env.code = .ref c)
    (hmT : (Pt, X.env.qual ++ "<lambda>") ∈ T) (hu : ∀ p ∈ T, p.1 = Pt → p.2 = X.env.qual ++ "<lambda>") (hr : Room (k + 2) X.A) (L : LamS X.env.scope scope) (hdef : defaultsOf params X.env = ([], []))
    (hbind : ∀ (q : Str) (cl : List (Str × Addr)) (pm cv ctv : Value), bindArgs (PySem.W.kla_fn "<lambda>" q params body scope cl pm cv ctv) ⟨[], []⟩ = pure [])
    (hbody : ∀ (A : Around) (outer : List Env) (s : Shared) (H : Hp) (E : XK) (f c' : Addr), Room k (A.deeper (lamEnv X scope s.heap.objs.size f c')) → PE (lamCx X A outer s H E scope f c') body (t E))
    (hdb : (x == ("__debug__" : Str)) = false := by decide) : PE X (.Call (.Name x p) [.Lambda params body scope lpos] [] pos) (tLam T (TCau X.K CS) t) := by
  have hF := F.ex
  obtain ⟨oc, od, kV, doc, pm, an, cdv, ct, osl, rfl, lk, hcd⟩ := hF
  obtain ⟨j, p1, p2, p3, p4, p5, p6, p7, p8, p9, p10, p11, p12, p13, p14, eb⟩ := C.body
  have G := caught_gives (X := X) (w := "work") (ca := "caught") (er := "error") (ce := "CallError") (x := x) (q := X.env.qual ++ "<lambda>") (sg := defScope st) (g := f) (CS := CS) (cdg := cdv) (j := j) (p1 := p1) (p2 := p2) (p3 := p3) (p4 := p4) (p5 := p5) (p6 := p6) (p7 := p7) (p8 := p8) (p9 := p9) (p10 := p10) (p11 := p11) (p12 := p12) (p13 := p13) (p14 := p14) (p15 := p14)
    (by decide) C.h1 C.h2 C.h3 hCE (by decide) (by decide) (by decide) (by decide) (by decide)
  rw [← eb] at G
  exact pe_lamcall hg hm F.kp lk hcd hb C.sc rfl (.inl C.h0) G TB hcode hmT hu hr L hdef hbind hbody hdb
end KX
end
section
/-! KU: rules of one's own: a tuple once or not at all, is not of a truth value, // by any number, methods by keywords, tuple of a dict's values. -/
namespace KU
open PySem PySem.Spec PyProof.Rows L2
section
theorem mulOnce (l : Addr) (items : Array Value) (n : Nat) (dd : Option Addr) (u : Tok) (sl : Array (Option Value)) :
    Meets (Builtin.«tuple.__mul__» ⟨[.ref l, .int 1 u], []⟩) (fun _ R s => s.heap.get? l = some { cls := .type "tuple", dict := dd, data := .seq items n, slots := sl } ∧ R (.ok (.ret (.ref l))) s) :=
  .of_wp fun prog w A R s h => by
    obtain ⟨hp, g, d, tk, os⟩ := s
    obtain ⟨hl, h⟩ := h
    have f1 := AutoSeq1.idx_int
    wp_walk using wpAny_loadPart' hl
    repeat (first
      | (refine wpAny_ite_false (by decide) ?_; wp_walk using wpAny_loadPart' hl)
      | (refine wpAny_ite_true (by simp) ?_; wp_walk using wpAny_loadPart' hl))
    exact ⟨_, rfl, h⟩
theorem mulNone (l : Addr) (items : Array Value) (n : Nat) (dd : Option Addr) (x : Int) (u : Tok) (sl : Array (Option Value)) (c0 : (decide (x < -(2 ^ 63)) || decide (x ≥ 2 ^ 63)) = false) (c1 : (items.isEmpty || x == 1) = false) (c2 : (decide (x ≤ 0) || items.isEmpty) = true) :
    Meets (Builtin.«tuple.__mul__» ⟨[.ref l, .int x u], []⟩) (fun _ R s => s.heap.get? l = some { cls := .type "tuple", dict := dd, data := .seq items n, slots := sl } ∧
      R (.ok (.ret (.ref s.heap.objs.size))) { s with heap := s.heap.push { cls := .type "tuple", data := .seq #[] }, toks := s.toks }) :=
  .of_wp fun prog w A R s h => by
    obtain ⟨hp, g, d, tk, os⟩ := s
    obtain ⟨hl, h⟩ := h
    have f1 := AutoSeq1.idx_int
    wp_walk using wpAny_loadPart' hl
    repeat (first
      | (refine wpAny_ite_false (decide_eq_false (by rw [c0]; exact Bool.false_ne_true)) ?_; wp_walk using wpAny_loadPart' hl)
      | (refine wpAny_ite_false (decide_eq_false (by rw [c1]; exact Bool.false_ne_true)) ?_; wp_walk using wpAny_loadPart' hl)
      | (refine wpAny_ite_true (decide_eq_true (by rw [c2])) ?_; wp_walk using wpAny_loadPart' hl))
    exact ⟨_, rfl, h⟩
end
/-- t * k, t not empty, k from 0 to 1000 -/
def rRepA (K : PySem.W.Frag) : R2 := fun x y H Q => ∃ l k xs, x = .ref l ∧ y = .int k ∧ SqT K H l xs ∧ xs ≠ [] ∧ 0 ≤ k ∧ k ≤ 1000 ∧ xs.length ≤ 1000 ∧ (k = 1 → Q (.ref l) H) ∧ (k ≠ 1 → ∀ p, H p = none → Q (.ref p) (upd H p (.tup (List.replicate k.toNat xs).flatten)))
section
variable {X : Cx}
theorem op_repA : OpR X (binaryOp .Mult) (rRepA X.K) := by
  intro pins s σ H x y v u Q I rx ry h
  obtain ⟨l, k, xs, rfl, rfl, hT, hne, h1, h2, hz, q1, q2⟩ := h
  by_cases hk : 2 ≤ k
  · exact op_repT pins s σ H _ _ v u Q I rx ry ⟨l, k, xs, rfl, rfl, hT, hne, hk, h2, hz, q2 (by omega)⟩
  cases rx
  obtain ⟨t, rfl⟩ := ry
  obtain ⟨its, r, ⟨⟨cls, dd, data, sl⟩, ho, hc, n, hd⟩, hs⟩ := I.tuple hT
  simp only at hc hd
  subst hc hd
  have hle : its.length = xs.length := r.length.symm
  have hi : its.toArray.isEmpty = false := by
    cases its with
    | nil => exact absurd (List.eq_nil_of_length_eq_zero hle.symm) hne
    | cons a b => rfl
  refine wpAny_binaryOp_repeat_ref (T := "tuple") (U := "int") (by decide) ⟨_, ho, rfl⟩ (fun s' => typeIs_int s' k t) noFill_tuple_mul F.fills_int_mul F.slot_int_rmul repeat_tuple F.slot_int_index.lookup
    (call_meets F.slot_int_rmul (typeIs_int s k t) F.entry_int_rmul (F.args_int_rmul_2 _ _) (int_rmul_tuple k t l its.toArray n dd sl) ⟨ho, rfl, ⟨_, ho, rfl⟩, ?_⟩)
  by_cases k1 : k = 1
  · subst k1
    exact call_meets F.slot_tuple_mul ⟨_, ho, rfl⟩ F.entry_tuple_mul (F.args_tuple_mul_2 _ _) (mulOnce l its.toArray n dd t sl) ⟨ho, .ref l, H, I, rfl, q1 rfl⟩
  · have k0 : k = 0 := by omega
    subst k0
    refine call_meets F.slot_tuple_mul ⟨_, ho, rfl⟩ F.entry_tuple_mul (F.args_tuple_mul_2 _ _) (mulNone l its.toArray n dd 0 t sl (by decide) (by rw [hi]; rfl) (by rw [hi]; rfl)) ⟨ho, ?_⟩
    have e : (List.replicate (0 : Int).toNat xs).flatten = [] := rfl
    have q := q2 (by decide)
    rw [e] at q
    exact ⟨.ref s.heap.objs.size, _, I.laid (t' := s.toks) (o := .tup []) (fun b ob q => Heap.get?_push_of_some _ q) (Nat.le_refl _) ⟨Nat.zero_le _, [], .nil, IsTup.new _ _⟩, rfl, q _ (I.hok.fresh (Nat.le_refl _))⟩
/-- x is not b, b a truth value -/
def isBlV (x : V) (b : Bool) : Bool := match x with | .bl a => decide (a = b) | _ => false
def rNotBA : R2 := fun x y H Q => ∃ b : Bool, y = .bl b ∧ Q (.bl (!isBlV x b)) H
theorem op_notBA : OpR X (compareOp .IsNot) rNotBA := by
  intro pins s σ H x y v u Q I rx ry h
  obtain ⟨b, rfl, q⟩ := h
  have other : ∀ {w : Value}, v = w → (∀ c, w ≠ .bool c) → (∀ c, plainIs w (.bool c) = true) → Q (.bl true) H → wpAny (model X.prog X.w) X.A (compareOp .IsNot v u) (EP X pins σ Q) X.xe s := fun {w} e n pl q => by
    subst e
    cases (show u = Value.bool b from ry)
    exact wpAny_isNot_other (pl b) (fun z => n b z) ⟨.bl true, H, I, rfl, q⟩
  cases x with
  | bl a => exact op_notBl pins s σ H _ _ v u Q I rx ry ⟨a, b, rfl, rfl, q⟩
  | non => exact other (show v = Value.none from rx) (fun c z => nomatch z) (fun _ => rfl) q
  | int i => obtain ⟨t, e⟩ := rx; exact other e (fun c z => nomatch z) (fun _ => rfl) q
  | str i => obtain ⟨t, e⟩ := rx; exact other e (fun c z => nomatch z) (fun _ => rfl) q
  | ref a => exact other (show v = Value.ref a from rx) (fun c z => nomatch z) (fun _ => rfl) q
  | byt a => obtain ⟨t, e⟩ := rx; exact other e (fun c z => nomatch z) (fun _ => rfl) q
  | flt a => obtain ⟨t, e⟩ := rx; exact other e (fun c z => nomatch z) (fun _ => rfl) q
  | ty a => exact other (show v = Value.type a from rx) (fun c z => nomatch z) (fun _ => rfl) q
/-- // by any number but 0 below 9000 bits -/
def CDivA (_ j : Int) : Prop := j ≠ 0 ∧ j.natAbs.log2 < 9000
theorem op_dvA : OpR X (binaryOp .FloorDiv) (rI CDivA fun i j => .int (i.fdiv j)) := opI fun i j _ _ _ _ _ hc q => floordiv_int hc.1 q (.inl (PyProof.noPylong_of_log2 hc.2))
end
end KU
end
section
/-! KV: tuple(d.values()); methods called by keywords. -/
namespace KV
open PySem PySem.Spec PyProof.Rows L2 PySem.W
section
variable {prog : Program} {w : World} {A : Around} {E : Value → Shared → Prop} {s : Shared} {T : String} {r d : Addr} {n : Nat} {P : Nat → Value → Prop} {OK : Heap → Prop}
theorem collect_src {Q : List Value → Shared → Prop} (K : KdlSrc prog w T r d n P OK) (hh : A.handled = none) (hok : OK s.heap) (hn : n ≤ sizeLine)
    (hQ : ∀ (h' : Heap) (tk : Nat) (acc : Array Value), (∀ b o, s.heap.get? b = some o → h'.get? b = some o) → ItemsOf P acc n → Q acc.toList { s with heap := h', toks := tk }) : wpAny (model prog w) A (collect (.ref r)) Q E s := by
  obtain ⟨lr, ld⟩ := K.there _ hok
  unfold collect
  refine wpAny_bind (wpAny_runValue (codeAny_builtin F.entry_proto_collect ?_))
  rw [Around.under_plainId F.plain_proto_collect _]
  show wpAny _ A.in1 (newList [] >>= fun l => again (.builtin "list.__iadd__" ⟨[l, .ref r], []⟩)) _ _ s
  refine wpAny_bind (wpAny_newObj_type (wpAny_pure ⟨plainId_quiet F.plain_list_iadd _, codeAny_builtin F.entry_list_iadd ?_⟩))
  rw [Around.under_plainId F.plain_list_iadd _]
  show wpAny _ A.in1 (Builtin.List.listExtendWith (.ref s.heap.objs.size) (.ref r) (.ref s.heap.objs.size)) _ _ _
  have up : ∀ b o, s.heap.get? b = some o → (s.heap.push { cls := .type "list", data := .seq ([] : List Value).toArray }).get? b = some o := fun b o q => Heap.get?_push_of_some _ q
  have hok1 : OK (s.heap.push { cls := .type "list", data := .seq ([] : List Value).toArray }) := K.keep _ _ hok fun b _ o q => up b o q
  refine wpAny_mono (kdl_extend (A := A) (R := fun rr s' => rr = .ok (.ret (.ref s.heap.objs.size)) ∧ ∃ (h' : Heap) (tk : Nat) (acc : Array Value) (c' : Nat), s' = { s with heap := h', toks := tk } ∧
      (∀ b o, s.heap.get? b = some o → h'.get? b = some o) ∧ h'.get? s.heap.objs.size = some { cls := .type "list", dict := none, data := .seq acc c', slots := #[] } ∧ ItemsOf P acc n)
    (s := { s with heap := s.heap.push { cls := .type "list", data := .seq ([] : List Value).toArray } }) K hh hok1 s.heap.objs.size (Nat.ne_of_gt lr) (Nat.ne_of_gt ld) _ 0 (Heap.get?_push_size _ rfl)
    (fun h' tk acc c' hk e hi => ⟨rfl, h', tk, acc, c', rfl, fun b o q => hk b o (Nat.ne_of_lt (Heap.lt_size q)) (up b o q), e, hi⟩) hn) (fun fin s' h => ?_) (fun e s' h => absurd h.1 (by simp))
  have fin_ : ∀ {rr : Result} {s'' : Shared}, (rr = .ok (.ret (.ref s.heap.objs.size)) ∧ ∃ (h' : Heap) (tk : Nat) (acc : Array Value) (c' : Nat), s'' = { s with heap := h', toks := tk } ∧
      (∀ b o, s.heap.get? b = some o → h'.get? b = some o) ∧ h'.get? s.heap.objs.size = some { cls := .type "list", dict := none, data := .seq acc c', slots := #[] } ∧ ItemsOf P acc n) →
      rr = .ok (.ret (.ref s.heap.objs.size)) ∧ wpAny (model prog w) A (load s.heap.objs.size >>= fun o => match o.data with | .seq its _ => pure its.toList | _ => unsupported "internal:collect") Q E s'' := by
    rintro rr s'' ⟨e, h', tk, acc, c', rfl, hk, hS, hi⟩
    exact ⟨e, wpAny_bind (wpAny_load hS (wpAny_pure (hQ h' tk acc hk hi)))⟩
  cases fin with
  | done f =>
    obtain ⟨e, z⟩ := fin_ h
    cases e
    exact z
  | again c' =>
    refine ⟨h.1, codeAny_mono h.2 fun rr s'' hr' => ?_⟩
    obtain ⟨e, z⟩ := fin_ hr'
    subst e
    exact z
theorem tuple_new_src {Q₁ : Value → Shared → Prop} (K : KdlSrc prog w T r d n P OK) (hh : A.handled = none) (hok : OK s.heap) (hn : n ≤ sizeLine)
    (h : ∀ (h' : Heap) (tk : Nat) (acc : Array Value), (∀ b o, s.heap.get? b = some o → h'.get? b = some o) → ItemsOf P acc n → Q₁ (.ref h'.objs.size) { s with heap := h'.push { cls := .type "tuple", data := .seq acc }, toks := tk }) :
    codeAny (model prog w) A (.call (.builtin "tuple.__new__") ⟨[.type "tuple", .ref r], []⟩) (wants Q₁ E) s := by
  refine codeAny_of_tree ?_
  show wpAny _ A.in1 (do checkBuiltinCall "tuple.__new__" ⟨[.type "tuple", .ref r], []⟩; again (.builtin "tuple.__new__" ⟨[.type "tuple", .ref r], []⟩)) _ _ s
  refine wpAny_bind (wpAny_of_eq (F.newCall_tuple_1 _) (wpAny_pure ⟨plainId_quiet F.plain_tuple_new _, codeAny_builtin F.entry_tuple_new ?_⟩))
  rw [Around.under_plainId F.plain_tuple_new _]
  have hsub := sub_tuple_self
  have hinit := init_tuple_lookup
  have hmh := madeHere_tuple
  have hTI := K.type s hok
  have hnt := K.notTuple
  have hh1 : A.in1.handled = none := hh
  wp_walk using wpAny_typeOf hTI, collect_src (A := A.in1) K hh1 hok hn
  all_goals try (rw [hnt])
  intro h' tk acc hk hacc
  show wpAny _ _ (Builtin.Tuple.tupleExact acc.toList.toArray >>= fun v => ret v) _ _ _
  unfold Builtin.Tuple.tupleExact
  have e : acc.toList.toArray = acc := by simp
  rw [e]
  exact wpAny_bind (wpAny_newObj_type (wpAny_pure (h h' tk acc hk hacc)) (by show acc.size ≤ sizeLine; rw [hacc.1]; exact hn))
theorem call_tuple_src {Q : Value → Shared → Prop} (K : KdlSrc prog w T r d n P OK) (hh : A.handled = none) (hok : OK s.heap) (hn : n ≤ sizeLine)
    (hQ : ∀ (h' : Heap) (tk : Nat) (acc : Array Value), (∀ b o, s.heap.get? b = some o → h'.get? b = some o) → ItemsOf P acc n → Q (.ref h'.objs.size) { s with heap := h'.push { cls := .type "tuple", data := .seq acc }, toks := tk }) :
    wpAny (model prog w) A (call (.type "tuple") [.ref r]) Q E s := by
  refine callType_codes (Q₁ := fun obj s₁ => s₁.TypeIs obj "tuple" ∧ Q obj s₁) F.called_tuple (F.typeCall_tuple_1 _) F.entry_object_init
    (tuple_new_src (A := A.in1) K hh hok hn fun h' tk acc hk hacc => ⟨⟨_, Heap.get?_push_size _ rfl, rfl⟩, hQ h' tk acc hk hacc⟩) fun obj s₁ h₁ => ?_
  exact ⟨h₁.1, F.args_object_init_2 obj _, object_init_meets F.called_tuple.init.lookup F.called_tuple.made (by decide) prog w A.in1 _ s₁ ⟨h₁.1, rfl, h₁.2⟩⟩
end
/-- d.values(), a view of d at p -/
def valsO (p d : Addr) : HO := .ext fun h => h.IsValuesView p d
theorem valsO_ok {P : Program} {w : World} {H : Hp} {h : Heap} {p d : Addr} (e : h.get? p = some { cls := .type "dict_values", data := .fields #[.ref d] }) : ObjOk P w H h p (valsO p d) :=
  ⟨⟨_, e, rfl, rfl⟩, ⟨_, e⟩, fun _ _ ⟨o, e, r⟩ k => ⟨o, k _ e, r⟩⟩
def rVals : V → List V → Hp → VK → Prop := fun x xs H Q => ∃ (d : Addr) (kvs : List (L2.Key × V)), x = .ref d ∧ xs = [] ∧ H d = some (.dK kvs) ∧ ∀ p, H p = none → Q (.ref p) (upd H p (valsO p d))
theorem paired_at {α β : Type} {R : α → β → Prop} : ∀ {l : List α} {m : List β}, Paired R l m → ∀ {i : Nat} {a : α} {b : β}, l[i]? = some a → m[i]? = some b → R a b
  | _, _, .nil, i, a, b, h, _ => by simp at h
  | _, _, .cons r rr, 0, a, b, h, g => by simp at h g; subst h; subst g; exact r
  | _, _, .cons r rr, i + 1, a, b, h, g => paired_at rr (by simpa using h) (by simpa using g)
section
variable {X : Cx}
theorem mt_values : MtR X "dict.values" rVals := by
  intro pins s σ H x xs v us Q I rx rxs h
  obtain ⟨d, kvs, rfl, rfl, hd, q⟩ := h
  cases rx
  cases rxs
  obtain ⟨_, ns, vs, _, hm⟩ := dk_of I.hok hd
  have hmT : s.TypeIs (.ref d) "dict" := hm.typeIs
  have fr : H s.heap.objs.size = none := I.hok.fresh (Nat.le_refl _)
  refine call_meetsIn PySem.F.slot_dict_values hmT PySem.F.entry_dict_values (PySem.F.args_dict_values_1 _) (meets_dict_values (mixKind X.prog X.w) d ns) ⟨⟨_, hm⟩, ?_⟩
  exact ⟨V.ref s.heap.objs.size, _, I.laid (t' := s.toks) (fun b u e => Heap.get?_push_of_some _ e) (Nat.le_refl _) (valsO_ok (Heap.get?_push_size _ rfl)), rfl, q _ fr⟩
def rTupV : List V → Hp → VK → Prop := fun xs H Q => ∃ (p d : Addr) (kvs : List (L2.Key × V)), xs = [.ref p] ∧ H p = some (valsO p d) ∧ H d = some (.dK kvs) ∧ ∀ q, H q = none → Q (.ref q) (upd H q (.tup (kvs.map (·.2))))
theorem call_tupV (hc : X.calm = true) : CallR X (.type "tuple") rTupV := by
  intro pins s σ H xs us Q I r h
  obtain ⟨p, d, kvs, rfl, hp, hd, q⟩ := h
  obtain ⟨u, rfl, ru⟩ := vals1 r
  obtain rfl : u = Value.ref p := ru
  obtain ⟨hl, ns, vs, kv, hm⟩ := dk_of I.hok hd
  have view : s.heap.IsValuesView p d := (show ObjOk X.prog X.w H s.heap p (valsO p d) from I.hok p _ hp).1
  obtain ⟨o, es, ep, a1, a2, a3, a4, a5, a6⟩ := hm
  have len : vs.length = kvs.length := (Paired.length kv).symm
  refine call_tuple_src (kdl_values (knd := mixKind X.prog X.w) (r := p) (d := d) (kvs := vs)) (I.ok.hd hc) ⟨view, o, es, a1, a2, a3, a4, a5, a6⟩ (by rw [len]; exact hl) fun h' tk acc hk hacc => ?_
  have I1 : Inv X pins σ H { s with heap := h', toks := tk } := I.kept (t' := tk) hk
  have rv : Vals (kvs.map (·.2)) acc.toList := vals_of_at (by have := hacc.1; simp only [List.length_map, Array.length_toList]; omega) fun j x u h1 h2 => by
    rw [List.getElem?_map] at h1
    obtain ⟨e, e1, rfl⟩ := Option.map_eq_some_iff.mp h1
    rw [Array.getElem?_toList] at h2
    have hj : j < vs.length := by
      rw [len]
      exact (List.getElem?_eq_some_iff.mp e1).1
    obtain ⟨k, hk'⟩ := hacc.2 j u h2
    exact (paired_at kv e1 hk').2
  have fr : H h'.objs.size = none := I1.hok.fresh (Nat.le_refl _)
  refine ⟨.ref h'.objs.size, _, I1.laid (t' := tk) (o := .tup (kvs.map (·.2))) (fun b o e => Heap.get?_push_of_some _ e) (Nat.le_refl _) ?_, rfl, q _ fr⟩
  exact ⟨by rw [List.length_map]; exact hl, acc.toList, rv, IsTup.new _ _⟩
/-- o.m(k = v, ..) -/
def tMethK (C : Addr) (m : Str) (n : Nat) (sp : Sp) (gV : List V → List V → List V) (E : XK) (ta : TE) (tk : TA) : TE := fun σ H Q => ta σ H fun x H1 => ∃ a dx fs, x = .ref a ∧ H1 a = some (.ins C dx fs) ∧ fs.lookup m = none ∧
  tk σ H1 fun zs H2 => zs.length = n ∧ sp (gV [x] zs) H2 Q E
theorem pe_methK0 {CX : CXT} {k : Nat} {f C : Addr} {fd : FuncData} {ps ks : List Str} {sp : Sp} {E : XK} {m : Str} {apos pos : Pos} {o : Expr} {kws : List Keyword} {ta : TE} {tk : TA} {g : List Value → List Value → List Value} {gV : List V → List V → List V} {pl : Sem Bool}
    (he : PE X o ta) (c : Cls X.K C) (hm : Meth X.K C m f) (F : FnOk X.prog X.w X.K X.mg X.base CX k f fd ps sp) (hr : Room k X.A) (hb : KBn X.K fd ps 1 ks g gV) (hx : Passes CX X E) (hkw : PK X kws tk)
    (hall : (backToKw pos (keywordEach kws X.env)).all (·.1.isSome) = true := by rfl) (hks : (backToKw pos (keywordEach kws X.env)).filterMap (·.1) = ks := by rfl)
    (hpl : ((backTo pos (starEach [] X.env)).any (·.1) || (backToKw pos (keywordEach kws X.env)).any (·.1.isNone)) = false := by rfl)
    (ht : eval (.Call (.Attribute o m apos) [] kws pos) X.env = (do
      let ov ← eval o X.env
      standAt apos.atName
      let (f, first) ← holding [ov] (getMethod ov m pl)
      callWith pos f first (backTo pos (starEach [] X.env)) (backToKw pos (keywordEach kws X.env))) := by rfl) :
    PE X (.Call (.Attribute o m apos) [] kws pos) (tMethK C m ks.length sp gV E ta tk) := by
  constructor
  intro pins s σ H Q I h
  refine PySem.W.methodCall_KW (pl := pl) (thn (he.run pins s σ H _ I h) fun u s1 ⟨x, H1, I1, rx, a, dx, fs, ex, ea, l, q⟩ => ?_) ht
  subst ex
  obtain rfl : u = Value.ref a := rx
  refine getmeth_ok I1 ea c hm l ?_
  refine PySem.W.callWith_KW0 (first := [.ref a]) (h₀ := X.base) I.ok.mod.kin hm.kp hall ?_ hpl
  refine thn (hkw.run pos pins s1 σ H1 _ I1 q) fun ws s2 ⟨zs, H2, I2, rz, l2, q2⟩ => ⟨I2.kIn, ?_⟩
  rw [hks]
  have r2 := hb.rel (vs := [V.ref a]) (us := [Value.ref a]) (.cons rfl .nil) rz
  refine wpAny_call (codeAny_mono (F.run X.A X.stack s2 H2 ⟨[.ref a], ks.zip ws⟩ (g [.ref a] ws) (gV [.ref a] zs) Q E hr I2.env0 (hb.to s2 [.ref a] ws I2.kIn rfl (by rw [← rz.length]; exact l2)) r2 q2) ?_)
  intro res s' hq
  match res, hq with
  | .error e, hq => exact hx pins σ H2 s2 e s' I2 hq
  | .ok (.ret u), hq => exact I2.after hq
end
end KV
end
section
/-! KR2: reduced rows, as functions of places: the one form of a space. No program here. -/
namespace KR
abbrev Vec := Nat → Rat
abbrev Rd := List (Nat × Vec)
/-- one row less another one, so that the place p is cleared -/
def sb (v : Vec) (z : Nat × Vec) : Vec := fun j => v j - z.2 j * v z.1
def clr (L : Rd) (v : Vec) : Vec := L.foldl sb v
structure Red (L : Rd) : Prop where
  low : ∀ z ∈ L, ∀ j, j < z.1 → z.2 j = 0
  one : ∀ z ∈ L, z.2 z.1 = 1
  oth : ∀ z ∈ L, ∀ y ∈ L, z.1 ≠ y.1 → z.2 y.1 = 0
  asc : L.Pairwise (fun a b => a.1 < b.1)
theorem Red.tail {z : Nat × Vec} {L : Rd} (r : Red (z :: L)) : Red L :=
  ⟨fun y h => r.low y (.tail _ h), fun y h => r.one y (.tail _ h), fun y h x g => r.oth y (.tail _ h) x (.tail _ g), (List.pairwise_cons.mp r.asc).2⟩
theorem Red.hd {z : Nat × Vec} {L : Rd} (r : Red (z :: L)) : ∀ y ∈ L, z.2 y.1 = 0 ∧ y.2 z.1 = 0 ∧ z.1 < y.1 := fun y h => by
  have l := (List.pairwise_cons.mp r.asc).1 y h
  exact ⟨r.oth z (.head _) y (.tail _ h) (by omega), r.oth y (.tail _ h) z (.head _) (by omega), l⟩
/-- a place that no row touches stays -/
theorem clr_same : ∀ {L : Rd} {v : Vec} {p : Nat}, Red L → (∀ z ∈ L, v z.1 = 0 ∨ z.2 p = 0) → clr L v p = v p
  | [], _, _, _, _ => rfl
  | z :: L, v, p, r, h => by
    show clr L (sb v z) p = v p
    have hz : sb v z p = v p := by
      unfold sb
      rcases h z (.head _) with e | e <;> rw [e] <;> grind
    rw [clr_same r.tail (fun y hy => ?_), hz]
    have o := (r.hd y hy).1
    rcases h y (.tail _ hy) with e | e
    · left
      unfold sb
      rw [e, o]; grind
    · exact .inr e
theorem clr_lead : ∀ {L : Rd} {v : Vec} {z : Nat × Vec}, Red L → z ∈ L → clr L v z.1 = 0
  | y :: L, v, z, r, h => by
    show clr L (sb v y) z.1 = 0
    rcases List.mem_cons.mp h with e | e
    · subst e
      rw [clr_same r.tail (fun x hx => .inr (r.hd x hx).2.1)]
      unfold sb
      rw [r.one z (.head _)]; grind
    · exact clr_lead r.tail e
theorem clr_lin : ∀ (L : Rd) (u v : Vec) (a b : Rat), clr L (fun j => a * u j + b * v j) = fun j => a * clr L u j + b * clr L v j
  | [], _, _, _, _ => rfl
  | z :: L, u, v, a, b => by
    show clr L (sb _ z) = fun j => a * clr L (sb u z) j + b * clr L (sb v z) j
    rw [← clr_lin L (sb u z) (sb v z) a b]
    congr 1
    funext j
    unfold sb
    grind
theorem clr_own {L : Rd} (r : Red L) {z : Nat × Vec} (h : z ∈ L) : ∀ j, clr L z.2 j = 0 := by
  induction L with
  | nil => cases h
  | cons y L ih =>
    intro j
    show clr L (sb z.2 y) j = 0
    rcases List.mem_cons.mp h with e | e
    · subst e
      have e0 : sb z.2 z = fun _ => 0 := by
        funext i
        unfold sb
        rw [r.one z (.head _)]; grind
      rw [e0, clr_same r.tail fun _ _ => .inl rfl]
    · have e0 : sb z.2 y = z.2 := by
        funext i
        unfold sb
        rw [(r.hd z e).2.1]; grind
      rw [e0]
      exact ih r.tail e j
/-- a space -/
structure Sub (S : Vec → Prop) : Prop where
  lin : ∀ u v a b, S u → S v → S fun j => a * u j + b * v j
theorem sub_clr (L : Rd) : Sub fun v => ∀ j, clr L v j = 0 := ⟨fun u v a b hu hv j => by rw [clr_lin]; show a * clr L u j + b * clr L v j = 0; rw [hu, hv]; grind⟩
theorem Sub.clr {S : Vec → Prop} (s : Sub S) : ∀ {L : Rd} {v : Vec}, (∀ z ∈ L, S z.2) → (S (clr L v) ↔ S v)
  | [], _, _ => Iff.rfl
  | z :: L, v, h => by
    show S (KR.clr L (sb v z)) ↔ S v
    rw [s.clr fun y hy => h y (.tail _ hy)]
    have hz := h z (.head _)
    constructor
    · intro g
      have q := s.lin _ _ 1 (v z.1) g hz
      have e : (fun j => 1 * sb v z j + v z.1 * z.2 j) = v := by
        funext j
        unfold sb
        grind
      rwa [e] at q
    · intro g
      have q := s.lin _ _ 1 (-v z.1) g hz
      have e : (fun j => 1 * v j + -v z.1 * z.2 j) = sb v z := by
        funext j
        unfold sb
        grind
      rwa [e] at q
/-- two reduced forms of one space are the same -/
theorem lead_in {L M : Rd} (r : Red L) (q : Red M) (h : ∀ y ∈ M, ∀ j, clr L y.2 j = 0) : ∀ y ∈ M, ∃ z ∈ L, z.1 = y.1 := fun y hy => by
  refine Classical.byContradiction fun n => ?_
  have e := clr_same (p := y.1) (v := y.2) r fun z hz => by
    have d : z.1 ≠ y.1 := fun z' => n ⟨z, hz, z'⟩
    rcases Nat.lt_or_ge z.1 y.1 with l | l
    · exact .inl (q.low y hy _ l)
    · exact .inr (r.low z hz _ (by omega))
  rw [h y hy, q.one y hy] at e
  exact absurd e (by decide)
theorem row_same {L M : Rd} (r : Red L) (q : Red M) (hL : ∀ z ∈ L, ∃ y ∈ M, y.1 = z.1) (h : ∀ y ∈ M, ∀ j, clr L y.2 j = 0) {z y : Nat × Vec} (hz : z ∈ L) (hy : y ∈ M) (e : z.1 = y.1) : z.2 = y.2 := by
  have k : ∀ j, clr L (fun j => 1 * z.2 j + -1 * y.2 j) j = 0 := fun j => by
    rw [clr_lin]
    show 1 * clr L z.2 j + -1 * clr L y.2 j = 0
    rw [clr_own r hz, h y hy]; grind
  funext j
  have := k j
  rw [clr_same r fun x hx => .inl ?_] at this
  · have t : 1 * z.2 j + -1 * y.2 j = 0 := this
    grind
  · show 1 * z.2 x.1 + -1 * y.2 x.1 = 0
    by_cases d : x.1 = z.1
    · rw [d, r.one z hz, e, q.one y hy]; grind
    · obtain ⟨y', hy', e'⟩ := hL x hx
      rw [r.oth z hz x hx (fun t => d t.symm), ← e', q.oth y hy y' hy' (fun t => d (by omega))]; grind
theorem leads_same : ∀ {L M : List Nat}, L.Pairwise (· < ·) → M.Pairwise (· < ·) → (∀ x, x ∈ L ↔ x ∈ M) → L = M
  | [], [], _, _, _ => rfl
  | [], y :: M, _, _, h => absurd ((h y).mpr (.head _)) (by simp)
  | x :: L, [], _, _, h => absurd ((h x).mp (.head _)) (by simp)
  | x :: L, y :: M, hL, hM, h => by
    obtain ⟨a1, a2⟩ := List.pairwise_cons.mp hL
    obtain ⟨b1, b2⟩ := List.pairwise_cons.mp hM
    have e : x = y := by
      rcases List.mem_cons.mp ((h x).mp (.head _)) with e | e
      · exact e
      · rcases List.mem_cons.mp ((h y).mpr (.head _)) with e' | e'
        · exact e'.symm
        · have := a1 y e'; have := b1 x e; omega
    subst e
    rw [leads_same a2 b2 fun t => ?_]
    have := h t
    simp only [List.mem_cons] at this
    constructor
    · intro m
      rcases this.mp (.inr m) with e | e
      · subst e; exact absurd (a1 t m) (Nat.lt_irrefl _)
      · exact e
    · intro m
      rcases this.mpr (.inr m) with e | e
      · subst e; exact absurd (b1 t m) (Nat.lt_irrefl _)
      · exact e
theorem red_same {L M : Rd} (r : Red L) (q : Red M) (h1 : ∀ y ∈ M, ∀ j, clr L y.2 j = 0) (h2 : ∀ z ∈ L, ∀ j, clr M z.2 j = 0) : L = M := by
  have l1 := lead_in r q h1
  have l2 := lead_in q r h2
  have e : L.map (·.1) = M.map (·.1) := leads_same (List.pairwise_map.mpr r.asc) (List.pairwise_map.mpr q.asc) fun x => by
    simp only [List.mem_map]
    constructor
    · rintro ⟨z, hz, rfl⟩; obtain ⟨y, hy, e⟩ := l2 z hz; exact ⟨y, hy, e⟩
    · rintro ⟨y, hy, rfl⟩; obtain ⟨z, hz, e⟩ := l1 y hy; exact ⟨z, hz, e⟩
  refine List.ext_getElem (by simpa using congrArg List.length e) fun i a b => ?_
  have ei : (L[i]).1 = (M[i]).1 := by
    have := congrArg (fun l => l[i]?) e
    simpa [a, b] using this
  exact Prod.ext ei (row_same r q l2 h1 (List.getElem_mem a) (List.getElem_mem b) ei)
end KR
namespace KR
/-! ### one row more -/
def fst (w : Nat) (v : Vec) : Option Nat := (List.range w).find? fun j => decide (v j ≠ 0)
theorem fst_some {w : Nat} {v : Vec} {p : Nat} (h : fst w v = some p) : p < w ∧ v p ≠ 0 ∧ ∀ j, j < p → v j = 0 := by
  unfold fst at h
  rw [List.find?_range_eq_some] at h
  refine ⟨by simpa using h.2.1, by simpa using h.1, fun j hj => ?_⟩
  have := h.2.2 j hj
  simpa using this
theorem fst_none {w : Nat} {v : Vec} (h : fst w v = none) : ∀ j, j < w → v j = 0 := fun j hj => by
  unfold fst at h
  rw [List.find?_eq_none] at h
  have := h j (by simpa using hj)
  simpa using this
/-- the new row -/
def nrm (v : Vec) (p : Nat) : Vec := fun j => v j * (v p)⁻¹
def ins (L : Rd) (x : Nat × Vec) : Rd := L.filter (fun z => decide (z.1 < x.1)) ++ x :: L.filter (fun z => !decide (z.1 < x.1))
def put (L : Rd) (p : Nat) (o : Vec) : Rd := ins (L.map fun z => (z.1, sb z.2 (p, o))) (p, o)
def step (w : Nat) (L : Rd) (v : Vec) : Rd := match fst w (clr L v) with
  | none => L
  | some p => put L p (nrm (clr L v) p)
theorem mem_ins {L : Rd} {x z : Nat × Vec} : z ∈ ins L x ↔ z = x ∨ z ∈ L := by
  unfold ins
  simp only [List.mem_append, List.mem_cons, List.mem_filter]
  constructor
  · rintro (⟨h, _⟩ | h | ⟨h, _⟩)
    · exact .inr h
    · exact .inl h
    · exact .inr h
  · rintro (h | h)
    · exact .inr (.inl h)
    · cases e : decide (z.1 < x.1)
      · exact .inr (.inr ⟨h, by simp⟩)
      · exact .inl ⟨h, rfl⟩
theorem mem_put {L : Rd} {p : Nat} {o : Vec} {z : Nat × Vec} : z ∈ put L p o ↔ z = (p, o) ∨ ∃ y ∈ L, z = (y.1, sb y.2 (p, o)) := by
  unfold put
  rw [mem_ins, List.mem_map]
  constructor
  · rintro (h | ⟨y, h, e⟩)
    · exact .inl h
    · exact .inr ⟨y, h, e.symm⟩
  · rintro (h | ⟨y, h, e⟩)
    · exact .inl h
    · exact .inr ⟨y, h, e.symm⟩
theorem red_put {L : Rd} {p : Nat} {o : Vec} (r : Red L) (ho : o p = 1) (hl : ∀ j, j < p → o j = 0) (hz : ∀ z ∈ L, o z.1 = 0) : Red (put L p o) := by
  have np : ∀ z ∈ L, z.1 ≠ p := fun z h e => by
    have := hz z h
    rw [e, ho] at this
    exact absurd this (by decide)
  refine ⟨fun z h j hj => ?_, fun z h => ?_, fun z h y g d => ?_, ?_⟩
  · rcases mem_put.mp h with rfl | ⟨y, hy, rfl⟩
    · exact hl j hj
    · show y.2 j - o j * y.2 p = 0
      rw [r.low y hy j hj]
      rcases Nat.lt_or_ge p y.1 with l | l
      · rw [r.low y hy p l]; grind
      · rw [hl j (by have := np y hy; have : j < y.1 := hj; omega)]; grind
  · rcases mem_put.mp h with rfl | ⟨y, hy, rfl⟩
    · exact ho
    · show y.2 y.1 - o y.1 * y.2 p = 1
      rw [r.one y hy, hz y hy]; grind
  · rcases mem_put.mp h with rfl | ⟨x, hx, rfl⟩ <;> rcases mem_put.mp g with rfl | ⟨u, hu, rfl⟩
    · exact absurd rfl d
    · exact hz u hu
    · show x.2 p - o p * x.2 p = 0
      rw [ho]; grind
    · show x.2 u.1 - o u.1 * x.2 p = 0
      rw [r.oth x hx u hu d, hz u hu]; grind
  · have a1 : (L.map fun z => (z.1, sb z.2 (p, o))).Pairwise (fun a b => a.1 < b.1) := List.pairwise_map.mpr r.asc
    unfold put ins
    refine List.pairwise_append.mpr ⟨a1.filter _, List.pairwise_cons.mpr ⟨fun z hz' => ?_, a1.filter _⟩, fun z hz' y hy' => ?_⟩
    · obtain ⟨h1, h2⟩ := List.mem_filter.mp hz'
      obtain ⟨x, hx, rfl⟩ := List.mem_map.mp h1
      have := np x hx
      have h3 : ¬ x.1 < p := by simpa using h2
      show p < x.1
      omega
    · obtain ⟨h1, h2⟩ := List.mem_filter.mp hz'
      have h3 : z.1 < p := by simpa using h2
      rcases List.mem_cons.mp hy' with rfl | h
      · exact h3
      · obtain ⟨_, h4⟩ := List.mem_filter.mp h
        have h5 : ¬ y.1 < p := by simpa using h4
        show z.1 < y.1
        omega
theorem step_facts {w : Nat} {L : Rd} {v : Vec} {p : Nat} (r : Red L) (e : fst w (clr L v) = some p) : p < w ∧ clr L v p ≠ 0 ∧ nrm (clr L v) p p = 1 ∧ (∀ j, j < p → nrm (clr L v) p j = 0) ∧ ∀ z ∈ L, nrm (clr L v) p z.1 = 0 := by
  obtain ⟨h1, h2, h3⟩ := fst_some e
  refine ⟨h1, h2, ?_, fun j hj => ?_, fun z hz => ?_⟩
  · exact Rat.mul_inv_cancel _ h2
  · unfold nrm; rw [h3 j hj]; grind
  · unfold nrm; rw [clr_lead r hz]; grind
theorem red_step {w : Nat} {L : Rd} {v : Vec} (r : Red L) : Red (step w L v) := by
  unfold step
  cases e : fst w (clr L v) with
  | none => exact r
  | some p =>
    obtain ⟨_, _, h1, h2, h3⟩ := step_facts r e
    exact red_put r h1 h2 h3
/-- nothing beyond w -/
def Wd (w : Nat) (v : Vec) : Prop := ∀ j, w ≤ j → v j = 0
theorem wd_sb {w : Nat} {v : Vec} {z : Nat × Vec} (hv : Wd w v) (hz : Wd w z.2) : Wd w (sb v z) := fun j hj => by
  show v j - z.2 j * v z.1 = 0
  rw [hv j hj, hz j hj]; grind
theorem wd_clr {w : Nat} : ∀ {L : Rd} {v : Vec}, (∀ z ∈ L, Wd w z.2) → Wd w v → Wd w (clr L v)
  | [], _, _, hv => hv
  | z :: L, _, h, hv => wd_clr (L := L) (fun y hy => h y (.tail _ hy)) (wd_sb hv (h z (.head _)))
theorem wd_step {w : Nat} {L : Rd} {v : Vec} (h : ∀ z ∈ L, Wd w z.2) (hv : Wd w v) : ∀ z ∈ step w L v, Wd w z.2 := by
  unfold step
  cases e : fst w (clr L v) with
  | none => exact h
  | some p =>
    have ho : Wd w (nrm (clr L v) p) := fun j hj => by unfold nrm; rw [wd_clr h hv j hj]; grind
    intro z hz
    rcases mem_put.mp hz with rfl | ⟨y, hy, rfl⟩
    · exact ho
    · exact wd_sb (h y hy) ho
theorem sub_step {S : Vec → Prop} (s : Sub S) (s0 : S fun _ => 0) {w : Nat} {L : Rd} {v : Vec} (h : ∀ z ∈ L, Wd w z.2) (hv : Wd w v) : (∀ z ∈ step w L v, S z.2) ↔ (∀ z ∈ L, S z.2) ∧ S v := by
  unfold step
  cases e : fst w (clr L v) with
  | none =>
    have z0 : clr L v = fun _ => 0 := by
      funext j
      rcases Nat.lt_or_ge j w with l | l
      · exact fst_none e j l
      · exact wd_clr h hv j l
    constructor
    · intro g; exact ⟨g, (s.clr g).mp (by rw [z0]; exact s0)⟩
    · exact fun g => g.1
  | some p =>
    obtain ⟨_, h2, _⟩ := fst_some e
    have back : ∀ {u : Vec}, S (nrm (clr L v) p) → S (sb u (p, nrm (clr L v) p)) → S u := fun {u} ho g => by
      have q := s.lin _ _ 1 (u p) g ho
      have e : (fun j => 1 * sb u (p, nrm (clr L v) p) j + u p * nrm (clr L v) p j) = u := by
        funext j
        unfold sb
        grind
      rwa [e] at q
    have there : ∀ {u : Vec}, S (nrm (clr L v) p) → S u → S (sb u (p, nrm (clr L v) p)) := fun {u} ho g => by
      have q := s.lin _ _ 1 (-u p) g ho
      have e : (fun j => 1 * u j + -u p * nrm (clr L v) p j) = sb u (p, nrm (clr L v) p) := by
        funext j
        unfold sb
        grind
      rwa [e] at q
    have nr : S (nrm (clr L v) p) ↔ S (clr L v) := by
      constructor
      · intro g
        have q := s.lin _ _ (clr L v p) 0 g s0
        have e : (fun j => clr L v p * nrm (clr L v) p j + 0 * (0 : Rat)) = clr L v := by
          funext j
          unfold nrm
          have := Rat.mul_inv_cancel _ h2
          grind
        rwa [e] at q
      · intro g
        have q := s.lin _ _ ((clr L v p)⁻¹) 0 g s0
        have e : (fun j => (clr L v p)⁻¹ * clr L v j + 0 * (0 : Rat)) = nrm (clr L v) p := by
          funext j
          unfold nrm
          grind
        rwa [e] at q
    constructor
    · intro g
      have ho : S (nrm (clr L v) p) := g _ (mem_put.mpr (.inl rfl))
      have hL : ∀ z ∈ L, S z.2 := fun z hz => back ho (g _ (mem_put.mpr (.inr ⟨z, hz, rfl⟩)))
      exact ⟨hL, (s.clr hL).mp (nr.mp ho)⟩
    · rintro ⟨hL, hv'⟩ z hz
      have ho : S (nrm (clr L v) p) := nr.mpr ((s.clr hL).mpr hv')
      rcases mem_put.mp hz with rfl | ⟨y, hy, rfl⟩
      · exact ho
      · exact there ho (hL y hy)
/-! ### all rows -/
def redAll (w : Nat) (rows : List Vec) : Rd := rows.foldl (step w) []
theorem red_nil : Red [] := ⟨(fun _ h => nomatch h), (fun _ h => nomatch h), (fun _ h => nomatch h), .nil⟩
theorem all_facts {w : Nat} : ∀ {rows : List Vec} {L : Rd}, Red L → (∀ z ∈ L, Wd w z.2) → (∀ v ∈ rows, Wd w v) → Red (rows.foldl (step w) L) ∧ (∀ z ∈ rows.foldl (step w) L, Wd w z.2) ∧
    ∀ S, Sub S → S (fun _ => 0) → ((∀ z ∈ rows.foldl (step w) L, S z.2) ↔ (∀ z ∈ L, S z.2) ∧ ∀ v ∈ rows, S v)
  | [], L, r, h, _ => ⟨r, h, fun S _ _ => ⟨fun g => ⟨g, fun _ n => nomatch n⟩, fun g => g.1⟩⟩
  | v :: rows, L, r, h, hr => by
    have hv := hr v (.head _)
    obtain ⟨a, b, c⟩ := all_facts (rows := rows) (red_step (w := w) (v := v) r) (wd_step h hv) fun u hu => hr u (.tail _ hu)
    refine ⟨a, b, fun S s s0 => ?_⟩
    rw [List.foldl_cons, c S s s0, sub_step s s0 h hv]
    constructor
    · rintro ⟨⟨x, y⟩, z⟩
      exact ⟨x, fun u hu => (List.mem_cons.mp hu).elim (fun e => e ▸ y) (z u)⟩
    · rintro ⟨x, y⟩
      exact ⟨⟨x, y v (.head _)⟩, fun u hu => y u (.tail _ hu)⟩
theorem red_all {w : Nat} {rows : List Vec} (h : ∀ v ∈ rows, Wd w v) : Red (redAll w rows) := (all_facts red_nil (fun _ h => nomatch h) h).1
/-- the same rows, in whatever sequence, however often -/
theorem all_same {w : Nat} {rows rows' : List Vec} (h : ∀ v ∈ rows, Wd w v) (e : ∀ v, v ∈ rows ↔ v ∈ rows') : redAll w rows = redAll w rows' := by
  have h' : ∀ v ∈ rows', Wd w v := fun v hv => h v ((e v).mpr hv)
  obtain ⟨r1, _, c1⟩ := all_facts (L := []) red_nil (fun _ h => nomatch h) h
  obtain ⟨r2, _, c2⟩ := all_facts (L := []) red_nil (fun _ h => nomatch h) h'
  have z0 : ∀ L : Rd, ∀ j, clr L (fun _ => 0) j = 0 := fun L j => by
    have := congrFun (clr_lin L (fun _ => 0) (fun _ => 0) 0 0) j
    have e0 : (fun j : Nat => (0 : Rat) * (fun _ : Nat => (0 : Rat)) j + 0 * (fun _ : Nat => (0 : Rat)) j) = fun _ => 0 := by funext j; grind
    rw [e0] at this
    rw [this]; grind
  refine red_same r1 r2 ((c2 _ (sub_clr _) (z0 _)).mpr ⟨(fun _ h => nomatch h), fun v hv => ?_⟩) ((c1 _ (sub_clr _) (z0 _)).mpr ⟨(fun _ h => nomatch h), fun v hv => ?_⟩)
  · exact ((c1 _ (sub_clr _) (z0 _)).mp fun z hz => clr_own r1 hz).2 v ((e v).mpr hv)
  · exact ((c2 _ (sub_clr _) (z0 _)).mp fun z hz => clr_own r2 hz).2 v ((e v).mp hv)
end KR
namespace KR
/-! ### sizes -/
/-- x is a whole number of size at most B -/
def Wh (x : Rat) (B : Int) : Prop := ∃ c : Int, x = (c : Rat) ∧ (c.natAbs : Int) ≤ B
theorem Wh.le {x : Rat} {B C : Int} (h : Wh x B) (l : B ≤ C) : Wh x C := let ⟨c, e, b⟩ := h; ⟨c, e, by omega⟩
theorem Wh.sub {x y : Rat} {B C : Int} (h : Wh x B) (k : Wh y C) : Wh (x - y) (B + C) := by
  obtain ⟨c, rfl, b⟩ := h
  obtain ⟨d, rfl, b'⟩ := k
  exact ⟨c - d, (Rat.intCast_sub c d).symm, by omega⟩
theorem Wh.mul {x y : Rat} {B C : Int} (h : Wh x B) (k : Wh y C) (hB : 0 ≤ B) : Wh (x * y) (B * C) := by
  obtain ⟨c, rfl, b⟩ := h
  obtain ⟨d, rfl, b'⟩ := k
  refine ⟨c * d, (Rat.intCast_mul c d).symm, ?_⟩
  rw [Int.natAbs_mul, Int.natCast_mul]
  exact Int.mul_le_mul b b' (by omega) hB
theorem wh0 {B : Int} (h : 0 ≤ B) : Wh 0 B := ⟨0, rfl, by simpa using h⟩
/-- how many rows have their place below t -/
def body (t : Nat) (L : Rd) : Nat := (L.filter fun z => decide (z.1 < t)).length
structure Bd (t : Nat) (L : Rd) (D N : Int) : Prop where
  d1 : 1 ≤ D
  dn : D ≤ N
  co : ∀ z ∈ L, ∀ j, j < t → Wh (z.2 j * (D : Rat)) N
  la : (∀ z ∈ L, z.1 < t ∧ Wh (z.2 t * (D : Rat)) (40 * N)) ∨ ∃ u ∈ L, u.1 = t
/-- a row that comes: whole numbers up to 5, at t up to 200 -/
structure Sm (t : Nat) (v : Vec) : Prop where
  co : ∀ j, j < t → Wh (v j) 5
  la : Wh (v t) 200
theorem clr_bd {t j : Nat} {D N B : Int} (hN : 0 ≤ N) : ∀ {L : Rd} {v : Vec}, Red L → (∀ z ∈ L, (z.1 < t ∧ Wh (v z.1) 5 ∧ Wh (z.2 j * (D : Rat)) N) ∨ (¬ z.1 < t ∧ z.2 j = 0)) → Wh (v j * (D : Rat)) B → Wh (clr L v j * (D : Rat)) (B + 5 * N * (body t L : Int))
  | [], v, _, _, h => by
    show Wh (v j * (D : Rat)) (B + 5 * N * ((0 : Nat) : Int))
    simpa using h
  | z :: L, v, r, hz, h => by
    show Wh (clr L (sb v z) j * (D : Rat)) _
    have keep : ∀ y ∈ L, sb v z y.1 = v y.1 := fun y hy => by
      show v y.1 - z.2 y.1 * v z.1 = v y.1
      rw [(r.hd y hy).1]; grind
    have next := clr_bd (L := L) (v := sb v z) (t := t) (j := j) (D := D) (N := N) (B := B + if z.1 < t then 5 * N else 0) hN r.tail (fun y hy => by rw [keep y hy]; exact hz y (.tail _ hy)) ?_
    · refine next.le ?_
      unfold body
      rw [List.filter_cons]
      by_cases c : z.1 < t
      · simp only [c, decide_true, if_true, List.length_cons]
        have : ((List.length (List.filter (fun z => decide (z.1 < t)) L) + 1 : Nat) : Int) = (List.length (List.filter (fun z => decide (z.1 < t)) L) : Int) + 1 := by omega
        rw [this, Int.mul_add]
        omega
      · simp only [c, decide_false, if_false, Bool.false_eq_true]
        omega
    · rcases hz z (.head _) with ⟨lt, h5, hN'⟩ | ⟨nl, h0⟩
      · rw [if_pos lt]
        have e : sb v z j * (D : Rat) = v j * (D : Rat) - v z.1 * (z.2 j * (D : Rat)) := by
          unfold sb
          grind
        rw [e]
        exact h.sub (h5.mul hN' (by decide))
      · rw [if_neg nl]
        have e : sb v z j = v j := by
          unfold sb
          rw [h0]; grind
        rw [e]
        exact h.le (by omega)
/-- what a cleared row is, times D -/
theorem clr_size {t : Nat} {L : Rd} {v : Vec} {D N : Int} (r : Red L) (hL : ∀ z ∈ L, z.1 ≤ t) (b : Bd t L D N) (s : Sm t v) :
    (∀ j, j < t → Wh (clr L v j * (D : Rat)) (5 * N * (1 + body t L))) ∧ Wh (clr L v t * (D : Rat)) (40 * (5 * N * (1 + body t L))) ∧ ((∃ u ∈ L, u.1 = t) → clr L v t = 0) := by
  have hN : 0 ≤ N := by have := b.d1; have := b.dn; omega
  have hD : Wh (D : Rat) N := ⟨D, rfl, by have := b.d1; have := b.dn; omega⟩
  have k0 : ((∃ u ∈ L, u.1 = t) → clr L v t = 0) := fun ⟨u, hu, e⟩ => e ▸ clr_lead r hu
  refine ⟨fun j hj => ?_, ?_, k0⟩
  · refine (clr_bd (t := t) (B := 5 * N) hN r (fun z hz => ?_) ((s.co j hj).mul hD (by decide))).le (by rw [Int.mul_add]; omega)
    rcases Nat.lt_or_ge z.1 t with l | l
    · exact .inl ⟨l, s.co _ l, b.co z hz j hj⟩
    · exact .inr ⟨by omega, r.low z hz j (by omega)⟩
  · rcases b.la with h | h
    · have := clr_bd (t := t) (N := 40 * N) (B := 200 * N) (by omega) r (fun z hz => .inl ⟨(h z hz).1, s.co _ (h z hz).1, (h z hz).2⟩) (s.la.mul hD (by decide))
      refine this.le (Int.le_of_eq ?_)
      grind
    · rw [k0 h]
      have : 0 ≤ 5 * N * (1 + (body t L : Int)) := Int.mul_nonneg (by omega) (by omega)
      exact (wh0 (B := 40 * (5 * N * (1 + (body t L : Int)))) (by omega)).le (by omega) |> fun z => by simpa using z
theorem filter_len {α : Type} (p q : α → Bool) (l : List α) (f : α → α) (h : ∀ x ∈ l, q (f x) = p x) : ((l.map f).filter q).length = (l.filter p).length := by
  induction l with
  | nil => rfl
  | cons x l ih =>
    rw [List.map_cons, List.filter_cons, List.filter_cons, h x (.head _)]
    have := ih fun y hy => h y (.tail _ hy)
    split
    · rw [List.length_cons, List.length_cons, this]
    · exact this
theorem body_put {t p : Nat} {L : Rd} {o : Vec} : body t (put L p o) = body t L + if p < t then 1 else 0 := by
  unfold body put ins
  rw [List.filter_append, List.filter_cons, List.length_append]
  have key : ∀ M : Rd, ((M.filter fun z => decide (z.1 < p)).filter fun z => decide (z.1 < t)).length + ((M.filter fun z => !decide (z.1 < p)).filter fun z => decide (z.1 < t)).length = (M.filter fun z => decide (z.1 < t)).length := fun M => by
    induction M with
    | nil => rfl
    | cons x M ih =>
      simp only [List.filter_cons]
      by_cases h1 : x.1 < p <;> by_cases h2 : x.1 < t <;> simp [h1, h2] at * <;> omega
  have k1 := key (L.map fun z => (z.1, sb z.2 (p, o)))
  have k2 : ((L.map fun z => (z.1, sb z.2 (p, o))).filter fun z => decide (z.1 < t)).length = (L.filter fun z => decide (z.1 < t)).length :=
    filter_len (fun z => decide (z.1 < t)) (fun z => decide (z.1 < t)) L (fun z => (z.1, sb z.2 (p, o))) fun _ _ => rfl
  by_cases h : p < t
  · simp only [h, decide_true, if_true, List.length_cons]; omega
  · simp only [h, decide_false, if_false, Bool.false_eq_true]; omega
theorem bd_step {t : Nat} {L : Rd} {v : Vec} {D N : Int} (r : Red L) (hL : ∀ z ∈ L, z.1 ≤ t) (b : Bd t L D N) (s : Sm t v) :
    (∀ z ∈ step (t + 1) L v, z.1 ≤ t) ∧ ((body t (step (t + 1) L v) = body t L ∧ ∃ D', Bd t (step (t + 1) L v) D' N) ∨ (body t (step (t + 1) L v) = body t L + 1 ∧ ∃ D', Bd t (step (t + 1) L v) D' (10 * N * N * (1 + body t L)))) := by
  have hN : 1 ≤ N := by have := b.d1; have := b.dn; omega
  obtain ⟨c1, c2, c3⟩ := clr_size r hL b s
  unfold step
  cases e : fst (t + 1) (clr L v) with
  | none => exact ⟨hL, .inl ⟨rfl, D, b⟩⟩
  | some p =>
    obtain ⟨h1, h2, h3, h4, h5⟩ := step_facts r e
    have hD0 : (D : Rat) ≠ 0 := fun z => by have := Rat.intCast_eq_zero_iff.mp z; have := b.d1; omega
    refine ⟨fun z hz => ?_, ?_⟩
    · rcases mem_put.mp hz with rfl | ⟨y, hy, rfl⟩
      · show p ≤ t
        omega
      · exact hL y hy
    show (body t (put L p (nrm (clr L v) p)) = _ ∧ _) ∨ (body t (put L p (nrm (clr L v) p)) = _ ∧ _)
    by_cases hp : p < t
    · right
      refine ⟨by rw [body_put, if_pos hp], ?_⟩
      obtain ⟨P, eP, bP⟩ := c1 p hp
      generalize hM : 5 * N * (1 + (body t L : Int)) = M at c1 c2 bP
      have hM1 : 1 ≤ M := by
        rw [← hM]
        exact Int.mul_le_mul (a := 1) (b := 1) (c := 5 * N) (d := 1 + (body t L : Int)) (by omega) (by omega) (by decide) (by omega)
      have eN : 10 * N * N * (1 + (body t L : Int)) = 2 * (N * M) := by rw [← hM]; grind
      have P0 : P ≠ 0 := fun z => by
        rw [z] at eP
        rcases Rat.mul_eq_zero.mp eP with q | q
        · exact h2 q
        · exact hD0 q
      have P1 : (1 : Int) ≤ P.natAbs := by omega
      have np : (P.natAbs : Int) = P ∨ (P.natAbs : Int) = -P := by omega
      -- with the sign
      have sgn : ∃ σ : Int, (σ = 1 ∨ σ = -1) ∧ (P.natAbs : Int) = σ * P := by
        rcases np with q | q
        · exact ⟨1, .inl rfl, by omega⟩
        · exact ⟨-1, .inr rfl, by omega⟩
      obtain ⟨σ, hσ, eσ⟩ := sgn
      have hW : ∀ {x : Rat} {B : Int}, Wh x B → Wh ((σ : Rat) * x) B := fun {x B} ⟨c, ec, bc⟩ => ⟨σ * c, by rw [ec, Rat.intCast_mul], by rcases hσ with q | q <;> rw [q] <;> omega⟩
      have DW : Wh (D : Rat) N := ⟨D, rfl, by have := b.d1; have := b.dn; omega⟩
      have eD : (((P.natAbs : Int) * D : Int) : Rat) = (σ : Rat) * (clr L v p * (D : Rat)) * (D : Rat) := by rw [eσ, Rat.intCast_mul, Rat.intCast_mul, eP]
      have pinv : clr L v p * (clr L v p)⁻¹ = 1 := Rat.mul_inv_cancel _ h2
      have PW : Wh (clr L v p * (D : Rat)) M := ⟨P, eP, bP⟩
      have NM : N * M ≤ 2 * (N * M) := by have : 0 ≤ N * M := Int.mul_nonneg (by omega) (by omega); omega
      have newC : ∀ j (B : Int), Wh (clr L v j * (D : Rat)) B → 0 ≤ B → Wh (nrm (clr L v) p j * (((P.natAbs : Int) * D : Int) : Rat)) (B * N) := fun j B h hB => by
        have e1 : nrm (clr L v) p j * (((P.natAbs : Int) * D : Int) : Rat) = (σ : Rat) * ((clr L v j * (D : Rat)) * (D : Rat)) := by
          rw [eD]
          unfold nrm
          grind
        rw [e1]
        exact hW (h.mul DW hB)
      have oldC : ∀ (z : Nat × Vec) j (B C : Int), z ∈ L → Wh (z.2 j * (D : Rat)) B → Wh (clr L v j * (D : Rat)) C → 0 ≤ B → 0 ≤ C → Wh (sb z.2 (p, nrm (clr L v) p) j * (((P.natAbs : Int) * D : Int) : Rat)) (B * M + C * N) := fun z j B C hz hB hC b0 c0 => by
        have e1 : sb z.2 (p, nrm (clr L v) p) j * (((P.natAbs : Int) * D : Int) : Rat) = (σ : Rat) * ((z.2 j * (D : Rat)) * (clr L v p * (D : Rat)) - (clr L v j * (D : Rat)) * (z.2 p * (D : Rat))) := by
          rw [eD]
          unfold sb nrm
          show (z.2 j - clr L v j * (clr L v p)⁻¹ * z.2 p) * ((σ : Rat) * (clr L v p * (D : Rat)) * (D : Rat)) = _
          grind
        rw [e1]
        exact hW ((hB.mul PW b0).sub (hC.mul (b.co z hz p hp) c0))
      refine ⟨(P.natAbs : Int) * D, ⟨?_, ?_, fun z hz j hj => ?_, ?_⟩⟩
      · exact Int.mul_le_mul (a := 1) (b := 1) P1 b.d1 (by decide) (by omega)
      · rw [eN]
        have : (P.natAbs : Int) * D ≤ M * N := Int.mul_le_mul bP b.dn (by have := b.d1; omega) (by omega)
        rw [Int.mul_comm M N] at this
        omega
      · rw [eN]
        rcases mem_put.mp hz with rfl | ⟨y, hy, rfl⟩
        · refine (newC j M (c1 j hj) (by omega)).le ?_
          rw [Int.mul_comm]; exact NM
        · refine (oldC y j N M hy (b.co y hy j hj) (c1 j hj) (by omega) (by omega)).le ?_
          rw [Int.mul_comm M N]; omega
      · rw [eN]
        rcases b.la with hl | ⟨u, hu, eu⟩
        · left
          intro z hz
          rcases mem_put.mp hz with rfl | ⟨y, hy, rfl⟩
          · refine ⟨hp, (newC t (40 * M) c2 (by omega)).le ?_⟩
            rw [Int.mul_assoc, Int.mul_comm M N]; omega
          · refine ⟨(hl y hy).1, (oldC y t (40 * N) (40 * M) hy (hl y hy).2 c2 (by omega) (by omega)).le ?_⟩
            rw [Int.mul_assoc, Int.mul_assoc, Int.mul_comm M N]; omega
        · exact .inr ⟨(u.1, sb u.2 (p, nrm (clr L v) p)), mem_put.mpr (.inr ⟨u, hu, rfl⟩), eu⟩
    · left
      have ep : p = t := by omega
      refine ⟨by rw [body_put, if_neg hp]; omega, D, ⟨b.d1, b.dn, fun z hz j hj => ?_, .inr ⟨_, mem_put.mpr (.inl rfl), ep⟩⟩⟩
      have z0 : nrm (clr L v) p j = 0 := h4 j (by omega)
      rcases mem_put.mp hz with rfl | ⟨y, hy, rfl⟩
      · show Wh (nrm (clr L v) p j * (D : Rat)) N
        rw [z0]
        simpa using wh0 (B := N) (by omega)
      · show Wh ((y.2 j - nrm (clr L v) p j * y.2 p) * (D : Rat)) N
        rw [z0]
        have : (y.2 j - 0 * y.2 p) * (D : Rat) = y.2 j * (D : Rat) := by grind
        rw [this]
        exact b.co y hy j hj
end KR
namespace KR
/-! ### the size of all that comes -/
def NN : Nat → Int
  | 0 => 1
  | k + 1 => 10 * NN k * NN k * (1 + k)
theorem body_le {t : Nat} {L : Rd} (r : Red L) : body t L ≤ t := by
  have key : ∀ (l : List Nat) (a : Nat), l.Pairwise (· < ·) → (∀ x ∈ l, a ≤ x ∧ x < t) → l.length + a ≤ t ∨ l = [] := by
    intro l
    induction l with
    | nil => intro a _ _; exact .inr rfl
    | cons x l ih =>
      intro a hp hx
      obtain ⟨h1, h2⟩ := List.pairwise_cons.mp hp
      have b := hx x (.head _)
      left
      rcases ih (x + 1) h2 fun y hy => ⟨h1 y hy, (hx y (.tail _ hy)).2⟩ with h | h
      · rw [List.length_cons]; omega
      · rw [h, List.length_cons, List.length_nil]; omega
  unfold body
  have q := key ((L.filter fun z => decide (z.1 < t)).map (·.1)) 0 (List.pairwise_map.mpr (r.asc.filter _)) fun x hx => by
    obtain ⟨z, hz, rfl⟩ := List.mem_map.mp hx
    have := (List.mem_filter.mp hz).2
    exact ⟨Nat.zero_le _, by simpa using this⟩
  rw [List.length_map] at q
  rcases q with q | q
  · omega
  · rw [List.map_eq_nil_iff] at q; rw [q]; exact Nat.zero_le _
structure Okk (t : Nat) (L : Rd) : Prop where
  red : Red L
  le : ∀ z ∈ L, z.1 ≤ t
  wd : ∀ z ∈ L, Wd (t + 1) z.2
  bd : ∃ D, Bd t L D (NN (body t L))
theorem okk_nil (t : Nat) : Okk t [] := ⟨red_nil, (fun _ h => nomatch h), (fun _ h => nomatch h), 1, by decide, Int.le_refl _, (fun _ h => nomatch h), .inl fun _ h => nomatch h⟩
theorem okk_step {t : Nat} {L : Rd} {v : Vec} (k : Okk t L) (s : Sm t v) (w : Wd (t + 1) v) : Okk t (step (t + 1) L v) := by
  obtain ⟨D, b⟩ := k.bd
  obtain ⟨h1, h2⟩ := bd_step k.red k.le b s
  refine ⟨red_step k.red, h1, wd_step k.wd w, ?_⟩
  rcases h2 with ⟨e, D', b'⟩ | ⟨e, D', b'⟩
  · exact ⟨D', by rw [e]; exact b'⟩
  · exact ⟨D', by rw [e]; exact b'⟩
theorem okk_all {t : Nat} : ∀ {rows : List Vec} {L : Rd}, Okk t L → (∀ v ∈ rows, Sm t v ∧ Wd (t + 1) v) → Okk t (rows.foldl (step (t + 1)) L)
  | [], _, k, _ => k
  | v :: rows, L, k, h => okk_all (rows := rows) (okk_step k (h v (.head _)).1 (h v (.head _)).2) fun u hu => h u (.tail _ hu)
/-- a rational number of moderate size -/
def Sz (b : Nat) (q : Rat) : Prop := q.num.natAbs < 2 ^ b ∧ q.den < 2 ^ b
theorem Sz.le {b c : Nat} {q : Rat} (h : Sz b q) (l : b ≤ c) : Sz c q :=
  ⟨Nat.lt_of_lt_of_le h.1 (Nat.pow_le_pow_right (by decide) l), Nat.lt_of_lt_of_le h.2 (Nat.pow_le_pow_right (by decide) l)⟩
theorem wh_sz {x : Rat} {D B : Int} {b : Nat} (h : Wh (x * (D : Rat)) B) (d : 1 ≤ D) (h1 : D < 2 ^ b) (h2 : B < 2 ^ b) : Sz b x := by
  obtain ⟨c, e, bc⟩ := h
  have D0 : (D : Rat) ≠ 0 := fun z => by have := Rat.intCast_eq_zero_iff.mp z; omega
  have ex : x = Rat.divInt c D := by
    rw [Rat.divInt_eq_div, ← e, Rat.mul_div_cancel D0]
  obtain ⟨n, rfl⟩ := Int.eq_ofNat_of_zero_le (show 0 ≤ D by omega)
  have hn : n ≠ 0 := by omega
  have h1' : n < 2 ^ b := by
    have : ((2 : Int) ^ b) = ((2 ^ b : Nat) : Int) := by simp
    omega
  have h2' : c.natAbs < 2 ^ b := by
    have : ((2 : Int) ^ b) = ((2 ^ b : Nat) : Int) := by simp
    omega
  rw [ex]
  constructor
  · rw [Rat.divInt_ofNat, Rat.num_mkRat, if_neg hn]
    rw [Int.natAbs_ediv_of_dvd (Int.ofNat_dvd_left.mpr (Nat.gcd_dvd_right _ _))]
    exact Nat.lt_of_le_of_lt (Nat.div_le_self _ _) h2'
  · rw [Rat.divInt_ofNat, Rat.den_mkRat, if_neg hn]
    exact Nat.lt_of_le_of_lt (Nat.div_le_self _ _) h1'
theorem NN_le : ∀ k, k ≤ 8 → 1 ≤ NN k ∧ NN k < 2 ^ 1040 := by decide +kernel
theorem okk_size {t : Nat} {L : Rd} (k : Okk t L) (ht : t ≤ 8) : ∀ z ∈ L, ∀ j, Sz 1060 (z.2 j) := fun z hz j => by
  obtain ⟨D, b⟩ := k.bd
  obtain ⟨n1, n2⟩ := NN_le _ (Nat.le_trans (body_le (t := t) k.red) ht)
  generalize NN (body t L) = N at b n1 n2
  have p40 : (40 : Int) * 2 ^ 1040 < 2 ^ 1060 := by decide +kernel
  have p1 : (2 : Int) ^ 1040 < 2 ^ 1060 := by decide +kernel
  have hd := b.dn
  rcases Nat.lt_trichotomy j t with l | l | l
  · exact wh_sz (b.co z hz j l) b.d1 (by omega) (by omega)
  · subst l
    rcases b.la with h | ⟨u, hu, e⟩
    · exact wh_sz (h z hz).2 b.d1 (by omega) (by omega)
    · by_cases d : z.1 = u.1
      · have : z.2 j = 1 := by rw [← e, ← d]; exact k.red.one z hz
        rw [this]
        exact ⟨by decide +kernel, by decide +kernel⟩
      · have : z.2 j = 0 := by rw [← e]; exact k.red.oth z hz u hu d
        rw [this]
        exact ⟨by decide +kernel, by decide +kernel⟩
  · rw [k.wd z hz j (by omega)]
    exact ⟨by decide +kernel, by decide +kernel⟩
theorem Red.take {L : Rd} (r : Red L) (i : Nat) : Red (L.take i) :=
  ⟨fun z h => r.low z (List.mem_of_mem_take h), fun z h => r.one z (List.mem_of_mem_take h), fun z h y g => r.oth z (List.mem_of_mem_take h) y (List.mem_of_mem_take g), r.asc.sublist (List.take_sublist _ _)⟩
theorem Red.uniq {L : Rd} (r : Red L) {z u : Nat × Vec} (hz : z ∈ L) (hu : u ∈ L) (e : z.1 = u.1) : z = u := by
  have h := r.asc
  clear r
  induction L with
  | nil => cases hz
  | cons x L ih =>
    obtain ⟨a, b⟩ := List.pairwise_cons.mp h
    rcases List.mem_cons.mp hz with rfl | h1 <;> rcases List.mem_cons.mp hu with rfl | h2
    · rfl
    · have := a u h2; omega
    · have := a z h1; omega
    · exact ih h1 h2 b
/-- in the middle of clearing -/
theorem clr_take_size {t : Nat} {L : Rd} {v : Vec} (k : Okk t L) (ht : t ≤ 8) (s : Sm t v) (w : Wd (t + 1) v) (i : Nat) : ∀ j, Sz 1060 (clr (L.take i) v j) := fun j => by
  obtain ⟨D, b⟩ := k.bd
  have hb := body_le (t := t) k.red
  obtain ⟨n1, n2⟩ := NN_le _ (Nat.le_trans hb ht)
  generalize NN (body t L) = N at b n1 n2
  have b' : Bd t (L.take i) D N := ⟨b.d1, b.dn, fun z hz => b.co z (List.mem_of_mem_take hz), by
    by_cases h : ∃ u ∈ L.take i, u.1 = t
    · exact .inr h
    · left
      intro z hz
      have hz' := List.mem_of_mem_take hz
      have lt : z.1 < t := by
        have := k.le z hz'
        rcases Nat.lt_or_ge z.1 t with l | l
        · exact l
        · exact absurd ⟨z, hz, by omega⟩ h
      rcases b.la with g | ⟨u, hu, e⟩
      · exact g z hz'
      · refine ⟨lt, ?_⟩
        have : z.2 t = 0 := by rw [← e]; exact k.red.oth z hz' u hu (by omega)
        rw [this, Rat.zero_mul]
        exact wh0 (by omega)⟩
  have hb' := body_le (t := t) (k.red.take i)
  obtain ⟨c1, c2, _⟩ := clr_size (k.red.take i) (fun z hz => k.le z (List.mem_of_mem_take hz)) b' s
  have p1 : (2 : Int) ^ 1040 * 1800 < 2 ^ 1060 := by decide +kernel
  have hd := b.dn
  have m9 : N * (1 + (body t (L.take i) : Int)) ≤ N * 9 := Int.mul_le_mul (Int.le_refl _) (by omega) (by omega) (by omega)
  have e5 : 5 * N * (1 + (body t (L.take i) : Int)) = 5 * (N * (1 + (body t (L.take i) : Int))) := by rw [Int.mul_assoc]
  rcases Nat.lt_trichotomy j t with l | l | l
  · exact wh_sz (c1 j l) b.d1 (by omega) (by omega)
  · subst l
    exact wh_sz c2 b.d1 (by omega) (by omega)
  · rw [wd_clr (fun z hz => k.wd z (List.mem_of_mem_take hz)) w j (by omega)]
    exact ⟨by decide +kernel, by decide +kernel⟩
theorem clr_sz {t : Nat} {L : Rd} {v : Vec} (k : Okk t L) (ht : t ≤ 8) (s : Sm t v) (w : Wd (t + 1) v) : ∀ j, Sz 1060 (clr L v j) := fun j => by
  have := clr_take_size k ht s w L.length j
  rwa [List.take_length] at this
end KR
end
section
/-! KR1: fractions as pairs, rows as tuples of them, on the heap. -/
namespace KR
open PySem L2 Evl
/-! ### lowest terms -/
theorem low_eq {t b : Int} (hb : b ≠ 0) : t.fdiv (if b < 0 then -(Int.gcd t b : Int) else (Int.gcd t b : Int)) = (Rat.divInt t b).num ∧ b.fdiv (if b < 0 then -(Int.gcd t b : Int) else (Int.gcd t b : Int)) = ((Rat.divInt t b).den : Int) := by
  have g0 : (Int.gcd t b : Int) ≠ 0 := by
    have := Int.gcd_pos_of_ne_zero_right t hb
    omega
  obtain ⟨t', et⟩ := Int.gcd_dvd_left (a := t) (b := b)
  obtain ⟨b', eb⟩ := Int.gcd_dvd_right (a := t) (b := b)
  have ec : (Int.gcd b t : Int) = (Int.gcd t b : Int) := by rw [Int.gcd_comm]
  rw [Rat.num_divInt, Rat.den_divInt, if_neg hb, ec]
  generalize hg : (Int.gcd t b : Int) = g at *
  have gp : 0 < g := by rw [← hg] at g0 ⊢; omega
  have en : ((b.natAbs / Int.gcd b t : Nat) : Int) = (b.natAbs : Int) / g := by rw [Int.natCast_ediv, ec]
  rw [en]
  by_cases h : b < 0
  · rw [if_pos h]
    have s : b.sign = -1 := Int.sign_eq_neg_one_of_neg h
    have e1 : t = (-g) * (-t') := by rw [et]; grind
    have e2 : b = (-g) * (-b') := by rw [eb]; grind
    constructor
    · rw [s]
      have : -1 * t = g * (-t') := by rw [e1]; grind
      rw [this, Int.mul_ediv_cancel_left _ g0]
      conv => lhs; rw [e1]
      exact Int.mul_fdiv_cancel_left _ (by omega)
    · have : (b.natAbs : Int) = g * (-b') := by
        have : (b.natAbs : Int) = -b := by omega
        rw [this, e2]; grind
      rw [this, Int.mul_ediv_cancel_left _ g0]
      conv => lhs; rw [e2]
      exact Int.mul_fdiv_cancel_left _ (by omega)
  · rw [if_neg h]
    have s : b.sign = 1 := Int.sign_eq_one_of_pos (by omega)
    constructor
    · rw [s, Int.one_mul]
      conv => lhs; rw [et]
      conv => rhs; rw [et]
      rw [Int.mul_ediv_cancel_left _ g0, Int.mul_fdiv_cancel_left _ g0]
    · have : (b.natAbs : Int) = b := by omega
      rw [this]
      conv => lhs; rw [eb]
      conv => rhs; rw [eb]
      rw [Int.mul_ediv_cancel_left _ g0, Int.mul_fdiv_cancel_left _ g0]
theorem less_eq (a b : Rat) : Rat.divInt (a.num * (b.den : Int) - b.num * (a.den : Int)) ((a.den : Int) * (b.den : Int)) = a - b := by
  rw [Rat.sub_def', ← Int.natCast_mul, Rat.divInt_ofNat]
theorem plus_eq (a b : Rat) : Rat.divInt (a.num * (b.den : Int) + b.num * (a.den : Int)) ((a.den : Int) * (b.den : Int)) = a + b := by
  rw [Rat.add_def', ← Int.natCast_mul, Rat.divInt_ofNat]
theorem mul_eq (a b : Rat) : Rat.divInt (a.num * b.num) ((a.den : Int) * (b.den : Int)) = a * b := by
  rw [Rat.mul_def', ← Int.natCast_mul, Rat.divInt_ofNat]
theorem part_eq (a b : Rat) : Rat.divInt (a.num * (b.den : Int)) ((a.den : Int) * b.num) = a * b⁻¹ := by
  rw [Rat.inv_def]
  conv => rhs; lhs; rw [← Rat.num_divInt_den a]
  rw [Rat.divInt_mul_divInt]
theorem den_ne (a : Rat) : (a.den : Int) ≠ 0 := by have := a.den_nz; omega
theorem den_pos (a : Rat) : (0 : Int) < (a.den : Int) := by have := a.den_nz; omega
theorem num_ne {a : Rat} (h : a ≠ 0) : a.num ≠ 0 := fun z => h (Rat.num_eq_zero.mp z)
theorem prod_b {x y : Int} {a b : Nat} (hx : x.natAbs < 2 ^ a) (hy : y.natAbs < 2 ^ b) : (x * y).natAbs < 2 ^ (a + b) := L2.wide_lt hx hy
theorem add_b {x y : Int} {a : Nat} (hx : x.natAbs < 2 ^ a) (hy : y.natAbs < 2 ^ a) : (x + y).natAbs < 2 ^ (a + 1) ∧ (x - y).natAbs < 2 ^ (a + 1) := by
  have : 2 ^ (a + 1) = 2 * 2 ^ a := by rw [Nat.pow_succ]; omega
  omega
theorem Sz.num {b : Nat} {q : Rat} (h : Sz b q) : q.num.natAbs < 2 ^ b := h.1
theorem Sz.den {b : Nat} {q : Rat} (h : Sz b q) : ((q.den : Int)).natAbs < 2 ^ b := by simpa using h.2
theorem mulW {x y : Int} {a b : Nat} (hx : x.natAbs < 2 ^ a) (hy : y.natAbs < 2 ^ b) (h0 : 0 < a) (h1 : 0 < b) (h : a + b ≤ 100000) : CMulW x y := L2.wide_mul hx hy h0 h1 (by omega)
theorem le_pow {x : Nat} {a b : Nat} (h : x < 2 ^ a) (l : a ≤ b) : x < 2 ^ b := Nat.lt_of_lt_of_le h (Nat.pow_le_pow_right (by decide) l)
theorem gcd_b {t b : Int} {n : Nat} (hb : b ≠ 0) (h : b.natAbs < 2 ^ n) : Int.gcd t b < 2 ^ n := by
  have := Nat.le_of_dvd (by omega : 0 < b.natAbs) (Nat.gcd_dvd_right t.natAbs b.natAbs)
  exact Nat.lt_of_le_of_lt this h
theorem divA {t b : Int} (hb : b ≠ 0) (h : b.natAbs < 2 ^ 8000) (i : Int) : KU.CDivA i (if b < 0 then -(Int.gcd t b : Int) else (Int.gcd t b : Int)) := by
  have g1 := gcd_b (t := t) hb h
  have g0 := Int.gcd_pos_of_ne_zero_right t hb
  have e : (if b < 0 then -(Int.gcd t b : Int) else (Int.gcd t b : Int)).natAbs = Int.gcd t b := by split <;> omega
  refine ⟨by split <;> omega, ?_⟩
  rw [e]
  exact Nat.lt_of_lt_of_le (PySem.Flt.log2_lt_of (by decide) g1) (by decide)
theorem sz_mul {a b : Nat} {x y : Rat} (hx : Sz a x) (hy : Sz b y) : Sz (a + b) (x * y) := by
  obtain ⟨h1, h2⟩ := hx
  obtain ⟨h3, h4⟩ := hy
  have hd : x.den * y.den ≠ 0 := Nat.mul_ne_zero x.den_nz y.den_nz
  have p1 : (x.num * y.num).natAbs < 2 ^ (a + b) := prod_b h1 h3
  have p2 : x.den * y.den < 2 ^ (a + b) := by
    rw [Nat.pow_add]
    exact Nat.mul_lt_mul'' h2 h4
  rw [Rat.mul_def']
  constructor
  · rw [Rat.num_mkRat, if_neg hd, Int.natAbs_ediv_of_dvd (Int.ofNat_dvd_left.mpr (Nat.gcd_dvd_right _ _))]
    exact Nat.lt_of_le_of_lt (Nat.div_le_self _ _) p1
  · rw [Rat.den_mkRat, if_neg hd]
    exact Nat.lt_of_le_of_lt (Nat.div_le_self _ _) p2
theorem sz_inv {a : Nat} {x : Rat} (hx : Sz a x) : Sz a x⁻¹ := by
  obtain ⟨h1, h2⟩ := hx
  constructor
  · rw [Rat.num_inv, Int.natAbs_mul]
    have : x.num.sign.natAbs ≤ 1 := by
      rcases Int.lt_trichotomy x.num 0 with h | h | h
      · rw [Int.sign_eq_neg_one_of_neg h]; decide
      · rw [h]; decide
      · rw [Int.sign_eq_one_of_pos h]; decide
    have := Nat.mul_le_mul_right x.den this
    have e : ((x.den : Int)).natAbs = x.den := by simp
    rw [e]
    omega
  · rw [Rat.den_inv]
    split
    · exact Nat.lt_of_le_of_lt (Nat.one_le_iff_ne_zero.mpr x.den_nz) h2
    · exact h1
theorem sz_int {n : Int} {b : Nat} (h : n.natAbs < 2 ^ b) (b0 : 0 < b) : Sz b (n : Rat) := ⟨by simpa using h, by
  show 1 < 2 ^ b
  exact Nat.one_lt_two_pow (by omega)⟩
/-! ### on the heap -/
def FrV (K : PySem.W.Frag) (H : Hp) (v : V) (q : Rat) : Prop := ∃ a, v = .ref a ∧ SqT K H a [.int q.num, .int (q.den : Int)]
theorem FrV.mono {H H' : Hp} {v : V} {q : Rat} (e : Ex H H') (h : FrV K H v q) : FrV K H' v q := let ⟨a, x, y⟩ := h; ⟨a, x, ex_t e y⟩
theorem pmono {α : Type} {R : Hp → V → α → Prop} (mono : ∀ (H H' : Hp) (v : V) (q : α), Ex H H' → R H v q → R H' v q) {H H' : Hp} (e : Ex H H') : ∀ {l : List V} {m : List α}, Paired (R H) l m → Paired (R H') l m
  | _, _, .nil => .nil
  | _, _, .cons r rr => .cons (mono _ _ _ _ e r) (pmono mono e rr)
theorem pat {α : Type} {R : V → α → Prop} : ∀ {l : List V} {m : List α}, Paired R l m → ∀ {i : Nat} {a : V}, l[i]? = some a → ∃ b, m[i]? = some b ∧ R a b
  | _, _, .nil, i, a, h => by simp at h
  | _, _, .cons r rr, 0, a, h => by simp at h; subst h; exact ⟨_, rfl, r⟩
  | _, _, .cons r rr, i + 1, a, h => pat rr (by simpa using h)
theorem psnoc {α : Type} {R : V → α → Prop} {a : V} {b : α} : ∀ {l : List V} {m : List α}, Paired R l m → R a b → Paired R (l ++ [a]) (m ++ [b])
  | _, _, .nil, h => .cons h .nil
  | _, _, .cons r rr, h => .cons r (psnoc rr h)
theorem papp {α : Type} {R : V → α → Prop} : ∀ {l l' : List V} {m m' : List α}, Paired R l m → Paired R l' m' → Paired R (l ++ l') (m ++ m')
  | _, _, _, _, .nil, h => h
  | _, _, _, _, .cons r rr, h => .cons r (papp rr h)
theorem ptake {α : Type} {R : V → α → Prop} : ∀ {l : List V} {m : List α}, Paired R l m → ∀ i, Paired R (l.take i) (m.take i)
  | _, _, .nil, i => by simp; exact .nil
  | _, _, .cons r rr, 0 => .nil
  | _, _, .cons r rr, i + 1 => .cons r (ptake rr i)
theorem pdrop {α : Type} {R : V → α → Prop} : ∀ {l : List V} {m : List α}, Paired R l m → ∀ i, Paired R (l.drop i) (m.drop i)
  | _, _, .nil, i => by simp; exact .nil
  | _, _, .cons r rr, 0 => .cons r rr
  | _, _, .cons r rr, i + 1 => pdrop rr i
/-- a row: a tuple of fractions -/
def RowV (K : PySem.W.Frag) (H : Hp) (v : V) (r : List Rat) : Prop := ∃ a ys, v = .ref a ∧ H a = some (.tup ys) ∧ Paired (FrV K H) ys r
theorem RowV.mono {H H' : Hp} {v : V} {r : List Rat} (e : Ex H H') (h : RowV K H v r) : RowV K H' v r := let ⟨a, ys, x, y, z⟩ := h; ⟨a, ys, x, e _ _ y, pmono (R := FrV K) (fun _ _ _ _ e h => FrV.mono e h) e z⟩
def RetFr (K : PySem.W.Frag) (q : Rat) (H : Hp) (Q : VK) : Prop := ∀ v H', Ex H H' → FrV K H' v q → Q v H'
def RetRow (K : PySem.W.Frag) (r : List Rat) (H : Hp) (Q : VK) : Prop := ∀ v H', Ex H H' → RowV K H' v r → Q v H'
abbrev S2 : Nat := 2200
end KR
end
section
/-! KH: for over a range; the text's facts, by the head. -/
namespace KT
open PySem L2 Evl
def kForR (g : TG) (tb : TS) (D : Ends) (σ : L2.St) (vs : List V) (H1 : Hp) : Prop := ∃ j : Int, vs = [.int j] ∧ -(2 ^ 62) ≤ j ∧ j < 2 ^ 62 ∧ ∃ W : Nat → Nat → L2.St → Hp → Prop, (∃ m, W 0 m σ H1) ∧ ∀ i m σ H, W i m σ H →
  ((Itr 0 j.toNat).stop i H ∧ D.nx σ H) ∨ ((Itr 0 j.toNat).go i H ∧ ∃ N : L2.St → Hp → Prop, (∀ σ' H', N σ' H' → ∃ m', m' < m ∧ W (i + 1) m' σ' H') ∧ ∀ x H', (Itr 0 j.toNat).yld i H x H' → g x σ H' fun σ2 H2 => tb { D with nx := N, ct := N, bk := D.nx } σ2 H2)
theorem g_forR {ta : TA} {g : TG} {tb : TS} {D : Ends} {σ : L2.St} {H : Hp} (h : ta σ H (kForR g tb D σ)) : tFor (iRng1 ta) g tb D σ H := h
theorem g_kforR {g : TG} {tb : TS} {D : Ends} {σ : L2.St} {H : Hp} {j : Int} (Pv : Nat → L2.St → Hp → Prop) (hj : 0 ≤ j ∧ j ≤ 1000000) (h0 : Pv 0 σ H)
    (hs : ∀ (i : Nat) σ H, (i : Int) < j → Pv i σ H → g (.int (0 + (i : Int))) σ H fun σ2 H2 => tb { D with nx := Pv (i + 1), ct := Pv (i + 1), bk := D.nx } σ2 H2) (hd : ∀ σ H, Pv j.toNat σ H → D.nx σ H) : kForR g tb D σ [.int j] H := by
  refine ⟨j, rfl, by omega, by omega, fun i m σ H => m = j.toNat - i ∧ i ≤ j.toNat ∧ Pv i σ H, ⟨j.toNat, rfl, Nat.zero_le _, h0⟩, ?_⟩
  rintro i m σ H ⟨rfl, hi, p⟩
  by_cases hlt : i < j.toNat
  · refine .inr ⟨hlt, Pv (i + 1), fun σ' H' p' => ⟨j.toNat - (i + 1), by omega, rfl, hlt, p'⟩, fun x H' y => ?_⟩
    obtain ⟨e1, e2⟩ := y
    subst e1
    subst e2
    exact hs i σ _ (by omega) p
  · have e : i = j.toNat := by omega
    subst e
    exact .inl ⟨Nat.le_refl _, hd σ H p⟩
end KT
namespace KG
open PySem PySem.Spec PyProof.Rows L2
theorem walk_X {l : PySem.W.OpenLaw} {n k : Nat} {q : Program} {loose : List Str} {XP : (Str → Option Value) → Heap → Prop} {YP : World → Heap → Prop} {d : DefRec} {KK : Params → PySem.W.Frag} {CX : CXT} {sp : PySem.W.Frag → Sp} {x : Str}
    (most : l.most = some n) (fits : n ≤ sizeLine) (plain : d.params.defaults = []) (room : Room k callerA) (inn : ∀ (w : World) (h : Heap), YP w h → (KK w.params).In h)
    (F : ∀ (w : World) (mg : Str → Option Value) (fa : Addr) (h : Heap), XP mg h → (KK w.params).In h → h.Ns mainGlobals mg → mg d.name = some (.ref fa) →
      ∃ fd : FuncData, (∀ (s : Shared) (u : Value), BindsTo s fd ⟨[u], []⟩ [(x, u)]) ∧ ∀ base : Heap, (KK w.params).In base → base.Ns mainGlobals mg → FnG l.prog w (KK w.params) mg base CX k fa fd [x] (sp (KK w.params)))
    (told : ∀ (K : PySem.W.Frag) (H : Hp) (a : Addr) (ns : List Int), ns.length ≤ n → SqL K H a (ns.map V.int) → sp K [.ref a] H (fun v _ => v = .bl true) fun _ _ _ => False)
    (clean : ∀ (H : Hp) (s : Shared) (e : Value) (s' : Shared), CX [] H s (fun _ _ _ => False) e s' → False) : PySem.W.WalkO q loose XP YP l.row.toRowW d [] (fun f vs => PySem.call f vs) := by
  refine Att.attach_call most plain fun w s₀ s₁ mg mb fa o pm cd doc a vs ns G Y ho hd hcd hmg hobj hints hlen hg => ?_
  have kin := inn w _ Y
  obtain ⟨fd, hb, hF⟩ := F w mg fa _ G.X kin G.T.g hmg
  exact law_G kin G.T.g G.T.b G.T.builtins G.T.nolimit hg hobj hints (Nat.le_trans hlen fits) room hF hb (fun H sq => told _ H a ns hlen sq) (fun H e s' => clean H s₁ e s')
theorem loose_int {q : Program} {lv : List (Str × PySem.W.WData)} {mg : Str → Option Value} {h : Heap} {x : Str} {n : Int} (X : PySem.W.XL q lv mg h) (hm : (x, PySem.W.WData.int n) ∈ lv) : ∃ t, mg x = some (.int n t) := by
  obtain ⟨v, h1, h2⟩ := X.2.val _ hm
  obtain ⟨t, rfl⟩ : ∃ t, v = Value.int n t := by
    cases h2
    exact ⟨_, rfl⟩
  exact ⟨t, h1⟩
end KG
namespace KT
open PySem L2 Evl
theorem g_lnS {K : PySem.W.Frag} {p : Addr} {ys : List V} {H : Hp} {Q : VK} (h : SqL K H p ys) (k : Q (.int ys.length) H) : KA.rLn K [.ref p] H Q := ⟨p, ys, rfl, .inl h, k⟩
end KT
end
section
/-! KR3: comprehensions and loops whose items are told by a relation; fractions compared with 0. -/
namespace KR
open PySem L2 Evl RZ
/-! ### all but lists stay -/
def ExT (H H' : Hp) : Prop := ∀ a o, (∀ ys, o ≠ .lst ys) → H a = some o → H' a = some o
theorem ExT.of {H H' : Hp} (e : Ex H H') : ExT H H' := fun a o _ h => e a o h
theorem ExT.lst {H : Hp} {D : Addr} {xs : List V} {o : HO} (h : H D = some (.lst xs)) : ExT H (upd H D o) := fun a u n e => by
  rw [upd_ne (fun z => by rw [z, h] at e; cases e; exact n _ rfl)]; exact e
theorem pimp {α β : Type} {R S : β → α → Prop} (f : ∀ v q, R v q → S v q) : ∀ {l : List β} {m : List α}, Paired R l m → Paired S l m
  | _, _, .nil => .nil
  | _, _, .cons r rr => .cons (f _ _ r) (pimp f rr)
theorem ext_t {K : PySem.W.Frag} {H H' : Hp} {a : Addr} {xs : List V} (e : ExT H H') (h : SqT K H a xs) : SqT K H' a xs := by
  rcases h with (h | ⟨o, h⟩) | h
  · exact .inl (.inl (e _ _ (fun _ z => nomatch z) h))
  · exact .inl (.inr ⟨o, e _ _ (fun _ z => nomatch z) h⟩)
  · exact .inr h
theorem FrV.monoT {H H' : Hp} {v : V} {q : Rat} (e : ExT H H') (h : FrV K H v q) : FrV K H' v q := let ⟨a, x, y⟩ := h; ⟨a, x, ext_t e y⟩
theorem RowV.monoT {H H' : Hp} {v : V} {r : List Rat} (e : ExT H H') (h : RowV K H v r) : RowV K H' v r :=
  let ⟨a, ys, x, y, z⟩ := h; ⟨a, ys, x, e _ _ (fun _ z => nomatch z) y, pimp (fun _ _ => FrV.monoT e) z⟩
/-! ### comprehensions -/
section
variable {α : Type} {g : TG} {tt : TT} {te tl : TE} {ta : TA} {vs : List Nat} {σ : L2.St} {H H1 : Hp} {Q : VK} {K : PySem.W.Frag} {J : It} {n : Nat} {G : Hp → Prop} {Y : Nat → Hp → V → Hp → Prop}
/-- behind i items the new list at D holds what out i tells -/
def LcQ (R : Hp → V → α → Prop) (out : Nat → List α) (H1 : Hp) (D : Addr) (i : Nat) (H : Hp) : Prop := Ex H1 H ∧ ∃ ys, H D = some (.lst ys) ∧ Paired (R H) ys (out i)
def LcEnd (R : Hp → V → α → Prop) (out : Nat → List α) (H1 : Hp) (D : Addr) (i : Nat) (y : V) (H : Hp) : Prop :=
  ∃ acc, H D = some (.lst acc) ∧ acc.length < sizeLine ∧ LcQ R out H1 D (i + 1) (upd H D (.lst (acc ++ [y])))
def LqTurn (g : TG) (tt : TT) (te : TE) (vs : List Nat) (σ : L2.St) (R : Hp → V → α → Prop) (out : Nat → List α) (H1 : Hp) (D : Addr) (i : Nat) (x : V) (H3 : Hp) : Prop :=
  g x (wipe σ vs) H3 fun σ2 H4 => wipe σ2 vs = wipe σ vs ∧ tt σ2 H4 fun b H5 => if b = true then te σ2 H5 (LcEnd R out H1 D i) else LcQ R out H1 D (i + 1) H5
theorem lcq_end {R : Hp → V → α → Prop} {out : Nat → List α} {D : Addr} {i : Nat} {H2 H6 : Hp} {y : V} {z : α} (mono : ∀ (H H' : Hp) (v : V) (q : α), ExT H H' → R H v q → R H' v q) (hD : H1 D = none)
    (h2 : LcQ R out H1 D i H2) (e : Ex H2 H6) (hl : (out i).length ≤ 100000) (ho : out (i + 1) = out i ++ [z]) (r : R H6 y z) : LcEnd R out H1 D i y H6 := by
  obtain ⟨e1, ys, hy, hp⟩ := h2
  have h6 := e _ _ hy
  have t := ExT.lst (o := .lst (ys ++ [y])) h6
  refine ⟨ys, h6, Nat.lt_of_le_of_lt (by rw [hp.length]; exact hl) (by decide), Ex.mut (e1.trans e) hD, _, upd_same, ?_⟩
  rw [ho]
  exact psnoc (pimp (fun _ _ h => mono _ _ _ _ t (mono _ _ _ _ (ExT.of e) h)) hp) (mono _ _ _ _ t r)
theorem lcq_skip {R : Hp → V → α → Prop} {out : Nat → List α} {D : Addr} {i : Nat} {H2 H6 : Hp} (mono : ∀ (H H' : Hp) (v : V) (q : α), ExT H H' → R H v q → R H' v q)
    (h2 : LcQ R out H1 D i H2) (e : Ex H2 H6) (ho : out (i + 1) = out i) : LcQ R out H1 D (i + 1) H6 := by
  obtain ⟨e1, ys, hy, hp⟩ := h2
  exact ⟨e1.trans e, ys, e _ _ hy, by rw [ho]; exact pimp (fun _ _ h => mono _ _ _ _ (ExT.of e) h) hp⟩
theorem kLc_q (w : Walk J n G Y) (R : Hp → V → α → Prop) (out : Nat → List α) (h0 : out 0 = []) (hG : ∀ H, Ex H1 H → G H)
    (hs : ∀ D, H1 D = none → ∀ i x H2 H3, i < n → LcQ R out H1 D i H2 → Y i H2 x H3 → LqTurn g tt te vs σ R out H1 D i x H3)
    (hd : ∀ D H2 ys, H1 D = none → Ex H1 H2 → H2 D = some (.lst ys) → Paired (R H2) ys (out n) → Q (.ref D) H2) : KA.kLc g tt te vs σ Q J H1 := fun D hD =>
  lc_it w (LcQ R out H1 D) ⟨Ex.new hD, [], upd_same, by rw [h0]; exact .nil⟩ (fun i H' _ p => hG H' p.1) (fun i x H' H'' hi p y => hs D hD i x H' H'' hi p y) fun H' p => by
    obtain ⟨e, ys, hy, hp⟩ := p
    exact hd D H' ys hD e hy hp
def kLcZ (K : PySem.W.Frag) (R : It → Hp → Prop) (vs : List V) (H1 : Hp) : Prop := ∃ a b xs ys, vs = [.ref a, .ref b] ∧ ((SqL K H1 a xs ∧ SqL K H1 b ys ∧ R (Itz K a b) H1) ∨ (SqT K H1 a xs ∧ SqT K H1 b ys ∧ R (ItzT K a b) H1))
theorem g_lcz (h : ta σ H (kLcZ K (KA.kLc g tt te vs σ Q))) : tLc (iZipA K ta) g tt te vs σ H Q := h
def kLcK (R : It → Hp → Prop) (x : V) (H1 : Hp) : Prop := ∃ d o, x = .ref d ∧ ((∃ kvs, H1 d = some (.frz o (.dK kvs)) ∧ R (Itk d o kvs) H1) ∨ ∃ kvs, H1 d = some (.frz o (.dT kvs)) ∧ R (Itkt d o kvs) H1)
theorem g_lck (h : tl σ H (kLcK (KA.kLc g tt te vs σ Q))) : tLc (iKeys tl) g tt te vs σ H Q := h
theorem walk_zipT {a b : Addr} {xs ys : List V} {n : Nat} (hn : n = min xs.length ys.length) : Walk (ItzT K a b) n (fun H => SqT K H a xs ∧ SqT K H b ys) (YPair (fun i => xs[i]?) (fun i => ys[i]?)) := by
  subst hn
  refine ⟨fun i _ hi q => ?_, fun _ q => ⟨xs, ys, q.1, q.2, by omega⟩, fun i H v H' _ q y => ?_⟩
  · have h1 : i < xs.length := by omega
    have h2 : i < ys.length := by omega
    exact ⟨xs, ys, xs[i], ys[i], q.1, q.2, by simp [h1], by simp [h2]⟩
  · obtain ⟨T, x, z, h1, h2, h3, h4, h5⟩ := y
    exact ⟨T, x, z, h1, h2, h3, h4 xs q.1, h5 ys q.2⟩
/-- over a tuple -/
theorem lcq_tup {a : Addr} {xs : List V} (R : Hp → V → α → Prop) (out : Nat → List α) (hx : SqT K H1 a xs) (h0 : out 0 = [])
    (hs : ∀ D, H1 D = none → ∀ i x H2, xs[i]? = some x → LcQ R out H1 D i H2 → LqTurn g tt te vs σ R out H1 D i x H2)
    (hd : ∀ D H2 ys, H1 D = none → Ex H1 H2 → H2 D = some (.lst ys) → Paired (R H2) ys (out xs.length) → Q (.ref D) H2) : KA.kLcT K (KA.kLc g tt te vs σ Q) (.ref a) H1 :=
  ⟨a, rfl, ⟨xs, hx⟩, kLc_q walk_tup R out h0 (fun H e => ex_t e hx) (fun D hD i x H2 H3 hi p y => by obtain ⟨rfl, y⟩ := y; exact hs D hD i x _ y p) hd⟩
theorem lcq_lst {a : Addr} {xs : List V} (R : Hp → V → α → Prop) (out : Nat → List α) (hx : SqL K H1 a xs) (h0 : out 0 = [])
    (hs : ∀ D, H1 D = none → ∀ i x H2, xs[i]? = some x → LcQ R out H1 D i H2 → LqTurn g tt te vs σ R out H1 D i x H2)
    (hd : ∀ D H2 ys, H1 D = none → Ex H1 H2 → H2 D = some (.lst ys) → Paired (R H2) ys (out xs.length) → Q (.ref D) H2) : KA.kLcL K (KA.kLc g tt te vs σ Q) (.ref a) H1 :=
  ⟨a, rfl, ⟨xs, hx⟩, kLc_q walk_list R out h0 (fun H e => ex_l e hx) (fun D hD i x H2 H3 hi p y => by obtain ⟨rfl, y⟩ := y; exact hs D hD i x _ y p) hd⟩
theorem lcq_rng {m : Int} (R : Hp → V → α → Prop) (out : Nat → List α) (hm : 0 ≤ m ∧ m ≤ 100000) (h0 : out 0 = [])
    (hs : ∀ D, H1 D = none → ∀ (i : Nat) H2, (i : Int) < m → LcQ R out H1 D i H2 → LqTurn g tt te vs σ R out H1 D i (.int (0 + (i : Int))) H2)
    (hd : ∀ D H2 ys, H1 D = none → Ex H1 H2 → H2 D = some (.lst ys) → Paired (R H2) ys (out m.toNat) → Q (.ref D) H2) : KA.kLcR (KA.kLc g tt te vs σ Q) [.int m] H1 :=
  ⟨m, rfl, by omega, by omega, kLc_q walk_range R out h0 (fun _ _ => trivial) (fun D hD i x H2 H3 hi p y => by obtain ⟨rfl, rfl⟩ := y; exact hs D hD i _ (by omega) p) hd⟩
/-- over two tuples side by side -/
theorem lcq_zipT {a b : Addr} {xs ys : List V} (R : Hp → V → α → Prop) (out : Nat → List α) (hx : SqT K H1 a xs) (hy : SqT K H1 b ys) (hl : ys.length = xs.length) (h0 : out 0 = [])
    (hs : ∀ D, H1 D = none → ∀ i x y T H2 H3, xs[i]? = some x → ys[i]? = some y → LcQ R out H1 D i H2 → Ex H2 H3 → H3 T = some (.tup [x, y]) → LqTurn g tt te vs σ R out H1 D i (.ref T) H3)
    (hd : ∀ D H2 zs, H1 D = none → Ex H1 H2 → H2 D = some (.lst zs) → Paired (R H2) zs (out xs.length) → Q (.ref D) H2) : kLcZ K (KA.kLc g tt te vs σ Q) [.ref a, .ref b] H1 :=
  ⟨a, b, xs, ys, rfl, .inr ⟨hx, hy, kLc_q (walk_zipT (n := xs.length) (by omega)) R out h0 (fun H e => ⟨ex_t e hx, ex_t e hy⟩) (fun D hD i v H2 H3 hi p y => by
    obtain ⟨T, x, y, rfl, hT, rfl, h1, h2⟩ := y
    exact hs D hD i x y T H2 _ h1 h2 p (Ex.new hT) upd_same) hd⟩⟩
end
/-! ### loops -/
section
variable {D : Ends} {σ : L2.St} {H H1 : Hp} {tb t : TS} {tl : TE} {ta : TA} {g : TG} {K : PySem.W.Frag} {a b : Addr} {xs ys : List V}
def kForZ (K : PySem.W.Frag) (g : TG) (tb : TS) (D : Ends) (σ : L2.St) (vs : List V) (H1 : Hp) : Prop := ∃ a b xs ys, vs = [.ref a, .ref b] ∧ ((SqL K H1 a xs ∧ SqL K H1 b ys ∧ ∃ W : Nat → Nat → L2.St → Hp → Prop, (∃ m, W 0 m σ H1) ∧ ∀ i m σ H, W i m σ H →
    ((Itz K a b).stop i H ∧ D.nx σ H) ∨ ((Itz K a b).go i H ∧ ∃ N : L2.St → Hp → Prop, (∀ σ' H', N σ' H' → ∃ m', m' < m ∧ W (i + 1) m' σ' H') ∧ ∀ x H', (Itz K a b).yld i H x H' → g x σ H' fun σ2 H2 => tb { D with nx := N, ct := N, bk := D.nx } σ2 H2)) ∨
  (SqT K H1 a xs ∧ SqT K H1 b ys ∧ ∃ W : Nat → Nat → L2.St → Hp → Prop, (∃ m, W 0 m σ H1) ∧ ∀ i m σ H, W i m σ H →
    ((ItzT K a b).stop i H ∧ D.nx σ H) ∨ ((ItzT K a b).go i H ∧ ∃ N : L2.St → Hp → Prop, (∀ σ' H', N σ' H' → ∃ m', m' < m ∧ W (i + 1) m' σ' H') ∧ ∀ x H', (ItzT K a b).yld i H x H' → g x σ H' fun σ2 H2 => tb { D with nx := N, ct := N, bk := D.nx } σ2 H2)))
theorem g_forZ (h : ta σ H (kForZ K g tb D σ)) : tFor (iZipA K ta) g tb D σ H := h
theorem forZ_L (Pv : Nat → L2.St → Hp → Prop) (hx : SqL K H1 a xs) (hy : SqL K H1 b ys) (hl : ys.length = xs.length) (h0 : Pv 0 σ H1) (hG : ∀ i σ H, Pv i σ H → SqL K H a xs ∧ SqL K H b ys)
    (hs : ∀ i x y T σ H H', xs[i]? = some x → ys[i]? = some y → Pv i σ H → Ex H H' → H' T = some (.tup [x, y]) → g (.ref T) σ H' fun σ2 H2 => tb { D with nx := Pv (i + 1), ct := Pv (i + 1), bk := D.nx } σ2 H2) (hd : ∀ σ H, Pv xs.length σ H → D.nx σ H) :
    kForZ K g tb D σ [.ref a, .ref b] H1 :=
  ⟨a, b, xs, ys, rfl, .inl ⟨hx, hy, for_it (walk_zip (n := xs.length) (by omega)) Pv h0 (fun i σ H _ p => hG i σ H p) (fun i v σ H H' hi p y => by
    obtain ⟨T, x, y, rfl, hT, rfl, h1, h2⟩ := y
    exact hs i x y T σ H _ h1 h2 p (Ex.new hT) upd_same) hd⟩⟩
theorem forZ_T (Pv : Nat → L2.St → Hp → Prop) (hx : SqT K H1 a xs) (hy : SqT K H1 b ys) (hl : ys.length = xs.length) (h0 : Pv 0 σ H1) (hG : ∀ i σ H, Pv i σ H → SqT K H a xs ∧ SqT K H b ys)
    (hs : ∀ i x y T σ H H', xs[i]? = some x → ys[i]? = some y → Pv i σ H → Ex H H' → H' T = some (.tup [x, y]) → g (.ref T) σ H' fun σ2 H2 => tb { D with nx := Pv (i + 1), ct := Pv (i + 1), bk := D.nx } σ2 H2) (hd : ∀ σ H, Pv xs.length σ H → D.nx σ H) :
    kForZ K g tb D σ [.ref a, .ref b] H1 :=
  ⟨a, b, xs, ys, rfl, .inr ⟨hx, hy, for_it (walk_zipT (n := xs.length) (by omega)) Pv h0 (fun i σ H _ p => hG i σ H p) (fun i v σ H H' hi p y => by
    obtain ⟨T, x, y, rfl, hT, rfl, h1, h2⟩ := y
    exact hs i x y T σ H _ h1 h2 p (Ex.new hT) upd_same) hd⟩⟩
/-- for k in d, the dict locked -/
def kForK (g : TG) (tb : TS) (D : Ends) (σ : L2.St) (x : V) (H1 : Hp) : Prop := ∃ d o, x = .ref d ∧ ((∃ kvs, H1 d = some (.frz o (.dK kvs)) ∧ ∃ W : Nat → Nat → L2.St → Hp → Prop, (∃ m, W 0 m σ H1) ∧ ∀ i m σ H, W i m σ H →
    ((Itk d o kvs).stop i H ∧ D.nx σ H) ∨ ((Itk d o kvs).go i H ∧ ∃ N : L2.St → Hp → Prop, (∀ σ' H', N σ' H' → ∃ m', m' < m ∧ W (i + 1) m' σ' H') ∧ ∀ x H', (Itk d o kvs).yld i H x H' → g x σ H' fun σ2 H2 => tb { D with nx := N, ct := N, bk := D.nx } σ2 H2)) ∨
  ∃ kvs, H1 d = some (.frz o (.dT kvs)) ∧ ∃ W : Nat → Nat → L2.St → Hp → Prop, (∃ m, W 0 m σ H1) ∧ ∀ i m σ H, W i m σ H →
    ((Itkt d o kvs).stop i H ∧ D.nx σ H) ∨ ((Itkt d o kvs).go i H ∧ ∃ N : L2.St → Hp → Prop, (∀ σ' H', N σ' H' → ∃ m', m' < m ∧ W (i + 1) m' σ' H') ∧ ∀ x H', (Itkt d o kvs).yld i H x H' → g x σ H' fun σ2 H2 => tb { D with nx := N, ct := N, bk := D.nx } σ2 H2))
theorem g_forK (h : tl σ H (kForK g tb D σ)) : tFor (iKeys tl) g tb D σ H := h
theorem forK {d : Addr} {o : Obj} {kvs : List (L2.Key × V)} (Pv : Nat → L2.St → Hp → Prop) (hd : H1 d = some (.frz o (.dK kvs))) (h0 : Pv 0 σ H1) (hG : ∀ i σ H, Pv i σ H → H d = some (.frz o (.dK kvs)))
    (hs : ∀ i k v σ H, kvs[i]? = some (k, v) → Pv i σ H → g (kV k) σ H fun σ2 H2 => tb { D with nx := Pv (i + 1), ct := Pv (i + 1), bk := D.nx } σ2 H2) (he : ∀ σ H, Pv kvs.length σ H → D.nx σ H) : kForK g tb D σ (.ref d) H1 :=
  ⟨d, o, rfl, .inl ⟨kvs, hd, for_it walk_keys Pv h0 (fun i σ H _ p => hG i σ H p) (fun i x σ H H' hi p y => by
    obtain ⟨rfl, k, v, h1, rfl⟩ := y
    exact hs i k v σ _ h1 p) he⟩⟩
end
/-! ### comparisons with 0 -/
def dat (q : Rat) : PyData := .tuple [.int q.num, .int (q.den : Int)]
section
variable {K : PySem.W.Frag} {H : Hp} {v : V} {q : Rat} {z : Addr} {Q : VK}
theorem dp_fr (h : FrV K H v q) : Dp K H v (dat q) := by
  obtain ⟨a, rfl, h⟩ := h
  exact .tup h (.cons (.int _) (.cons (.int _) .nil))
theorem dp_01 (h : SqT K H z [.int 0, .int 1]) : Dp K H (.ref z) (dat 0) := .tup h (.cons (.int _) (.cons (.int _) .nil))
theorem shaped_dat : SeqAt.shaped (dat q) = true := by
  unfold SeqAt.shaped dat
  rw [Bool.and_eq_true_iff]
  exact ⟨KT.can_ints [q.num, (q.den : Int)], decide_eq_true (by
    have := KT.dep_ints [q.num, (q.den : Int)]
    show PyData.depthAll ([q.num, (q.den : Int)].map PyData.int) + 1 ≤ 64
    omega)⟩
theorem eqv_dat {p q : Rat} : PyData.eqv (dat p) (dat q) = decide (p = q) := by
  show (p.num == q.num && ((p.den : Int) == (q.den : Int) && true)) = _
  rw [Bool.and_true, Bool.eq_iff_iff]
  simp only [Bool.and_eq_true, beq_iff_eq, decide_eq_true_eq]
  constructor
  · rintro ⟨h1, h2⟩; exact Rat.ext h1 (by omega)
  · rintro rfl; exact ⟨rfl, rfl⟩
theorem g_neZ (h : FrV K H v q) (hz : SqT K H z [.int 0, .int 1]) (k : Q (.bl (!decide (q = 0))) H) : rNeD K v (.ref z) H Q := ⟨_, _, dp_fr h, dp_01 hz, shaped_dat, shaped_dat, by rw [eqv_dat]; exact k⟩
theorem g_eqZ (h : FrV K H v q) (hz : SqT K H z [.int 0, .int 1]) (k : Q (.bl (decide (q = 0))) H) : rEqD K v (.ref z) H Q := ⟨_, _, dp_fr h, dp_01 hz, shaped_dat, shaped_dat, by rw [eqv_dat]; exact k⟩
end
/-! ### rows as vectors -/
def vec (r : List Rat) : Vec := fun j => r.getD j 0
theorem vec_lt {r : List Rat} {j : Nat} {q : Rat} (h : r[j]? = some q) : vec r j = q := by unfold vec; rw [List.getD_eq_getElem?_getD, h]; rfl
theorem vec_wd {r : List Rat} : Wd r.length (vec r) := fun j hj => by unfold vec; rw [List.getD_eq_getElem?_getD, List.getElem?_eq_none hj]; rfl
theorem vec_ext {r s : List Rat} (h : r.length = s.length) (e : ∀ j, vec r j = vec s j) : r = s := List.ext_getElem h fun i a b => by
  have := e i
  unfold vec at this
  simpa [List.getD_eq_getElem?_getD, a, b] using this
def leadV : Option Nat → V
  | none => .non
  | some p => .int (p : Int)
/-- one row less another times a number -/
def subm (r o : List Rat) (s : Rat) : List Rat := List.zipWith (fun x y => x - y * s) r o
theorem subm_len {r o : List Rat} {s : Rat} (h : o.length = r.length) : (subm r o s).length = r.length := by unfold subm; rw [List.length_zipWith]; omega
theorem subm_vec {r o : List Rat} {s : Rat} (h : o.length = r.length) : ∀ j, vec (subm r o s) j = vec r j - vec o j * s := fun j => by
  unfold vec subm
  simp only [List.getD_eq_getElem?_getD, List.getElem?_zipWith]
  rcases Nat.lt_or_ge j r.length with l | l
  · have l2 : j < o.length := by omega
    simp [l, l2]
  · have l2 : o.length ≤ j := by omega
    rw [List.getElem?_eq_none l, List.getElem?_eq_none l2]
    show (0 : Rat) = 0 - 0 * s
    grind
end KR
end
section
/-! KR6: tuple(list), steps. -/
namespace KR
open PySem PySem.Spec PyProof.Rows L2 Evl
def rTup (K : PySem.W.Frag) : List V → Hp → VK → Prop := fun xs H Q => ∃ p ys, xs = [.ref p] ∧ ((SqL K H p ys ∧ ∀ l, H l = none → Q (.ref l) (upd H l (.tup ys))) ∨ (SqT K H p ys ∧ Q (.ref p) H))
theorem call_tup {X : Cx} : CallR X (.type "tuple") (rTup X.K) := call_tuple_of
section
variable {K : PySem.W.Frag} {H : Hp} {Q : VK} {p : Addr} {ys : List V}
theorem g_tupL (h : H p = some (.lst ys)) (k : ∀ q H', H q = none → Ex H H' → H' q = some (.tup ys) → Q (.ref q) H') : rTup K [.ref p] H Q :=
  ⟨p, ys, rfl, .inl ⟨SqL.of h, fun l hl => k l _ hl (Ex.new hl) upd_same⟩⟩
theorem g_lnSL (h : SqL K H p ys) (k : Q (.int ys.length) H) : KA.rLn K [.ref p] H Q := ⟨p, ys, rfl, .inl h, k⟩
theorem g_lnST (h : SqT K H p ys) (k : Q (.int ys.length) H) : KA.rLn K [.ref p] H Q := ⟨p, ys, rfl, .inr h, k⟩
end
theorem op_eqK {X : Cx} {K : PySem.W.Frag} (e : X.K = K) (hu : X.A.units + 64 < cLine) : OpR X (compareOp .Eq) (rEqD K) := e ▸ op_eqD hu
theorem op_neK {X : Cx} {K : PySem.W.Frag} (e : X.K = K) (hu : X.A.units + 64 < cLine) : OpR X (compareOp .NotEq) (rNeD K) := e ▸ op_neD hu
theorem take_snoc {α : Type} {l : List α} {i : Nat} {z : α} (h : l[i]? = some z) : l.take (i + 1) = l.take i ++ [z] := by
  rw [List.take_add_one, h]; rfl
theorem paired_get {α : Type} {R : V → α → Prop} {l : List V} {m : List α} (h : Paired R l m) {i : Nat} {q : α} (e : m[i]? = some q) : ∃ v, l[i]? = some v ∧ R v q := by
  have hi : i < l.length := by rw [h.length]; exact (List.getElem?_eq_some_iff.mp e).1
  obtain ⟨b, e2, r⟩ := pat h (List.getElem?_eq_some_iff.mpr ⟨hi, rfl⟩)
  rw [e] at e2; cases e2
  exact ⟨_, List.getElem?_eq_some_iff.mpr ⟨hi, rfl⟩, r⟩
end KR
end
section
/-! KR7: reduced rows as lists. -/
namespace KR
open PySem L2 Evl
abbrev LRd := List (Nat × List Rat)
def toRd (L : LRd) : Rd := L.map fun z => (z.1, vec z.2)
def clrL (L : LRd) (r : List Rat) : List Rat := L.foldl (fun r z => subm r z.2 (vec r z.1)) r
theorem clrL_len : ∀ {L : LRd} {r : List Rat} {w : Nat}, (∀ z ∈ L, z.2.length = w) → r.length = w → (clrL L r).length = w
  | [], _, _, _, h => h
  | z :: L, r, w, hL, h => clrL_len (L := L) (fun y hy => hL y (.tail _ hy)) (by rw [subm_len (by rw [hL z (.head _), h])]; exact h)
theorem clrL_vec : ∀ {L : LRd} {r : List Rat} {w : Nat}, (∀ z ∈ L, z.2.length = w) → r.length = w → vec (clrL L r) = clr (toRd L) (vec r)
  | [], _, _, _, _ => rfl
  | z :: L, r, w, hL, h => by
    show vec (clrL L (subm r z.2 (vec r z.1))) = clr (toRd L) (sb (vec r) (z.1, vec z.2))
    have e : z.2.length = r.length := by rw [hL z (.head _), h]
    rw [clrL_vec (L := L) (fun y hy => hL y (.tail _ hy)) (by rw [subm_len e]; exact h)]
    congr 1
    funext j
    rw [subm_vec e]
    rfl
theorem subm_zero {r o : List Rat} (h : o.length = r.length) : subm r o 0 = r := vec_ext (subm_len h) fun j => by
  rw [subm_vec h, Rat.mul_zero]; grind
def insL (L : LRd) (x : Nat × List Rat) : LRd := L.filter (fun z => decide (z.1 < x.1)) ++ x :: L.filter (fun z => !decide (z.1 < x.1))
def oneL (r : List Rat) (p : Nat) : List Rat := r.map fun q => q * (vec r p)⁻¹
def putL (L : LRd) (p : Nat) (o : List Rat) : LRd := insL (L.map fun z => (z.1, subm z.2 o (vec z.2 p))) (p, o)
def stepL (w : Nat) (L : LRd) (r : List Rat) : LRd := match fst w (vec (clrL L r)) with
  | none => L
  | some p => putL L p (oneL (clrL L r) p)
theorem vec_map {r : List Rat} {c : Rat} : vec (r.map fun q => q * c) = fun j => vec r j * c := by
  funext j
  unfold vec
  simp only [List.getD_eq_getElem?_getD, List.getElem?_map]
  cases r[j]? with
  | none => show (0 : Rat) = 0 * c; grind
  | some q => rfl
theorem oneL_vec {r : List Rat} {p : Nat} : vec (oneL r p) = nrm (vec r) p := by unfold oneL; rw [vec_map]; rfl
theorem insL_rd {L : LRd} {p : Nat} {o : List Rat} : toRd (insL L (p, o)) = ins (toRd L) (p, vec o) := by
  unfold toRd insL ins
  rw [List.map_append, List.map_cons, List.filter_map, List.filter_map]
  rfl
/-- all rows are of one length -/
def Len (w : Nat) (L : LRd) : Prop := ∀ z ∈ L, z.2.length = w
theorem putL_rd {w : Nat} {L : LRd} {p : Nat} {o : List Rat} (hL : Len w L) (ho : o.length = w) : toRd (putL L p o) = put (toRd L) p (vec o) := by
  unfold putL put
  rw [insL_rd]
  congr 1
  unfold toRd
  rw [List.map_map, List.map_map]
  refine List.map_congr_left fun z hz => ?_
  show (z.1, vec (subm z.2 o (vec z.2 p))) = (z.1, sb (vec z.2) (p, vec o))
  congr 1
  funext j
  rw [subm_vec (by rw [ho, hL z hz])]
  rfl
theorem mem_insL {L : LRd} {x z : Nat × List Rat} : z ∈ insL L x ↔ z = x ∨ z ∈ L := by
  unfold insL
  simp only [List.mem_append, List.mem_cons, List.mem_filter]
  constructor
  · rintro (⟨h, _⟩ | h | ⟨h, _⟩)
    · exact .inr h
    · exact .inl h
    · exact .inr h
  · rintro (h | h)
    · exact .inr (.inl h)
    · cases e : decide (z.1 < x.1)
      · exact .inr (.inr ⟨h, by simp⟩)
      · exact .inl ⟨h, rfl⟩
theorem stepL_len {w : Nat} {L : LRd} {r : List Rat} (hL : Len w L) (hr : r.length = w) : Len w (stepL w L r) := by
  unfold stepL
  cases e : fst w (vec (clrL L r)) with
  | none => exact hL
  | some p =>
    have ho : (oneL (clrL L r) p).length = w := by unfold oneL; rw [List.length_map]; exact clrL_len hL hr
    intro z hz
    rcases mem_insL.mp hz with rfl | h
    · exact ho
    · obtain ⟨y, hy, rfl⟩ := List.mem_map.mp h
      show (subm y.2 _ _).length = w
      rw [subm_len (by rw [ho, hL y hy]), hL y hy]
theorem stepL_rd {w : Nat} {L : LRd} {r : List Rat} (hL : Len w L) (hr : r.length = w) : toRd (stepL w L r) = step w (toRd L) (vec r) := by
  unfold stepL step
  rw [← clrL_vec hL hr]
  cases e : fst w (vec (clrL L r)) with
  | none => rfl
  | some p =>
    show toRd (putL L p (oneL (clrL L r) p)) = put (toRd L) p (nrm (vec (clrL L r)) p)
    rw [putL_rd hL (by unfold oneL; rw [List.length_map]; exact clrL_len hL hr), oneL_vec]
def allL (w : Nat) (rows : List (List Rat)) : LRd := rows.foldl (stepL w) []
theorem allL_go {w : Nat} : ∀ {rows : List (List Rat)} {L : LRd}, Len w L → (∀ r ∈ rows, r.length = w) → Len w (rows.foldl (stepL w) L) ∧ toRd (rows.foldl (stepL w) L) = (rows.map vec).foldl (step w) (toRd L)
  | [], L, hL, _ => ⟨hL, rfl⟩
  | r :: rows, L, hL, h => by
    obtain ⟨a, b⟩ := allL_go (rows := rows) (stepL_len hL (h r (.head _))) fun u hu => h u (.tail _ hu)
    refine ⟨a, ?_⟩
    rw [List.foldl_cons, b, List.map_cons, List.foldl_cons, stepL_rd hL (h r (.head _))]
theorem allL_len {w : Nat} {rows : List (List Rat)} (h : ∀ r ∈ rows, r.length = w) : Len w (allL w rows) := (allL_go (L := []) (fun _ h => by cases h) h).1
theorem allL_rd {w : Nat} {rows : List (List Rat)} (h : ∀ r ∈ rows, r.length = w) : toRd (allL w rows) = redAll w (rows.map vec) := (allL_go (L := []) (fun _ h => by cases h) h).2
/-- a row that comes: whole numbers -/
def SmR (t : Nat) (r : List Rat) : Prop := r.length = t + 1 ∧ Sm t (vec r)
/-- what a list of reduced rows is -/
structure OkL (t : Nat) (L : LRd) : Prop where
  len : Len (t + 1) L
  okk : Okk t (toRd L)
theorem okL_nil (t : Nat) : OkL t [] := ⟨(fun _ h => by cases h), okk_nil t⟩
theorem okL_step {t : Nat} {L : LRd} {r : List Rat} (k : OkL t L) (s : SmR t r) : OkL t (stepL (t + 1) L r) :=
  ⟨stepL_len k.len s.1, by rw [stepL_rd k.len s.1]; exact okk_step k.okk s.2 (by rw [← s.1]; exact vec_wd)⟩
theorem okL_all {t : Nat} {rows : List (List Rat)} (h : ∀ r ∈ rows, SmR t r) : OkL t (allL (t + 1) rows) := by
  have : ∀ (rows : List (List Rat)) (L : LRd), OkL t L → (∀ r ∈ rows, SmR t r) → OkL t (rows.foldl (stepL (t + 1)) L) := by
    intro rows
    induction rows with
    | nil => intro L k _; exact k
    | cons r rows ih => intro L k h; exact ih _ (okL_step k (h r (.head _))) fun u hu => h u (.tail _ hu)
  exact this rows [] (okL_nil t) h
theorem mem_toRd {L : LRd} {z : Nat × List Rat} (h : z ∈ L) : (z.1, vec z.2) ∈ toRd L := List.mem_map.mpr ⟨z, h, rfl⟩
/-- the place of a reduced row is its first one -/
theorem OkL.lead {t : Nat} {L : LRd} (k : OkL t L) {z : Nat × List Rat} (h : z ∈ L) : fst (t + 1) (vec z.2) = some z.1 := by
  have r := k.okk.red
  have m := mem_toRd h
  unfold fst
  rw [List.find?_range_eq_some]
  refine ⟨?_, by simpa using (by have := k.okk.le _ m; show z.1 < t + 1; have : z.1 ≤ t := this; omega), fun j hj => ?_⟩
  · have e : vec z.2 z.1 = 1 := r.one _ m
    rw [e]; decide
  · have e : vec z.2 j = 0 := r.low _ m j hj
    rw [e]; decide
theorem OkL.lt {t : Nat} {L : LRd} (k : OkL t L) {z : Nat × List Rat} (h : z ∈ L) : z.1 ≤ t := k.okk.le _ (mem_toRd h)
theorem vec_mem {r : List Rat} {b : Nat} (h : ∀ j, Sz b (vec r j)) : ∀ q ∈ r, Sz b q := fun q hq => by
  obtain ⟨j, hj⟩ := List.getElem?_of_mem hq
  rw [← vec_lt hj]; exact h j
theorem vec_sz {r : List Rat} {b : Nat} (b0 : 0 < b) (h : ∀ q ∈ r, Sz b q) (j : Nat) : Sz b (vec r j) := by
  unfold vec
  rw [List.getD_eq_getElem?_getD]
  cases e : r[j]? with
  | none => exact ⟨by show (0 : Int).natAbs < 2 ^ b; exact Nat.two_pow_pos b, by show 1 < 2 ^ b; exact Nat.one_lt_two_pow (by omega)⟩
  | some q => exact h q (List.mem_of_getElem? e)
theorem OkL.size {t : Nat} {L : LRd} (k : OkL t L) (ht : t ≤ 8) {z : Nat × List Rat} (h : z ∈ L) : ∀ q ∈ z.2, Sz 1060 q := vec_mem fun j => okk_size k.okk ht _ (mem_toRd h) j
theorem toRd_take {L : LRd} {i : Nat} : toRd (L.take i) = (toRd L).take i := by unfold toRd; rw [List.map_take]
theorem OkL.clr_size {t : Nat} {L : LRd} {r : List Rat} (k : OkL t L) (ht : t ≤ 8) (s : SmR t r) (i : Nat) : ∀ q ∈ clrL (L.take i) r, Sz 1060 q := vec_mem fun j => by
  rw [clrL_vec (w := t + 1) (fun z hz => k.len z (List.mem_of_mem_take hz)) s.1, toRd_take]
  exact clr_take_size k.okk ht s.2 (by rw [← s.1]; exact vec_wd) i j
theorem OkL.clr_sz {t : Nat} {L : LRd} {r : List Rat} (k : OkL t L) (ht : t ≤ 8) (s : SmR t r) : ∀ q ∈ clrL L r, Sz 1060 q := by
  have := k.clr_size ht s L.length
  rwa [List.take_length] at this
/-- ascending -/
theorem OkL.asc {t : Nat} {L : LRd} (k : OkL t L) : L.Pairwise (fun a b => a.1 < b.1) := (List.pairwise_map (f := fun z : Nat × List Rat => (z.1, vec z.2)) (R := fun a b => a.1 < b.1)).mp k.okk.red.asc
theorem ins_take {L : LRd} {p : Nat} (h : L.Pairwise (fun a b => a.1 < b.1)) : L.filter (fun z => decide (z.1 < p)) = L.take (L.filter (fun z => decide (z.1 < p))).length ∧ L.filter (fun z => !decide (z.1 < p)) = L.drop (L.filter (fun z => decide (z.1 < p))).length := by
  induction L with
  | nil => exact ⟨rfl, rfl⟩
  | cons x L ih =>
    obtain ⟨h1, h2⟩ := List.pairwise_cons.mp h
    obtain ⟨i1, i2⟩ := ih h2
    by_cases c : x.1 < p
    · simp only [List.filter_cons, c, decide_true, if_true, Bool.not_true, Bool.false_eq_true, if_false, List.length_cons, List.take_succ_cons, List.drop_succ_cons]
      exact ⟨by rw [← i1], i2⟩
    · have none_ : L.filter (fun z => decide (z.1 < p)) = [] := List.filter_eq_nil_iff.mpr fun z hz => by have := h1 z hz; simp; omega
      have all_ : L.filter (fun z => !decide (z.1 < p)) = L := List.filter_eq_self.mpr fun z hz => by have := h1 z hz; simp; omega
      simp only [List.filter_cons, c, decide_false, if_false, Bool.not_false, Bool.false_eq_true, if_true, none_, all_, List.length_nil, List.take_zero, List.drop_zero]
      exact ⟨trivial, trivial⟩
/-- the same rows, in whatever sequence -/
theorem vec_inj {w : Nat} {r s : List Rat} (h1 : r.length = w) (h2 : s.length = w) (e : vec r = vec s) : r = s := vec_ext (by omega) fun j => congrFun e j
theorem allL_same {w : Nat} {rows rows' : List (List Rat)} (h : ∀ r ∈ rows, r.length = w) (e : ∀ r, r ∈ rows ↔ r ∈ rows') : allL w rows = allL w rows' := by
  have h' : ∀ r ∈ rows', r.length = w := fun r hr => h r ((e r).mpr hr)
  have q : toRd (allL w rows) = toRd (allL w rows') := by
    rw [allL_rd h, allL_rd h']
    refine all_same (fun v hv => ?_) fun v => ?_
    · obtain ⟨r, hr, rfl⟩ := List.mem_map.mp hv
      rw [← h r hr]; exact vec_wd
    · simp only [List.mem_map]
      exact ⟨fun ⟨r, hr, z⟩ => ⟨r, (e r).mp hr, z⟩, fun ⟨r, hr, z⟩ => ⟨r, (e r).mpr hr, z⟩⟩
  have l1 := allL_len h
  have l2 := allL_len h'
  have el : (allL w rows).length = (allL w rows').length := by simpa [toRd] using congrArg List.length q
  refine List.ext_getElem el fun i a b => ?_
  have := congrArg (fun l => l[i]?) q
  simp only [toRd, List.getElem?_map, List.getElem?_eq_getElem a, List.getElem?_eq_getElem b, Option.map_some, Option.some.injEq, Prod.mk.injEq] at this
  exact Prod.ext this.1 (vec_inj (l1 _ (List.getElem_mem a)) (l2 _ (List.getElem_mem b)) this.2)
end KR
end
section
/-! KR8: lists cut and joined; kinds of plain values. -/
namespace KR
open PySem L2 Evl
section
variable {K : PySem.W.Frag} {H : Hp} {Q : VK} {a b : Addr} {xs ys : List V}
theorem g_slTake {k : Nat} (hx : SqL K H a xs) (hk : k ≤ xs.length) (q : ∀ p H', H p = none → Ex H H' → H' p = some (.lst (xs.take k)) → Q (.ref p) H') : rSlL K (.ref a) none (some (k : Int)) H Q := by
  have e1 : HT.sIx xs.length 0 none = 0 := HT.sIx_none _ _
  have e2 : HT.sIx xs.length xs.length (some (k : Int)) = k := by rw [HT.sIx_nat]; omega
  refine ⟨a, xs, rfl, hx, fun p hp => q p _ hp (Ex.new hp) ?_⟩
  rw [upd_same]
  unfold cutV
  rw [e1, e2, List.drop_zero, Nat.sub_zero]
theorem g_slDrop {k : Nat} (hx : SqL K H a xs) (hk : k ≤ xs.length) (q : ∀ p H', H p = none → Ex H H' → H' p = some (.lst (xs.drop k)) → Q (.ref p) H') : rSlL K (.ref a) (some (k : Int)) none H Q := by
  have e1 : HT.sIx xs.length 0 (some (k : Int)) = k := by rw [HT.sIx_nat]; omega
  have e2 : HT.sIx xs.length xs.length none = xs.length := HT.sIx_none _ _
  refine ⟨a, xs, rfl, hx, fun p hp => q p _ hp (Ex.new hp) ?_⟩
  rw [upd_same]
  unfold cutV
  rw [e1, e2, List.take_of_length_le (by rw [List.length_drop]; omega)]
theorem g_cat (hx : H a = some (.lst xs)) (hy : H b = some (.lst ys)) (hl : xs.length + ys.length ≤ 100000) (q : ∀ p H', H p = none → Ex H H' → H' p = some (.lst (xs ++ ys)) → Q (.ref p) H') : rCat (.ref a) (.ref b) H Q :=
  ⟨a, b, xs, ys, rfl, rfl, hx, hy, Nat.le_trans hl (by decide), fun p hp => q p _ hp (Ex.new hp) upd_same⟩
end
theorem ix_tupK {X : Cx} {K : PySem.W.Frag} (e : X.K = K) : IxR X (rIxT K) := e ▸ ix_tup
theorem ix_listK {X : Cx} {K : PySem.W.Frag} (e : X.K = K) : IxR X (rIxL K) := e ▸ ix_list
/-! ### kinds -/
inductive Kd (H : Hp) : V → Prop
  | non : Kd H .non
  | bl (b : Bool) : Kd H (.bl b)
  | int (i : Int) : Kd H (.int i)
  | str (x : Str) : Kd H (.str x)
  | tup {a : Addr} {xs : List V} (h : H a = some (.tup xs)) : Kd H (.ref a)
theorem Kd.mono {H H' : Hp} {v : V} (e : Ex H H') (h : Kd H v) : Kd H' v := by
  cases h with
  | non => exact .non
  | bl b => exact .bl b
  | int i => exact .int i
  | str x => exact .str x
  | tup h => exact .tup (e _ _ h)
def kName : V → String
  | .non => "NoneType"
  | .bl _ => "bool"
  | .int _ => "int"
  | .str _ => "str"
  | _ => "tuple"
theorem Kd.ty {K : PySem.W.Frag} {H : Hp} {v : V} (h : Kd H v) : TyX K H v (.type (kName v)) := by
  cases h with
  | non => exact .base .non
  | bl b => exact .base (.bl b)
  | int i => exact .base (.int i)
  | str x => exact .base (.str x)
  | tup h => exact .base (.tup h)
def isNum : V → Bool
  | .int _ => true
  | _ => false
def isIntK : V → Bool
  | .int _ => true
  | .bl _ => true
  | _ => false
def isBlK : V → Bool
  | .bl _ => true
  | _ => false
theorem kit_int : kitB "NoneType" "int" = some false ∧ kitB "bool" "int" = some true ∧ kitB "int" "int" = some true ∧ kitB "str" "int" = some false ∧ kitB "tuple" "int" = some false := by decide +kernel
theorem kit_bool : kitB "NoneType" "bool" = some false ∧ kitB "bool" "bool" = some true ∧ kitB "int" "bool" = some false ∧ kitB "str" "bool" = some false ∧ kitB "tuple" "bool" = some false := by decide +kernel
theorem g_isInt {K : PySem.W.Frag} {H : Hp} {Q : VK} {v : V} (h : Kd H v) (k : Q (.bl (isIntK v)) H) : rIsi K [v, .ty "int"] H Q := by
  obtain ⟨h1, h2, h3, h4, h5⟩ := kit_int
  refine KA.g_isi h.ty (r := isIntK v) ?_ k
  cases h with
  | non => exact h1
  | bl b => exact h2
  | int i => exact h3
  | str x => exact h4
  | tup h => exact h5
theorem g_isBool {K : PySem.W.Frag} {H : Hp} {Q : VK} {v : V} (h : Kd H v) (k : Q (.bl (isBlK v)) H) : rIsi K [v, .ty "bool"] H Q := by
  obtain ⟨h1, h2, h3, h4, h5⟩ := kit_bool
  refine KA.g_isi h.ty (r := isBlK v) ?_ k
  cases h with
  | non => exact h1
  | bl b => exact h2
  | int i => exact h3
  | str x => exact h4
  | tup h => exact h5
def btw (v : V) (lo hi : Int) : Bool := match v with
  | .int i => decide (lo ≤ i ∧ i ≤ hi)
  | _ => false
theorem notNum {H : Hp} {v : V} (h : Kd H v) (n : isNum v = false) (lo hi : Int) : btw v lo hi = false := by
  cases h <;> first | rfl | (cases n)
theorem num_of {v : V} (n : isNum v = true) : ∃ i, v = .int i := by
  cases v <;> first | exact ⟨_, rfl⟩ | cases n
theorem isNum_eq {v : V} : (isIntK v && !isBlK v) = isNum v := by cases v <;> rfl
end KR
end
section
/-! KR9: listeners as objects. -/
namespace KR
open PySem L2 Evl
def lf (t : Int) (b r : V) : List (Str × V) := [(("taps" : Str), .int t), (("before" : Str), b), (("rows" : Str), r)]
theorem tb_ : (("before" : Str) == ("taps" : Str)) = false := by decide +kernel
theorem tr_ : (("rows" : Str) == ("taps" : Str)) = false := by decide +kernel
theorem br_ : (("rows" : Str) == ("before" : Str)) = false := by decide +kernel
theorem tb' : ¬ (("taps" : Str) = "before") := by decide +kernel
theorem tr' : ¬ (("taps" : Str) = "rows") := by decide +kernel
theorem br' : ¬ (("before" : Str) = "rows") := by decide +kernel
section
variable {t : Int} {b r b' r' : V} {m : Str}
theorem lf_t : (lf t b r).lookup ("taps" : Str) = some (.int t) := by
  show List.lookup ("taps" : Str) [(("taps" : Str), V.int t), (("before" : Str), b), (("rows" : Str), r)] = _
  have e : (("taps" : Str) == ("taps" : Str)) = true := by decide +kernel
  simp only [List.lookup, e]
theorem lf_b : (lf t b r).lookup ("before" : Str) = some b := by
  show List.lookup ("before" : Str) [(("taps" : Str), V.int t), (("before" : Str), b), (("rows" : Str), r)] = _
  have e : (("before" : Str) == ("before" : Str)) = true := by decide +kernel
  simp only [List.lookup, tb_, e]
theorem lf_r : (lf t b r).lookup ("rows" : Str) = some r := by
  show List.lookup ("rows" : Str) [(("taps" : Str), V.int t), (("before" : Str), b), (("rows" : Str), r)] = _
  have e : (("rows" : Str) == ("rows" : Str)) = true := by decide +kernel
  simp only [List.lookup, tr_, br_, e]
theorem lf_no (h1 : (m == ("taps" : Str)) = false) (h2 : (m == ("before" : Str)) = false) (h3 : (m == ("rows" : Str)) = false) : (lf t b r).lookup m = none := by
  show List.lookup m [(("taps" : Str), V.int t), (("before" : Str), b), (("rows" : Str), r)] = _
  simp only [List.lookup, h1, h2, h3]
theorem lf_hear : (lf t b r).lookup ("hear" : Str) = none := lf_no (by decide +kernel) (by decide +kernel) (by decide +kernel)
theorem lf_left : (lf t b r).lookup ("left" : Str) = none := lf_no (by decide +kernel) (by decide +kernel) (by decide +kernel)
theorem lf_known : (lf t b r).lookup ("known" : Str) = none := lf_no (by decide +kernel) (by decide +kernel) (by decide +kernel)
theorem lf_word : (lf t b r).lookup ("word" : Str) = none := lf_no (by decide +kernel) (by decide +kernel) (by decide +kernel)
theorem lf_path : (lf t b r).lookup ("path" : Str) = none := lf_no (by decide +kernel) (by decide +kernel) (by decide +kernel)
theorem lf_fits : (lf t b r).lookup ("fits_none" : Str) = none := lf_no (by decide +kernel) (by decide +kernel) (by decide +kernel)
theorem lf_next : (lf t b r).lookup ("next_row" : Str) = none := lf_no (by decide +kernel) (by decide +kernel) (by decide +kernel)
theorem put_r : putF "rows" r' (lf t b r) = lf t b r' := by
  show (if ("taps" : Str) = "rows" then _ else _) = _
  rw [if_neg tr']
  show _ :: (if ("before" : Str) = "rows" then _ else _) = _
  rw [if_neg br']
  show _ :: _ :: (if ("rows" : Str) = "rows" then _ else _) = _
  rw [if_pos rfl]
  rfl
theorem put_b : putF "before" b' (lf t b r) = lf t b' r := by
  show (if ("taps" : Str) = "before" then _ else _) = _
  rw [if_neg tb']
  show _ :: (if ("before" : Str) = "before" then _ else _) = _
  rw [if_pos rfl]
  rfl
theorem put_2 : putF "before" b (putF "taps" (.int t) []) = [(("taps" : Str), .int t), (("before" : Str), b)] := by
  show (if ("taps" : Str) = "before" then _ else _) = _
  rw [if_neg tb']
  rfl
theorem put_3 : putF "rows" r (putF "before" b (putF "taps" (.int t) [])) = lf t b r := by
  rw [put_2]
  show (if ("taps" : Str) = "rows" then _ else _) = _
  rw [if_neg tr']
  show _ :: (if ("before" : Str) = "rows" then _ else _) = _
  rw [if_neg br']
  rfl
end
def RowsV (K : PySem.W.Frag) (H : Hp) (v : V) (rows : List (List Rat)) : Prop := ∃ a us, v = .ref a ∧ H a = some (.lst us) ∧ Paired (RowV K H) us rows
/-- a listener at a: taps, what was sent before, the rows -/
structure Lsn (K : PySem.W.Frag) (C : Addr) (H : Hp) (a : Addr) (t : Nat) (bs : List Int) (L : LRd) : Prop where
  ex : ∃ (dx p : Addr) (r : V), H a = some (.ins C dx (lf t (.ref p) r)) ∧ H p = some (.tup (bs.map V.int)) ∧ RowsV K H r (L.map (·.2))
  t1 : 1 ≤ t
  t8 : t ≤ 8
  len : bs.length + 1 = t
  ok : OkL t L
/-- all but one object stay -/
def ExA (a : Addr) (H H' : Hp) : Prop := ∀ b o, b ≠ a → H b = some o → H' b = some o
theorem ExA.of {a : Addr} {H H' : Hp} (e : Ex H H') : ExA a H H' := fun b o _ h => e b o h
theorem ExA.trans {a : Addr} {H H' H'' : Hp} (e : ExA a H H') (f : ExA a H' H'') : ExA a H H'' := fun b o n h => f b o n (e b o n h)
theorem ExA.put {a : Addr} {H : Hp} {o : HO} : ExA a H (upd H a o) := fun b u n h => by rw [upd_ne n]; exact h
theorem ExA.old {a : Addr} {H H' H'' : Hp} (e : Ex H H') (n : H a = none) (f : ExA a H' H'') : Ex H H'' := fun b o h => f b o (ne_of_none h n) (e b o h)
/-- the row of a next tick -/
def rats (xs : List Int) : List Rat := xs.map fun n => ((n : Int) : Rat)
def nextRow (x : Int) (bs : List Int) (y : Int) : List Rat := rats (x :: bs ++ [y])
def fitsN (t : Nat) (L : LRd) : Bool := L.any fun z => decide (z.1 = t)
def leftO (t : Nat) (L : LRd) (row : List Rat) : Option Rat := if fitsN t L = true then none else if fst t (vec (clrL L row)) = none then some (vec (clrL L row) t) else none
def wordS (t : Nat) (L : LRd) : Str := if fitsN t L = true then "none" else if L.length = t then "one" else "many"
def pathO (t : Nat) (L : LRd) : Option (List Rat) := if wordS t L = "one" then some (L.map fun z => vec z.2 t) else none
def OptV {α : Type} (R : V → α → Prop) (v : V) : Option α → Prop
  | none => v = .non
  | some q => R v q
end KR
end
section
/-! KRA: stores to fields, tuples once or more, steps. -/
namespace KR
open PySem PySem.Spec PyProof.Rows L2 Evl
section
variable {D : Ends} {σ : L2.St} {H : Hp} {K : PySem.W.Frag} {ta tv te : TE} {tA : TA} {f : Str} {x y : V} {Q : VK} {a C dx : Addr} {fs : List (Str × V)} {xs ys : List V}
def kSf (K : PySem.W.Frag) (f : Str) (y : V) (D : Ends) (σ : L2.St) (x : V) (H2 : Hp) : Prop := ∃ a C dx fs, x = .ref a ∧ H2 a = some (.ins C dx fs) ∧ Cls K C ∧ NoAttr K C f ∧ fs.length < 1000 ∧ D.nx σ (upd H2 a (.ins C dx (putF f y fs)))
theorem g_sfld (h : tv σ H fun y H1 => ta σ H1 fun x H2 => kSf K f y D σ x H2) : sFld K ta tv f D σ H := h
theorem g_ksf (h : H a = some (.ins C dx fs)) (c : Cls K C) (n : NoAttr K C f) (l : fs.length ≤ 20) (k : D.nx σ (upd H a (.ins C dx (putF f y fs)))) : kSf K f y D σ (.ref a) H := ⟨a, C, dx, fs, rfl, h, c, n, by omega, k⟩
theorem g_repA {k : Int} (hx : SqT K H a xs) (h0 : xs ≠ []) (h1 : 0 ≤ k) (h2 : k ≤ 1000) (h3 : xs.length ≤ 1000) (ht : H a = some (.tup xs)) (q : ∀ p H', Ex H H' → H' p = some (.tup (List.replicate k.toNat xs).flatten) → Q (.ref p) H') : KU.rRepA K (.ref a) (.int k) H Q := by
  refine ⟨a, k, xs, rfl, rfl, hx, h0, h1, h2, h3, fun e => ?_, fun n p hp => q p _ (Ex.new hp) upd_same⟩
  subst e
  refine q a H (Ex.refl H) ?_
  rw [ht]
  simp
/-- t + u, the left one not empty -/
theorem g_catA {b : Addr} (hx : SqT K H a xs) (hy : SqT K H b ys) (h1 : xs ≠ []) (hl : xs.length + ys.length ≤ 1000) (ht : H a = some (.tup xs)) (q : ∀ p H', Ex H H' → H' p = some (.tup (xs ++ ys)) → Q (.ref p) H') : rCatT K (.ref a) (.ref b) H Q := by
  refine ⟨a, b, xs, ys, rfl, rfl, hx, hy, h1, Nat.le_trans hl (by decide), fun z => ?_, fun _ p hp => q p _ (Ex.new hp) upd_same⟩
  subst z
  refine q a H (Ex.refl H) ?_
  rw [List.append_nil]; exact ht
def kMth (C : Addr) (m : Str) (sp : Sp) (dvs : List V) (E : XK) (t : TA) (σ : L2.St) (Q : VK) (x : V) (H1 : Hp) : Prop := ∃ a dx fs, x = .ref a ∧ H1 a = some (.ins C dx fs) ∧ fs.lookup m = none ∧ t σ H1 fun vs H2 => sp (x :: (vs ++ dvs)) H2 Q E
theorem g_mth {m : Str} {sp : Sp} {dvs : List V} {E : XK} (h : ta σ H (kMth C m sp dvs E tA σ Q)) : tMeth C m sp dvs E ta tA σ H Q := h
theorem g_kmth {m : Str} {sp : Sp} {dvs : List V} {E : XK} (h : H a = some (.ins C dx fs)) (l : fs.lookup m = none) (k : tA σ H fun vs H2 => sp (.ref a :: (vs ++ dvs)) H2 Q E) : kMth C m sp dvs E tA σ Q (.ref a) H := ⟨a, dx, fs, rfl, h, l, k⟩
def kMake (C : Addr) (sp : Sp) (dvs : List V) (E : XK) (Q : VK) (vs : List V) (H1 : Hp) : Prop := ∀ x dx, H1 x = none → H1 dx = none → dx ≠ x → sp (.ref x :: (vs ++ dvs)) (upd (upd H1 dx (.own x)) x (.ins C dx [])) (fun v H2 => v = .non ∧ Q (.ref x) H2) E
theorem g_make {sp : Sp} {dvs : List V} {E : XK} (h : tA σ H (kMake C sp dvs E Q)) : tMake C sp dvs E tA σ H Q := h
theorem g_any {bs : List Bool} (hx : SqL K H a (bs.map V.bl)) (k : Q (.bl (bs.any id)) H) : rAny K [.ref a] H Q := ⟨a, bs, rfl, hx, k⟩
end
theorem pe_fldK {X : Cx} {K : PySem.W.Frag} {e : Expr} {f : Str} {ta : TE} {pos : Pos} (ek : X.K = K) (he : PE X e ta) (hb : attributeBase e f X.env (eval e X.env) = eval e X.env) : PE X (.Attribute e f pos) (tFld K ta f) := ek ▸ pe_fld he hb
end KR
end
section
/-! KRB: rules with the frame told. -/
namespace KR
open PySem L2 Evl
theorem call_lnK {X : Cx} {K : PySem.W.Frag} (e : X.K = K) : CallR X (.builtin "len") (KA.rLn K) := e ▸ KA.call_ln
theorem call_tupK {X : Cx} {K : PySem.W.Frag} (e : X.K = K) : CallR X (.type "tuple") (rTup K) := e ▸ call_tup
end KR
end
section
/-! KRC: dicts of rows; a dict locked while it is read. -/
namespace KR
open PySem PySem.Spec PyProof.Rows L2 Evl
/-! ### locked -/
section
variable {K : PySem.W.Frag} {H H' : Hp} {d : Addr} {kvs : List (L2.Key × V)} {o : HO} {od : Obj} {Q : VK} {D : Ends} {σ : L2.St}
/-- no tuple, and no tuple locked -/
def NoT (o : HO) : Prop := (∀ xs, o ≠ .tup xs) ∧ ∀ od xs, o ≠ .frz od (.tup xs)
theorem noT_dk : NoT (.dK kvs) := ⟨fun _ z => (by cases z), fun _ _ z => (by cases z)⟩
theorem noT_fdk : NoT (.frz od (.dK kvs)) := ⟨fun _ z => (by cases z), fun _ _ z => (by cases z)⟩
theorem noT_lst {xs : List V} : NoT (.lst xs) := ⟨fun _ z => (by cases z), fun _ _ z => (by cases z)⟩
theorem noT_ins {C dx : Addr} {fs : List (Str × V)} : NoT (.ins C dx fs) := ⟨fun _ z => (by cases z), fun _ _ z => (by cases z)⟩
theorem sqt_upd {b : Addr} {xs : List V} {o' : HO} (n : H d = some o) (no : NoT o) (h : SqT K H b xs) : SqT K (upd H d o') b xs := by
  rcases h with (h | ⟨od, h⟩) | h
  · exact .inl (.inl (by rw [upd_ne (fun z => by rw [z, n] at h; cases h; exact no.1 _ rfl)]; exact h))
  · exact .inl (.inr ⟨od, by rw [upd_ne (fun z => by rw [z, n] at h; cases h; exact no.2 _ _ rfl)]; exact h⟩)
  · exact .inr h
theorem fr_upd {v : V} {q : Rat} {o' : HO} (n : H d = some o) (no : NoT o) (h : FrV K H v q) : FrV K (upd H d o') v q := let ⟨a, x, y⟩ := h; ⟨a, x, sqt_upd n no y⟩
theorem row_upd {v : V} {r : List Rat} {o' : HO} (n : H d = some o) (no : NoT o) (h : RowV K H v r) : RowV K (upd H d o') v r := by
  obtain ⟨a, ws, rfl, ha, hw⟩ := h
  refine ⟨a, ws, rfl, by rw [upd_ne (fun z => by rw [z, n] at ha; cases ha; exact no.1 _ rfl)]; exact ha, pimp (fun _ _ h => fr_upd n no h) hw⟩
theorem ex_unlock {u : HO} (h : H d = some u) (e : Ex (upd H d (.frz od u)) H') : Ex H (upd H' d u) := fun b o hb => by
  by_cases z : b = d
  · subst z; rw [h] at hb; cases hb; rw [upd_same]
  · rw [upd_ne z]
    exact e b o (by rw [upd_ne z]; exact hb)
theorem g_lockE {t : TE} {u : HO} (h : H d = some u) (m : Mut (some u)) (k : ∀ od, t σ (upd H d (.frz od u)) fun v H' => H' d = some (.frz od u) ∧ Q v (upd H' d u)) : tLockE t σ H Q := ⟨d, u, h, m, k⟩
theorem g_lock {t : TS} {u : HO} (h : H d = some u) (m : Mut (some u)) (k : ∀ od, t ⟨fun σ' H' => H' d = some (.frz od u) ∧ D.nx σ' (upd H' d u), fun v H' => H' d = some (.frz od u) ∧ D.rt v (upd H' d u), fun σ' H' => H' d = some (.frz od u) ∧ D.bk σ' (upd H' d u), fun σ' H' => H' d = some (.frz od u) ∧ D.ct σ' (upd H' d u)⟩ σ (upd H d (.frz od u))) : tLock t D σ H := ⟨d, u, h, m, k⟩
theorem g_ksubF {k : L2.Key} {v : V} (hd : H d = some (.frz od (.dK kvs))) (hv : valV kvs k = some v) (h : Q v H) : KW.kSub (.ref d) (kV k) Q H := ⟨d, v, rfl, hv ▸ .inl ⟨kvs, k, .inr ⟨_, hd⟩, rfl, rfl⟩, h⟩
end
/-! ### lists of keys -/
abbrev kN (n : Nat) : L2.Key := Sum.inl (n : Int)
theorem kN_inj {m n : Nat} (h : kN m = kN n) : m = n := by
  have := Sum.inl.inj h
  omega
def RowK (K : PySem.W.Frag) (H : Hp) (kv : L2.Key × V) (z : Nat × List Rat) : Prop := kv.1 = kN z.1 ∧ RowV K H kv.2 z.2
theorem RowK.mono {K : PySem.W.Frag} {H H' : Hp} {kv : L2.Key × V} {z : Nat × List Rat} (e : Ex H H') (h : RowK K H kv z) : RowK K H' kv z := ⟨h.1, h.2.mono e⟩
/-- the dict at d holds the rows by place -/
def DRow (K : PySem.W.Frag) (H : Hp) (d : Addr) (L : LRd) : Prop := ∃ kvs, H d = some (.dK kvs) ∧ Paired (RowK K H) kvs L
theorem DRow.mono {K : PySem.W.Frag} {H H' : Hp} {d : Addr} {L : LRd} (e : Ex H H') (h : DRow K H d L) : DRow K H' d L := let ⟨kvs, a, b⟩ := h; ⟨kvs, e _ _ a, pimp (fun _ _ h => h.mono e) b⟩
def KeysNe (L : LRd) : Prop := L.Pairwise fun a b => a.1 ≠ b.1
theorem keysNe_of {L : LRd} (h : L.Pairwise fun a b => a.1 < b.1) : KeysNe L := h.imp fun h => Nat.ne_of_lt h
theorem val_rowk {K : PySem.W.Frag} {H : Hp} : ∀ {kvs : List (L2.Key × V)} {L : LRd}, Paired (RowK K H) kvs L → KeysNe L → ∀ {z : Nat × List Rat}, z ∈ L → ∃ v, valV kvs (kN z.1) = some v ∧ RowV K H v z.2
  | _, _, .nil, _, _, h => by cases h
  | _, _, .cons (a := kv) (b := y) r rs, ne, z, h => by
    obtain ⟨n1, n2⟩ := List.pairwise_cons.mp ne
    rcases List.mem_cons.mp h with rfl | h
    · exact ⟨kv.2, valV_pos r.1, r.2⟩
    · obtain ⟨v, h1, h2⟩ := val_rowk rs n2 h
      refine ⟨v, ?_, h2⟩
      rw [valV_neg, h1]
      rw [r.1]
      intro e
      exact n1 z h (kN_inj e)
theorem val_rowk_no {K : PySem.W.Frag} {H : Hp} : ∀ {kvs : List (L2.Key × V)} {L : LRd}, Paired (RowK K H) kvs L → ∀ {p : Nat}, (∀ z ∈ L, z.1 ≠ p) → valV kvs (kN p) = none
  | _, _, .nil, _, _ => rfl
  | _, _, .cons (a := kv) (b := y) r rs, p, h => by
    rw [valV_neg, val_rowk_no rs fun z hz => h z (.tail _ hz)]
    rw [r.1]
    intro e
    exact h y (.head _) (kN_inj e)
theorem put_no {kvs : List (L2.Key × V)} {k : L2.Key} {v : V} (h : valV kvs k = none) : putK kvs k v = kvs ++ [(k, v)] := by
  unfold putK
  rw [valV_any, h]
  rfl
theorem merge_rowk {K : PySem.W.Frag} {H : Hp} : ∀ {more kvs : List (L2.Key × V)} {M L : LRd}, Paired (RowK K H) more M → Paired (RowK K H) kvs L → KeysNe (L ++ M) → mergeK kvs more = kvs ++ more
  | _, kvs, _, _, .nil, _, _ => by rw [List.append_nil]; rfl
  | _, kvs, _, L, .cons (a := kv) (b := y) (l₁ := ms) (l₂ := My) r rs, rl, ne => by
    have no : valV kvs (kN y.1) = none := val_rowk_no rl fun z hz => (List.pairwise_append.mp ne).2.2 z hz y (.head _)
    obtain ⟨k, v⟩ := kv
    obtain ⟨r1, r2⟩ := r
    have r1 : k = kN y.1 := r1
    subst r1
    show mergeK (putK kvs (kN y.1) v) ms = _
    rw [put_no no, merge_rowk (L := L ++ [y]) rs (rl.snoc ⟨rfl, r2⟩) (by rw [List.append_assoc]; exact ne), List.append_assoc]
    rfl
theorem merge_nil {K : PySem.W.Frag} {H : Hp} {more : List (L2.Key × V)} {M : LRd} (h : Paired (RowK K H) more M) (ne : KeysNe M) : mergeK [] more = more := merge_rowk (L := []) h .nil ne
theorem keys_of {K : PySem.W.Frag} {H : Hp} : ∀ {kvs : List (L2.Key × V)} {L : LRd}, Paired (RowK K H) kvs L → kvs.map (·.1) = (L.map fun z => (z.1 : Int)).map Sum.inl
  | _, _, .nil => rfl
  | _, _, .cons r rs => by
    rw [List.map_cons, List.map_cons, List.map_cons, ← keys_of rs, r.1]
theorem patG {α β : Type} {R : α → β → Prop} : ∀ {l : List α} {m : List β}, Paired R l m → ∀ {i : Nat} {a : α}, l[i]? = some a → ∃ b, m[i]? = some b ∧ R a b
  | _, _, .nil, _, _, h => by cases h
  | _, _, .cons r rs, i, a, h => by
    cases i with
    | zero => cases h; exact ⟨_, rfl, r⟩
    | succ i => exact patG rs (i := i) h
/-- one order alone -/
theorem sorted_one : ∀ {l m : List Int}, l.Perm m → l.Pairwise (· ≤ ·) → m.Pairwise (· ≤ ·) → l = m
  | [], m, hp, _, _ => (List.nil_perm.mp hp).symm
  | x :: l, [], hp, _, _ => absurd hp.length_eq (by simp)
  | x :: l, y :: m, hp, h1, h2 => by
    obtain ⟨a1, a2⟩ := List.pairwise_cons.mp h1
    obtain ⟨b1, b2⟩ := List.pairwise_cons.mp h2
    have e : x = y := by
      have hx : x ∈ y :: m := hp.subset (.head _)
      have hy : y ∈ x :: l := hp.symm.subset (.head _)
      rcases List.mem_cons.mp hx with h | h
      · exact h
      · rcases List.mem_cons.mp hy with g | g
        · exact g.symm
        · have := b1 _ h; have := a1 _ g; omega
    subst e
    rw [sorted_one (List.Perm.cons_inv hp) a2 b2]
/-! ### comprehensions over a locked dict; pairs -/
section
variable {K : PySem.W.Frag} {H1 : Hp} {Q : VK} {σ : L2.St} {g : TG} {tt : TT} {te : TE} {vs : List Nat} {α : Type}
theorem lcq_keys {d : Addr} {o : Obj} {kvs : List (L2.Key × V)} (R : Hp → V → α → Prop) (out : Nat → List α) (hd : H1 d = some (.frz o (.dK kvs))) (h0 : out 0 = [])
    (hs : ∀ D, H1 D = none → ∀ i k v H2, kvs[i]? = some (k, v) → LcQ R out H1 D i H2 → LqTurn g tt te vs σ R out H1 D i (kV k) H2)
    (hn : ∀ D H2 ys, H1 D = none → Ex H1 H2 → H2 D = some (.lst ys) → Paired (R H2) ys (out kvs.length) → Q (.ref D) H2) : kLcK (KA.kLc g tt te vs σ Q) (.ref d) H1 :=
  ⟨d, o, rfl, .inl ⟨kvs, hd, kLc_q walk_keys R out h0 (fun H e => e _ _ hd) (fun D hD i x H2 H3 hi p y => by obtain ⟨rfl, k, v, h1, rfl⟩ := y; exact hs D hD i k v _ h1 p) hn⟩⟩
end
def PairV (K : PySem.W.Frag) (H : Hp) (v : V) (z : Nat × List Rat) : Prop := ∃ p u, v = .ref p ∧ SqT K H p [.int (z.1 : Int), u] ∧ RowV K H u z.2
theorem PairV.mono {K : PySem.W.Frag} {H H' : Hp} {v : V} {z : Nat × List Rat} (e : Ex H H') (h : PairV K H v z) : PairV K H' v z := let ⟨p, u, a, b, c⟩ := h; ⟨p, u, a, ex_t e b, c.mono e⟩
theorem PairV.monoT {K : PySem.W.Frag} {H H' : Hp} {v : V} {z : Nat × List Rat} (e : ExT H H') (h : PairV K H v z) : PairV K H' v z := let ⟨p, u, a, b, c⟩ := h; ⟨p, u, a, ext_t e b, c.monoT e⟩
theorem pair_upd {K : PySem.W.Frag} {H : Hp} {d : Addr} {o o' : HO} {v : V} {z : Nat × List Rat} (n : H d = some o) (no : NoT o) (h : PairV K H v z) : PairV K (upd H d o') v z := let ⟨p, u, a, b, c⟩ := h; ⟨p, u, a, sqt_upd n no b, row_upd n no c⟩
theorem pairs_rowk {K : PySem.W.Frag} {H : Hp} : ∀ {zs : List V} {M : LRd}, Paired (PairV K H) zs M → ∃ (ps : List Addr) (kvs : List (L2.Key × V)), zs = ps.map V.ref ∧ Paired (fun p (kv : L2.Key × V) => SqT K H p [kV kv.1, kv.2]) ps kvs ∧ Paired (RowK K H) kvs M
  | _, _, .nil => ⟨[], [], rfl, .nil, .nil⟩
  | _, _, .cons (b := z) ⟨p, u, e, h1, h2⟩ rs => by
    obtain ⟨ps, kvs, e2, h3, h4⟩ := pairs_rowk rs
    exact ⟨p :: ps, (kN z.1, u) :: kvs, by rw [e, e2]; rfl, .cons h1 h3, .cons ⟨rfl, h2⟩ h4⟩
theorem insL_perm {L : LRd} {x : Nat × List Rat} : (insL L x).Perm (L ++ [x]) := by
  unfold insL
  refine List.perm_middle.trans ?_
  refine (List.Perm.cons x (List.filter_append_perm _ L)).trans ?_
  exact (List.perm_append_singleton x L).symm
/-! ### dict(pairs), sorted(dict) -/
def rDictP (K : PySem.W.Frag) : List V → Hp → VK → Prop := fun xs H Q => ∃ (a : Addr) (ps : List Addr) (kvs : List (L2.Key × V)), xs = [.ref a] ∧ SqL K H a (ps.map V.ref) ∧ Paired (fun p kv => SqT K H p [kV kv.1, kv.2]) ps kvs ∧
    ∀ p, H p = none → Q (.ref p) (upd H p (.dK (mergeK [] kvs)))
theorem call_dictK {X : Cx} {K : PySem.W.Frag} (e : X.K = K) (hc : X.calm = true) : CallR X (.type "dict") (rDictP K) := e ▸ call_dictP hc
def rSortD : List V → Hp → VK → Prop := fun xs H Q => ∃ (a : Addr) (kvs : List (L2.Key × V)) (ks : List Int), xs = [.ref a] ∧ L2.Rd H a (.dK kvs) ∧ kvs.map (·.1) = ks.map Sum.inl ∧ ks.length < 64 ∧
    ∀ (ys : List Int) (p : Addr), ys.Perm ks → ys.Pairwise (· ≤ ·) → H p = none → Q (.ref p) (upd H p (.lst (ys.map V.int)))
theorem call_sortD {X : Cx} (hc : X.calm = true) : CallR X (.builtin "sorted") rSortD := call_sortedDI hc
section
variable {K : PySem.W.Frag} {H : Hp} {a d : Addr} {zs : List V} {M L S : LRd} {Q : VK}
theorem g_dictP (hl : H a = some (.lst zs)) (hp : Paired (PairV K H) zs M) (ne : KeysNe M) (k : ∀ p H', H p = none → Ex H H' → DRow K H' p M → Q (.ref p) H') : rDictP K [.ref a] H Q := by
  obtain ⟨ps, kvs, rfl, h1, h2⟩ := pairs_rowk hp
  refine ⟨a, ps, kvs, rfl, SqL.of hl, h1, fun p hp => k p _ hp (Ex.new hp) ⟨kvs, ?_, pimp (fun _ _ h => RowK.mono (Ex.new hp) h) h2⟩⟩
  rw [upd_same, merge_nil h2 ne]
theorem g_sortD (hd : DRow K H d L) (h64 : L.length < 64) (perm : S.Perm L) (asc : S.Pairwise fun a b => a.1 < b.1) (k : ∀ p H', H p = none → Ex H H' → H' p = some (.lst (S.map fun z => V.int (z.1 : Int))) → Q (.ref p) H') : rSortD [.ref d] H Q := by
  obtain ⟨kvs, h, hk⟩ := hd
  refine ⟨d, kvs, L.map fun z => (z.1 : Int), rfl, .inl h, keys_of hk, by rw [List.length_map]; exact h64, fun ys p hy1 hy2 hp => k p _ hp (Ex.new hp) ?_⟩
  have e : ys = S.map fun z => (z.1 : Int) := by
    refine sorted_one (hy1.trans (perm.symm.map _)) hy2 ?_
    exact List.pairwise_map.mpr (asc.imp fun h => by omega)
  rw [upd_same, e, List.map_map]
  rfl
theorem g_disp1 {p : Addr} {n : Nat} {v : V} {r : List Rat} (hp : H p = some (.dK [])) (hv : RowV K H v r) (k : ∀ H', ExA p H H' → DRow K H' p [(n, r)] → Q (.ref p) H') : KT.kDisp p Q [(V.int (n : Int), v)] H := by
  refine ⟨hp, [(kN n, v)], rfl, (by show 1 ≤ 15; decide), ?_⟩
  refine k _ ExA.put ⟨[(kN n, v)], ?_, .cons ⟨rfl, row_upd hp noT_dk hv⟩ .nil⟩
  rw [upd_same]
  rfl
theorem g_putRow {D : Ends} {σ : L2.St} {n : Nat} {v : V} {r : List Rat} (hd : DRow K H d L) (hl : L.length ≤ 1000) (no : ∀ z ∈ L, z.1 ≠ n) (hv : RowV K H v r) (k : ∀ H', ExA d H H' → DRow K H' d (L ++ [(n, r)]) → D.nx σ H') : KW.kPut D σ (.ref d) (.int (n : Int)) v H := by
  obtain ⟨kvs, h, hk⟩ := hd
  refine KW.g_kput (k := kN n) h (by rw [hk.length]; exact hl) ?_
  rw [put_no (val_rowk_no hk no)]
  exact k _ ExA.put ⟨_, upd_same, pimp (fun _ _ g => ⟨g.1, row_upd h noT_dk g.2⟩) (hk.snoc (b := (n, r)) ⟨rfl, hv⟩)⟩
end
theorem ExA.keep {a : Addr} {H H' H'' : Hp} (e : Ex H H') (n : H a = none) (f : ExA a H' H'') : Ex H H'' := fun b o h => f b o (ne_of_none h n) (e b o h)
end KR
end
section
/-! KRD: rows as data; a place in a dict. -/
namespace KR
open PySem PySem.Spec PyProof.Rows L2 Evl
def datR (r : List Rat) : PyData := .tuple (r.map dat)
section
variable {K : PySem.W.Frag} {H : Hp} {v u : V} {r q : List Rat} {Q : VK}
theorem dpA_of {α : Type} {R : V → α → Prop} {f : α → PyData} (h : ∀ v a, R v a → Dp K H v (f a)) : ∀ {vs : List V} {as : List α}, Paired R vs as → DpAll K H vs (as.map f)
  | _, _, .nil => .nil
  | _, _, .cons r rs => .cons (h _ _ r) (dpA_of h rs)
theorem dpR (h : RowV K H v r) : Dp K H v (datR r) := by
  obtain ⟨a, ws, rfl, ha, hw⟩ := h
  exact .tup (SqT.of ha) (dpA_of (fun _ _ h => dp_fr h) hw)
theorem can_all {α : Type} {f : α → PyData} : ∀ {l : List α}, (∀ x ∈ l, PyData.canLay0 (f x) = true) → PyData.canLayAll0 (l.map f) = true
  | [], _ => rfl
  | x :: l, h => by
    show (PyData.canLay0 (f x) && PyData.canLayAll0 (l.map f)) = true
    rw [h x (.head _), can_all fun y hy => h y (.tail _ hy)]; rfl
theorem dep_all {α : Type} {f : α → PyData} {n : Nat} : ∀ {l : List α}, (∀ x ∈ l, PyData.depth (f x) ≤ n) → PyData.depthAll (l.map f) ≤ n
  | [], _ => Nat.zero_le _
  | x :: l, h => by
    show max (PyData.depth (f x)) (PyData.depthAll (l.map f)) ≤ n
    exact Nat.max_le.mpr ⟨h x (.head _), dep_all fun y hy => h y (.tail _ hy)⟩
theorem can_dat (q : Rat) : PyData.canLay0 (dat q) = true := (Bool.and_eq_true_iff.mp (shaped_dat (q := q))).1
theorem dep_dat (q : Rat) : PyData.depth (dat q) ≤ 2 := by
  have := KT.dep_ints [q.num, (q.den : Int)]
  show PyData.depthAll ([q.num, (q.den : Int)].map PyData.int) + 1 ≤ 2
  omega
theorem can_datR (r : List Rat) : PyData.canLay0 (datR r) = true := can_all fun q _ => can_dat q
theorem dep_datR (r : List Rat) : PyData.depth (datR r) ≤ 3 := by
  have := dep_all (f := dat) (n := 2) (l := r) fun q _ => dep_dat q
  show PyData.depthAll (r.map dat) + 1 ≤ 3
  omega
theorem shaped_datR : SeqAt.shaped (datR r) = true := by
  unfold SeqAt.shaped
  rw [Bool.and_eq_true_iff]
  exact ⟨can_datR r, decide_eq_true (Nat.le_trans (dep_datR r) (by decide))⟩
theorem eqvA_map {α : Type} [DecidableEq α] {f : α → PyData} (h : ∀ x y, PyData.eqv (f x) (f y) = decide (x = y)) : ∀ l m : List α, PyData.eqvAll (l.map f) (m.map f) = decide (l = m)
  | [], [] => rfl
  | [], _ :: _ => rfl
  | _ :: _, [] => rfl
  | x :: l, y :: m => by
    show (PyData.eqv (f x) (f y) && PyData.eqvAll (l.map f) (m.map f)) = _
    rw [h, eqvA_map h l m, ← Bool.decide_and]
    congr 1
    simp
theorem eqv_datR : PyData.eqv (datR r) (datR q) = decide (r = q) := eqvA_map (fun x y => eqv_dat) r q
theorem g_eqR (h : RowV K H v r) (g : RowV K H u q) (k : Q (.bl (decide (r = q))) H) : rEqD K v u H Q := ⟨_, _, dpR h, dpR g, shaped_datR, shaped_datR, by rw [eqv_datR]; exact k⟩
end
def kDIn (y : V) (Q : VK) (x : V) (H2 : Hp) : Prop := ∃ a o, x = .ref a ∧ DGet H2 a y o ∧ Q (.bl o.isSome) H2
def kDNo (y : V) (Q : VK) (x : V) (H2 : Hp) : Prop := ∃ a o, x = .ref a ∧ DGet H2 a y o ∧ Q (.bl (!o.isSome)) H2
section
variable {K : PySem.W.Frag} {H : Hp} {σ : L2.St} {Q : VK} {ty td : TE} {d : Addr} {L : LRd} {n : Nat}
theorem g_din (h : ty σ H fun y H1 => td σ H1 (kDIn y Q)) : tDIn ty td σ H Q := h
theorem g_dno (h : ty σ H fun y H1 => td σ H1 (kDNo y Q)) : tDNotIn ty td σ H Q := h
theorem some_rowk : ∀ {kvs : List (L2.Key × V)} {L : LRd}, Paired (RowK K H) kvs L → ∀ p : Nat, (valV kvs (kN p)).isSome = L.any fun z => decide (z.1 = p)
  | _, _, .nil, _ => rfl
  | _, _, .cons (a := kv) (b := y) r rs, p => by
    rw [List.any_cons]
    by_cases e : y.1 = p
    · rw [valV_pos (by rw [r.1, e]), decide_eq_true e]; rfl
    · rw [valV_neg (by rw [r.1]; exact fun z => e (kN_inj z)), decide_eq_false e, some_rowk rs p, Bool.false_or]
theorem g_kdin (hd : DRow K H d L) (k : Q (.bl (fitsN n L)) H) : kDIn (.int (n : Int)) Q (.ref d) H := by
  obtain ⟨kvs, h, hk⟩ := hd
  refine ⟨d, valV kvs (kN n), rfl, DGet.k (k := kN n) h, ?_⟩
  rw [some_rowk hk]; exact k
theorem g_kdno (hd : DRow K H d L) (k : Q (.bl (!fitsN n L)) H) : kDNo (.int (n : Int)) Q (.ref d) H := by
  obtain ⟨kvs, h, hk⟩ := hd
  refine ⟨d, valV kvs (kN n), rfl, DGet.k (k := kN n) h, ?_⟩
  rw [some_rowk hk]; exact k
end
def rLenD : List V → Hp → VK → Prop := fun xs H Q => ∃ a kvs, xs = [V.ref a] ∧ H a = some (.dK kvs) ∧ Q (.int kvs.length) H
theorem call_lenDK {X : Cx} : CallR X (.builtin "len") rLenD := call_lenD
theorem g_lenD {K : PySem.W.Frag} {H : Hp} {Q : VK} {d : Addr} {L : LRd} (hd : DRow K H d L) (k : Q (.int (L.length : Int)) H) : rLenD [.ref d] H Q := by
  obtain ⟨kvs, h, hk⟩ := hd
  exact ⟨d, kvs, rfl, h, by rw [hk.length]; exact k⟩
end KR
end
section
/-! KRE: repr of rows. -/
namespace KR
open PySem PySem.Spec PyProof.Rows L2 Evl
/-- what repr shows: depth and bulk told -/
structure OkB (k b : Nat) (d : PyData) : Prop where
  sh : d.showable = true
  nd : d.hasDict = false
  dp : d.depth ≤ k
  lv : d.leavesShort 321 = true
  bk : d.bulk + 1 ≤ b
theorem OkB.up {k b k' b' : Nat} {d : PyData} (h : OkB k b d) (hk : k ≤ k') (hb : b ≤ b') : OkB k' b' d := ⟨h.sh, h.nd, Nat.le_trans h.dp hk, h.lv, Nat.le_trans h.bk hb⟩
theorem OkB.int {i : Int} (h : i.natAbs < 2 ^ 1060) : OkB 0 1 (.int i) := by
  have hn : i.natAbs < 10 ^ 320 := Nat.lt_trans h (by decide +kernel)
  refine ⟨?_, rfl, Nat.zero_le _, ?_, Nat.le_refl _⟩
  · show decide (i.natAbs.log2 < 1920) = true
    refine decide_eq_true ?_
    by_cases z : i.natAbs = 0
    · rw [z]; decide
    · exact Nat.lt_trans ((Nat.log2_lt z).mpr h) (by decide)
  · show decide (_ ≤ 321) = true
    refine decide_eq_true ?_
    have e := int_text_length_le10 (k := 320) (by decide) hn
    show (Str.ofString (toString i)).length ≤ 321
    rw [PySem.ofString_length]; exact e
theorem OkB.non : OkB 0 1 .none := ⟨rfl, rfl, Nat.zero_le _, rfl, Nat.le_refl _⟩
theorem OkB.all {k b : Nat} : ∀ {ds : List PyData}, (∀ d ∈ ds, OkB k b d) → PyData.showableAll ds = true ∧ PyData.hasDictAll ds = false ∧ PyData.depthAll ds ≤ k ∧ PyData.leavesShortAll 321 ds = true ∧ PyData.bulkAll ds ≤ ds.length * b
  | [], _ => ⟨rfl, rfl, Nat.zero_le _, rfl, Nat.zero_le _⟩
  | d :: ds, h => by
    obtain ⟨a1, a2, a3, a4, a5⟩ := OkB.all fun e he => h e (List.mem_cons_of_mem _ he)
    obtain ⟨b1, b2, b3, b4, b5⟩ := h d (List.mem_cons_self ..)
    refine ⟨?_, ?_, ?_, ?_, ?_⟩
    · show (PyData.showable d && PyData.showableAll ds) = true; rw [b1, a1]; rfl
    · show (PyData.hasDict d || PyData.hasDictAll ds) = false; rw [b2, a2]; rfl
    · show max (PyData.depth d) (PyData.depthAll ds) ≤ k; omega
    · show (PyData.leavesShort 321 d && PyData.leavesShortAll 321 ds) = true; rw [b4, a4]; rfl
    · show PyData.bulk d + 1 + PyData.bulkAll ds ≤ (ds.length + 1) * b
      rw [Nat.add_mul]; omega
theorem OkB.lst {k b n : Nat} {ds : List PyData} (h : ∀ d ∈ ds, OkB k b d) (hl : ds.length ≤ n) : OkB (k + 1) (n * b + 1) (.list ds) := by
  obtain ⟨a1, a2, a3, a4, a5⟩ := OkB.all h
  exact ⟨a1, a2, by show PyData.depthAll ds + 1 ≤ k + 1; omega, a4, Nat.add_le_add_right (Nat.le_trans a5 (Nat.mul_le_mul_right _ hl)) 1⟩
theorem OkB.tup {k b n : Nat} {ds : List PyData} (h : ∀ d ∈ ds, OkB k b d) (hl : ds.length ≤ n) : OkB (k + 1) (n * b + 1) (.tuple ds) := by
  obtain ⟨a1, a2, a3, a4, a5⟩ := OkB.all h
  exact ⟨a1, a2, by show PyData.depthAll ds + 1 ≤ k + 1; omega, a4, Nat.add_le_add_right (Nat.le_trans a5 (Nat.mul_le_mul_right _ hl)) 1⟩
theorem g_reprB {K : PySem.W.Frag} {H : Hp} {Q : VK} {v : V} {d : PyData} (ri : KG.isRI v = true) (hd : Dp K H v d) (o : OkB 5 2000 d) (k : Q (.str d.shown) H) : KG.rRepr K [v] H Q := by
  refine ⟨v, d, rfl, ri, hd, o.sh, o.nd, Nat.le_trans o.dp (by decide), ?_, k⟩
  have h := PyData.shown_le_bulk 321 (by decide) d o.lv
  have b := o.bk
  rw [sizeLine_eq]
  omega
/-! ### rows -/
theorem okb_dat {q : Rat} (h : Sz 1060 q) : OkB 1 3 (dat q) := by
  refine OkB.tup (n := 2) (b := 1) (k := 0) (fun d hd => ?_) (Nat.le_refl _)
  rcases List.mem_cons.mp hd with rfl | hd
  · exact OkB.int h.num
  · rw [List.mem_singleton.mp hd]; exact OkB.int h.den
theorem okb_row {r : List Rat} (h : ∀ q ∈ r, Sz 1060 q) (l : r.length ≤ 9) : OkB 2 28 (datR r) :=
  OkB.tup (n := 9) (b := 3) (k := 1) (fun d hd => by obtain ⟨q, hq, rfl⟩ := List.mem_map.mp hd; exact okb_dat (h q hq)) (by rw [List.length_map]; exact l)
def datL (L : LRd) : PyData := .tuple (L.map fun z => datR z.2)
def datO : Option (List Rat) → PyData
  | none => .none
  | some r => datR r
def datF : Option Rat → PyData
  | none => .none
  | some q => dat q
theorem okb_rows {t : Nat} {L : LRd} (k : OkL t L) (ht : t ≤ 8) (l9 : L.length ≤ t + 1) : OkB 3 253 (datL L) :=
  OkB.tup (n := 9) (b := 28) (k := 2) (fun d hd => by obtain ⟨z, hz, rfl⟩ := List.mem_map.mp hd; exact okb_row (k.size ht hz) (by have := k.len z hz; omega)) (by rw [List.length_map]; omega)
theorem okb_path {t : Nat} {L : LRd} (k : OkL t L) (ht : t ≤ 8) (l9 : L.length ≤ t + 1) : OkB 2 28 (datO (pathO t L)) := by
  unfold pathO
  by_cases h : wordS t L = "one"
  · rw [if_pos h]
    refine okb_row (fun q hq => ?_) (by rw [List.length_map]; omega)
    obtain ⟨z, hz, rfl⟩ := List.mem_map.mp hq
    obtain ⟨y, hy⟩ : ∃ y, z.2[t]? = some y := ⟨_, List.getElem?_eq_some_iff.mpr ⟨by rw [k.len z hz]; omega, rfl⟩⟩
    rw [vec_lt hy]
    exact k.size ht hz y (List.mem_of_getElem? hy)
  · rw [if_neg h]
    exact OkB.non.up (by decide) (by decide)
theorem okb_left {t : Nat} {L : LRd} {r : List Rat} (k : OkL t L) (ht : t ≤ 8) (s : SmR t r) : OkB 1 3 (datF (leftO t L r)) := by
  unfold leftO
  by_cases h : fitsN t L = true
  · rw [if_pos h]; exact OkB.non.up (by decide) (by decide)
  · rw [if_neg h]
    by_cases g : fst t (vec (clrL L r)) = none
    · rw [if_pos g]
      refine okb_dat ?_
      have lc : (clrL L r).length = t + 1 := clrL_len k.len s.1
      obtain ⟨q, hq⟩ : ∃ q, (clrL L r)[t]? = some q := ⟨_, List.getElem?_eq_some_iff.mpr ⟨by omega, rfl⟩⟩
      rw [vec_lt hq]
      exact k.clr_sz ht s q (List.mem_of_getElem? hq)
    · rw [if_neg g]; exact OkB.non.up (by decide) (by decide)
theorem okb_word {t : Nat} {L : LRd} : OkB 0 5 (.str (wordS t L)) := by
  unfold wordS
  split
  · exact ⟨rfl, rfl, Nat.le_refl _, by decide +kernel, by decide +kernel⟩
  · split
    · exact ⟨rfl, rfl, Nat.le_refl _, by decide +kernel, by decide +kernel⟩
    · exact ⟨rfl, rfl, Nat.le_refl _, by decide +kernel, by decide +kernel⟩
section
variable {K : PySem.W.Frag} {H : Hp} {v : V}
theorem dpO {o : Option (List Rat)} (h : OptV (RowV K H) v o) : Dp K H v (datO o) := by
  cases o with
  | none => cases h; exact .non
  | some r => exact dpR h
theorem dpF {o : Option Rat} (h : OptV (FrV K H) v o) : Dp K H v (datF o) := by
  cases o with
  | none => cases h; exact .non
  | some r => exact dp_fr h
theorem dpA_rows : ∀ {vs : List V} {L : LRd}, Paired (RowV K H) vs (L.map (·.2)) → DpAll K H vs (L.map fun z => datR z.2)
  | _, [], .nil => .nil
  | _, z :: L, .cons r rs => .cons (dpR r) (dpA_rows rs)
theorem dpL {a : Addr} {ys : List V} {L : LRd} (h : H a = some (.tup ys)) (hp : Paired (RowV K H) ys (L.map (·.2))) : Dp K H (.ref a) (datL L) := .tup (SqT.of h) (dpA_rows hp)
end
def kMthK (m : Str) (C : Addr) (n : Nat) (sp : Sp) (gV : List V → List V → List V) (E : XK) (tk : TA) (σ : L2.St) (Q : VK) (x : V) (H1 : Hp) : Prop := ∃ a dx fs, x = .ref a ∧ H1 a = some (.ins C dx fs) ∧ fs.lookup m = none ∧ tk σ H1 fun zs H2 => zs.length = n ∧ sp (gV [x] zs) H2 Q E
section
variable {H : Hp} {σ : L2.St} {Q : VK} {a C dx : Addr} {fs : List (Str × V)} {m : Str} {n : Nat} {sp : Sp} {gV : List V → List V → List V} {E : XK} {ta : TE} {tk : TA}
theorem g_mthK (h : ta σ H (kMthK m C n sp gV E tk σ Q)) : _root_.KV.tMethK C m n sp gV E ta tk σ H Q := h
theorem g_kmthK (h : H a = some (.ins C dx fs)) (l : fs.lookup m = none) (k : tk σ H fun zs H2 => zs.length = n ∧ sp (gV [.ref a] zs) H2 Q E) : kMthK m C n sp gV E tk σ Q (.ref a) H := ⟨a, dx, fs, rfl, h, l, k⟩
end
end KR
end
section
/-! KRF: what a draw leaves. -/
namespace KR
open PySem PySem.Spec PyProof.Rows L2 Evl KT
/-- all but the tape and its list stay; an empty list stays too -/
def TX2 (t l : Addr) (H H' : Hp) : Prop := ∀ a o, a ≠ t → (a = l → o = .lst []) → H a = some o → H' a = some o
/-- and but for the tables -/
def TN (t l : Addr) (H H' : Hp) : Prop := ∀ a o, a ≠ t → (a = l → o = .lst []) → (∀ ps, o ≠ .tbl ps) → H a = some o → H' a = some o
section
variable {K : PySem.W.Frag} {t l c a : Addr} {H H' H'' : Hp} {o : HO}
theorem TX2.of (e : Ex H H') : TX2 t l H H' := fun a o _ _ h => e a o h
theorem TX2.trans (e : TX2 t l H H') (f : TX2 t l H' H'') : TX2 t l H H'' := fun a o h1 h2 h => f a o h1 h2 (e a o h1 h2 h)
theorem TX2.put : TX2 t l H (upd H t o) := fun a u h1 _ h => by rw [upd_ne h1]; exact h
theorem TX2.pop {v : V} {xs : List V} (hl : H l = some (.lst (v :: xs))) : TX2 t l H (upd H l o) := fun a u _ h2 h => by
  by_cases z : a = l
  · have := h2 z
    rw [z, hl, this] at h
    cases h
  · rw [upd_ne z]; exact h
theorem TN.tx (e : TX2 t l H H') : TN t l H H' := fun a o h1 h2 _ h => e a o h1 h2 h
theorem TN.of (e : Ex H H') : TN t l H H' := TN.tx (TX2.of e)
theorem TN.ext (e : LamX.ExtN H H') : TN t l H H' := fun a o _ _ n h => e a o h n
theorem TN.trans (e : TN t l H H') (f : TN t l H' H'') : TN t l H H'' := fun a o h1 h2 h3 h => f a o h1 h2 h3 (e a o h1 h2 h3 h)
/-- what is no tape, no list of ints and no table stays -/
theorem TN.keep (T : Tape H t l c) (e : TN t l H H') (h : H a = some o) (n1 : ∀ l c r u, o ≠ .dK (tape4 l c r u)) (n2 : ∀ ns : List Int, o = .lst (ns.map V.int) → ns = []) (n3 : ∀ ps, o ≠ .tbl ps) : H' a = some o := by
  obtain ⟨⟨r, u, ht⟩, ⟨ls, hl⟩, _, _⟩ := T
  refine e a o (fun z => ?_) (fun z => ?_) n3 h
  · rw [z, ht] at h; cases h; exact n1 _ _ _ _ rfl
  · rw [z, hl] at h; cases h
    rw [n2 ls rfl]; rfl
theorem TX2.keep (T : Tape H t l c) (e : TX2 t l H H') (h : H a = some o) (n1 : ∀ l c r u, o ≠ .dK (tape4 l c r u)) (n2 : ∀ ns : List Int, o = .lst (ns.map V.int) → ns = []) : H' a = some o := by
  obtain ⟨⟨r, u, ht⟩, ⟨ls, hl⟩, _, _⟩ := T
  refine e a o (fun z => ?_) (fun z => ?_) h
  · rw [z, ht] at h; cases h; exact n1 _ _ _ _ rfl
  · rw [z, hl] at h; cases h
    rw [n2 ls rfl]; rfl
theorem TN.ins {C dx : Addr} {fs : List (Str × V)} (T : Tape H t l c) (e : TN t l H H') (h : H a = some (.ins C dx fs)) : H' a = some (.ins C dx fs) := e.keep T h (fun _ _ _ _ z => nomatch z) (fun _ z => nomatch z) fun _ z => nomatch z
theorem TN.tup {xs : List V} (T : Tape H t l c) (e : TN t l H H') (h : H a = some (.tup xs)) : H' a = some (.tup xs) := e.keep T h (fun _ _ _ _ z => nomatch z) (fun _ z => nomatch z) fun _ z => nomatch z
theorem TN.lst {xs : List V} (e : TN t l H H') (T : Tape H t l c) (n : a ≠ l) (h : H a = some (.lst xs)) : H' a = some (.lst xs) := by
  obtain ⟨⟨r, u, ht⟩, _⟩ := T
  refine e a _ (fun z => ?_) (fun z => absurd z n) (fun _ z => nomatch z) h
  rw [z, ht] at h; cases h
theorem TX2.lst {xs : List V} (e : TX2 t l H H') (T : Tape H t l c) (n : a ≠ l) (h : H a = some (.lst xs)) : H' a = some (.lst xs) := (TN.tx e).lst T n h
/-- a list of references -/
theorem TN.refs {as : List Addr} (T : Tape H t l c) (e : TN t l H H') (h : H a = some (.lst (as.map V.ref))) : H' a = some (.lst (as.map V.ref)) := e.keep T h (fun _ _ _ _ z => nomatch z) (fun ns z => by
  cases ns with
  | nil => rfl
  | cons n ns =>
    have := HO.lst.inj z
    cases as with
    | nil => cases this
    | cons b as => cases this) fun _ z => nomatch z
theorem sqt_tn {b : Addr} {xs : List V} (T : Tape H t l c) (e : TN t l H H') (h : SqT K H b xs) : SqT K H' b xs := by
  rcases h with (h | ⟨o, h⟩) | h
  · exact .inl (.inl (e.tup T h))
  · exact .inl (.inr ⟨o, e.keep T h (fun _ _ _ _ z => nomatch z) (fun _ z => nomatch z) fun _ z => nomatch z⟩)
  · exact .inr h
theorem fr_tn {v : V} {q : Rat} (T : Tape H t l c) (e : TN t l H H') (h : FrV K H v q) : FrV K H' v q := let ⟨a, x, y⟩ := h; ⟨a, x, sqt_tn T e y⟩
theorem row_tn {v : V} {r : List Rat} (T : Tape H t l c) (e : TN t l H H') (h : RowV K H v r) : RowV K H' v r := let ⟨a, ys, x, y, z⟩ := h; ⟨a, ys, x, e.tup T y, pimp (fun _ _ h => fr_tn T e h) z⟩
theorem rows_refs : ∀ {us : List V} {rs : List (List Rat)}, Paired (RowV K H) us rs → ∃ as : List Addr, us = as.map V.ref
  | _, _, .nil => ⟨[], rfl⟩
  | _, _, .cons ⟨a, _, e, _⟩ rs => by
    obtain ⟨as, e2⟩ := rows_refs rs
    exact ⟨a :: as, by rw [e, e2]; rfl⟩
theorem lsn_tn {C x : Addr} {n : Nat} {bs : List Int} {L : LRd} (T : Tape H t l c) (e : TN t l H H') (h : Lsn K C H x n bs L) : Lsn K C H' x n bs L := by
  obtain ⟨⟨dx, p, r, ha, hp, ⟨ra, us, rfl, hra, hus⟩⟩, t1, t8, hl, ok⟩ := h
  obtain ⟨as, rfl⟩ := rows_refs hus
  exact ⟨⟨dx, p, _, e.ins T ha, e.tup T hp, ⟨ra, _, rfl, e.refs T hra, pimp (fun _ _ h => row_tn T e h) hus⟩⟩, t1, t8, hl, ok⟩
theorem kd_tn {v : V} (T : Tape H t l c) (e : TN t l H H') (h : Kd H v) : Kd H' v := by
  cases h with
  | non => exact .non
  | bl b => exact .bl b
  | int i => exact .int i
  | str x => exact .str x
  | tup h => exact .tup (e.tup T h)
/-- the tables stay -/
theorem tabs_tx {Ts : List (Addr × Str)} (T : Tape H t l c) (e : TX2 t l H H') (h : LamX.Tabs Ts H) : LamX.Tabs Ts H' := fun p hp => by
  obtain ⟨ps, h1, h2, h3⟩ := h p hp
  refine ⟨ps, e.keep T h1 (fun _ _ _ _ z => nomatch z) (fun _ z => nomatch z), h2, fun pos cv hc => ?_⟩
  obtain ⟨b, e1, e2⟩ := h3 pos cv hc
  exact ⟨b, e1, e.keep T e2 (fun _ _ _ _ z => nomatch z) (fun _ z => nomatch z)⟩
theorem tape_exa {C dx : Addr} {fs : List (Str × V)} (T : Tape H t l c) (h : H a = some (.ins C dx fs)) (e : ExA a H H') : Tape H' t l c := by
  obtain ⟨⟨r, u, ht⟩, ⟨ls, hl⟩, ⟨cs, hc⟩, n⟩ := T
  exact ⟨⟨r, u, e _ _ (fun z => by rw [z, h] at ht; cases ht) ht⟩, ⟨ls, e _ _ (fun z => by rw [z, h] at hl; cases hl) hl⟩, ⟨cs, e _ _ (fun z => by rw [z, h] at hc; cases hc) hc⟩, n⟩
theorem tabs_exa {Ts : List (Addr × Str)} {C dx : Addr} {fs : List (Str × V)} (h : H a = some (.ins C dx fs)) (e : ExA a H H') (hT : LamX.Tabs Ts H) : LamX.Tabs Ts H' := fun p hp => by
  obtain ⟨ps, h1, h2, h3⟩ := hT p hp
  refine ⟨ps, e _ _ (fun z => by rw [z, h] at h1; cases h1) h1, h2, fun pos cv hc => ?_⟩
  obtain ⟨b, e1, e2⟩ := h3 pos cv hc
  exact ⟨b, e1, e _ _ (fun z => by rw [z, h] at e2; cases e2) e2⟩
theorem tape_ext (T : Tape H t l c) (e : LamX.ExtN H H') : Tape H' t l c := by
  obtain ⟨⟨r, u, ht⟩, ⟨ls, hl⟩, ⟨cs, hc⟩, n⟩ := T
  exact ⟨⟨r, u, e _ _ ht fun _ z => nomatch z⟩, ⟨ls, e _ _ hl fun _ z => nomatch z⟩, ⟨cs, e _ _ hc fun _ z => nomatch z⟩, n⟩
end
/-! ### caught errors -/
section
variable {K : PySem.W.Frag} {H : Hp} {Q : VK} {a C D d : Addr} {σ : L2.St} {te : TE} {f : Str}
def kPartOf (K : PySem.W.Frag) (f : Str) (Q : VK) (x : V) (H1 : Hp) : Prop := ∃ (a C dd : Addr) (fs : List (Str × V)) (v : V), x = .ref a ∧ H1 a = some (KX.XO (.ref C) (some dd) a) ∧ XfC K C ∧ PySem.W.findIn K (.ref C) f = some none ∧ H1 dd = some (.xd fs) ∧ fs.lookup f = some v ∧ Q v H1
theorem g_partOf (h : te σ H (kPartOf K f Q)) : KX.tPartOf K f te σ H Q := h
theorem g_kpart {p : Str} (h : H a = some (KX.XO (.ref C) (some d) a)) (x : XfC K C) (n : PySem.W.findIn K (.ref C) ("part" : Str) = some none) (hd : H d = some (.xd [(("part" : Str), .str p)])) (k : Q (.str p) H) : kPartOf K "part" Q (.ref a) H :=
  ⟨a, C, d, _, _, rfl, h, x, n, hd, by
    have : (("part" : Str) == ("part" : Str)) = true := by decide +kernel
    simp only [List.lookup, this], k⟩
theorem g_isX {o : Option Addr} (h : H a = some (KX.XO (.ref D) o a)) (hd : ∀ dd, o = some dd → ∃ fs, H dd = some (.xd fs)) (c : ExcC K D) (ki : PySem.W.kitOne K (.ref D) (.ref C) = some true) (k : Q (.bl true) H) : KX.rIsX K [.ref a, .ref C] H Q :=
  ⟨a, D, o, .ref C, .ref C, true, rfl, h, hd, c, fun _ r => r, ki, k⟩
end
theorem call_listK {X : Cx} : CallR X (.type "list") (fun xs H Q => ∃ p ys, xs = [.ref p] ∧ (SqL X.K H p ys ∨ SqT X.K H p ys) ∧ ∀ l, H l = none → Q (.ref l) (upd H l (.lst ys))) := call_list_of
theorem extN_of {H H' : Hp} (e : Ex H H') : LamX.ExtN H H' := fun b o h _ => e b o h
end KR
end
section
/-! KRG: comprehensions that draw; ways joined; boxes. -/
namespace KR
open PySem PySem.Spec PyProof.Rows L2 Evl KT
section
variable {K : PySem.W.Frag} {t l c a : Addr} {H H1 H' H'' : Hp} {o : HO} {Q : VK} {σ : L2.St} {D : Ends}
theorem TX2.new {D : Addr} (hD : H1 D = none) (e : TX2 t l H1 H) : TX2 t l H1 (upd H D o) := fun a u h1 h2 h => by
  rw [upd_ne (ne_of_none h hD)]; exact e a u h1 h2 h
theorem TN.new {D : Addr} (hD : H1 D = none) (e : TN t l H1 H) : TN t l H1 (upd H D o) := fun a u h1 h2 h3 h => by
  rw [upd_ne (ne_of_none h hD)]; exact e a u h1 h2 h3 h
theorem TN.exa {x : Addr} (hx : H1 x = none) (e : TN t l H1 H) (f : ExA x H H') : TN t l H1 H' := fun a u h1 h2 h3 h => f _ _ (ne_of_none h hx) (e a u h1 h2 h3 h)
theorem tape_new {D : Addr} (hD : H1 D = none) (T1 : Tape H1 t l c) (T : Tape H t l c) : Tape (upd H D o) t l c := by
  obtain ⟨⟨r1, u1, ht1⟩, ⟨ls1, hl1⟩, ⟨cs1, hc1⟩, _⟩ := T1
  obtain ⟨⟨r, u, ht⟩, ⟨ls, hl⟩, ⟨cs, hc⟩, n⟩ := T
  exact ⟨⟨r, u, by rw [upd_ne (ne_of_none ht1 hD)]; exact ht⟩, ⟨ls, by rw [upd_ne (ne_of_none hl1 hD)]; exact hl⟩, ⟨cs, by rw [upd_ne (ne_of_none hc1 hD)]; exact hc⟩, n⟩
/-- the tables stay where a thing that is none of theirs is written -/
theorem tabs_upd {Ts : List (Addr × Str)} {a : Addr} {o u : HO} (h : H a = some u) (n1 : ∀ ps, u ≠ .tbl ps) (n2 : ∀ f, u ≠ .ext f) (hT : LamX.Tabs Ts H) : LamX.Tabs Ts (upd H a o) := fun p hp => by
  obtain ⟨ps, h1, h2, h3⟩ := hT p hp
  refine ⟨ps, by rw [upd_ne (fun z => by rw [z, h] at h1; cases h1; exact n1 _ rfl)]; exact h1, h2, fun pos cv hc => ?_⟩
  obtain ⟨b, e1, e2⟩ := h3 pos cv hc
  exact ⟨b, e1, by rw [upd_ne (fun z => by rw [z, h] at e2; cases e2; exact n2 _ rfl)]; exact e2⟩
theorem tape_upd {a : Addr} {o u : HO} (T : Tape H t l c) (h : H a = some u) (n1 : ∀ l c r u', u ≠ .dK (tape4 l c r u')) (n2 : ∀ ns : List Int, u ≠ .lst (ns.map V.int)) : Tape (upd H a o) t l c := by
  obtain ⟨⟨r, u', ht⟩, ⟨ls, hl⟩, ⟨cs, hc⟩, n⟩ := T
  exact ⟨⟨r, u', by rw [upd_ne (fun z => by rw [z, h] at ht; cases ht; exact n1 _ _ _ _ rfl)]; exact ht⟩, ⟨ls, by rw [upd_ne (fun z => by rw [z, h] at hl; cases hl; exact n2 _ rfl)]; exact hl⟩, ⟨cs, by rw [upd_ne (fun z => by rw [z, h] at hc; cases hc; exact n2 _ rfl)]; exact hc⟩, n⟩
/-! ### ways joined -/
theorem joinE {te : TE} (Good : V → Hp → Prop) (h : ∀ Q : VK, (∀ v H', Good v H' → Q v H') → te σ H Q) (q : ∀ v H', Good v H' → Q v H') : te σ H Q := h Q q
theorem joinT {tt : TT} {R : Bool → Hp → Prop} (Good : Bool → Hp → Prop) (h : ∀ R : Bool → Hp → Prop, (∀ b H', Good b H' → R b H') → tt σ H R) (q : ∀ b H', Good b H' → R b H') : tt σ H R := h R q
/-! ### a comprehension over a range, any invariant -/
def AnyTurn (g : TG) (tt : TT) (te : TE) (vs : List Nat) (σ : L2.St) (Pv : Nat → Hp → Prop) (D : Addr) (i : Nat) (x : V) (H3 : Hp) : Prop :=
  g x (wipe σ vs) H3 fun σ2 H4 => wipe σ2 vs = wipe σ vs ∧ tt σ2 H4 fun b H5 => if b = true then te σ2 H5 (fun y H6 => ∃ acc, H6 D = some (.lst acc) ∧ acc.length < sizeLine ∧ Pv (i + 1) (upd H6 D (.lst (acc ++ [y])))) else Pv (i + 1) H5
theorem lcr_any {g : TG} {tt : TT} {te : TE} {vs : List Nat} {m : Int} (Pv : Addr → Nat → Hp → Prop) (hm : 0 ≤ m ∧ m ≤ 100000) (h0 : ∀ D, H1 D = none → Pv D 0 (upd H1 D (.lst [])))
    (hs : ∀ D, H1 D = none → ∀ (i : Nat) H2, (i : Int) < m → Pv D i H2 → AnyTurn g tt te vs σ (Pv D) D i (.int (0 + (i : Int))) H2)
    (hd : ∀ D H2, H1 D = none → Pv D m.toNat H2 → Q (.ref D) H2) : KA.kLcR (KA.kLc g tt te vs σ Q) [.int m] H1 :=
  ⟨m, rfl, by omega, by omega, fun D hD => lc_it walk_range (Pv D) (h0 D hD) (fun _ _ _ _ => trivial) (fun i x H2 H3 hi p y => by obtain ⟨rfl, rfl⟩ := y; exact hs D hD i _ (by omega) p) fun H2 p => hd D H2 hD p⟩
end
/-! ### boxes -/
abbrev kLi : L2.Key := Sum.inr ("listener" : Str)
abbrev kPa : L2.Key := Sum.inr ("path" : Str)
abbrev kSe : L2.Key := Sum.inr ("sent" : Str)
abbrev kRo : L2.Key := Sum.inr ("rows" : Str)
def box4 (x p s r : Addr) : List (L2.Key × V) := [(kLi, .ref x), (kPa, .ref p), (kSe, .ref s), (kRo, .ref r)]
theorem bn1 : decide (kLi = kPa) = false := by decide +kernel
theorem bn2 : decide (kLi = kSe) = false := by decide +kernel
theorem bn3 : decide (kLi = kRo) = false := by decide +kernel
theorem bn4 : decide (kPa = kSe) = false := by decide +kernel
theorem bn5 : decide (kPa = kRo) = false := by decide +kernel
theorem bn6 : decide (kSe = kRo) = false := by decide +kernel
section
variable {x p s r s' r' : Addr}
theorem bv_L : valV (box4 x p s r) kLi = some (.ref x) := rfl
theorem bv_P : valV (box4 x p s r) kPa = some (.ref p) := by
  unfold box4; rw [valV_neg (of_decide_eq_false bn1), valV_pos rfl]
theorem bv_S : valV (box4 x p s r) kSe = some (.ref s) := by
  unfold box4; rw [valV_neg (of_decide_eq_false bn2), valV_neg (of_decide_eq_false bn4), valV_pos rfl]
theorem bv_R : valV (box4 x p s r) kRo = some (.ref r) := by
  unfold box4; rw [valV_neg (of_decide_eq_false bn3), valV_neg (of_decide_eq_false bn5), valV_neg (of_decide_eq_false bn6), valV_pos rfl]
theorem bp_S : putK (box4 x p s r) kSe (.ref s') = box4 x p s' r := by
  have h : ((box4 x p s r).any fun kv => decide (kv.1 = kSe)) = true := by rw [valV_any, bv_S]; rfl
  unfold putK
  rw [if_pos h]
  unfold box4
  rw [List.map_cons, List.map_cons, List.map_cons, List.map_cons, List.map_nil, if_neg (of_decide_eq_false bn2), if_neg (of_decide_eq_false bn4), if_pos rfl, if_neg (fun z => of_decide_eq_false bn6 z.symm)]
theorem bp_R : putK (box4 x p s r) kRo (.ref r') = box4 x p s r' := by
  have h : ((box4 x p s r).any fun kv => decide (kv.1 = kRo)) = true := by rw [valV_any, bv_R]; rfl
  unfold putK
  rw [if_pos h]
  unfold box4
  rw [List.map_cons, List.map_cons, List.map_cons, List.map_cons, List.map_nil, if_neg (of_decide_eq_false bn3), if_neg (of_decide_eq_false bn5), if_neg (of_decide_eq_false bn6), if_pos rfl]
theorem made_box : mergeK [] (box4 x p s r) = box4 x p s r := by
  have e1 : putK [] kLi (V.ref x) = [(kLi, .ref x)] := rfl
  have e2 : putK [(kLi, V.ref x)] kPa (.ref p) = [(kLi, .ref x), (kPa, .ref p)] := by unfold putK; rw [if_neg (by rw [List.any_cons, bn1]; simp)]; rfl
  have e3 : putK [(kLi, V.ref x), (kPa, .ref p)] kSe (.ref s) = [(kLi, .ref x), (kPa, .ref p), (kSe, .ref s)] := by unfold putK; rw [if_neg (by rw [List.any_cons, List.any_cons, bn2, bn4]; simp)]; rfl
  have e4 : putK [(kLi, V.ref x), (kPa, .ref p), (kSe, .ref s)] kRo (.ref r) = box4 x p s r := by unfold putK; rw [if_neg (by rw [List.any_cons, List.any_cons, List.any_cons, bn3, bn5, bn6]; simp)]; rfl
  show putK (putK (putK (putK [] kLi (.ref x)) kPa (.ref p)) kSe (.ref s)) kRo (.ref r) = _
  rw [e1, e2, e3, e4]
theorem box_noTape : ∀ l c r' u, HO.dK (box4 x p s r) ≠ .dK (tape4 l c r' u) := fun l c r' u z => by
  have := HO.dK.inj z
  have h := (List.cons.inj this).1
  have : (kLi : L2.Key) = kL := congrArg Prod.fst h
  exact absurd this (by decide +kernel)
end
end KR
end
section
namespace K75
open PySem L2 Evl KX
def top (i : Nat) : Stmt := PySem.Challenge.pw_seenandheard_k75_whole_listeners.main.body.getD i (.Pass ⟨0, 0, 0, 0⟩)
abbrev s_is_number : Stmt := top 6
def N_is_number : List Str := ["thing"]
theorem sc_is_number : FnScope N_is_number ["thing"] (defScope s_is_number) := ⟨rfl, rfl, rfl, by decide +kernel, rfl, by decide +kernel, by decide +kernel⟩

abbrev s_is_between : Stmt := top 7
def N_is_between : List Str := ["thing", "low", "high"]
theorem sc_is_between : FnScope N_is_between ["thing", "low", "high"] (defScope s_is_between) := ⟨rfl, rfl, rfl, by decide +kernel, rfl, by decide +kernel, by decide +kernel⟩

abbrev s_divisor : Stmt := top 11
def N_divisor : List Str := ["one", "other"]
theorem sc_divisor : FnScope N_divisor ["one", "other"] (defScope s_divisor) := ⟨rfl, rfl, rfl, by decide +kernel, rfl, by decide +kernel, by decide +kernel⟩

abbrev s_lowest : Stmt := top 12
def N_lowest : List Str := ["top", "bottom", "common"]
theorem sc_lowest : FnScope N_lowest ["top", "bottom"] (defScope s_lowest) := ⟨rfl, rfl, rfl, by decide +kernel, rfl, by decide +kernel, by decide +kernel⟩

abbrev s_less : Stmt := top 13
def N_less : List Str := ["one", "other"]
theorem sc_less : FnScope N_less ["one", "other"] (defScope s_less) := ⟨rfl, rfl, rfl, by decide +kernel, rfl, by decide +kernel, by decide +kernel⟩

abbrev s_product : Stmt := top 14
def N_product : List Str := ["one", "other"]
theorem sc_product : FnScope N_product ["one", "other"] (defScope s_product) := ⟨rfl, rfl, rfl, by decide +kernel, rfl, by decide +kernel, by decide +kernel⟩

abbrev s_parted : Stmt := top 15
def N_parted : List Str := ["one", "other"]
theorem sc_parted : FnScope N_parted ["one", "other"] (defScope s_parted) := ⟨rfl, rfl, rfl, by decide +kernel, rfl, by decide +kernel, by decide +kernel⟩

abbrev s_scaled : Stmt := top 16
def N_scaled : List Str := ["row", "share", "one"]
theorem sc_scaled : FnScope N_scaled ["row", "share"] (defScope s_scaled) := ⟨rfl, rfl, rfl, by decide +kernel, rfl, by decide +kernel, by decide +kernel⟩

abbrev s_taken : Stmt := top 17
def N_taken : List Str := ["row", "other", "share", "one", "two"]
theorem sc_taken : FnScope N_taken ["row", "other", "share"] (defScope s_taken) := ⟨rfl, rfl, rfl, by decide +kernel, rfl, by decide +kernel, by decide +kernel⟩

abbrev s_lead_of : Stmt := top 18
def N_lead_of : List Str := ["row", "wide", "at"]
theorem sc_lead_of : FnScope N_lead_of ["row", "wide"] (defScope s_lead_of) := ⟨rfl, rfl, rfl, by decide +kernel, rfl, by decide +kernel, by decide +kernel⟩

abbrev s_cleared : Stmt := top 19
def N_cleared : List Str := ["row", "others", "leads", "other", "lead"]
theorem sc_cleared : FnScope N_cleared ["row", "others", "leads"] (defScope s_cleared) := ⟨rfl, rfl, rfl, by decide +kernel, rfl, by decide +kernel, by decide +kernel⟩

abbrev s_with_row : Stmt := top 20
def N_with_row : List Str := ["kept", "row", "wide", "leads", "other", "lead", "others", "before"]
theorem sc_with_row : FnScope N_with_row ["kept", "row", "wide"] (defScope s_with_row) := ⟨rfl, rfl, rfl, by decide +kernel, rfl, by decide +kernel, by decide +kernel⟩

abbrev s_is_sound : Stmt := top 24
def N_is_sound : List Str := ["thing"]
theorem sc_is_sound : FnScope N_is_sound ["thing"] (defScope s_is_sound) := ⟨rfl, rfl, rfl, by decide +kernel, rfl, by decide +kernel, by decide +kernel⟩

abbrev s_need_sounds : Stmt := top 26
def N_need_sounds : List Str := ["sent", "heard"]
theorem sc_need_sounds : FnScope N_need_sounds ["sent", "heard"] (defScope s_need_sounds) := ⟨rfl, rfl, rfl, by decide +kernel, rfl, by decide +kernel, by decide +kernel⟩

abbrev s_Listener_init : Stmt := inClass (top 27) 0
def N_Listener_init : List Str := ["self", "taps"]
theorem sc_Listener_init : FnScope N_Listener_init ["self", "taps"] (defScope s_Listener_init) := ⟨rfl, rfl, rfl, by decide +kernel, rfl, by decide +kernel, by decide +kernel⟩

abbrev s_Listener_next_row : Stmt := inClass (top 27) 1
def N_Listener_next_row : List Str := ["self", "sent", "heard", "one"]
theorem sc_Listener_next_row : FnScope N_Listener_next_row ["self", "sent", "heard"] (defScope s_Listener_next_row) := ⟨rfl, rfl, rfl, by decide +kernel, rfl, by decide +kernel, by decide +kernel⟩

abbrev s_Listener_hear : Stmt := inClass (top 27) 2
def N_Listener_hear : List Str := ["self", "sent", "heard", "quiet"]
theorem sc_Listener_hear : FnScope N_Listener_hear ["self", "sent", "heard", "quiet"] (defScope s_Listener_hear) := ⟨rfl, rfl, rfl, by decide +kernel, rfl, by decide +kernel, by decide +kernel⟩

abbrev s_Listener_known : Stmt := inClass (top 27) 3
def N_Listener_known : List Str := ["self"]
theorem sc_Listener_known : FnScope N_Listener_known ["self"] (defScope s_Listener_known) := ⟨rfl, rfl, rfl, by decide +kernel, rfl, by decide +kernel, by decide +kernel⟩

abbrev s_Listener_fits_none : Stmt := inClass (top 27) 4
def N_Listener_fits_none : List Str := ["self", "row"]
theorem sc_Listener_fits_none : FnScope N_Listener_fits_none ["self"] (defScope s_Listener_fits_none) := ⟨rfl, rfl, rfl, by decide +kernel, rfl, by decide +kernel, by decide +kernel⟩

abbrev s_Listener_word : Stmt := inClass (top 27) 5
def N_Listener_word : List Str := ["self"]
theorem sc_Listener_word : FnScope N_Listener_word ["self"] (defScope s_Listener_word) := ⟨rfl, rfl, rfl, by decide +kernel, rfl, by decide +kernel, by decide +kernel⟩

abbrev s_Listener_path : Stmt := inClass (top 27) 6
def N_Listener_path : List Str := ["self", "row"]
theorem sc_Listener_path : FnScope N_Listener_path ["self"] (defScope s_Listener_path) := ⟨rfl, rfl, rfl, by decide +kernel, rfl, by decide +kernel, by decide +kernel⟩

abbrev s_Listener_left : Stmt := inClass (top 27) 7
def N_Listener_left : List Str := ["self", "sent", "heard", "leads", "row", "rest"]
theorem sc_Listener_left : FnScope N_Listener_left ["self", "sent", "heard"] (defScope s_Listener_left) := ⟨rfl, rfl, rfl, by decide +kernel, rfl, by decide +kernel, by decide +kernel⟩

abbrev s__law_caught : Stmt := top 29
def N__law_caught : List Str := ["work", "caught", "error"]
theorem sc__law_caught : FnScope N__law_caught ["work"] (defScope s__law_caught) := ⟨rfl, rfl, rfl, by decide +kernel, rfl, by decide +kernel, by decide +kernel⟩

abbrev s__law_gcd : Stmt := top 30
def N__law_gcd : List Str := ["one", "other"]
theorem sc__law_gcd : FnScope N__law_gcd ["one", "other"] (defScope s__law_gcd) := ⟨rfl, rfl, rfl, by decide +kernel, rfl, by decide +kernel, by decide +kernel⟩

abbrev s__law_fr : Stmt := top 31
def N__law_fr : List Str := ["top", "bottom", "common"]
theorem sc__law_fr : FnScope N__law_fr ["top", "bottom"] (defScope s__law_fr) := ⟨rfl, rfl, rfl, by decide +kernel, rfl, by decide +kernel, by decide +kernel⟩

abbrev s__law_plus : Stmt := top 32
def N__law_plus : List Str := ["one", "other"]
theorem sc__law_plus : FnScope N__law_plus ["one", "other"] (defScope s__law_plus) := ⟨rfl, rfl, rfl, by decide +kernel, rfl, by decide +kernel, by decide +kernel⟩

abbrev s__law_times : Stmt := top 33
def N__law_times : List Str := ["one", "other"]
theorem sc__law_times : FnScope N__law_times ["one", "other"] (defScope s__law_times) := ⟨rfl, rfl, rfl, by decide +kernel, rfl, by decide +kernel, by decide +kernel⟩

abbrev s__law_dotted : Stmt := top 34
def N__law_dotted : List Str := ["row", "other", "found", "one", "two"]
theorem sc__law_dotted : FnScope N__law_dotted ["row", "other"] (defScope s__law_dotted) := ⟨rfl, rfl, rfl, by decide +kernel, rfl, by decide +kernel, by decide +kernel⟩

abbrev s__law_summed : Stmt := top 35
def N__law_summed : List Str := ["wide", "rows", "shares", "found", "row", "share", "one", "two"]
theorem sc__law_summed : FnScope N__law_summed ["wide", "rows", "shares"] (defScope s__law_summed) := ⟨rfl, rfl, rfl, by decide +kernel, rfl, by decide +kernel, by decide +kernel⟩

abbrev s__law_lesser : Stmt := top 36
def N__law_lesser : List Str := ["rows", "row", "place"]
theorem sc__law_lesser : FnScope N__law_lesser ["rows", "row"] (defScope s__law_lesser) := ⟨rfl, rfl, rfl, by decide +kernel, rfl, by decide +kernel, by decide +kernel⟩

abbrev s__law_reduced : Stmt := top 37
def N__law_reduced : List Str := ["wide", "several", "found", "row", "left", "places", "place", "one", "item", "later", "other"]
theorem sc__law_reduced : FnScope N__law_reduced ["wide", "several"] (defScope s__law_reduced) := ⟨rfl, rfl, rfl, by decide +kernel, rfl, by decide +kernel, by decide +kernel⟩

abbrev s__law_fractions : Stmt := top 38
def N__law_fractions : List Str := ["numbers_here", "number"]
theorem sc__law_fractions : FnScope N__law_fractions ["numbers_here"] (defScope s__law_fractions) := ⟨rfl, rfl, rfl, by decide +kernel, rfl, by decide +kernel, by decide +kernel⟩

abbrev s__law_begun : Stmt := top 39
def N__law_begun : List Str := ["script", "large", "grain"]
theorem sc__law_begun : FnScope N__law_begun ["script"] (defScope s__law_begun) := ⟨rfl, rfl, rfl, by decide +kernel, rfl, by decide +kernel, by decide +kernel⟩

abbrev s__law_blend : Stmt := top 40
def N__law_blend : List Str := ["tape", "turn", "found", "great", "mixed", "grain"]
theorem sc__law_blend : FnScope N__law_blend ["tape"] (defScope s__law_blend) := ⟨rfl, rfl, rfl, by decide +kernel, rfl, by decide +kernel, by decide +kernel⟩

abbrev s__law_draw : Stmt := top 41
def N__law_draw : List Str := ["tape", "size", "found"]
theorem sc__law_draw : FnScope N__law_draw ["tape", "size"] (defScope s__law_draw) := ⟨rfl, rfl, rfl, by decide +kernel, rfl, by decide +kernel, by decide +kernel⟩

abbrev s__law_pick : Stmt := top 42
def N__law_pick : List Str := ["tape", "several"]
theorem sc__law_pick : FnScope N__law_pick ["tape", "several"] (defScope s__law_pick) := ⟨rfl, rfl, rfl, by decide +kernel, rfl, by decide +kernel, by decide +kernel⟩

abbrev s__law_shuffled : Stmt := top 43
def N__law_shuffled : List Str := ["tape", "several", "left", "found"]
theorem sc__law_shuffled : FnScope N__law_shuffled ["tape", "several"] (defScope s__law_shuffled) := ⟨rfl, rfl, rfl, by decide +kernel, rfl, by decide +kernel, by decide +kernel⟩

abbrev s__law_state : Stmt := top 44
def N__law_state : List Str := ["rows", "taps", "known", "word", "path", "place"]
theorem sc__law_state : FnScope N__law_state ["rows", "taps"] (defScope s__law_state) := ⟨rfl, rfl, rfl, by decide +kernel, rfl, by decide +kernel, by decide +kernel⟩

abbrev s__law_left : Stmt := top 45
def N__law_left : List Str := ["known", "taps", "sent", "heard", "row", "k", "left"]
theorem sc__law_left : FnScope N__law_left ["known", "taps", "sent", "heard"] (defScope s__law_left) := ⟨rfl, rfl, rfl, by decide +kernel, rfl, by decide +kernel, by decide +kernel⟩

abbrev s__law_told_right : Stmt := top 46
def N__law_told_right : List Str := ["listener", "taps", "rows", "sent", "next_here", "known", "word", "path", "lent", "due"]
theorem sc__law_told_right : FnScope N__law_told_right ["listener", "taps", "rows", "sent", "next_here"] (defScope s__law_told_right) := ⟨rfl, rfl, rfl, by decide +kernel, rfl, by decide +kernel, by decide +kernel⟩

abbrev s__law_refused : Stmt := top 47
def N__law_refused : List Str := ["tape", "listener", "bad", "odd", "things", "part", "first", "second", "caught"]
theorem sc__law_refused : FnScope N__law_refused ["tape", "listener"] (defScope s__law_refused) := ⟨rfl, rfl, rfl, by decide +kernel, rfl, by decide +kernel, by decide +kernel⟩

abbrev s__law_row : Stmt := top 48
def N__law_row : List Str := ["sent", "taps", "heard", "k"]
theorem sc__law_row : FnScope N__law_row ["sent", "taps", "heard"] (defScope s__law_row) := ⟨rfl, rfl, rfl, by decide +kernel, rfl, by decide +kernel, by decide +kernel⟩

abbrev s__law_heard_right : Stmt := top 49
def N__law_heard_right : List Str := ["tape", "taps", "ticks", "boxes", "lap", "path", "tap", "tick", "box", "sent", "is_quiet", "echo", "heard", "next_here"]
theorem sc__law_heard_right : FnScope N__law_heard_right ["tape", "taps", "ticks"] (defScope s__law_heard_right) := ⟨rfl, rfl, rfl, by decide +kernel, rfl, by decide +kernel, by decide +kernel⟩

abbrev s__law_turned_right : Stmt := top 50
def N__law_turned_right : List Str := ["tape", "taps", "stretches", "lap", "stretch", "tick", "listeners", "listener", "several", "sent", "heard", "is_quiet", "told"]
theorem sc__law_turned_right : FnScope N__law_turned_right ["tape", "taps"] (defScope s__law_turned_right) := ⟨rfl, rfl, rfl, by decide +kernel, rfl, by decide +kernel, by decide +kernel⟩

abbrev s_law : Stmt := top 51
def N_law : List Str := ["script", "tape", "turn", "taps", "listener"]
theorem sc_law : FnScope N_law ["script"] (defScope s_law) := ⟨rfl, rfl, rfl, by decide +kernel, rfl, by decide +kernel, by decide +kernel⟩

structure Adr where
  f_is_number : Addr
  d_is_number : FuncData
  f_is_between : Addr
  d_is_between : FuncData
  f_divisor : Addr
  d_divisor : FuncData
  f_lowest : Addr
  d_lowest : FuncData
  f_less : Addr
  d_less : FuncData
  f_product : Addr
  d_product : FuncData
  f_parted : Addr
  d_parted : FuncData
  f_scaled : Addr
  d_scaled : FuncData
  f_taken : Addr
  d_taken : FuncData
  f_lead_of : Addr
  d_lead_of : FuncData
  f_cleared : Addr
  d_cleared : FuncData
  f_with_row : Addr
  d_with_row : FuncData
  f_is_sound : Addr
  d_is_sound : FuncData
  f_need_sounds : Addr
  d_need_sounds : FuncData
  f_Listener_init : Addr
  d_Listener_init : FuncData
  f_Listener_next_row : Addr
  d_Listener_next_row : FuncData
  f_Listener_hear : Addr
  d_Listener_hear : FuncData
  f_Listener_known : Addr
  d_Listener_known : FuncData
  f_Listener_fits_none : Addr
  d_Listener_fits_none : FuncData
  f_Listener_word : Addr
  d_Listener_word : FuncData
  f_Listener_path : Addr
  d_Listener_path : FuncData
  f_Listener_left : Addr
  d_Listener_left : FuncData
  f__law_caught : Addr
  d__law_caught : FuncData
  f__law_gcd : Addr
  d__law_gcd : FuncData
  f__law_fr : Addr
  d__law_fr : FuncData
  f__law_plus : Addr
  d__law_plus : FuncData
  f__law_times : Addr
  d__law_times : FuncData
  f__law_dotted : Addr
  d__law_dotted : FuncData
  f__law_summed : Addr
  d__law_summed : FuncData
  f__law_lesser : Addr
  d__law_lesser : FuncData
  f__law_reduced : Addr
  d__law_reduced : FuncData
  f__law_fractions : Addr
  d__law_fractions : FuncData
  f__law_begun : Addr
  d__law_begun : FuncData
  f__law_blend : Addr
  d__law_blend : FuncData
  f__law_draw : Addr
  d__law_draw : FuncData
  f__law_pick : Addr
  d__law_pick : FuncData
  f__law_shuffled : Addr
  d__law_shuffled : FuncData
  f__law_state : Addr
  d__law_state : FuncData
  f__law_left : Addr
  d__law_left : FuncData
  f__law_told_right : Addr
  d__law_told_right : FuncData
  f__law_refused : Addr
  d__law_refused : FuncData
  f__law_row : Addr
  d__law_row : FuncData
  f__law_heard_right : Addr
  d__law_heard_right : FuncData
  f__law_turned_right : Addr
  d__law_turned_right : FuncData
  f_law : Addr
  d_law : FuncData
  C_Listener : Addr
  t_MOST_TAPS : Tok
  t_MOST_SOUND : Tok
  a_ZERO : Addr
  a_ONE : Addr
  C_BadNumber : Addr
  C_BadQuiet : Addr
  C_CallError : Addr
  C_PartError : Addr
  f_PartError_init : Addr
  c__law_refused : Addr
  P__law_refused : Addr
structure Txt (P : Program) (K : PySem.W.Frag) (mg : Str → Option Value) (A : Adr) : Prop where
  F_is_number : Fun K "is_number" "is_number" s_is_number A.f_is_number A.d_is_number
  b_is_number : Binds K A.d_is_number ["thing"] []
  m_is_number : mg "is_number" = some (.ref A.f_is_number)
  F_is_between : Fun K "is_between" "is_between" s_is_between A.f_is_between A.d_is_between
  b_is_between : Binds K A.d_is_between ["thing", "low", "high"] []
  m_is_between : mg "is_between" = some (.ref A.f_is_between)
  F_divisor : Fun K "divisor" "divisor" s_divisor A.f_divisor A.d_divisor
  b_divisor : Binds K A.d_divisor ["one", "other"] []
  m_divisor : mg "divisor" = some (.ref A.f_divisor)
  F_lowest : Fun K "lowest" "lowest" s_lowest A.f_lowest A.d_lowest
  b_lowest : Binds K A.d_lowest ["top", "bottom"] []
  m_lowest : mg "lowest" = some (.ref A.f_lowest)
  F_less : Fun K "less" "less" s_less A.f_less A.d_less
  b_less : Binds K A.d_less ["one", "other"] []
  m_less : mg "less" = some (.ref A.f_less)
  F_product : Fun K "product" "product" s_product A.f_product A.d_product
  b_product : Binds K A.d_product ["one", "other"] []
  m_product : mg "product" = some (.ref A.f_product)
  F_parted : Fun K "parted" "parted" s_parted A.f_parted A.d_parted
  b_parted : Binds K A.d_parted ["one", "other"] []
  m_parted : mg "parted" = some (.ref A.f_parted)
  F_scaled : Fun K "scaled" "scaled" s_scaled A.f_scaled A.d_scaled
  b_scaled : Binds K A.d_scaled ["row", "share"] []
  m_scaled : mg "scaled" = some (.ref A.f_scaled)
  F_taken : Fun K "taken" "taken" s_taken A.f_taken A.d_taken
  b_taken : Binds K A.d_taken ["row", "other", "share"] []
  m_taken : mg "taken" = some (.ref A.f_taken)
  F_lead_of : Fun K "lead_of" "lead_of" s_lead_of A.f_lead_of A.d_lead_of
  b_lead_of : Binds K A.d_lead_of ["row", "wide"] []
  m_lead_of : mg "lead_of" = some (.ref A.f_lead_of)
  F_cleared : Fun K "cleared" "cleared" s_cleared A.f_cleared A.d_cleared
  b_cleared : Binds K A.d_cleared ["row", "others", "leads"] []
  m_cleared : mg "cleared" = some (.ref A.f_cleared)
  F_with_row : Fun K "with_row" "with_row" s_with_row A.f_with_row A.d_with_row
  b_with_row : Binds K A.d_with_row ["kept", "row", "wide"] []
  m_with_row : mg "with_row" = some (.ref A.f_with_row)
  F_is_sound : Fun K "is_sound" "is_sound" s_is_sound A.f_is_sound A.d_is_sound
  b_is_sound : Binds K A.d_is_sound ["thing"] []
  m_is_sound : mg "is_sound" = some (.ref A.f_is_sound)
  F_need_sounds : Fun K "need_sounds" "need_sounds" s_need_sounds A.f_need_sounds A.d_need_sounds
  b_need_sounds : Binds K A.d_need_sounds ["sent", "heard"] []
  m_need_sounds : mg "need_sounds" = some (.ref A.f_need_sounds)
  F_Listener_init : Fun K "__init__" "Listener.__init__" s_Listener_init A.f_Listener_init A.d_Listener_init
  b_Listener_init : Binds K A.d_Listener_init ["self", "taps"] []
  F_Listener_next_row : Fun K "next_row" "Listener.next_row" s_Listener_next_row A.f_Listener_next_row A.d_Listener_next_row
  b_Listener_next_row : Binds K A.d_Listener_next_row ["self", "sent", "heard"] []
  me_Listener_next_row : Meth K A.C_Listener "next_row" A.f_Listener_next_row
  F_Listener_hear : Fun K "hear" "Listener.hear" s_Listener_hear A.f_Listener_hear A.d_Listener_hear
  b_Listener_hear : Binds K A.d_Listener_hear ["self", "sent", "heard", "quiet"] []
  me_Listener_hear : Meth K A.C_Listener "hear" A.f_Listener_hear
  F_Listener_known : Fun K "known" "Listener.known" s_Listener_known A.f_Listener_known A.d_Listener_known
  b_Listener_known : Binds K A.d_Listener_known ["self"] []
  me_Listener_known : Meth K A.C_Listener "known" A.f_Listener_known
  F_Listener_fits_none : Fun K "fits_none" "Listener.fits_none" s_Listener_fits_none A.f_Listener_fits_none A.d_Listener_fits_none
  b_Listener_fits_none : Binds K A.d_Listener_fits_none ["self"] []
  me_Listener_fits_none : Meth K A.C_Listener "fits_none" A.f_Listener_fits_none
  F_Listener_word : Fun K "word" "Listener.word" s_Listener_word A.f_Listener_word A.d_Listener_word
  b_Listener_word : Binds K A.d_Listener_word ["self"] []
  me_Listener_word : Meth K A.C_Listener "word" A.f_Listener_word
  F_Listener_path : Fun K "path" "Listener.path" s_Listener_path A.f_Listener_path A.d_Listener_path
  b_Listener_path : Binds K A.d_Listener_path ["self"] []
  me_Listener_path : Meth K A.C_Listener "path" A.f_Listener_path
  F_Listener_left : Fun K "left" "Listener.left" s_Listener_left A.f_Listener_left A.d_Listener_left
  b_Listener_left : Binds K A.d_Listener_left ["self", "sent", "heard"] []
  me_Listener_left : Meth K A.C_Listener "left" A.f_Listener_left
  F__law_caught : Fun K "_law_caught" "_law_caught" s__law_caught A.f__law_caught A.d__law_caught
  b__law_caught : Binds K A.d__law_caught ["work"] []
  m__law_caught : mg "_law_caught" = some (.ref A.f__law_caught)
  F__law_gcd : Fun K "_law_gcd" "_law_gcd" s__law_gcd A.f__law_gcd A.d__law_gcd
  b__law_gcd : Binds K A.d__law_gcd ["one", "other"] []
  m__law_gcd : mg "_law_gcd" = some (.ref A.f__law_gcd)
  F__law_fr : Fun K "_law_fr" "_law_fr" s__law_fr A.f__law_fr A.d__law_fr
  b__law_fr : Binds K A.d__law_fr ["top", "bottom"] []
  m__law_fr : mg "_law_fr" = some (.ref A.f__law_fr)
  F__law_plus : Fun K "_law_plus" "_law_plus" s__law_plus A.f__law_plus A.d__law_plus
  b__law_plus : Binds K A.d__law_plus ["one", "other"] []
  m__law_plus : mg "_law_plus" = some (.ref A.f__law_plus)
  F__law_times : Fun K "_law_times" "_law_times" s__law_times A.f__law_times A.d__law_times
  b__law_times : Binds K A.d__law_times ["one", "other"] []
  m__law_times : mg "_law_times" = some (.ref A.f__law_times)
  F__law_dotted : Fun K "_law_dotted" "_law_dotted" s__law_dotted A.f__law_dotted A.d__law_dotted
  b__law_dotted : Binds K A.d__law_dotted ["row", "other"] []
  m__law_dotted : mg "_law_dotted" = some (.ref A.f__law_dotted)
  F__law_summed : Fun K "_law_summed" "_law_summed" s__law_summed A.f__law_summed A.d__law_summed
  b__law_summed : Binds K A.d__law_summed ["wide", "rows", "shares"] []
  m__law_summed : mg "_law_summed" = some (.ref A.f__law_summed)
  F__law_lesser : Fun K "_law_lesser" "_law_lesser" s__law_lesser A.f__law_lesser A.d__law_lesser
  b__law_lesser : Binds K A.d__law_lesser ["rows", "row"] []
  m__law_lesser : mg "_law_lesser" = some (.ref A.f__law_lesser)
  F__law_reduced : Fun K "_law_reduced" "_law_reduced" s__law_reduced A.f__law_reduced A.d__law_reduced
  b__law_reduced : Binds K A.d__law_reduced ["wide", "several"] []
  m__law_reduced : mg "_law_reduced" = some (.ref A.f__law_reduced)
  F__law_fractions : Fun K "_law_fractions" "_law_fractions" s__law_fractions A.f__law_fractions A.d__law_fractions
  b__law_fractions : Binds K A.d__law_fractions ["numbers_here"] []
  m__law_fractions : mg "_law_fractions" = some (.ref A.f__law_fractions)
  F__law_begun : Fun K "_law_begun" "_law_begun" s__law_begun A.f__law_begun A.d__law_begun
  b__law_begun : Binds K A.d__law_begun ["script"] []
  m__law_begun : mg "_law_begun" = some (.ref A.f__law_begun)
  F__law_blend : Fun K "_law_blend" "_law_blend" s__law_blend A.f__law_blend A.d__law_blend
  b__law_blend : Binds K A.d__law_blend ["tape"] []
  m__law_blend : mg "_law_blend" = some (.ref A.f__law_blend)
  F__law_draw : Fun K "_law_draw" "_law_draw" s__law_draw A.f__law_draw A.d__law_draw
  b__law_draw : Binds K A.d__law_draw ["tape", "size"] []
  m__law_draw : mg "_law_draw" = some (.ref A.f__law_draw)
  F__law_pick : Fun K "_law_pick" "_law_pick" s__law_pick A.f__law_pick A.d__law_pick
  b__law_pick : Binds K A.d__law_pick ["tape", "several"] []
  m__law_pick : mg "_law_pick" = some (.ref A.f__law_pick)
  F__law_shuffled : Fun K "_law_shuffled" "_law_shuffled" s__law_shuffled A.f__law_shuffled A.d__law_shuffled
  b__law_shuffled : Binds K A.d__law_shuffled ["tape", "several"] []
  m__law_shuffled : mg "_law_shuffled" = some (.ref A.f__law_shuffled)
  F__law_state : Fun K "_law_state" "_law_state" s__law_state A.f__law_state A.d__law_state
  b__law_state : Binds K A.d__law_state ["rows", "taps"] []
  m__law_state : mg "_law_state" = some (.ref A.f__law_state)
  F__law_left : Fun K "_law_left" "_law_left" s__law_left A.f__law_left A.d__law_left
  b__law_left : Binds K A.d__law_left ["known", "taps", "sent", "heard"] []
  m__law_left : mg "_law_left" = some (.ref A.f__law_left)
  F__law_told_right : Fun K "_law_told_right" "_law_told_right" s__law_told_right A.f__law_told_right A.d__law_told_right
  b__law_told_right : Binds K A.d__law_told_right ["listener", "taps", "rows", "sent", "next_here"] []
  m__law_told_right : mg "_law_told_right" = some (.ref A.f__law_told_right)
  F__law_refused : Fun K "_law_refused" "_law_refused" s__law_refused A.f__law_refused A.d__law_refused
  b__law_refused : Binds K A.d__law_refused ["tape", "listener"] []
  m__law_refused : mg "_law_refused" = some (.ref A.f__law_refused)
  F__law_row : Fun K "_law_row" "_law_row" s__law_row A.f__law_row A.d__law_row
  b__law_row : Binds K A.d__law_row ["sent", "taps", "heard"] []
  m__law_row : mg "_law_row" = some (.ref A.f__law_row)
  F__law_heard_right : Fun K "_law_heard_right" "_law_heard_right" s__law_heard_right A.f__law_heard_right A.d__law_heard_right
  b__law_heard_right : Binds K A.d__law_heard_right ["tape", "taps", "ticks"] []
  m__law_heard_right : mg "_law_heard_right" = some (.ref A.f__law_heard_right)
  F__law_turned_right : Fun K "_law_turned_right" "_law_turned_right" s__law_turned_right A.f__law_turned_right A.d__law_turned_right
  b__law_turned_right : Binds K A.d__law_turned_right ["tape", "taps"] []
  m__law_turned_right : mg "_law_turned_right" = some (.ref A.f__law_turned_right)
  F_law : Fun K "law" "law" s_law A.f_law A.d_law
  b_law : Binds K A.d_law ["script"] []
  m_law : mg "law" = some (.ref A.f_law)
  z_abs : mg "abs" = none
  z_any : mg "any" = none
  z_bool : mg "bool" = none
  z_dict : mg "dict" = none
  z_int : mg "int" = none
  z_isinstance : mg "isinstance" = none
  z_len : mg "len" = none
  z_list : mg "list" = none
  z_min : mg "min" = none
  z_range : mg "range" = none
  z_repr : mg "repr" = none
  z_sorted : mg "sorted" = none
  z_tuple : mg "tuple" = none
  z_zip : mg "zip" = none
  cl_Listener : Cls K A.C_Listener
  g_Listener : mg "Listener" = some (.ref A.C_Listener)
  mk_Listener : Mk K A.C_Listener A.f_Listener_init
  n_Listener_taps : NoAttr K A.C_Listener "taps"
  n_Listener_before : NoAttr K A.C_Listener "before"
  n_Listener_rows : NoAttr K A.C_Listener "rows"
  g_MOST_TAPS : mg "MOST_TAPS" = some (.int 8 A.t_MOST_TAPS)
  g_MOST_SOUND : mg "MOST_SOUND" = some (.int 1000000 A.t_MOST_SOUND)
  g_CallError : mg "CallError" = some (.ref A.C_CallError)
  cau : KX.CauT s__law_caught
  g_BadNumber : mg "BadNumber" = some (.ref A.C_BadNumber)
  ec_BadNumber : ExcC K A.C_BadNumber
  xf_BadNumber : XfC K A.C_BadNumber
  te_BadNumber : PySem.W.exmOne K (.ref A.C_BadNumber) (.ref A.C_CallError) = some true
  ki_BadNumber : PySem.W.kitOne K (.ref A.C_BadNumber) (.ref A.C_BadNumber) = some true
  pt_BadNumber : KX.PartT P K mg A.C_BadNumber A.C_PartError A.f_PartError_init
  g_BadQuiet : mg "BadQuiet" = some (.ref A.C_BadQuiet)
  ec_BadQuiet : ExcC K A.C_BadQuiet
  xf_BadQuiet : XfC K A.C_BadQuiet
  te_BadQuiet : PySem.W.exmOne K (.ref A.C_BadQuiet) (.ref A.C_CallError) = some true
  ki_BadQuiet : PySem.W.kitOne K (.ref A.C_BadQuiet) (.ref A.C_BadQuiet) = some true
  xq_BadQuiet : PySem.W.excIn K A.C_BadQuiet [.type "ValueError", .type "Exception", .type "BaseException", .type "object"] "ValueError.__new__" = true
  kq_BadQuiet : PySem.W.keepIn K (.ref A.C_BadQuiet) = true
  bq_BadQuiet : PySem.W.subIn K (.ref A.C_BadQuiet) (.type "BaseException") = some true
  tq_BadQuiet : PySem.W.typeIn K (.ref A.C_BadQuiet) = some (.type "type")
  g_ZERO : mg "ZERO" = some (.ref A.a_ZERO)
  v_ZERO : ∀ H, SqT K H A.a_ZERO [.int 0, .int 1]
  g_ONE : mg "ONE" = some (.ref A.a_ONE)
  v_ONE : ∀ H, SqT K H A.a_ONE [.int 1, .int 1]
  kb_Listener_init_taps : KBn K A.d_Listener_init ["self", "taps"] 1 ["taps"] (fun us ws => us ++ ws) (fun us ws => us ++ ws)
  kb_Listener_left_heard_sent : KBn K A.d_Listener_left ["self", "sent", "heard"] 1 ["heard", "sent"] (fun us ws => us ++ ws.reverse) (fun us ws => us ++ ws.reverse)
  kb_Listener_hear_quiet_heard_sent : KBn K A.d_Listener_hear ["self", "sent", "heard", "quiet"] 1 ["quiet", "heard", "sent"] (fun us ws => us ++ ws.reverse) (fun us ws => us ++ ws.reverse)
  cd__law_refused : A.d__law_refused.code = .ref A.c__law_refused
end K75
end
section
/-! KEt: the end of a law with one table of code objects, its promise kept where nothing guards. -/
namespace KG
open PySem PySem.Spec PyProof.Rows L2
abbrev tblObj : Obj := { cls := .none, data := .fields #[] }
section
variable {P : Program} {w : World} {K : PySem.W.Frag} {mg mb : Str → Option Value} {s : Shared} {a cc Pt : Addr} {vs : List Value} {ns : List Int}
theorem law_GT {CX : CXT} {k : Nat} {fa : Addr} {fd : FuncData} {x : Str} {sp : Sp} (kin : K.In s.heap) (glob : s.heap.Ns mainGlobals mg) (bl : s.heap.Ns builtinsNs mb) (blt : ∀ x : Str, x ≠ "__name__" → mb x = bootBuiltins x) (nolim : s.heap.NoLimit) (quiet : s.gens = #[])
    (bmain : ∃ (bm : Addr) (ob : Obj), mg "__builtins__" = some (.ref bm) ∧ bm ≠ builtinsNs ∧ s.heap.get? bm = some ob ∧ ob.cls = .type "module" ∧ ob.dict = some builtinsNs ∧ ob.data = .plain)
    (tabAt : s.heap.get? Pt = some tblObj) (tabK : K.lookup Pt = none) (code : PySem.W.CodeHd s.heap cc Pt)
    (here : s.heap.get? a = some (scriptObj vs)) (nums : IntsAre vs ns) (short : ns.length ≤ sizeLine) (room : Room k callerA)
    (F : ∀ base : Heap, K.In base → base.Ns mainGlobals mg → LamX.TabB base mg cc Pt → FnG P w K mg base CX k fa fd [x] sp) (one : ∀ (s : Shared) (u : Value), BindsTo s fd ⟨[u], []⟩ [(x, u)])
    (told : ∀ H : Hp, H Pt = some (.tbl #[]) → SqL K H a (ns.map V.int) → sp [.ref a] H (fun v _ => v = .bl true) fun _ _ _ => False) (clean : ∀ H e s', CX [] H s (fun _ _ _ => False) e s' → False) :
    codeAny (model P w) callerA (.call (.ref fa) ⟨[.ref a], []⟩) (fun r s' => r = .ok (.ret (.bool true)) ∧ OldK s.heap s'.heap ∧ s'.os = s.os ∧ AllBare s'.gens) s := by
  have rel := vals_ints nums
  have len2 := nums.length
  have aP : a ≠ Pt := fun z => by
    rw [z, tabAt] at here
    have z' : Data.fields #[] = Data.seq vs.toArray _ := congrArg Obj.data (Option.some.inj here)
    cases z'
  have go : ∀ H : Hp, H Pt = some (.tbl #[]) → SqL K H a (ns.map V.int) → HOk P w H s.heap → (∀ b, H b ≠ none → b = Pt ∨ (b = a ∧ ∃ o xs, H b = some (.frz o (.lst xs)))) → (H a ≠ none → K.lookup a = none) →
      codeAny (model P w) callerA (.call (.ref fa) ⟨[.ref a], []⟩) (fun r s' => r = .ok (.ret (.bool true)) ∧ OldK s.heap s'.heap ∧ s'.os = s.os ∧ AllBare s'.gens) s := by
    intro H hPt sq good sole out
    -- what is seen of the heap below
    have off : ∀ {b : Addr} {o : Obj}, s.heap.get? b = some o → o ≠ scriptObj vs → o ≠ tblObj → H b = none := by
      intro b o hb n1 n2
      cases hq : H b with
      | none => rfl
      | some u =>
        rcases sole b (by rw [hq]; exact fun z => nomatch z) with e | ⟨e, _⟩
        · rw [e, tabAt] at hb; exact absurd (Option.some.inj hb).symm n2
        · rw [e, here] at hb; exact absurd (Option.some.inj hb).symm n1
    have ofD : ∀ {b : Addr} {o : Obj}, s.heap.get? b = some o → (∀ vs n, o.data ≠ .seq vs n) → o.data ≠ .fields #[] → (hidT s.heap H).get? b = some o := fun hb n1 n2 =>
      hidT_get hb (off hb (fun z => n1 vs.toArray _ (congrArg Obj.data z)) (fun z => n2 (congrArg Obj.data z)))
    have names : ∀ {b : Addr} {m : Str → Option Value}, s.heap.Ns b m → (hidT s.heap H).Ns b m := by
      intro b m hm
      obtain ⟨o, es, ep, h1, h2, h3⟩ := hm
      exact ⟨o, es, ep, ofD h1 (fun _ _ z => by rw [h2] at z; cases z) (fun z => by rw [h2] at z; cases z), h2, h3⟩
    have kin2 : K.In (hidT s.heap H) := by
      intro b o hb
      refine hidT_get (kin b o hb) ?_
      cases hq : H b with
      | none => rfl
      | some u =>
        rcases sole b (by rw [hq]; exact fun z => nomatch z) with e | ⟨e, _⟩
        · rw [e, tabK] at hb; exact nomatch hb
        · rw [e] at hb hq
          rw [out (by rw [hq]; exact fun z => nomatch z)] at hb; exact nomatch hb
    obtain ⟨mc, c1, c2⟩ := nolim
    have md : Mod K mg (hidT s.heap H) := ⟨kin2, names glob, ⟨mb, names bl, blt⟩, ⟨mc, names c1, c2⟩⟩
    have notG : ∀ {b : Addr} {o : Obj}, s.heap.get? b = some o → (∀ es ep, o.data ≠ .dict es ep) → mainGlobals ≠ b := fun {b o} hb hn z => by
      obtain ⟨o', es, ep, h1, h2, _⟩ := glob
      rw [z, hb] at h1
      cases h1
      exact hn _ _ h2
    have TB : LamX.TabB (hidT s.heap H) mg cc Pt := by
      refine ⟨?_, ?_, notG tabAt fun _ _ z => nomatch z⟩
      · obtain ⟨o, us, file, tf, flags, tg, inF, text, tt, q1, q2, q3, q4, q5, q6, q7, q8, q9, q10⟩ := code
        refine ⟨o, us, file, tf, flags, tg, inF, text, tt, ofD q1 (fun _ _ z => ?_) (fun z => ?_), q2, q3, q4, q5, q6, q7, q8, q9, q10⟩
        · rw [q3] at z; cases z
        · rw [q3] at z
          cases z
          simp at q4
      · obtain ⟨bm, ob, b1, b2, b3, b4, b5, b6⟩ := bmain
        refine ⟨bm, ob, b1, b2, (notG b3 (fun _ _ z => by rw [b6] at z; cases z)).symm, fun z => ?_, ofD b3 (fun _ _ z => by rw [b6] at z; cases z) (fun z => by rw [b6] at z; cases z), b4, b5, b6⟩
        rw [z, tabAt] at b3
        cases b3
        cases b6
    have env : Env0 P w K mg (hidT s.heap H) callerA [] s H := ⟨rfl, md, fun b o e => of_hidT e, Nat.le_of_eq (hidT_size _ _), trivial, fun b hb => (nomatch hb), good, .of_eq quiet⟩
    have run := (F _ kin2 (names glob) TB).go callerA [] s H ⟨[.ref a], []⟩ [.ref a] [.ref a] _ _ rfl room env (one s (.ref a)) (.cons rfl .nil) (told H hPt sq)
    refine codeAny_mono run fun r s' h => ?_
    match r, h with
    | .error e, h => exact (clean H e s' h).elim
    | .ok .next, h => exact h.elim
    | .ok .brk, h => exact h.elim
    | .ok .cont, h => exact h.elim
    | .ok (.ret u), h =>
      obtain ⟨v, H2, os2, bare2, un2, good2, rv, rfl⟩ := h
      obtain rfl : u = Value.bool true := rv
      have old : ∀ b o, b ≠ Pt → s.heap.get? b = some o → s'.heap.get? b = some o := fun b o nb hb => by
        cases hq : H b with
        | none => exact un2.keep b o hb hq (fun z => nomatch z) (fun z => nomatch z)
        | some u =>
          rcases sole b (by rw [hq]; exact fun z => nomatch z) with e | ⟨_, ob, xs, hz⟩
          · exact absurd e nb
          · have g1 := (good b _ hz).1
            have g2 := (good2 b _ (un2.frzs b ob _ hz)).1
            exact g2.trans (g1.symm.trans hb)
      obtain ⟨more, hm⟩ : ∃ more : Array Value, s'.heap.get? Pt = some { cls := .none, data := .fields more } := by
        obtain ⟨more, z⟩ := un2.tbls Pt #[] hPt
        exact ⟨_, good2 Pt _ z⟩
      refine ⟨rfl, ⟨fun b o e => ?_, fun b o e => ?_⟩, os2, bare2⟩
      · by_cases hb : b = Pt
        · rw [hb] at e ⊢
          rw [tabAt] at e
          cases e
          exact .inr (.inl ⟨(code.tab tabAt).isCodeTable, rfl, #[], more, rfl, by rw [Array.empty_append]; exact hm⟩)
        · exact .inl (old b o hb e)
      · by_cases hb : b = Pt
        · rw [hb]; exact ⟨_, hm⟩
        · exact ⟨o, old b o hb e⟩
  cases hk : K.lookup a with
  | some o =>
    obtain rfl : o = scriptObj vs := Option.some.inj ((kin a o hk).symm.trans here)
    let H1 : Hp := fun b => if b = Pt then some (.tbl #[]) else none
    have at_P : H1 Pt = some (.tbl #[]) := if_pos rfl
    have at_no : ∀ b, b ≠ Pt → H1 b = none := fun b hb => if_neg hb
    refine go H1 at_P (.inr ⟨_, vs.toArray, _, hk, rfl, rfl, rfl, by rw [List.size_toArray, len2]; exact short, by simpa using rel⟩) (fun b u z => ?_) (fun b z => ?_) (fun z => absurd (at_no a aP) z)
    · by_cases e : b = Pt
      · subst e; cases at_P.symm.trans z; exact tabAt
      · rw [at_no b e] at z; exact nomatch z
    · by_cases e : b = Pt
      · exact .inl e
      · exact absurd (at_no b e) z
  | none =>
    let H1 : Hp := fun b => if b = Pt then some (.tbl #[]) else if b = a then some (.frz (scriptObj vs) (.lst (ns.map V.int))) else none
    have at_P : H1 Pt = some (.tbl #[]) := if_pos rfl
    have at_a : H1 a = some (.frz (scriptObj vs) (.lst (ns.map V.int))) := (if_neg aP).trans (if_pos rfl)
    have at_no : ∀ b, b ≠ Pt → b ≠ a → H1 b = none := fun b h1 h2 => (if_neg h1).trans (if_neg h2)
    refine go H1 at_P (.inl (.inr ⟨_, at_a⟩)) (fun b u hu => ?_) (fun b hb => ?_) fun _ => hk
    · by_cases e : b = Pt
      · subst e; cases at_P.symm.trans hu; exact tabAt
      · by_cases eb : b = a
        · subst eb
          cases at_a.symm.trans hu
          exact ⟨here, by rw [List.length_map]; exact short, vs, _, rel, here⟩
        · rw [at_no b e eb] at hu; exact nomatch hu
    · by_cases e : b = Pt
      · exact .inl e
      · by_cases eb : b = a
        · subst eb; exact .inr ⟨rfl, _, _, at_a⟩
        · exact absurd (at_no b e eb) hb
end
theorem walk_XT {l : PySem.W.OpenLaw} {n k : Nat} {q : Program} {loose : List Str} {XP : (Str → Option Value) → Heap → Prop} {YP : World → Heap → Prop} {d dr : DefRec} {KK : Params → PySem.W.Frag} {CX : CXT} {sp : PySem.W.Frag → Addr → Sp} {x rn : Str}
    (most : l.most = some n) (fits : n ≤ sizeLine) (plain : d.params.defaults = []) (room : Room k callerA) (inn : ∀ (w : World) (h : Heap), YP w h → (KK w.params).In h) (rec_ : (recsOf q).find? (fun e => e.name == rn) = some dr)
    (F : ∀ (w : World) (mg : Str → Option Value) (fa : Addr) (h : Heap), XP mg h → (KK w.params).In h → h.Ns mainGlobals mg → mg d.name = some (.ref fa) →
      ∃ (fd : FuncData) (cc Pt : Addr), PySem.W.tabIn (KK w.params) rn = some (cc, Pt) ∧ (KK w.params).lookup Pt = none ∧ (∀ (s : Shared) (u : Value), BindsTo s fd ⟨[u], []⟩ [(x, u)]) ∧
        ∀ base : Heap, (KK w.params).In base → base.Ns mainGlobals mg → LamX.TabB base mg cc Pt → FnG l.prog w (KK w.params) mg base CX k fa fd [x] (sp (KK w.params) Pt))
    (told : ∀ (K : PySem.W.Frag) (H : Hp) (a Pt : Addr) (ns : List Int), ns.length ≤ n → H Pt = some (.tbl #[]) → SqL K H a (ns.map V.int) → sp K Pt [.ref a] H (fun v _ => v = .bl true) fun _ _ _ => False)
    (clean : ∀ (H : Hp) (s : Shared) (e : Value) (s' : Shared), CX [] H s (fun _ _ _ => False) e s' → False) : PySem.W.WalkO q loose XP YP l.row.toRowW d [] (fun f vs => PySem.call f vs) := by
  refine Att.attach_call most plain fun w s₀ s₁ mg mb fa o pm cd doc a vs ns G Y ho hd hcd hmg hobj hints hlen hg => ?_
  have kin := inn w _ Y
  obtain ⟨fd, cc, Pt, tabI, tabK, hb, hF⟩ := F w mg fa _ G.X kin G.T.g hmg
  obtain ⟨code, tabAt⟩ := PySem.W.tab_of G.T kin rec_ tabI
  exact law_GT kin G.T.g G.T.b G.T.builtins G.T.nolimit hg G.T.bmain tabAt tabK code hobj hints (Nat.le_trans hlen fits) room hF hb (fun H hP sq => told _ H a Pt ns hlen hP sq) (fun H e s' => clean H s₁ e s')
end KG
end
section
namespace K75
open PySem L2 Evl KX
/-! steps -/
local macro_rules | `(tactic| walk_at "nrm") => `(tactic| (((with_reducible refine' KA.g_nrm ?h ?k)); (case h => ((conv => lhs; simp only [List.set_cons_zero, List.set_cons_succ]); try exact rfl))))
local macro_rules | `(tactic| walk_at "nam") => `(tactic| (((with_reducible refine' KA.g_nameN ?h ?k)); (case h => ((conv => lhs; simp only [List.set_cons_zero, List.set_cons_succ]); try exact rfl))))
local macro_rules | `(tactic| walk_at "var") => `(tactic| (((with_reducible refine' KA.g_var ?h ?k)); (case h => exact rfl)))
local macro_rules | `(tactic| walk_at "aug") => `(tactic| (((with_reducible refine' KA.g_aug ?h ?k)); (case h => exact rfl)))
local macro_rules | `(tactic| walk_at "mul") => `(tactic| ((with_reducible refine KA.g_I (C := CMul) ?h ?k); (case h => first | exact KA.cmul_l (by omega) (by omega) | exact KA.cmul_r (by omega) (by omega))))
local macro_rules | `(tactic| walk_at "dv") => `(tactic| ((with_reducible refine KA.g_I (C := KA.CDv) ?h ?k); (case h => exact ⟨by omega, by omega⟩)))
local macro_rules | `(tactic| walk_at "mod") => `(tactic| ((with_reducible refine KA.g_I (C := fun _ j => 0 < j) ?h ?k); (case h => omega)))
local macro_rules | `(tactic| walk_at "s") => `(tactic| first
  | walk_at "nrm"
  | with_reducible refine KA.g_seq ?_
  | with_reducible refine KA.g_asg ?_
  | walk_at "nam"
  | with_reducible refine KA.g_yes ?_
  | with_reducible refine KA.g_ifs ?_
  | with_reducible refine KA.g_ret ?_
  | with_reducible refine KA.g_retN ?_
  | with_reducible refine KA.g_drop ?_
  | with_reducible refine KA.g_next ?_
  | with_reducible refine KA.g_brk ?_
  | with_reducible refine KA.g_par ?_
  | with_reducible refine KA.g_par3 ?_
  | with_reducible refine KA.g_kpar ?_
  | with_reducible refine KA.g_kpar3 ?_
  | with_reducible refine KA.g_op ?_
  | walk_at "var"
  | with_reducible refine KA.g_c ?_
  | with_reducible refine KA.g_I0 ?_
  | with_reducible refine KA.g_eqi ?_
  | with_reducible refine KA.g_nei ?_
  | with_reducible refine KA.g_test ?_
  | with_reducible refine KA.g_kbl ?_
  | with_reducible refine KA.g_cons ?_
  | with_reducible refine KA.g_nil ?_
  | with_reducible refine KA.g_cb ?_
  | with_reducible refine KA.g_call ?_
  | with_reducible refine KA.g_tb ?_
  | with_reducible refine KA.g_not ?_
  | with_reducible refine KA.g_and ?_
  | with_reducible refine KA.g_or ?_
  | with_reducible refine KA.g_if ?_
  | with_reducible refine KA.g_andV ?_
  | with_reducible refine KA.g_orV ?_
  | with_reducible refine KA.g_notV ?_
  | with_reducible refine KA.g_kbv ?_
  | with_reducible refine KA.g_ex1 ?_
  | with_reducible refine KA.g_chain ?_
  | with_reducible refine KA.g_fld ?_
  | with_reducible refine KA.g_un ?_
  | with_reducible refine KA.g_U ?_
  | with_reducible refine KA.g_tup ?_
  | with_reducible refine KA.g_lst ?_
  | walk_at "mul"
  | walk_at "dv"
  | walk_at "mod"
  | walk_at "aug"
  | with_reducible refine KA.g_ipi ?_
  | with_reducible refine KA.g_gcons ?_
  | with_reducible refine KA.g_gnil ?_
  | with_reducible refine KA.kB_t ?_
  | with_reducible refine KA.kB_f ?_
  | with_reducible refine KA.kB_nn ?_
  | with_reducible refine KA.ite_kB ?_
  | ((with_reducible refine' KA.g_ixT0 ?h ?k); (case h => exact L2.SqT.of (by assumption)))
  | ((with_reducible refine' KA.g_ixT1 ?h ?k); (case h => exact L2.SqT.of (by assumption)))
  | with_reducible refine KA.g_lct ?_
  | with_reducible refine KA.g_lcl ?_
  | with_reducible refine KA.g_lcr ?_
  | with_reducible refine KA.g_sl ?_
  | with_reducible refine KA.g_nop ?_
  | with_reducible refine KA.g_part ?_
  | with_reducible refine KA.g_exi ?_
  | with_reducible refine KA.g_eqs ?_
  | with_reducible refine KA.g_nes ?_
  | with_reducible refine KA.g_isN_i ?_
  | with_reducible refine KA.g_isN_n ?_
  | with_reducible refine KA.g_isN_r ?_
  | with_reducible refine KA.g_abs ?_
  | with_reducible refine KA.g_mx ?_
  | with_reducible refine KA.g_mn ?_
  | with_reducible refine KA.g_int ?_
  | with_reducible refine KA.g_intb ?_
  | with_reducible refine KA.g_isi_ii ?_
  | with_reducible refine KA.g_isi_ib ?_
  | with_reducible refine KA.g_isi_ss ?_
  | ((with_reducible refine' KA.g_isi_tt ?h ?k); (case h => assumption))
  | ((with_reducible refine' KA.g_lnL ?h ?k); (case h => assumption))
  | ((with_reducible refine' KA.g_lnT ?h ?k); (case h => assumption)))
section
variable {P : Program} {w : World} {K : PySem.W.Frag} {mg : Str → Option Value} {base : Heap} {A : Adr}
open KR
/-! divisor -/
def sp_divisor : Sp := fun vs H Q _ => ∃ a b : Int, vs = [.int a, .int b] ∧ RetV (.int (Int.gcd a b)) H Q
theorem ok_divisor (T : Txt P K mg A) : FnOk P w K mg base CX0 1 A.f_divisor A.d_divisor ["one", "other"] sp_divisor := by
  refine T.F_divisor.ok sc_divisor (fun vs H Q E h => ?_) (fun cdv Ar outer s H vs Q E hr h => ?_)
  · obtain ⟨a, b, rfl, _⟩ := h; rfl
  obtain ⟨a, b, rfl, k⟩ := h
  refine ⟨_, (pss_cons (ps_par (i := 0) (j := 1) (by rfl) sc_divisor.nd rfl rfl (by decide) rfl rfl (pa_cons (pe_callB KA.call_absN (by rfl) T.z_abs (by decide +kernel) (pa_cons (pv 0) pa_nil)) (pa_cons (pe_callB KA.call_absN (by rfl) T.z_abs (by decide +kernel) (pa_cons (pv 1) pa_nil)) pa_nil)) (by rfl))
  (pss_cons (ps_while PassesOwn.never (pt_cmpR op_gt (pv 1) pe_int (nomark _)) (pss_one (ps_par (i := 0) (j := 1) (by rfl) sc_divisor.nd rfl rfl (by decide) rfl rfl (pa_cons (pv 1) (pa_cons (pe_op op_mod (pv 0) (pv 1)) pa_nil)) (by rfl))))
  (pss_one (ps_ret (pv 0))))), ?_⟩
  show tSeq _ _ _ [some (.int a), some (.int b)] H
  repeat' (walk_at "s")
  refine KA.g_while (α := Nat × Nat) (fun z σ H' => σ = [some (.int z.1), some (.int z.2)] ∧ Ex H H' ∧ Nat.gcd z.1 z.2 = Int.gcd a b) (fun z => z.2) (a.natAbs, b.natAbs) ⟨rfl, Ex.refl H, rfl⟩ ?_
  rintro ⟨x, y⟩ σ H1 ⟨rfl, e1, hg⟩
  repeat' (walk_at "s")
  refine KA.kWh_d (fun hy => ?_) (fun hy => ?_)
  · have hy0 : (0 : Int) < y := hy
    repeat' (walk_at "s")
    have hy' : 0 < y := by simpa using hy
    refine ⟨(y, x % y), Nat.mod_lt _ hy', ?_, e1, ?_⟩
    · simp [Int.fmod_eq_emod_of_nonneg]
    · rw [← hg]; simp only; rw [Nat.gcd_comm y, ← Nat.gcd_rec, Nat.gcd_comm]
  · repeat' (walk_at "s")
    have hy' : y = 0 := by simp only at hy; omega
    subst hy'
    have : (x : Int) = (Int.gcd a b : Int) := by rw [← hg]; simp
    simp only; rw [this]
    exact k _ e1
def sp__law_gcd : Sp := sp_divisor
theorem ok__law_gcd (T : Txt P K mg A) : FnOk P w K mg base CX0 1 A.f__law_gcd A.d__law_gcd ["one", "other"] sp__law_gcd := by
  refine T.F__law_gcd.ok sc__law_gcd (fun vs H Q E h => ?_) (fun cdv Ar outer s H vs Q E hr h => ?_)
  · obtain ⟨a, b, rfl, _⟩ := h; rfl
  obtain ⟨a, b, rfl, k⟩ := h
  refine ⟨_, (pss_cons (ps_par (i := 0) (j := 1) (by rfl) sc__law_gcd.nd rfl rfl (by decide) rfl rfl (pa_cons (pe_callB KA.call_absN (by rfl) T.z_abs (by decide +kernel) (pa_cons (pv 0) pa_nil)) (pa_cons (pe_callB KA.call_absN (by rfl) T.z_abs (by decide +kernel) (pa_cons (pv 1) pa_nil)) pa_nil)) (by rfl))
  (pss_cons (ps_while PassesOwn.never (pt_cmpR op_ne (pv 1) pe_int (nomark _)) (pss_one (ps_par (i := 0) (j := 1) (by rfl) sc__law_gcd.nd rfl rfl (by decide) rfl rfl (pa_cons (pv 1) (pa_cons (pe_op op_mod (pe_callTy KA.call_intN (by rfl) T.z_int (by decide +kernel) (pa_cons (pv 0) pa_nil)) (pv 1)) pa_nil)) (by rfl))))
  (pss_one (ps_ret (pv 0))))), ?_⟩
  show tSeq _ _ _ [some (.int a), some (.int b)] H
  repeat' (walk_at "s")
  refine KA.g_while (α := Nat × Nat) (fun z σ H' => σ = [some (.int z.1), some (.int z.2)] ∧ Ex H H' ∧ Nat.gcd z.1 z.2 = Int.gcd a b) (fun z => z.2) (a.natAbs, b.natAbs) ⟨rfl, Ex.refl H, rfl⟩ ?_
  rintro ⟨x, y⟩ σ H1 ⟨rfl, e1, hg⟩
  repeat' (walk_at "s")
  refine KA.kWh_b (fun hy => ?_) (fun hy => ?_)
  · have hy0 : (y : Int) ≠ 0 := by simpa using hy
    have hy1 : (0 : Int) < y := by omega
    repeat' (walk_at "s")
    have hy' : 0 < y := by omega
    refine ⟨(y, x % y), Nat.mod_lt _ hy', ?_, e1, ?_⟩
    · simp [Int.fmod_eq_emod_of_nonneg]
    · rw [← hg]; simp only; rw [Nat.gcd_comm y, ← Nat.gcd_rec, Nat.gcd_comm]
  · have hy0 : (y : Int) = 0 := by simpa using hy
    repeat' (walk_at "s")
    have hy' : y = 0 := by omega
    subst hy'
    have : (x : Int) = (Int.gcd a b : Int) := by rw [← hg]; simp
    simp only; rw [this]
    exact k _ e1
end
end K75
end
section
namespace K75
open PySem L2 Evl KX
/-! steps -/
local macro_rules | `(tactic| walk_at "nrm") => `(tactic| (((with_reducible refine' KA.g_nrm ?h ?k)); (case h => ((conv => lhs; simp only [List.set_cons_zero, List.set_cons_succ]); try exact rfl))))
local macro_rules | `(tactic| walk_at "nam") => `(tactic| (((with_reducible refine' KA.g_nameN ?h ?k)); (case h => ((conv => lhs; simp only [List.set_cons_zero, List.set_cons_succ]); try exact rfl))))
local macro_rules | `(tactic| walk_at "var") => `(tactic| (((with_reducible refine' KA.g_var ?h ?k)); (case h => exact rfl)))
local macro_rules | `(tactic| walk_at "aug") => `(tactic| (((with_reducible refine' KA.g_aug ?h ?k)); (case h => exact rfl)))
local macro_rules | `(tactic| walk_at "mul") => `(tactic| ((with_reducible refine KA.g_I (C := CMul) ?h ?k); (case h => first | exact KA.cmul_l (by omega) (by omega) | exact KA.cmul_r (by omega) (by omega))))
local macro_rules | `(tactic| walk_at "dv") => `(tactic| ((with_reducible refine KA.g_I (C := KA.CDv) ?h ?k); (case h => exact ⟨by omega, by omega⟩)))
local macro_rules | `(tactic| walk_at "mod") => `(tactic| ((with_reducible refine KA.g_I (C := fun _ j => 0 < j) ?h ?k); (case h => omega)))
local macro_rules | `(tactic| walk_at "s") => `(tactic| first
  | walk_at "nrm"
  | with_reducible refine KA.g_seq ?_
  | with_reducible refine KA.g_asg ?_
  | walk_at "nam"
  | with_reducible refine KA.g_yes ?_
  | with_reducible refine KA.g_ifs ?_
  | with_reducible refine KA.g_ret ?_
  | with_reducible refine KA.g_retN ?_
  | with_reducible refine KA.g_drop ?_
  | with_reducible refine KA.g_next ?_
  | with_reducible refine KA.g_brk ?_
  | with_reducible refine KA.g_par ?_
  | with_reducible refine KA.g_par3 ?_
  | with_reducible refine KA.g_kpar ?_
  | with_reducible refine KA.g_kpar3 ?_
  | with_reducible refine KA.g_op ?_
  | walk_at "var"
  | with_reducible refine KA.g_c ?_
  | with_reducible refine KA.g_I0 ?_
  | with_reducible refine KA.g_eqi ?_
  | with_reducible refine KA.g_nei ?_
  | with_reducible refine KA.g_test ?_
  | with_reducible refine KA.g_kbl ?_
  | with_reducible refine KA.g_cons ?_
  | with_reducible refine KA.g_nil ?_
  | with_reducible refine KA.g_cb ?_
  | with_reducible refine KA.g_call ?_
  | with_reducible refine KA.g_tb ?_
  | with_reducible refine KA.g_not ?_
  | with_reducible refine KA.g_and ?_
  | with_reducible refine KA.g_or ?_
  | with_reducible refine KA.g_if ?_
  | with_reducible refine KA.g_andV ?_
  | with_reducible refine KA.g_orV ?_
  | with_reducible refine KA.g_notV ?_
  | with_reducible refine KA.g_kbv ?_
  | with_reducible refine KA.g_ex1 ?_
  | with_reducible refine KA.g_chain ?_
  | with_reducible refine KA.g_fld ?_
  | with_reducible refine KA.g_un ?_
  | with_reducible refine KA.g_U ?_
  | with_reducible refine KA.g_tup ?_
  | with_reducible refine KA.g_lst ?_
  | walk_at "mul"
  | walk_at "dv"
  | walk_at "mod"
  | walk_at "aug"
  | with_reducible refine KA.g_ipi ?_
  | with_reducible refine KA.g_gcons ?_
  | with_reducible refine KA.g_gnil ?_
  | with_reducible refine KA.kB_t ?_
  | with_reducible refine KA.kB_f ?_
  | with_reducible refine KA.kB_nn ?_
  | with_reducible refine KA.ite_kB ?_
  | ((with_reducible refine' KA.g_ixT0 ?h ?k); (case h => exact L2.SqT.of (by assumption)))
  | ((with_reducible refine' KA.g_ixT1 ?h ?k); (case h => exact L2.SqT.of (by assumption)))
  | with_reducible refine KA.g_lct ?_
  | with_reducible refine KA.g_lcl ?_
  | with_reducible refine KA.g_lcr ?_
  | with_reducible refine KA.g_sl ?_
  | with_reducible refine KA.g_nop ?_
  | with_reducible refine KA.g_part ?_
  | with_reducible refine KA.g_exi ?_
  | with_reducible refine KA.g_eqs ?_
  | with_reducible refine KA.g_nes ?_
  | with_reducible refine KA.g_isN_i ?_
  | with_reducible refine KA.g_isN_n ?_
  | with_reducible refine KA.g_isN_r ?_
  | with_reducible refine KA.g_abs ?_
  | with_reducible refine KA.g_mx ?_
  | with_reducible refine KA.g_mn ?_
  | with_reducible refine KA.g_int ?_
  | with_reducible refine KA.g_intb ?_
  | with_reducible refine KA.g_isi_ii ?_
  | with_reducible refine KA.g_isi_ib ?_
  | with_reducible refine KA.g_isi_ss ?_
  | ((with_reducible refine' KA.g_isi_tt ?h ?k); (case h => assumption))
  | ((with_reducible refine' KA.g_lnL ?h ?k); (case h => assumption))
  | ((with_reducible refine' KA.g_lnT ?h ?k); (case h => assumption)))
local macro_rules | `(tactic| walk_at "mulW") => `(tactic| ((with_reducible refine KA.g_I (C := CMulW) ?h ?k); (case h => exact KR.mulW (by assumption) (by assumption) (by decide) (by decide) (by decide))))
local macro_rules | `(tactic| walk_at "s") => `(tactic| first
  | walk_at "mulW"
  | ((with_reducible refine' KA.g_ixT0 ?h ?k); (case h => assumption))
  | ((with_reducible refine' KA.g_ixT1 ?h ?k); (case h => assumption))
  | fail)
section
variable {P : Program} {w : World} {K : PySem.W.Frag} {mg : Str → Option Value} {base : Heap} {A : Adr}
open KR
def sp_lowest (K : PySem.W.Frag) : Sp := fun vs H Q _ => ∃ t b : Int, vs = [.int t, .int b] ∧ b ≠ 0 ∧ b.natAbs < 2 ^ 8000 ∧ RetFr K (Rat.divInt t b) H Q
theorem retFr_mk {q : Rat} {H : Hp} {Q : VK} {x y : Int} (k : RetFr K q H Q) (hx : x = q.num) (hy : y = (q.den : Int)) {H1 : Hp} (e : Ex H H1) : KA.kTup [.int x, .int y] H1 Q := by
  subst hx; subst hy
  exact KA.g_ktup (show 2 ≤ 1000 by decide) fun p H2 hp e2 h2 => k _ _ (e.trans e2) ⟨p, rfl, SqT.of h2⟩
theorem ok_lowest (T : Txt P K mg A) : FnOk P w K mg base CX0 2 A.f_lowest A.d_lowest ["top", "bottom"] (sp_lowest K) := by
  refine T.F_lowest.ok sc_lowest (fun vs H Q E h => ?_) (fun cdv Ar outer s H vs Q E hr h => ?_)
  · obtain ⟨t, b, rfl, _⟩ := h; rfl
  obtain ⟨t, b, rfl, b0, hb, k⟩ := h
  refine ⟨_, (pss_cons (ps_set (i := 2) sc_lowest.nd rfl (Or.inl rfl) (pe_call (ok_divisor T) (hr.mono (by decide)) (by rfl) T.m_divisor T.F_divisor.kp T.b_divisor .nil pass0 (pa_cons (pv 0) (pa_cons (pv 1) pa_nil))))
  (Evl.pss_cut (ps_if (pt_cmpR op_lt (pv 1) pe_int (nomark _)) (pss_one (ps_set (i := 2) sc_lowest.nd rfl (Or.inl rfl) (pe_un un_neg (pv 2)))) pss_nil)
  (pss_one (ps_ret (pe_tup (pa_cons (pe_op KU.op_dvA (pv 0) (pv 2)) (pa_cons (pe_op KU.op_dvA (pv 1) (pv 2)) pa_nil))))))), ?_⟩
  show tSeq _ _ _ [some (.int t), some (.int b), none] H
  repeat' (walk_at "s")
  refine ⟨t, b, rfl, fun H1 e1 => ?_⟩
  repeat' (walk_at "s")
  refine KA.g_cut (fun σ' H' => σ' = [some (.int t), some (.int b), some (.int (if b < 0 then -(Int.gcd t b : Int) else (Int.gcd t b : Int)))] ∧ Ex H H') ?_ ?_
  · repeat' (walk_at "s")
    refine KA.kB_d (fun hc => ?_) (fun hc => ?_)
    · repeat' (walk_at "s")
      exact ⟨by rw [if_pos hc], e1⟩
    · repeat' (walk_at "s")
      exact ⟨by rw [if_neg hc], e1⟩
  · rintro σ' H2 ⟨rfl, e2⟩
    repeat' (walk_at "s")
    refine KA.g_I (C := KU.CDivA) (divA b0 hb _) ?_
    repeat' (walk_at "s")
    refine KA.g_I (C := KU.CDivA) (divA b0 hb _) ?_
    repeat' (walk_at "s")
    exact retFr_mk k (low_eq b0).1 (low_eq b0).2 e2
def sp__law_fr (K : PySem.W.Frag) : Sp := sp_lowest K
theorem ok__law_fr (T : Txt P K mg A) : FnOk P w K mg base CX0 2 A.f__law_fr A.d__law_fr ["top", "bottom"] (sp__law_fr K) := by
  refine T.F__law_fr.ok sc__law_fr (fun vs H Q E h => ?_) (fun cdv Ar outer s H vs Q E hr h => ?_)
  · obtain ⟨t, b, rfl, _⟩ := h; rfl
  obtain ⟨t, b, rfl, b0, hb, k⟩ := h
  refine ⟨_, (pss_cons (ps_set (i := 2) sc__law_fr.nd rfl (Or.inl rfl) (pe_ifExp (pt_cmpR op_gt (pv 1) pe_int (nomark _)) (pe_call (ok__law_gcd T) (hr.mono (by decide)) (by rfl) T.m__law_gcd T.F__law_gcd.kp T.b__law_gcd .nil pass0 (pa_cons (pv 0) (pa_cons (pv 1) pa_nil))) (pe_op op_sub pe_int (pe_call (ok__law_gcd T) (hr.mono (by decide)) (by rfl) T.m__law_gcd T.F__law_gcd.kp T.b__law_gcd .nil pass0 (pa_cons (pv 0) (pa_cons (pv 1) pa_nil))))))
  (pss_one (ps_ret (pe_tup (pa_cons (pe_op KU.op_dvA (pv 0) (pv 2)) (pa_cons (pe_op KU.op_dvA (pv 1) (pv 2)) pa_nil)))))), ?_⟩
  show tSeq _ _ _ [some (.int t), some (.int b), none] H
  have e0 : ∀ c : Int, c = (if b < 0 then -(Int.gcd t b : Int) else (Int.gcd t b : Int)) → ∀ i, KU.CDivA i c := fun c e i => e ▸ divA b0 hb i
  have e1 : ∀ c : Int, c = (if b < 0 then -(Int.gcd t b : Int) else (Int.gcd t b : Int)) → t.fdiv c = (Rat.divInt t b).num ∧ b.fdiv c = ((Rat.divInt t b).den : Int) := fun c e => e ▸ low_eq b0
  repeat' (walk_at "s")
  refine KA.kB_d (fun hc => ?_) (fun hc => ?_)
  · repeat' (walk_at "s")
    refine ⟨t, b, rfl, fun H1 x1 => ?_⟩
    have ec : (Int.gcd t b : Int) = (if b < 0 then -(Int.gcd t b : Int) else (Int.gcd t b : Int)) := by rw [if_neg (by omega)]
    repeat' (walk_at "s")
    refine KA.g_I (C := KU.CDivA) (e0 _ ec _) ?_
    repeat' (walk_at "s")
    refine KA.g_I (C := KU.CDivA) (e0 _ ec _) ?_
    repeat' (walk_at "s")
    exact retFr_mk k (e1 _ ec).1 (e1 _ ec).2 x1
  · repeat' (walk_at "s")
    refine ⟨t, b, rfl, fun H1 x1 => ?_⟩
    have ec : 0 - (Int.gcd t b : Int) = (if b < 0 then -(Int.gcd t b : Int) else (Int.gcd t b : Int)) := by rw [if_pos (by omega)]; omega
    repeat' (walk_at "s")
    refine KA.g_I (C := KU.CDivA) (e0 _ ec _) ?_
    repeat' (walk_at "s")
    refine KA.g_I (C := KU.CDivA) (e0 _ ec _) ?_
    repeat' (walk_at "s")
    exact retFr_mk k (e1 _ ec).1 (e1 _ ec).2 x1
def sp_fr2 (K : PySem.W.Frag) (f : Rat → Rat → Rat) (C : Rat → Prop) : Sp := fun vs H Q _ => ∃ v u a b, vs = [v, u] ∧ FrV K H v a ∧ FrV K H u b ∧ Sz S2 a ∧ Sz S2 b ∧ C b ∧ RetFr K (f a b) H Q
def sp_less (K : PySem.W.Frag) : Sp := sp_fr2 K (fun a b => a - b) fun _ => True
def sp_product (K : PySem.W.Frag) : Sp := sp_fr2 K (fun a b => a * b) fun _ => True
def sp_parted (K : PySem.W.Frag) : Sp := sp_fr2 K (fun a b => a * b⁻¹) fun b => b ≠ 0
def sp__law_plus (K : PySem.W.Frag) : Sp := sp_fr2 K (fun a b => a + b) fun _ => True
def sp__law_times (K : PySem.W.Frag) : Sp := sp_fr2 K (fun a b => a * b) fun _ => True
theorem low_b {x y : Int} (hx : x.natAbs < 2 ^ S2) (hy : y.natAbs < 2 ^ S2) : (x * y).natAbs < 2 ^ 8000 := le_pow (prod_b hx hy) (by decide)
theorem ok_less (T : Txt P K mg A) : FnOk P w K mg base CX0 3 A.f_less A.d_less ["one", "other"] (sp_less K) := by
  refine T.F_less.ok sc_less (fun vs H Q E h => ?_) (fun cdv Ar outer s H vs Q E hr h => ?_)
  · obtain ⟨v, u, a, b, rfl, _⟩ := h; rfl
  obtain ⟨_, _, a, b, rfl, ⟨p, rfl, hp⟩, ⟨q, rfl, hq⟩, sa, sb, _, k⟩ := h
  have a1 := sa.num; have a2 := sa.den; have b1 := sb.num; have b2 := sb.den
  refine ⟨_, (pss_one (ps_ret (pe_call (ok_lowest T) (hr.mono (by decide)) (by rfl) T.m_lowest T.F_lowest.kp T.b_lowest .nil pass0 (pa_cons (pe_op op_sub (pe_op op_mulW (pe_ix (KR.ix_tupK (K := K) rfl) (pv 0) pe_int (fun _ _ => rfl)) (pe_ix (KR.ix_tupK (K := K) rfl) (pv 1) pe_int (fun _ _ => rfl))) (pe_op op_mulW (pe_ix (KR.ix_tupK (K := K) rfl) (pv 1) pe_int (fun _ _ => rfl)) (pe_ix (KR.ix_tupK (K := K) rfl) (pv 0) pe_int (fun _ _ => rfl)))) (pa_cons (pe_op op_mulW (pe_ix (KR.ix_tupK (K := K) rfl) (pv 0) pe_int (fun _ _ => rfl)) (pe_ix (KR.ix_tupK (K := K) rfl) (pv 1) pe_int (fun _ _ => rfl))) pa_nil))))), ?_⟩
  show tRet _ _ [some (.ref p), some (.ref q)] H
  repeat' (walk_at "s")
  exact ⟨_, _, rfl, Int.mul_ne_zero (den_ne a) (den_ne b), low_b a2 b2, by rw [less_eq]; exact k⟩
theorem ok_product (T : Txt P K mg A) : FnOk P w K mg base CX0 3 A.f_product A.d_product ["one", "other"] (sp_product K) := by
  refine T.F_product.ok sc_product (fun vs H Q E h => ?_) (fun cdv Ar outer s H vs Q E hr h => ?_)
  · obtain ⟨v, u, a, b, rfl, _⟩ := h; rfl
  obtain ⟨_, _, a, b, rfl, ⟨p, rfl, hp⟩, ⟨q, rfl, hq⟩, sa, sb, _, k⟩ := h
  have a1 := sa.num; have a2 := sa.den; have b1 := sb.num; have b2 := sb.den
  refine ⟨_, (pss_one (ps_ret (pe_call (ok_lowest T) (hr.mono (by decide)) (by rfl) T.m_lowest T.F_lowest.kp T.b_lowest .nil pass0 (pa_cons (pe_op op_mulW (pe_ix (KR.ix_tupK (K := K) rfl) (pv 0) pe_int (fun _ _ => rfl)) (pe_ix (KR.ix_tupK (K := K) rfl) (pv 1) pe_int (fun _ _ => rfl))) (pa_cons (pe_op op_mulW (pe_ix (KR.ix_tupK (K := K) rfl) (pv 0) pe_int (fun _ _ => rfl)) (pe_ix (KR.ix_tupK (K := K) rfl) (pv 1) pe_int (fun _ _ => rfl))) pa_nil))))), ?_⟩
  show tRet _ _ [some (.ref p), some (.ref q)] H
  repeat' (walk_at "s")
  exact ⟨_, _, rfl, Int.mul_ne_zero (den_ne a) (den_ne b), low_b a2 b2, by rw [mul_eq]; exact k⟩
theorem ok_parted (T : Txt P K mg A) : FnOk P w K mg base CX0 3 A.f_parted A.d_parted ["one", "other"] (sp_parted K) := by
  refine T.F_parted.ok sc_parted (fun vs H Q E h => ?_) (fun cdv Ar outer s H vs Q E hr h => ?_)
  · obtain ⟨v, u, a, b, rfl, _⟩ := h; rfl
  obtain ⟨_, _, a, b, rfl, ⟨p, rfl, hp⟩, ⟨q, rfl, hq⟩, sa, sb, b0, k⟩ := h
  have a1 := sa.num; have a2 := sa.den; have b1 := sb.num; have b2 := sb.den
  refine ⟨_, (pss_one (ps_ret (pe_call (ok_lowest T) (hr.mono (by decide)) (by rfl) T.m_lowest T.F_lowest.kp T.b_lowest .nil pass0 (pa_cons (pe_op op_mulW (pe_ix (KR.ix_tupK (K := K) rfl) (pv 0) pe_int (fun _ _ => rfl)) (pe_ix (KR.ix_tupK (K := K) rfl) (pv 1) pe_int (fun _ _ => rfl))) (pa_cons (pe_op op_mulW (pe_ix (KR.ix_tupK (K := K) rfl) (pv 0) pe_int (fun _ _ => rfl)) (pe_ix (KR.ix_tupK (K := K) rfl) (pv 1) pe_int (fun _ _ => rfl))) pa_nil))))), ?_⟩
  show tRet _ _ [some (.ref p), some (.ref q)] H
  repeat' (walk_at "s")
  exact ⟨_, _, rfl, Int.mul_ne_zero (den_ne a) (num_ne b0), low_b a2 b1, by rw [part_eq]; exact k⟩
theorem ok__law_plus (T : Txt P K mg A) : FnOk P w K mg base CX0 3 A.f__law_plus A.d__law_plus ["one", "other"] (sp__law_plus K) := by
  refine T.F__law_plus.ok sc__law_plus (fun vs H Q E h => ?_) (fun cdv Ar outer s H vs Q E hr h => ?_)
  · obtain ⟨v, u, a, b, rfl, _⟩ := h; rfl
  obtain ⟨_, _, a, b, rfl, ⟨p, rfl, hp⟩, ⟨q, rfl, hq⟩, sa, sb, _, k⟩ := h
  have a1 := sa.num; have a2 := sa.den; have b1 := sb.num; have b2 := sb.den
  refine ⟨_, (pss_one (ps_ret (pe_call (ok__law_fr T) (hr.mono (by decide)) (by rfl) T.m__law_fr T.F__law_fr.kp T.b__law_fr .nil pass0 (pa_cons (pe_op op_add (pe_op op_mulW (pe_ix (KR.ix_tupK (K := K) rfl) (pv 0) pe_int (fun _ _ => rfl)) (pe_ix (KR.ix_tupK (K := K) rfl) (pv 1) pe_int (fun _ _ => rfl))) (pe_op op_mulW (pe_ix (KR.ix_tupK (K := K) rfl) (pv 1) pe_int (fun _ _ => rfl)) (pe_ix (KR.ix_tupK (K := K) rfl) (pv 0) pe_int (fun _ _ => rfl)))) (pa_cons (pe_op op_mulW (pe_ix (KR.ix_tupK (K := K) rfl) (pv 0) pe_int (fun _ _ => rfl)) (pe_ix (KR.ix_tupK (K := K) rfl) (pv 1) pe_int (fun _ _ => rfl))) pa_nil))))), ?_⟩
  show tRet _ _ [some (.ref p), some (.ref q)] H
  repeat' (walk_at "s")
  exact ⟨_, _, rfl, Int.mul_ne_zero (den_ne a) (den_ne b), low_b a2 b2, by rw [plus_eq]; exact k⟩
theorem ok__law_times (T : Txt P K mg A) : FnOk P w K mg base CX0 3 A.f__law_times A.d__law_times ["one", "other"] (sp__law_times K) := by
  refine T.F__law_times.ok sc__law_times (fun vs H Q E h => ?_) (fun cdv Ar outer s H vs Q E hr h => ?_)
  · obtain ⟨v, u, a, b, rfl, _⟩ := h; rfl
  obtain ⟨_, _, a, b, rfl, ⟨p, rfl, hp⟩, ⟨q, rfl, hq⟩, sa, sb, _, k⟩ := h
  have a1 := sa.num; have a2 := sa.den; have b1 := sb.num; have b2 := sb.den
  refine ⟨_, (pss_one (ps_ret (pe_call (ok__law_fr T) (hr.mono (by decide)) (by rfl) T.m__law_fr T.F__law_fr.kp T.b__law_fr .nil pass0 (pa_cons (pe_op op_mulW (pe_ix (KR.ix_tupK (K := K) rfl) (pv 0) pe_int (fun _ _ => rfl)) (pe_ix (KR.ix_tupK (K := K) rfl) (pv 1) pe_int (fun _ _ => rfl))) (pa_cons (pe_op op_mulW (pe_ix (KR.ix_tupK (K := K) rfl) (pv 0) pe_int (fun _ _ => rfl)) (pe_ix (KR.ix_tupK (K := K) rfl) (pv 1) pe_int (fun _ _ => rfl))) pa_nil))))), ?_⟩
  show tRet _ _ [some (.ref p), some (.ref q)] H
  repeat' (walk_at "s")
  exact ⟨_, _, rfl, Int.mul_ne_zero (den_ne a) (den_ne b), low_b a2 b2, by rw [mul_eq]; exact k⟩
end
end K75
end
section
namespace K75
open PySem L2 Evl KX
/-! steps -/
local macro_rules | `(tactic| walk_at "nrm") => `(tactic| (((with_reducible refine' KA.g_nrm ?h ?k)); (case h => ((conv => lhs; simp only [List.set_cons_zero, List.set_cons_succ]); try exact rfl))))
local macro_rules | `(tactic| walk_at "nam") => `(tactic| (((with_reducible refine' KA.g_nameN ?h ?k)); (case h => ((conv => lhs; simp only [List.set_cons_zero, List.set_cons_succ]); try exact rfl))))
local macro_rules | `(tactic| walk_at "var") => `(tactic| (((with_reducible refine' KA.g_var ?h ?k)); (case h => exact rfl)))
local macro_rules | `(tactic| walk_at "aug") => `(tactic| (((with_reducible refine' KA.g_aug ?h ?k)); (case h => exact rfl)))
local macro_rules | `(tactic| walk_at "mul") => `(tactic| ((with_reducible refine KA.g_I (C := CMul) ?h ?k); (case h => first | exact KA.cmul_l (by omega) (by omega) | exact KA.cmul_r (by omega) (by omega))))
local macro_rules | `(tactic| walk_at "dv") => `(tactic| ((with_reducible refine KA.g_I (C := KA.CDv) ?h ?k); (case h => exact ⟨by omega, by omega⟩)))
local macro_rules | `(tactic| walk_at "mod") => `(tactic| ((with_reducible refine KA.g_I (C := fun _ j => 0 < j) ?h ?k); (case h => omega)))
local macro_rules | `(tactic| walk_at "s") => `(tactic| first
  | walk_at "nrm"
  | with_reducible refine KA.g_seq ?_
  | with_reducible refine KA.g_asg ?_
  | walk_at "nam"
  | with_reducible refine KA.g_yes ?_
  | with_reducible refine KA.g_ifs ?_
  | with_reducible refine KA.g_ret ?_
  | with_reducible refine KA.g_retN ?_
  | with_reducible refine KA.g_drop ?_
  | with_reducible refine KA.g_next ?_
  | with_reducible refine KA.g_brk ?_
  | with_reducible refine KA.g_par ?_
  | with_reducible refine KA.g_par3 ?_
  | with_reducible refine KA.g_kpar ?_
  | with_reducible refine KA.g_kpar3 ?_
  | with_reducible refine KA.g_op ?_
  | walk_at "var"
  | with_reducible refine KA.g_c ?_
  | with_reducible refine KA.g_I0 ?_
  | with_reducible refine KA.g_eqi ?_
  | with_reducible refine KA.g_nei ?_
  | with_reducible refine KA.g_test ?_
  | with_reducible refine KA.g_kbl ?_
  | with_reducible refine KA.g_cons ?_
  | with_reducible refine KA.g_nil ?_
  | with_reducible refine KA.g_cb ?_
  | with_reducible refine KA.g_call ?_
  | with_reducible refine KA.g_tb ?_
  | with_reducible refine KA.g_not ?_
  | with_reducible refine KA.g_and ?_
  | with_reducible refine KA.g_or ?_
  | with_reducible refine KA.g_if ?_
  | with_reducible refine KA.g_andV ?_
  | with_reducible refine KA.g_orV ?_
  | with_reducible refine KA.g_notV ?_
  | with_reducible refine KA.g_kbv ?_
  | with_reducible refine KA.g_ex1 ?_
  | with_reducible refine KA.g_chain ?_
  | with_reducible refine KA.g_fld ?_
  | with_reducible refine KA.g_un ?_
  | with_reducible refine KA.g_U ?_
  | with_reducible refine KA.g_tup ?_
  | with_reducible refine KA.g_lst ?_
  | walk_at "mul"
  | walk_at "dv"
  | walk_at "mod"
  | walk_at "aug"
  | with_reducible refine KA.g_ipi ?_
  | with_reducible refine KA.g_gcons ?_
  | with_reducible refine KA.g_gnil ?_
  | with_reducible refine KA.kB_t ?_
  | with_reducible refine KA.kB_f ?_
  | with_reducible refine KA.kB_nn ?_
  | with_reducible refine KA.ite_kB ?_
  | ((with_reducible refine' KA.g_ixT0 ?h ?k); (case h => exact L2.SqT.of (by assumption)))
  | ((with_reducible refine' KA.g_ixT1 ?h ?k); (case h => exact L2.SqT.of (by assumption)))
  | with_reducible refine KA.g_lct ?_
  | with_reducible refine KA.g_lcl ?_
  | with_reducible refine KA.g_lcr ?_
  | with_reducible refine KA.g_sl ?_
  | with_reducible refine KA.g_nop ?_
  | with_reducible refine KA.g_part ?_
  | with_reducible refine KA.g_exi ?_
  | with_reducible refine KA.g_eqs ?_
  | with_reducible refine KA.g_nes ?_
  | with_reducible refine KA.g_isN_i ?_
  | with_reducible refine KA.g_isN_n ?_
  | with_reducible refine KA.g_isN_r ?_
  | with_reducible refine KA.g_abs ?_
  | with_reducible refine KA.g_mx ?_
  | with_reducible refine KA.g_mn ?_
  | with_reducible refine KA.g_int ?_
  | with_reducible refine KA.g_intb ?_
  | with_reducible refine KA.g_isi_ii ?_
  | with_reducible refine KA.g_isi_ib ?_
  | with_reducible refine KA.g_isi_ss ?_
  | ((with_reducible refine' KA.g_isi_tt ?h ?k); (case h => assumption))
  | ((with_reducible refine' KA.g_lnL ?h ?k); (case h => assumption))
  | ((with_reducible refine' KA.g_lnT ?h ?k); (case h => assumption)))
local macro_rules | `(tactic| walk_at "s") => `(tactic| first
  | walk_at "mulW"
  | ((with_reducible refine' KA.g_ixT0 ?h ?k); (case h => assumption))
  | ((with_reducible refine' KA.g_ixT1 ?h ?k); (case h => assumption))
  | with_reducible refine KR.g_lcz ?_
  | with_reducible refine KR.g_lck ?_
  | with_reducible refine KR.g_forZ ?_
  | with_reducible refine KR.g_forK ?_
  | with_reducible refine KT.g_forR ?_
  | with_reducible refine KW.g_for ?_
  | fail)
section
variable {P : Program} {w : World} {K : PySem.W.Frag} {mg : Str → Option Value} {base : Heap} {A : Adr}
open KR
def sp_scaled (K : PySem.W.Frag) : Sp := fun vs H Q _ => ∃ v u r s, vs = [v, u] ∧ RowV K H v r ∧ FrV K H u s ∧ (∀ q ∈ r, Sz S2 q) ∧ Sz S2 s ∧ r.length ≤ 1000 ∧ RetRow K (r.map fun q => q * s) H Q
theorem ok_scaled (T : Txt P K mg A) : FnOk P w K mg base CX0 4 A.f_scaled A.d_scaled ["row", "share"] (sp_scaled K) := by
  refine T.F_scaled.ok sc_scaled (fun vs H Q E h => ?_) (fun cdv Ar outer s H vs Q E hr h => ?_)
  · obtain ⟨v, u, r, s, rfl, _⟩ := h; rfl
  obtain ⟨_, u, r, sh, rfl, ⟨a, ys, rfl, ha, hp⟩, hu, sr, ss, hl, k⟩ := h
  refine ⟨_, (pss_one (ps_ret (pe_callTy KR.call_tup (by rfl) T.z_tuple (by decide +kernel) (pa_cons (pe_lc (own := [("one", 2)]) (g := gName 2) (tt := tYes) rfl sc_scaled.nd (pi_tup (pv 0)) (blkOk_by (own := [("one", 2)]) (N := N_scaled) (sc := defScope s_scaled) (by decide +kernel)) (fun _ _ _ _ _ => (pg_name (i := 2) sc_scaled.nd rfl (Or.inl rfl))) (fun _ _ _ _ _ => pts_nil) (fun _ _ _ _ _ => (pe_call (ok_product T) (hr.mono (by decide)) (by rfl) T.m_product T.F_product.kp T.b_product .nil pass0 (pa_cons (pv 2) (pa_cons (pv 1) pa_nil))))) pa_nil)))), ?_⟩
  show tRet _ _ [some (.ref a), some u, none] H
  repeat' (walk_at "s")
  refine lcq_tup (FrV K) (fun i => (r.map fun q => q * sh).take i) (SqT.of ha) rfl (fun D hD i x H2 hx h2 => ?_) (fun D H2 zs hD e2 hz hpz => ?_)
  · obtain ⟨q, hq, fq⟩ := pat hp hx
    have e2 := h2.1
    unfold LqTurn
    repeat' (walk_at "s")
    refine ⟨rfl, ?_⟩
    repeat' (walk_at "s")
    refine ⟨_, _, q, sh, rfl, fq.mono e2, hu.mono e2, sr q (List.mem_of_getElem? hq), ss, trivial, fun v H4 e4 hv => ?_⟩
    exact lcq_end (fun _ _ _ _ e h => h.monoT e) hD h2 e4 (by simp; omega) (take_snoc (by rw [List.getElem?_map, hq]; rfl)) hv
  · repeat' (walk_at "s")
    refine g_tupL hz fun q H3 hq e3 h3 => ?_
    refine k _ _ (e2.trans e3) ⟨q, zs, rfl, h3, pimp (fun _ _ h => FrV.mono e3 h) ?_⟩
    rw [← hp.length.symm, ← List.length_map (f := fun q => q * sh), List.take_length] at hpz
    exact hpz
end
end K75
end
section
namespace K75
open PySem L2 Evl KX
/-! steps -/
local macro_rules | `(tactic| walk_at "nrm") => `(tactic| (((with_reducible refine' KA.g_nrm ?h ?k)); (case h => ((conv => lhs; simp only [List.set_cons_zero, List.set_cons_succ]); try exact rfl))))
local macro_rules | `(tactic| walk_at "nam") => `(tactic| (((with_reducible refine' KA.g_nameN ?h ?k)); (case h => ((conv => lhs; simp only [List.set_cons_zero, List.set_cons_succ]); try exact rfl))))
local macro_rules | `(tactic| walk_at "var") => `(tactic| (((with_reducible refine' KA.g_var ?h ?k)); (case h => exact rfl)))
local macro_rules | `(tactic| walk_at "aug") => `(tactic| (((with_reducible refine' KA.g_aug ?h ?k)); (case h => exact rfl)))
local macro_rules | `(tactic| walk_at "mul") => `(tactic| ((with_reducible refine KA.g_I (C := CMul) ?h ?k); (case h => first | exact KA.cmul_l (by omega) (by omega) | exact KA.cmul_r (by omega) (by omega))))
local macro_rules | `(tactic| walk_at "dv") => `(tactic| ((with_reducible refine KA.g_I (C := KA.CDv) ?h ?k); (case h => exact ⟨by omega, by omega⟩)))
local macro_rules | `(tactic| walk_at "mod") => `(tactic| ((with_reducible refine KA.g_I (C := fun _ j => 0 < j) ?h ?k); (case h => omega)))
local macro_rules | `(tactic| walk_at "s") => `(tactic| first
  | walk_at "nrm"
  | with_reducible refine KA.g_seq ?_
  | with_reducible refine KA.g_asg ?_
  | walk_at "nam"
  | with_reducible refine KA.g_yes ?_
  | with_reducible refine KA.g_ifs ?_
  | with_reducible refine KA.g_ret ?_
  | with_reducible refine KA.g_retN ?_
  | with_reducible refine KA.g_drop ?_
  | with_reducible refine KA.g_next ?_
  | with_reducible refine KA.g_brk ?_
  | with_reducible refine KA.g_par ?_
  | with_reducible refine KA.g_par3 ?_
  | with_reducible refine KA.g_kpar ?_
  | with_reducible refine KA.g_kpar3 ?_
  | with_reducible refine KA.g_op ?_
  | walk_at "var"
  | with_reducible refine KA.g_c ?_
  | with_reducible refine KA.g_I0 ?_
  | with_reducible refine KA.g_eqi ?_
  | with_reducible refine KA.g_nei ?_
  | with_reducible refine KA.g_test ?_
  | with_reducible refine KA.g_kbl ?_
  | with_reducible refine KA.g_cons ?_
  | with_reducible refine KA.g_nil ?_
  | with_reducible refine KA.g_cb ?_
  | with_reducible refine KA.g_call ?_
  | with_reducible refine KA.g_tb ?_
  | with_reducible refine KA.g_not ?_
  | with_reducible refine KA.g_and ?_
  | with_reducible refine KA.g_or ?_
  | with_reducible refine KA.g_if ?_
  | with_reducible refine KA.g_andV ?_
  | with_reducible refine KA.g_orV ?_
  | with_reducible refine KA.g_notV ?_
  | with_reducible refine KA.g_kbv ?_
  | with_reducible refine KA.g_ex1 ?_
  | with_reducible refine KA.g_chain ?_
  | with_reducible refine KA.g_fld ?_
  | with_reducible refine KA.g_un ?_
  | with_reducible refine KA.g_U ?_
  | with_reducible refine KA.g_tup ?_
  | with_reducible refine KA.g_lst ?_
  | walk_at "mul"
  | walk_at "dv"
  | walk_at "mod"
  | walk_at "aug"
  | with_reducible refine KA.g_ipi ?_
  | with_reducible refine KA.g_gcons ?_
  | with_reducible refine KA.g_gnil ?_
  | with_reducible refine KA.kB_t ?_
  | with_reducible refine KA.kB_f ?_
  | with_reducible refine KA.kB_nn ?_
  | with_reducible refine KA.ite_kB ?_
  | ((with_reducible refine' KA.g_ixT0 ?h ?k); (case h => exact L2.SqT.of (by assumption)))
  | ((with_reducible refine' KA.g_ixT1 ?h ?k); (case h => exact L2.SqT.of (by assumption)))
  | with_reducible refine KA.g_lct ?_
  | with_reducible refine KA.g_lcl ?_
  | with_reducible refine KA.g_lcr ?_
  | with_reducible refine KA.g_sl ?_
  | with_reducible refine KA.g_nop ?_
  | with_reducible refine KA.g_part ?_
  | with_reducible refine KA.g_exi ?_
  | with_reducible refine KA.g_eqs ?_
  | with_reducible refine KA.g_nes ?_
  | with_reducible refine KA.g_isN_i ?_
  | with_reducible refine KA.g_isN_n ?_
  | with_reducible refine KA.g_isN_r ?_
  | with_reducible refine KA.g_abs ?_
  | with_reducible refine KA.g_mx ?_
  | with_reducible refine KA.g_mn ?_
  | with_reducible refine KA.g_int ?_
  | with_reducible refine KA.g_intb ?_
  | with_reducible refine KA.g_isi_ii ?_
  | with_reducible refine KA.g_isi_ib ?_
  | with_reducible refine KA.g_isi_ss ?_
  | ((with_reducible refine' KA.g_isi_tt ?h ?k); (case h => assumption))
  | ((with_reducible refine' KA.g_lnL ?h ?k); (case h => assumption))
  | ((with_reducible refine' KA.g_lnT ?h ?k); (case h => assumption)))
local macro_rules | `(tactic| walk_at "s") => `(tactic| first
  | walk_at "mulW"
  | ((with_reducible refine' KA.g_ixT0 ?h ?k); (case h => assumption))
  | ((with_reducible refine' KA.g_ixT1 ?h ?k); (case h => assumption))
  | with_reducible refine KR.g_lcz ?_
  | with_reducible refine KR.g_lck ?_
  | with_reducible refine KR.g_forZ ?_
  | with_reducible refine KR.g_forK ?_
  | with_reducible refine KT.g_forR ?_
  | with_reducible refine KW.g_for ?_
  | fail)
section
variable {P : Program} {w : World} {K : PySem.W.Frag} {mg : Str → Option Value} {base : Heap} {A : Adr}
open KR
def sp_taken (K : PySem.W.Frag) : Sp := fun vs H Q _ => ∃ v u x r o s, vs = [v, u, x] ∧ RowV K H v r ∧ RowV K H u o ∧ FrV K H x s ∧ o.length = r.length ∧ r.length ≤ 1000 ∧ (∀ q ∈ r, Sz S2 q) ∧ (∀ q ∈ o, Sz S2 q) ∧ Sz S2 s ∧ (∀ q ∈ o, Sz S2 (q * s)) ∧ RetRow K (subm r o s) H Q
theorem subm_at {r o : List Rat} {s x y : Rat} {i : Nat} (h1 : r[i]? = some x) (h2 : o[i]? = some y) : (subm r o s)[i]? = some (x - y * s) := by
  unfold subm
  rw [List.getElem?_zipWith, h1, h2]
theorem ok_taken (T : Txt P K mg A) : FnOk P w K mg base CX0 4 A.f_taken A.d_taken ["row", "other", "share"] (sp_taken K) := by
  refine T.F_taken.ok sc_taken (fun vs H Q E h => ?_) (fun cdv Ar outer s H vs Q E hr h => ?_)
  · obtain ⟨v, u, x, r, o, s, rfl, _⟩ := h; rfl
  obtain ⟨_, _, x, r, o, sh, rfl, ⟨a, ys, rfl, ha, hp⟩, ⟨b, zs, rfl, hb, hq⟩, hx, hl, hl2, sr, so, ss, sos, k⟩ := h
  refine ⟨_, (pss_one (ps_ret (pe_callTy KR.call_tup (by rfl) T.z_tuple (by decide +kernel) (pa_cons (pe_lc (own := [("one", 3), ("two", 4)]) (g := gTup K 2 (gCons (gName 3) (gCons (gName 4) gNil))) (tt := tYes) rfl sc_taken.nd (RZ.pi_zipA rfl T.z_zip (pa_cons (pv 0) (pa_cons (pv 1) pa_nil))) (blkOk_by (own := [("one", 3), ("two", 4)]) (N := N_taken) (sc := defScope s_taken) (by decide +kernel)) (fun _ _ _ _ _ => (pg_tup rfl (pgs_cons (pg_name (i := 3) sc_taken.nd rfl (Or.inl rfl)) (pgs_cons (pg_name (i := 4) sc_taken.nd rfl (Or.inl rfl)) pgs_nil)))) (fun _ _ _ _ _ => pts_nil) (fun _ _ _ _ _ => (pe_ifExp (pt_cmpR (KR.op_eqK (K := K) rfl (by exact hr.units)) (pv 4) (pe_glob (v := .ref A.a_ZERO) rfl T.g_ZERO rfl) (nomark _)) (pv 3) (pe_call (ok_less T) (hr.mono (by decide)) (by rfl) T.m_less T.F_less.kp T.b_less .nil pass0 (pa_cons (pv 3) (pa_cons (pe_call (ok_product T) (hr.mono (by decide)) (by rfl) T.m_product T.F_product.kp T.b_product .nil pass0 (pa_cons (pv 4) (pa_cons (pv 2) pa_nil))) pa_nil)))))) pa_nil)))), ?_⟩
  show tRet _ _ [some (.ref a), some (.ref b), some x, none, none] H
  repeat' (walk_at "s")
  refine lcq_zipT (FrV K) (fun i => (subm r o sh).take i) (SqT.of ha) (SqT.of hb) (by rw [hp.length, hq.length, hl]) rfl (fun D hD i c d Tt H2 H3 hc hd h2 e3 hT => ?_) (fun D H2 ws hD e2 hw hpw => ?_)
  · obtain ⟨q, hq1, fq⟩ := pat hp hc
    obtain ⟨q', hq2, fq'⟩ := pat hq hd
    have e2 := h2.1
    have out := take_snoc (subm_at (s := sh) hq1 hq2)
    have len : ((subm r o sh).take i).length ≤ 100000 := by rw [List.length_take, subm_len hl]; omega
    unfold LqTurn
    refine KA.g_gtup (SqT.of hT) rfl ?_
    repeat' (walk_at "s")
    refine ⟨rfl, ?_⟩
    repeat' (walk_at "s")
    refine g_eqZ ((fq'.mono e2).mono e3) (T.v_ZERO _) ?_
    repeat' (walk_at "s")
    refine KA.kB_d (fun hz => ?_) (fun hz => ?_)
    · repeat' (walk_at "s")
      refine lcq_end (fun _ _ _ _ e h => h.monoT e) hD h2 e3 len out ?_
      rw [hz, Rat.zero_mul]
      have e0 : q - 0 = q := by grind
      rw [e0]
      exact (fq.mono e2).mono e3
    · repeat' (walk_at "s")
      refine ⟨_, _, q', sh, rfl, (fq'.mono e2).mono e3, (hx.mono e2).mono e3, so _ (List.mem_of_getElem? hq2), ss, trivial, fun v H4 e4 hv => ?_⟩
      repeat' (walk_at "s")
      refine ⟨_, _, q, q' * sh, rfl, ((fq.mono e2).mono e3).mono e4, hv, sr _ (List.mem_of_getElem? hq1), sos _ (List.mem_of_getElem? hq2), trivial, fun v5 H5 e5 hv5 => ?_⟩
      exact lcq_end (fun _ _ _ _ e h => h.monoT e) hD h2 ((e3.trans e4).trans e5) len out hv5
  · repeat' (walk_at "s")
    refine g_tupL hw fun q H3 hq3 e3 h3 => ?_
    refine k _ _ (e2.trans e3) ⟨q, ws, rfl, h3, pimp (fun _ _ h => FrV.mono e3 h) ?_⟩
    have el : ys.length = (subm r o sh).length := by rw [subm_len hl, hp.length]
    rw [el, List.take_length] at hpw
    exact hpw
def sp_lead_of (K : PySem.W.Frag) : Sp := fun vs H Q _ => ∃ (v : V) (r : List Rat) (w : Nat), vs = [v, .int w] ∧ RowV K H v r ∧ w ≤ r.length ∧ w ≤ 1000 ∧ RetV (leadV (fst w (vec r))) H Q
theorem fst_is {w p : Nat} {v : Vec} (hp : p < w) (h0 : v p ≠ 0) (h1 : ∀ j, j < p → v j = 0) : fst w v = some p := by
  unfold fst
  rw [List.find?_range_eq_some]
  exact ⟨by simpa using h0, by simpa using hp, fun j hj => by simpa using h1 j hj⟩
theorem fst_no {w : Nat} {v : Vec} (h1 : ∀ j, j < w → v j = 0) : fst w v = none := by
  unfold fst
  rw [List.find?_eq_none]
  intro x hx
  simpa using h1 x (by simpa using hx)
theorem ok_lead_of (T : Txt P K mg A) : FnOk P w K mg base CX0 1 A.f_lead_of A.d_lead_of ["row", "wide"] (sp_lead_of K) := by
  refine T.F_lead_of.ok sc_lead_of (fun vs H Q E h => ?_) (fun cdv Ar outer s H vs Q E hr h => ?_)
  · obtain ⟨v, r, wd, rfl, _⟩ := h; rfl
  obtain ⟨_, r, wd, rfl, ⟨a, ys, rfl, ha, hp⟩, hw, hw2, k⟩ := h
  refine ⟨_, (pss_cons (ps_for PassesOwn.never rfl (pi_range1 rfl T.z_range (pa_cons (pv 1) pa_nil)) (pg_name (i := 2) sc_lead_of.nd rfl (Or.inl rfl)) (pss_one (ps_if (pt_cmpR (KR.op_neK (K := K) rfl (by exact hr.units)) (pe_ix (KR.ix_tupK (K := K) rfl) (pv 0) (pv 2) (fun _ _ => rfl)) (pe_glob (v := .ref A.a_ZERO) rfl T.g_ZERO rfl) (nomark _)) (pss_one (ps_ret (pv 2))) pss_nil)))
  (pss_one (ps_ret pe_non))), ?_⟩
  show tSeq _ _ _ [some (.ref a), some (.int (wd : Int)), none] H
  repeat' (walk_at "s")
  refine KT.g_kforR (fun i σ H' => ∃ x, σ = [some (.ref a), some (.int (wd : Int)), x] ∧ Ex H H' ∧ ∀ j, j < i → vec r j = 0) (by omega) ⟨_, rfl, Ex.refl H, fun j hj => absurd hj (by omega)⟩ ?_ ?_
  · rintro i σ H1 hi ⟨x, rfl, e1, h0⟩
    have hi' : i < wd := by omega
    obtain ⟨q, hq⟩ : ∃ q, r[i]? = some q := ⟨r[i]'(by omega), List.getElem?_eq_some_iff.mpr ⟨by omega, rfl⟩⟩
    obtain ⟨v, hv, fv⟩ := paired_get hp hq
    repeat' (walk_at "s")
    rw [Int.zero_add]
    refine KA.g_ixT (SqT.of (e1 _ _ ha)) hv ?_
    repeat' (walk_at "s")
    refine g_neZ (fv.mono e1) (T.v_ZERO _) ?_
    repeat' (walk_at "s")
    refine KA.kB_d (fun hz => ?_) (fun hz => ?_)
    · repeat' (walk_at "s")
      exact ⟨_, rfl, e1, fun j hj => by
        rcases Nat.lt_or_eq_of_le (Nat.lt_succ_iff.mp hj) with l | l
        · exact h0 j l
        · rw [l, vec_lt hq, hz]⟩
    · repeat' (walk_at "s")
      have := k H1 e1
      rw [fst_is hi' (by rw [vec_lt hq]; exact hz) h0] at this
      exact this
  · rintro σ H1 ⟨x, rfl, e1, h0⟩
    repeat' (walk_at "s")
    have := k H1 e1
    rw [fst_no (fun j hj => h0 j (by omega))] at this
    exact this
end
end K75
end
section
namespace K75
open PySem L2 Evl KX
/-! steps -/
local macro_rules | `(tactic| walk_at "nrm") => `(tactic| (((with_reducible refine' KA.g_nrm ?h ?k)); (case h => ((conv => lhs; simp only [List.set_cons_zero, List.set_cons_succ]); try exact rfl))))
local macro_rules | `(tactic| walk_at "nam") => `(tactic| (((with_reducible refine' KA.g_nameN ?h ?k)); (case h => ((conv => lhs; simp only [List.set_cons_zero, List.set_cons_succ]); try exact rfl))))
local macro_rules | `(tactic| walk_at "var") => `(tactic| (((with_reducible refine' KA.g_var ?h ?k)); (case h => exact rfl)))
local macro_rules | `(tactic| walk_at "aug") => `(tactic| (((with_reducible refine' KA.g_aug ?h ?k)); (case h => exact rfl)))
local macro_rules | `(tactic| walk_at "mul") => `(tactic| ((with_reducible refine KA.g_I (C := CMul) ?h ?k); (case h => first | exact KA.cmul_l (by omega) (by omega) | exact KA.cmul_r (by omega) (by omega))))
local macro_rules | `(tactic| walk_at "dv") => `(tactic| ((with_reducible refine KA.g_I (C := KA.CDv) ?h ?k); (case h => exact ⟨by omega, by omega⟩)))
local macro_rules | `(tactic| walk_at "mod") => `(tactic| ((with_reducible refine KA.g_I (C := fun _ j => 0 < j) ?h ?k); (case h => omega)))
local macro_rules | `(tactic| walk_at "s") => `(tactic| first
  | walk_at "nrm"
  | with_reducible refine KA.g_seq ?_
  | with_reducible refine KA.g_asg ?_
  | walk_at "nam"
  | with_reducible refine KA.g_yes ?_
  | with_reducible refine KA.g_ifs ?_
  | with_reducible refine KA.g_ret ?_
  | with_reducible refine KA.g_retN ?_
  | with_reducible refine KA.g_drop ?_
  | with_reducible refine KA.g_next ?_
  | with_reducible refine KA.g_brk ?_
  | with_reducible refine KA.g_par ?_
  | with_reducible refine KA.g_par3 ?_
  | with_reducible refine KA.g_kpar ?_
  | with_reducible refine KA.g_kpar3 ?_
  | with_reducible refine KA.g_op ?_
  | walk_at "var"
  | with_reducible refine KA.g_c ?_
  | with_reducible refine KA.g_I0 ?_
  | with_reducible refine KA.g_eqi ?_
  | with_reducible refine KA.g_nei ?_
  | with_reducible refine KA.g_test ?_
  | with_reducible refine KA.g_kbl ?_
  | with_reducible refine KA.g_cons ?_
  | with_reducible refine KA.g_nil ?_
  | with_reducible refine KA.g_cb ?_
  | with_reducible refine KA.g_call ?_
  | with_reducible refine KA.g_tb ?_
  | with_reducible refine KA.g_not ?_
  | with_reducible refine KA.g_and ?_
  | with_reducible refine KA.g_or ?_
  | with_reducible refine KA.g_if ?_
  | with_reducible refine KA.g_andV ?_
  | with_reducible refine KA.g_orV ?_
  | with_reducible refine KA.g_notV ?_
  | with_reducible refine KA.g_kbv ?_
  | with_reducible refine KA.g_ex1 ?_
  | with_reducible refine KA.g_chain ?_
  | with_reducible refine KA.g_fld ?_
  | with_reducible refine KA.g_un ?_
  | with_reducible refine KA.g_U ?_
  | with_reducible refine KA.g_tup ?_
  | with_reducible refine KA.g_lst ?_
  | walk_at "mul"
  | walk_at "dv"
  | walk_at "mod"
  | walk_at "aug"
  | with_reducible refine KA.g_ipi ?_
  | with_reducible refine KA.g_gcons ?_
  | with_reducible refine KA.g_gnil ?_
  | with_reducible refine KA.kB_t ?_
  | with_reducible refine KA.kB_f ?_
  | with_reducible refine KA.kB_nn ?_
  | with_reducible refine KA.ite_kB ?_
  | ((with_reducible refine' KA.g_ixT0 ?h ?k); (case h => exact L2.SqT.of (by assumption)))
  | ((with_reducible refine' KA.g_ixT1 ?h ?k); (case h => exact L2.SqT.of (by assumption)))
  | with_reducible refine KA.g_lct ?_
  | with_reducible refine KA.g_lcl ?_
  | with_reducible refine KA.g_lcr ?_
  | with_reducible refine KA.g_sl ?_
  | with_reducible refine KA.g_nop ?_
  | with_reducible refine KA.g_part ?_
  | with_reducible refine KA.g_exi ?_
  | with_reducible refine KA.g_eqs ?_
  | with_reducible refine KA.g_nes ?_
  | with_reducible refine KA.g_isN_i ?_
  | with_reducible refine KA.g_isN_n ?_
  | with_reducible refine KA.g_isN_r ?_
  | with_reducible refine KA.g_abs ?_
  | with_reducible refine KA.g_mx ?_
  | with_reducible refine KA.g_mn ?_
  | with_reducible refine KA.g_int ?_
  | with_reducible refine KA.g_intb ?_
  | with_reducible refine KA.g_isi_ii ?_
  | with_reducible refine KA.g_isi_ib ?_
  | with_reducible refine KA.g_isi_ss ?_
  | ((with_reducible refine' KA.g_isi_tt ?h ?k); (case h => assumption))
  | ((with_reducible refine' KA.g_lnL ?h ?k); (case h => assumption))
  | ((with_reducible refine' KA.g_lnT ?h ?k); (case h => assumption)))
local macro_rules | `(tactic| walk_at "s") => `(tactic| first
  | walk_at "mulW"
  | ((with_reducible refine' KA.g_ixT0 ?h ?k); (case h => assumption))
  | ((with_reducible refine' KA.g_ixT1 ?h ?k); (case h => assumption))
  | with_reducible refine KR.g_lcz ?_
  | with_reducible refine KR.g_lck ?_
  | with_reducible refine KR.g_forZ ?_
  | with_reducible refine KR.g_forK ?_
  | with_reducible refine KT.g_forR ?_
  | with_reducible refine KW.g_for ?_
  | fail)
section
variable {P : Program} {w : World} {K : PySem.W.Frag} {mg : Str → Option Value} {base : Heap} {A : Adr}
open KR
def sp_cleared (K : PySem.W.Frag) : Sp := fun vs H Q _ => ∃ (v : V) (a b : Addr) (us : List V) (r : List Rat) (L : LRd) (t : Nat), vs = [v, .ref a, .ref b] ∧ RowV K H v r ∧ H a = some (.lst us) ∧ Paired (RowV K H) us (L.map (·.2)) ∧ H b = some (.lst (L.map fun z => .int (z.1 : Int))) ∧
  OkL t L ∧ t ≤ 8 ∧ SmR t r ∧ RetRow K (clrL L r) H Q
theorem sz22 {q : Rat} (h : Sz 1060 q) : Sz S2 q := h.le (by decide)
theorem sz22m {p q : Rat} (h : Sz 1060 p) (k : Sz 1060 q) : Sz S2 (p * q) := (sz_mul h k).le (by decide)
theorem ok_cleared (T : Txt P K mg A) : FnOk P w K mg base CX0 5 A.f_cleared A.d_cleared ["row", "others", "leads"] (sp_cleared K) := by
  refine T.F_cleared.ok sc_cleared (fun vs H Q E h => ?_) (fun cdv Ar outer s H vs Q E hr h => ?_)
  · obtain ⟨v, a, b, us, r, L, t, rfl, _⟩ := h; rfl
  obtain ⟨v, a, b, us, r, L, t, rfl, hv, ha, hp, hb, ok, ht, sm, k⟩ := h
  refine ⟨_, (pss_cons (ps_for PassesOwn.never rfl (RZ.pi_zipA rfl T.z_zip (pa_cons (pv 1) (pa_cons (pv 2) pa_nil))) (pg_tup rfl (pgs_cons (pg_name (i := 3) sc_cleared.nd rfl (Or.inl rfl)) (pgs_cons (pg_name (i := 4) sc_cleared.nd rfl (Or.inl rfl)) pgs_nil))) (pss_one (ps_if (pt_cmpR (KR.op_neK (K := K) rfl (by exact hr.units)) (pe_ix (KR.ix_tupK (K := K) rfl) (pv 0) (pv 4) (fun _ _ => rfl)) (pe_glob (v := .ref A.a_ZERO) rfl T.g_ZERO rfl) (nomark _)) (pss_one (ps_set (i := 0) sc_cleared.nd rfl (Or.inl rfl) (pe_call (ok_taken T) (hr.mono (by decide)) (by rfl) T.m_taken T.F_taken.kp T.b_taken .nil pass0 (pa_cons (pv 0) (pa_cons (pv 3) (pa_cons (pe_ix (KR.ix_tupK (K := K) rfl) (pv 0) (pv 4) (fun _ _ => rfl)) pa_nil)))))) pss_nil)))
  (pss_one (ps_ret (pv 0)))), ?_⟩
  show tSeq _ _ _ [some v, some (.ref a), some (.ref b), none, none] H
  have lu : us.length = L.length := by rw [hp.length, List.length_map]
  repeat' (walk_at "s")
  refine forZ_L (fun i σ H' => ∃ v' x y, σ = [some v', some (.ref a), some (.ref b), x, y] ∧ Ex H H' ∧ RowV K H' v' (clrL (L.take i) r)) (SqL.of ha) (SqL.of hb) (by rw [List.length_map, lu]) ⟨v, _, _, rfl, Ex.refl H, hv⟩
    (fun i σ H' ⟨_, _, _, _, e, _⟩ => ⟨SqL.of (e _ _ ha), SqL.of (e _ _ hb)⟩) ?_ ?_
  · rintro i x y Tt σ H1 H2 hx hy ⟨v', x0, y0, rfl, e1, hc⟩ e2 hT
    obtain ⟨o, ho, hro⟩ := pat hp hx
    rw [List.getElem?_map] at ho hy
    obtain ⟨z, hz, rfl⟩ := Option.map_eq_some_iff.mp ho
    rw [hz] at hy
    cases hy
    have mz := List.mem_of_getElem? hz
    have lt := ok.lt mz
    have lz : z.2.length = t + 1 := ok.len z mz
    have lc : (clrL (L.take i) r).length = t + 1 := clrL_len (fun y hy => ok.len y (List.mem_of_mem_take hy)) sm.1
    have sc := ok.clr_size ht sm i
    have so := ok.size ht mz
    have step_ : clrL (L.take (i + 1)) r = subm (clrL (L.take i) r) z.2 (vec (clrL (L.take i) r) z.1) := by
      rw [take_snoc hz]
      unfold clrL
      rw [List.foldl_append]
      rfl
    obtain ⟨q, hq⟩ : ∃ q, (clrL (L.take i) r)[z.1]? = some q := ⟨_, List.getElem?_eq_some_iff.mpr ⟨by omega, rfl⟩⟩
    have sq := sc q (List.mem_of_getElem? hq)
    have hc2 := hc.mono e2
    obtain ⟨pc, ws, rfl, hpc, hws⟩ := hc2
    obtain ⟨vq, hvq, fvq⟩ := paired_get hws hq
    refine KA.g_gtup (SqT.of hT) rfl ?_
    repeat' (walk_at "s")
    refine KA.g_ixT (SqT.of hpc) hvq ?_
    repeat' (walk_at "s")
    refine g_neZ fvq (T.v_ZERO _) ?_
    repeat' (walk_at "s")
    refine KA.kB_d (fun h0 => ?_) (fun h0 => ?_)
    · repeat' (walk_at "s")
      refine ⟨_, _, _, rfl, e1.trans e2, ?_⟩
      rw [step_, vec_lt hq, h0, subm_zero (by rw [lz, lc])]
      exact hc.mono e2
    · repeat' (walk_at "s")
      refine KA.g_ixT (SqT.of hpc) hvq ?_
      repeat' (walk_at "s")
      refine ⟨_, _, _, clrL (L.take i) r, z.2, q, rfl, hc.mono e2, hro.mono (e1.trans e2), fvq, by rw [lz, lc], by omega, fun x hx => sz22 (sc x hx), fun x hx => sz22 (so x hx), sz22 sq, fun x hx => sz22m (so x hx) sq, fun v5 H5 e5 hv5 => ?_⟩
      repeat' (walk_at "s")
      refine ⟨_, _, _, rfl, (e1.trans e2).trans e5, ?_⟩
      rw [step_, vec_lt hq]
      exact hv5
  · rintro σ H1 ⟨v', x0, y0, rfl, e1, hc⟩
    repeat' (walk_at "s")
    rw [lu, List.take_length] at hc
    exact k _ _ e1 hc
def sp_with_row (K : PySem.W.Frag) : Sp := fun vs H Q _ => ∃ (a : Addr) (v : V) (us : List V) (r : List Rat) (L : LRd) (t : Nat), vs = [.ref a, v, .int (t + 1)] ∧ RowV K H v r ∧ H a = some (.lst us) ∧ Paired (RowV K H) us (L.map (·.2)) ∧
  OkL t L ∧ t ≤ 8 ∧ SmR t r ∧ ∀ v' H', Ex H H' → RowsV K H' v' ((stepL (t + 1) L r).map (·.2)) → Q v' H'
theorem take_map {α β : Type} {f : α → β} {l : List α} {i : Nat} {x : α} (h : l[i]? = some x) : (l.map f).take (i + 1) = (l.map f).take i ++ [f x] := take_snoc (by rw [List.getElem?_map, h]; rfl)
theorem ok_len {t : Nat} {L : LRd} (k : OkL t L) : L.length ≤ t + 1 := by
  have key : ∀ (l : List Nat) (a : Nat), l.Pairwise (· < ·) → (∀ x ∈ l, a ≤ x ∧ x ≤ t) → l.length + a ≤ t + 1 ∨ l = [] := by
    intro l
    induction l with
    | nil => intro a _ _; exact .inr rfl
    | cons x l ih =>
      intro a hp hx
      obtain ⟨h1, h2⟩ := List.pairwise_cons.mp hp
      have b := hx x (.head _)
      left
      rcases ih (x + 1) h2 fun y hy => ⟨h1 y hy, (hx y (.tail _ hy)).2⟩ with h | h
      · rw [List.length_cons]; omega
      · rw [h, List.length_cons, List.length_nil]; omega
  rcases key (L.map (·.1)) 0 (List.pairwise_map.mpr k.asc) (fun x hx => by
    obtain ⟨z, hz, rfl⟩ := List.mem_map.mp hx
    exact ⟨Nat.zero_le _, k.lt hz⟩) with h | h
  · rw [List.length_map] at h; omega
  · rw [List.map_eq_nil_iff] at h; rw [h]; exact Nat.zero_le _
theorem ok_with_row (T : Txt P K mg A) : FnOk P w K mg base CX0 6 A.f_with_row A.d_with_row ["kept", "row", "wide"] (sp_with_row K) := by
  refine T.F_with_row.ok sc_with_row (fun vs H Q E h => ?_) (fun cdv Ar outer s H vs Q E hr h => ?_)
  · obtain ⟨a, v, us, r, L, t, rfl, _⟩ := h; rfl
  obtain ⟨a, v, us, r, L, t, rfl, hv, ha, hp, ok, ht, sm, k⟩ := h
  refine ⟨_, (pss_cons (ps_setLc (i := 3) (own := [("other", 4)]) (g := gName 4) (tt := tYes) rfl sc_with_row.nd rfl rfl rfl (pi_list (pv 0)) (blkOk_by (own := [("other", 4)]) (N := N_with_row) (sc := defScope s_with_row) (by decide +kernel)) (fun _ _ _ _ _ => (pg_name (i := 4) sc_with_row.nd rfl (Or.inl rfl))) (fun _ _ _ _ _ => pts_nil) (fun _ _ _ _ _ => (pe_call (ok_lead_of T) (hr.mono (by decide)) (by rfl) T.m_lead_of T.F_lead_of.kp T.b_lead_of .nil pass0 (pa_cons (pv 4) (pa_cons (pv 2) pa_nil)))))
  (pss_cons (ps_set (i := 1) sc_with_row.nd rfl (Or.inr rfl) (pe_call (ok_cleared T) (hr.mono (by decide)) (by rfl) T.m_cleared T.F_cleared.kp T.b_cleared .nil pass0 (pa_cons (pv 1) (pa_cons (pv 0) (pa_cons (pv 3) pa_nil)))))
  (pss_cons (ps_set (i := 5) sc_with_row.nd rfl (Or.inr rfl) (pe_call (ok_lead_of T) (hr.mono (by decide)) (by rfl) T.m_lead_of T.F_lead_of.kp T.b_lead_of .nil pass0 (pa_cons (pv 1) (pa_cons (pv 2) pa_nil))))
  (pss_cons (ps_if (pt_cmpR KA.op_isNn (pv 5) pe_non (nomark _)) (pss_one (ps_ret (pv 0))) pss_nil)
  (pss_cons (ps_set (i := 1) sc_with_row.nd rfl (Or.inr rfl) (pe_call (ok_scaled T) (hr.mono (by decide)) (by rfl) T.m_scaled T.F_scaled.kp T.b_scaled .nil pass0 (pa_cons (pv 1) (pa_cons (pe_call (ok_parted T) (hr.mono (by decide)) (by rfl) T.m_parted T.F_parted.kp T.b_parted .nil pass0 (pa_cons (pe_glob (v := .ref A.a_ONE) rfl T.g_ONE rfl) (pa_cons (pe_ix (KR.ix_tupK (K := K) rfl) (pv 1) (pv 5) (fun _ _ => rfl)) pa_nil))) pa_nil))))
  (pss_cons (ps_setLc (i := 6) (own := [("other", 4)]) (g := gName 4) (tt := tYes) rfl sc_with_row.nd rfl rfl rfl (pi_list (pv 0)) (blkOk_by (own := [("other", 4)]) (N := N_with_row) (sc := defScope s_with_row) (by decide +kernel)) (fun _ _ _ _ _ => (pg_name (i := 4) sc_with_row.nd rfl (Or.inl rfl))) (fun _ _ _ _ _ => pts_nil) (fun _ _ _ _ _ => (pe_ifExp (pt_cmpR (KR.op_neK (K := K) rfl (by exact hr.units)) (pe_ix (KR.ix_tupK (K := K) rfl) (pv 4) (pv 5) (fun _ _ => rfl)) (pe_glob (v := .ref A.a_ZERO) rfl T.g_ZERO rfl) (nomark _)) (pe_call (ok_taken T) (hr.mono (by decide)) (by rfl) T.m_taken T.F_taken.kp T.b_taken .nil pass0 (pa_cons (pv 4) (pa_cons (pv 1) (pa_cons (pe_ix (KR.ix_tupK (K := K) rfl) (pv 4) (pv 5) (fun _ _ => rfl)) pa_nil)))) (pv 4))))
  (pss_cons (ps_set (i := 7) sc_with_row.nd rfl (Or.inl rfl) (pe_callB KA.call_ln (by rfl) T.z_len (by decide +kernel) (pa_cons (pe_lc (own := [("other", 4)]) (g := gName 4) rfl sc_with_row.nd (pi_list (pv 3)) (blkOk_by (own := [("other", 4)]) (N := N_with_row) (sc := defScope s_with_row) (by decide +kernel)) (fun _ _ _ _ _ => (pg_name (i := 4) sc_with_row.nd rfl (Or.inl rfl))) (fun _ _ _ _ _ => (pts_one (pt_cmpR op_lt (pv 4) (pv 5) (nomark _)))) (fun _ _ _ _ _ => (pv 4))) pa_nil)))
  (pss_one (ps_ret (pe_op op_cat (pe_op op_cat (pe_slice sl_list (pv 6) po_none (po_some (pv 7))) (pe_lst (pa_cons (pv 1) pa_nil))) (pe_slice sl_list (pv 6) (po_some (pv 7)) po_none))))))))))), ?_⟩
  show tSeq _ _ _ [some (.ref a), some v, some (.int ((t : Int) + 1)), none, none, none, none, none] H
  have lu : us.length = L.length := by rw [hp.length, List.length_map]
  have l9 := ok_len ok
  repeat' (walk_at "s")
  refine lcq_lst (fun _ v (p : Nat) => v = .int (p : Int)) (fun i => (L.map (·.1)).take i) (SqL.of ha) rfl (fun D hD i x H2 hx h2 => ?_) (fun D H2 zs hD e2 hz hpz => ?_)
  · obtain ⟨o, ho, hro⟩ := pat hp hx
    rw [List.getElem?_map] at ho
    obtain ⟨z, hz, rfl⟩ := Option.map_eq_some_iff.mp ho
    have mz := List.mem_of_getElem? hz
    unfold LqTurn
    repeat' (walk_at "s")
    refine ⟨rfl, ?_⟩
    repeat' (walk_at "s")
    refine ⟨_, z.2, t + 1, rfl, hro.mono h2.1, by rw [ok.len z mz]; exact Nat.le_refl _, by omega, fun H3 e3 => ?_⟩
    rw [ok.lead mz]
    exact lcq_end (fun _ _ _ _ _ h => h) hD h2 e3 (by rw [List.length_take, List.length_map]; omega) (take_map hz) rfl
  have zeq : zs = L.map fun z => V.int (z.1 : Int) := by
    rw [lu, ← List.length_map (f := fun z : Nat × List Rat => z.1), List.take_length] at hpz
    have : ∀ {l : List V} {m : List Nat}, Paired (fun v (p : Nat) => v = V.int (p : Int)) l m → l = m.map fun (p : Nat) => V.int (p : Int) := by
      intro l m h
      induction h with
      | nil => rfl
      | cons r _ ih => rw [r, ih]; rfl
    rw [this hpz, List.map_map]
    rfl
  subst zeq
  repeat' (walk_at "s")
  refine ⟨v, a, D, us, r, L, t, rfl, hv.mono e2, e2 _ _ ha, pimp (fun _ _ h => h.mono e2) hp, hz, ok, ht, sm, fun v3 H3 e3 hv3 => ?_⟩
  have lc : (clrL L r).length = t + 1 := clrL_len ok.len sm.1
  repeat' (walk_at "s")
  refine ⟨v3, clrL L r, t + 1, rfl, hv3, by omega, by omega, fun H4 e4 => ?_⟩
  have ex4 := (e2.trans e3).trans e4
  have rows4 : Paired (RowV K H4) us (L.map (·.2)) := pimp (fun _ _ h => h.mono ex4) hp
  have ha4 := ex4 _ _ ha
  have hz4 := e4 _ _ (e3 _ _ hz)
  have hv4 := hv3.mono e4
  have hsl : stepL (t + 1) L r = match fst (t + 1) (vec (clrL L r)) with
    | none => L
    | some p => putL L p (oneL (clrL L r) p) := rfl
  cases ef : fst (t + 1) (vec (clrL L r)) with
  | none =>
    rw [ef] at hsl
    simp only [leadV]
    repeat' (walk_at "s")
    exact k _ _ ex4 ⟨a, us, rfl, ha4, by rw [hsl]; exact rows4⟩
  | some p =>
    rw [ef] at hsl
    obtain ⟨p1, p2, p3⟩ := fst_some ef
    have sc := ok.clr_sz ht sm
    obtain ⟨q, hq⟩ : ∃ q, (clrL L r)[p]? = some q := ⟨_, List.getElem?_eq_some_iff.mpr ⟨by omega, rfl⟩⟩
    have sq := sc q (List.mem_of_getElem? hq)
    have q0 : q ≠ 0 := by rw [vec_lt hq] at p2; exact p2
    obtain ⟨pc, ws, rfl, hpc, hws⟩ := id hv4
    obtain ⟨vq, hvq, fvq⟩ := paired_get hws hq
    simp only [leadV]
    repeat' (walk_at "s")
    refine KA.g_ixT (SqT.of hpc) hvq ?_
    repeat' (walk_at "s")
    refine ⟨_, _, 1, q, rfl, ⟨_, rfl, T.v_ONE _⟩, fvq, ⟨by decide +kernel, by decide +kernel⟩, sz22 sq, q0, fun v5 H5 e5 hv5 => ?_⟩
    have e15 : (1 : Rat) * q⁻¹ = (vec (clrL L r) p)⁻¹ := by rw [Rat.one_mul, vec_lt hq]
    have hv5 : FrV K H5 v5 ((1 : Rat) * q⁻¹) := hv5
    rw [e15] at hv5
    have si : Sz 1060 (vec (clrL L r) p)⁻¹ := by rw [vec_lt hq]; exact sz_inv sq
    repeat' (walk_at "s")
    refine ⟨_, _, clrL L r, _, rfl, hv4.mono e5, hv5, fun x hx => sz22 (sc x hx), sz22 si, by omega, fun v6 H6 e6 hv6 => ?_⟩
    have one_ : (clrL L r).map (fun q => q * (vec (clrL L r) p)⁻¹) = oneL (clrL L r) p := rfl
    rw [one_] at hv6
    have ok' : OkL t (stepL (t + 1) L r) := okL_step ok sm
    have mo : (p, oneL (clrL L r) p) ∈ stepL (t + 1) L r := by rw [hsl]; exact mem_insL.mpr (.inl rfl)
    have so := ok'.size ht mo
    have lo : (oneL (clrL L r) p).length = t + 1 := ok'.len _ mo
    have ex6 := (ex4.trans e5).trans e6
    repeat' (walk_at "s")
    refine lcq_lst (RowV K) (fun i => (L.map fun z => subm z.2 (oneL (clrL L r) p) (vec z.2 p)).take i) (SqL.of (ex6 _ _ ha)) rfl (fun D7 hD7 i x H7 hx7 h7 => ?_) (fun D7 H7 zs7 hD7 e7 hz7 hpz7 => ?_)
    · obtain ⟨o, ho, hro⟩ := pat hp hx7
      rw [List.getElem?_map] at ho
      obtain ⟨z, hz, rfl⟩ := Option.map_eq_some_iff.mp ho
      have mz := List.mem_of_getElem? hz
      have lz : z.2.length = t + 1 := ok.len z mz
      have sz := ok.size ht mz
      have e7 := h7.1
      have hro7 := (hro.mono ex6).mono e7
      obtain ⟨pz, wz, rfl, hpz', hwz⟩ := id hro7
      obtain ⟨y, hy⟩ : ∃ y, z.2[p]? = some y := ⟨_, List.getElem?_eq_some_iff.mpr ⟨by omega, rfl⟩⟩
      obtain ⟨vy, hvy, fvy⟩ := paired_get hwz hy
      have sy := sz y (List.mem_of_getElem? hy)
      have out := take_map (f := fun z : Nat × List Rat => subm z.2 (oneL (clrL L r) p) (vec z.2 p)) hz
      have len7 : ((L.map fun z => subm z.2 (oneL (clrL L r) p) (vec z.2 p)).take i).length ≤ 100000 := by rw [List.length_take, List.length_map]; omega
      unfold LqTurn
      repeat' (walk_at "s")
      refine ⟨rfl, ?_⟩
      repeat' (walk_at "s")
      refine KA.g_ixT (SqT.of hpz') hvy ?_
      repeat' (walk_at "s")
      refine g_neZ fvy (T.v_ZERO _) ?_
      repeat' (walk_at "s")
      refine KA.kB_d (fun h0 => ?_) (fun h0 => ?_)
      · repeat' (walk_at "s")
        refine lcq_end (fun _ _ _ _ e h => h.monoT e) hD7 h7 (Ex.refl _) len7 out ?_
        rw [vec_lt hy, h0, subm_zero (by rw [lo, lz])]
        exact hro7
      · repeat' (walk_at "s")
        refine KA.g_ixT (SqT.of hpz') hvy ?_
        repeat' (walk_at "s")
        refine ⟨_, _, _, z.2, oneL (clrL L r) p, y, rfl, hro7, hv6.mono e7, fvy, by rw [lo, lz], by omega, fun x hx => sz22 (sz x hx), fun x hx => sz22 (so x hx), sz22 sy, fun x hx => sz22m (so x hx) sy, fun v8 H8 e8 hv8 => ?_⟩
        refine lcq_end (fun _ _ _ _ e h => h.monoT e) hD7 h7 e8 len7 out ?_
        rw [vec_lt hy]
        exact hv8
    · rw [lu, ← List.length_map (f := fun z : Nat × List Rat => subm z.2 (oneL (clrL L r) p) (vec z.2 p)), List.take_length] at hpz7
      have hzz := e7 _ _ (e6 _ _ (e5 _ _ hz4))
      repeat' (walk_at "s")
      refine lcq_lst (fun _ v (n : Nat) => v = .int (n : Int)) (fun i => ((L.map (·.1)).take i).filter fun n => decide (n < p)) (SqL.of hzz) rfl (fun D8 hD8 i x H8 hx8 h8 => ?_) (fun D8 H8 zs8 hD8 e8 hz8 hpz8 => ?_)
      · rw [List.getElem?_map] at hx8
        obtain ⟨z, hz', rfl⟩ := Option.map_eq_some_iff.mp hx8
        have tk : (L.map (·.1)).take (i + 1) = (L.map (·.1)).take i ++ [z.1] := take_map hz'
        unfold LqTurn
        repeat' (walk_at "s")
        refine ⟨rfl, ?_⟩
        repeat' (walk_at "s")
        refine KA.kB_d (fun h0 => ?_) (fun h0 => ?_)
        · repeat' (walk_at "s")
          refine lcq_end (fun _ _ _ _ _ h => h) hD8 h8 (Ex.refl _) ?_ (z := z.1) ?_ rfl
          · refine Nat.le_trans (List.length_filter_le _ _) ?_
            rw [List.length_take, List.length_map]; omega
          · show ((L.map (·.1)).take (i + 1)).filter _ = _
            rw [tk, List.filter_append]
            have : decide (z.1 < p) = true := by simpa using h0
            simp [this]
        · refine lcq_skip (fun _ _ _ _ _ h => h) h8 (Ex.refl _) ?_
          show ((L.map (·.1)).take (i + 1)).filter _ = _
          rw [tk, List.filter_append]
          have : decide (z.1 < p) = false := by simpa using h0
          simp [this]
      · have n8 : zs8.length = (L.filter fun z => decide (z.1 < p)).length := by
          rw [hpz8.length, List.length_map, List.take_of_length_le (by rw [List.length_map]; exact Nat.le_refl _), List.filter_map, List.length_map]
          rfl
        have l7 : zs7.length = L.length := by rw [hpz7.length, List.length_map]
        have le8 : zs8.length ≤ zs7.length := by rw [n8, l7]; exact List.length_filter_le _ _
        have hs7 := e8 _ _ hz7
        repeat' (walk_at "s")
        refine g_slTake (SqL.of hs7) le8 fun p1 H9 hp1 e9 h9 => ?_
        repeat' (walk_at "s")
        refine KA.g_klst (show 1 ≤ 1000 by decide) fun p2 H10 hp2 e10 h10 => ?_
        repeat' (walk_at "s")
        refine g_cat (e10 _ _ h9) h10 (by rw [List.length_take]; show _ + 1 ≤ 100000; omega) fun p3 H11 hp3 e11 h11 => ?_
        repeat' (walk_at "s")
        refine g_slDrop (SqL.of (e11 _ _ (e10 _ _ (e9 _ _ hs7)))) le8 fun p4 H12 hp4 e12 h12 => ?_
        repeat' (walk_at "s")
        refine g_cat (e12 _ _ h11) h12 (by rw [List.length_append, List.length_take, List.length_drop]; show _ + 1 + _ ≤ 100000; omega) fun p5 H13 hp5 e13 h13 => ?_
        have e78 : Ex H7 H13 := ((((e8.trans e9).trans e10).trans e11).trans e12).trans e13
        have asc' : (L.map fun z => (z.1, subm z.2 (oneL (clrL L r) p) (vec z.2 p))).Pairwise (fun a b => a.1 < b.1) := List.pairwise_map.mpr ok.asc
        obtain ⟨i1, i2⟩ := ins_take (p := p) asc'
        have n9 : ((L.map fun z => (z.1, subm z.2 (oneL (clrL L r) p) (vec z.2 p))).filter fun z => decide (z.1 < p)).length = zs8.length := by
          rw [n8, List.filter_map, List.length_map]; rfl
        rw [n9] at i1 i2
        have res : (stepL (t + 1) L r).map (·.2) = (L.map fun z => subm z.2 (oneL (clrL L r) p) (vec z.2 p)).take zs8.length ++ ([oneL (clrL L r) p] ++ (L.map fun z => subm z.2 (oneL (clrL L r) p) (vec z.2 p)).drop zs8.length) := by
          rw [hsl]
          show (insL _ _).map _ = _
          unfold insL
          rw [i1, i2, List.map_append, List.map_cons, List.map_take, List.map_drop, List.map_map]
          rfl
        refine k _ _ (((ex6.trans e7).trans e78)) ⟨p5, _, rfl, h13, ?_⟩
        rw [res, List.append_assoc]
        have z7 := pimp (fun _ _ h => RowV.mono e78 h) hpz7
        exact papp (ptake z7 _) (papp (.cons ((hv6.mono e7).mono e78) .nil) (pdrop z7 _))
end
end K75
end
section
namespace K75
open PySem L2 Evl KX
/-! steps -/
local macro_rules | `(tactic| walk_at "nrm") => `(tactic| (((with_reducible refine' KA.g_nrm ?h ?k)); (case h => ((conv => lhs; simp only [List.set_cons_zero, List.set_cons_succ]); try exact rfl))))
local macro_rules | `(tactic| walk_at "nam") => `(tactic| (((with_reducible refine' KA.g_nameN ?h ?k)); (case h => ((conv => lhs; simp only [List.set_cons_zero, List.set_cons_succ]); try exact rfl))))
local macro_rules | `(tactic| walk_at "var") => `(tactic| (((with_reducible refine' KA.g_var ?h ?k)); (case h => exact rfl)))
local macro_rules | `(tactic| walk_at "aug") => `(tactic| (((with_reducible refine' KA.g_aug ?h ?k)); (case h => exact rfl)))
local macro_rules | `(tactic| walk_at "mul") => `(tactic| ((with_reducible refine KA.g_I (C := CMul) ?h ?k); (case h => first | exact KA.cmul_l (by omega) (by omega) | exact KA.cmul_r (by omega) (by omega))))
local macro_rules | `(tactic| walk_at "dv") => `(tactic| ((with_reducible refine KA.g_I (C := KA.CDv) ?h ?k); (case h => exact ⟨by omega, by omega⟩)))
local macro_rules | `(tactic| walk_at "mod") => `(tactic| ((with_reducible refine KA.g_I (C := fun _ j => 0 < j) ?h ?k); (case h => omega)))
local macro_rules | `(tactic| walk_at "s") => `(tactic| first
  | walk_at "nrm"
  | with_reducible refine KA.g_seq ?_
  | with_reducible refine KA.g_asg ?_
  | walk_at "nam"
  | with_reducible refine KA.g_yes ?_
  | with_reducible refine KA.g_ifs ?_
  | with_reducible refine KA.g_ret ?_
  | with_reducible refine KA.g_retN ?_
  | with_reducible refine KA.g_drop ?_
  | with_reducible refine KA.g_next ?_
  | with_reducible refine KA.g_brk ?_
  | with_reducible refine KA.g_par ?_
  | with_reducible refine KA.g_par3 ?_
  | with_reducible refine KA.g_kpar ?_
  | with_reducible refine KA.g_kpar3 ?_
  | with_reducible refine KA.g_op ?_
  | walk_at "var"
  | with_reducible refine KA.g_c ?_
  | with_reducible refine KA.g_I0 ?_
  | with_reducible refine KA.g_eqi ?_
  | with_reducible refine KA.g_nei ?_
  | with_reducible refine KA.g_test ?_
  | with_reducible refine KA.g_kbl ?_
  | with_reducible refine KA.g_cons ?_
  | with_reducible refine KA.g_nil ?_
  | with_reducible refine KA.g_cb ?_
  | with_reducible refine KA.g_call ?_
  | with_reducible refine KA.g_tb ?_
  | with_reducible refine KA.g_not ?_
  | with_reducible refine KA.g_and ?_
  | with_reducible refine KA.g_or ?_
  | with_reducible refine KA.g_if ?_
  | with_reducible refine KA.g_andV ?_
  | with_reducible refine KA.g_orV ?_
  | with_reducible refine KA.g_notV ?_
  | with_reducible refine KA.g_kbv ?_
  | with_reducible refine KA.g_ex1 ?_
  | with_reducible refine KA.g_chain ?_
  | with_reducible refine KA.g_fld ?_
  | with_reducible refine KA.g_un ?_
  | with_reducible refine KA.g_U ?_
  | with_reducible refine KA.g_tup ?_
  | with_reducible refine KA.g_lst ?_
  | walk_at "mul"
  | walk_at "dv"
  | walk_at "mod"
  | walk_at "aug"
  | with_reducible refine KA.g_ipi ?_
  | with_reducible refine KA.g_gcons ?_
  | with_reducible refine KA.g_gnil ?_
  | with_reducible refine KA.kB_t ?_
  | with_reducible refine KA.kB_f ?_
  | with_reducible refine KA.kB_nn ?_
  | with_reducible refine KA.ite_kB ?_
  | ((with_reducible refine' KA.g_ixT0 ?h ?k); (case h => exact L2.SqT.of (by assumption)))
  | ((with_reducible refine' KA.g_ixT1 ?h ?k); (case h => exact L2.SqT.of (by assumption)))
  | with_reducible refine KA.g_lct ?_
  | with_reducible refine KA.g_lcl ?_
  | with_reducible refine KA.g_lcr ?_
  | with_reducible refine KA.g_sl ?_
  | with_reducible refine KA.g_nop ?_
  | with_reducible refine KA.g_part ?_
  | with_reducible refine KA.g_exi ?_
  | with_reducible refine KA.g_eqs ?_
  | with_reducible refine KA.g_nes ?_
  | with_reducible refine KA.g_isN_i ?_
  | with_reducible refine KA.g_isN_n ?_
  | with_reducible refine KA.g_isN_r ?_
  | with_reducible refine KA.g_abs ?_
  | with_reducible refine KA.g_mx ?_
  | with_reducible refine KA.g_mn ?_
  | with_reducible refine KA.g_int ?_
  | with_reducible refine KA.g_intb ?_
  | with_reducible refine KA.g_isi_ii ?_
  | with_reducible refine KA.g_isi_ib ?_
  | with_reducible refine KA.g_isi_ss ?_
  | ((with_reducible refine' KA.g_isi_tt ?h ?k); (case h => assumption))
  | ((with_reducible refine' KA.g_lnL ?h ?k); (case h => assumption))
  | ((with_reducible refine' KA.g_lnT ?h ?k); (case h => assumption)))
local macro_rules | `(tactic| walk_at "s") => `(tactic| first
  | walk_at "mulW"
  | ((with_reducible refine' KA.g_ixT0 ?h ?k); (case h => assumption))
  | ((with_reducible refine' KA.g_ixT1 ?h ?k); (case h => assumption))
  | with_reducible refine KR.g_lcz ?_
  | with_reducible refine KR.g_lck ?_
  | with_reducible refine KR.g_forZ ?_
  | with_reducible refine KR.g_forK ?_
  | with_reducible refine KT.g_forR ?_
  | with_reducible refine KW.g_for ?_
  | fail)
section
variable {P : Program} {w : World} {K : PySem.W.Frag} {mg : Str → Option Value} {base : Heap} {A : Adr}
open KR
def sp_is_number : Sp := fun vs H Q _ => ∃ v : V, vs = [v] ∧ Kd H v ∧ RetV (.bl (isNum v)) H Q
theorem ok_is_number (T : Txt P K mg A) : FnOk P w K mg base CX0 1 A.f_is_number A.d_is_number ["thing"] sp_is_number := by
  refine T.F_is_number.ok sc_is_number (fun vs H Q E h => ?_) (fun cdv Ar outer s H vs Q E hr h => ?_)
  · obtain ⟨a, rfl, _⟩ := h; rfl
  obtain ⟨v, rfl, kd, k⟩ := h
  refine ⟨_, (pss_one (ps_ret (pe_and (pe_callB call_isi (by rfl) T.z_isinstance (by decide +kernel) (pa_cons (pv 0) (pa_cons (pe_bltn (v := .ty "int") (u := .type "int") (by rfl) T.z_int (by decide +kernel) rfl) pa_nil))) (pe_one (pe_not (pe_callB call_isi (by rfl) T.z_isinstance (by decide +kernel) (pa_cons (pv 0) (pa_cons (pe_bltn (v := .ty "bool") (u := .type "bool") (by rfl) T.z_bool (by decide +kernel) rfl) pa_nil)))))))), ?_⟩
  show tRet _ _ [some v] H
  repeat' (walk_at "s")
  refine g_isInt kd ?_
  repeat' (walk_at "s")
  refine KA.kB_b (fun h1 => ?_) (fun h1 => ?_)
  · repeat' (walk_at "s")
    refine g_isBool kd ?_
    repeat' (walk_at "s")
    have := k H (Ex.refl H)
    rw [← isNum_eq, h1, Bool.true_and] at this
    exact this
  · repeat' (walk_at "s")
    have := k H (Ex.refl H)
    rw [← isNum_eq, h1, Bool.false_and] at this
    exact this
def sp_is_between : Sp := fun vs H Q _ => ∃ (v : V) (b c : Int), vs = [v, .int b, .int c] ∧ Kd H v ∧ RetV (.bl (btw v b c)) H Q
theorem ok_is_between (T : Txt P K mg A) : FnOk P w K mg base CX0 2 A.f_is_between A.d_is_between ["thing", "low", "high"] sp_is_between := by
  refine T.F_is_between.ok sc_is_between (fun vs H Q E h => ?_) (fun cdv Ar outer s H vs Q E hr h => ?_)
  · obtain ⟨a, b, c, rfl, _⟩ := h; rfl
  obtain ⟨v, b, c, rfl, kd, k⟩ := h
  refine ⟨_, (pss_one (ps_ret (pe_and (pe_call (ok_is_number T) (hr.mono (by decide)) (by rfl) T.m_is_number T.F_is_number.kp T.b_is_number .nil pass0 (pa_cons (pv 0) pa_nil)) (pe_one (pe_chain op_le op_le (pv 1) (pv 0) (pv 2)))))), ?_⟩
  show tRet _ _ [some v, some (.int b), some (.int c)] H
  repeat' (walk_at "s")
  refine ⟨v, rfl, kd, fun H1 e1 => ?_⟩
  have k1 := k H1 e1
  repeat' (walk_at "s")
  refine KA.kB_b (fun hn => ?_) (fun hn => ?_)
  · obtain ⟨a, rfl⟩ := num_of hn
    repeat' (walk_at "s")
    refine KA.kB_d (fun h1 => ?_) (fun h1 => ?_)
    · repeat' (walk_at "s")
      simpa [btw, h1] using k1
    · repeat' (walk_at "s")
      simpa [btw, h1] using k1
  · repeat' (walk_at "s")
    rw [notNum kd hn] at k1
    exact k1
def snd1 (v : V) : Bool := btw v (-1000000) 1000000
def sp_is_sound : Sp := fun vs H Q _ => ∃ v : V, vs = [v] ∧ Kd H v ∧ RetV (.bl (snd1 v)) H Q
theorem ok_is_sound (T : Txt P K mg A) : FnOk P w K mg base CX0 3 A.f_is_sound A.d_is_sound ["thing"] sp_is_sound := by
  refine T.F_is_sound.ok sc_is_sound (fun vs H Q E h => ?_) (fun cdv Ar outer s H vs Q E hr h => ?_)
  · obtain ⟨a, rfl, _⟩ := h; rfl
  obtain ⟨v, rfl, kd, k⟩ := h
  refine ⟨_, (pss_one (ps_ret (pe_call (ok_is_between T) (hr.mono (by decide)) (by rfl) T.m_is_between T.F_is_between.kp T.b_is_between .nil pass0 (pa_cons (pv 0) (pa_cons (pe_un un_neg (pe_glob (v := .int 1000000) rfl T.g_MOST_SOUND ⟨_, rfl⟩)) (pa_cons (pe_glob (v := .int 1000000) rfl T.g_MOST_SOUND ⟨_, rfl⟩) pa_nil)))))), ?_⟩
  show tRet _ _ [some v] H
  repeat' (walk_at "s")
  exact ⟨v, _, _, rfl, kd, k⟩
/-- an own error with a part is let out -/
def ErrP (A : Adr) (p : Str) (H : Hp) (E : XK) : Prop := ∀ d H', Ex H H' → H' d = some (.xd [(("part" : Str), .str p)]) → E (.ref A.C_BadNumber) (some d) H'
theorem ErrP.mono {A : Adr} {p : Str} {H H' : Hp} {E : XK} (e : Ex H H') (k : ErrP A p H E) : ErrP A p H' E := fun d H2 e2 h => k d H2 (e.trans e2) h
def sp_need_sounds (A : Adr) : Sp := fun vs H Q E => ∃ v u : V, vs = [v, u] ∧ Kd H v ∧ Kd H u ∧ (snd1 v = false → ErrP A "sent" H E) ∧ (snd1 v = true → snd1 u = false → ErrP A "heard" H E) ∧ (snd1 v = true → snd1 u = true → RetV .non H Q)
theorem mkp_err {A : Adr} {p : Str} {σ : L2.St} {H H1 : Hp} {E : XK} (k : ErrP A p H E) (e : Ex H H1) : KX.tMkP A.C_BadNumber (tCons (tC (.str p)) tNil) σ H1 (fun cls d H' => E cls d H') :=
  ⟨_, rfl, fun d hd => k d _ (e.trans (Ex.new hd)) upd_same⟩
theorem ok_need_sounds (T : Txt P K mg A) : FnOk P w K mg base (L2.CX P w) 4 A.f_need_sounds A.d_need_sounds ["sent", "heard"] (sp_need_sounds A) := by
  refine T.F_need_sounds.okX sc_need_sounds (fun vs H Q E h => ?_) (fun cdv Ar outer s H vs Q E hr h => ?_)
  · obtain ⟨a, b, rfl, _⟩ := h; rfl
  obtain ⟨v, u, rfl, kv, ku, k1, k2, k3⟩ := h
  refine ⟨_, (pss_cons (ps_if (pt_not (pt_val (pe_call (ok_is_sound T) (hr.mono (by decide)) (by rfl) T.m_is_sound T.F_is_sound.kp T.b_is_sound .nil pass0 (pa_cons (pv 0) pa_nil)))) (pss_one (ps_raise rfl (takes_of rfl rfl rfl rfl) (KX.pmk_part T.pt_BadNumber T.g_BadNumber (by rfl) hr (pa_cons pe_str pa_nil)))) pss_nil)
  (pss_one (ps_if (pt_not (pt_val (pe_call (ok_is_sound T) (hr.mono (by decide)) (by rfl) T.m_is_sound T.F_is_sound.kp T.b_is_sound .nil pass0 (pa_cons (pv 1) pa_nil)))) (pss_one (ps_raise rfl (takes_of rfl rfl rfl rfl) (KX.pmk_part T.pt_BadNumber T.g_BadNumber (by rfl) hr (pa_cons pe_str pa_nil)))) pss_nil))), ?_⟩
  show tSeq _ _ _ [some v, some u] H
  repeat' (walk_at "s")
  refine ⟨v, rfl, kv, fun H1 e1 => ?_⟩
  repeat' (walk_at "s")
  refine KA.kB_b (fun h1 => ?_) (fun h1 => ?_)
  · repeat' (walk_at "s")
    refine ⟨u, rfl, ku.mono e1, fun H2 e2 => ?_⟩
    repeat' (walk_at "s")
    refine KA.kB_b (fun h2 => ?_) (fun h2 => ?_)
    · repeat' (walk_at "s")
      exact k3 h1 h2 _ (e1.trans e2)
    · exact mkp_err (k2 h1 h2) (e1.trans e2)
  · exact mkp_err (k1 h1) e1
end
end K75
end
section
namespace K75
open PySem L2 Evl KX
/-! steps -/
local macro_rules | `(tactic| walk_at "nrm") => `(tactic| (((with_reducible refine' KA.g_nrm ?h ?k)); (case h => ((conv => lhs; simp only [List.set_cons_zero, List.set_cons_succ]); try exact rfl))))
local macro_rules | `(tactic| walk_at "nam") => `(tactic| (((with_reducible refine' KA.g_nameN ?h ?k)); (case h => ((conv => lhs; simp only [List.set_cons_zero, List.set_cons_succ]); try exact rfl))))
local macro_rules | `(tactic| walk_at "var") => `(tactic| (((with_reducible refine' KA.g_var ?h ?k)); (case h => exact rfl)))
local macro_rules | `(tactic| walk_at "aug") => `(tactic| (((with_reducible refine' KA.g_aug ?h ?k)); (case h => exact rfl)))
local macro_rules | `(tactic| walk_at "mul") => `(tactic| ((with_reducible refine KA.g_I (C := CMul) ?h ?k); (case h => first | exact KA.cmul_l (by omega) (by omega) | exact KA.cmul_r (by omega) (by omega))))
local macro_rules | `(tactic| walk_at "dv") => `(tactic| ((with_reducible refine KA.g_I (C := KA.CDv) ?h ?k); (case h => exact ⟨by omega, by omega⟩)))
local macro_rules | `(tactic| walk_at "mod") => `(tactic| ((with_reducible refine KA.g_I (C := fun _ j => 0 < j) ?h ?k); (case h => omega)))
local macro_rules | `(tactic| walk_at "s") => `(tactic| first
  | walk_at "nrm"
  | with_reducible refine KA.g_seq ?_
  | with_reducible refine KA.g_asg ?_
  | walk_at "nam"
  | with_reducible refine KA.g_yes ?_
  | with_reducible refine KA.g_ifs ?_
  | with_reducible refine KA.g_ret ?_
  | with_reducible refine KA.g_retN ?_
  | with_reducible refine KA.g_drop ?_
  | with_reducible refine KA.g_next ?_
  | with_reducible refine KA.g_brk ?_
  | with_reducible refine KA.g_par ?_
  | with_reducible refine KA.g_par3 ?_
  | with_reducible refine KA.g_kpar ?_
  | with_reducible refine KA.g_kpar3 ?_
  | with_reducible refine KA.g_op ?_
  | walk_at "var"
  | with_reducible refine KA.g_c ?_
  | with_reducible refine KA.g_I0 ?_
  | with_reducible refine KA.g_eqi ?_
  | with_reducible refine KA.g_nei ?_
  | with_reducible refine KA.g_test ?_
  | with_reducible refine KA.g_kbl ?_
  | with_reducible refine KA.g_cons ?_
  | with_reducible refine KA.g_nil ?_
  | with_reducible refine KA.g_cb ?_
  | with_reducible refine KA.g_call ?_
  | with_reducible refine KA.g_tb ?_
  | with_reducible refine KA.g_not ?_
  | with_reducible refine KA.g_and ?_
  | with_reducible refine KA.g_or ?_
  | with_reducible refine KA.g_if ?_
  | with_reducible refine KA.g_andV ?_
  | with_reducible refine KA.g_orV ?_
  | with_reducible refine KA.g_notV ?_
  | with_reducible refine KA.g_kbv ?_
  | with_reducible refine KA.g_ex1 ?_
  | with_reducible refine KA.g_chain ?_
  | with_reducible refine KA.g_fld ?_
  | with_reducible refine KA.g_un ?_
  | with_reducible refine KA.g_U ?_
  | with_reducible refine KA.g_tup ?_
  | with_reducible refine KA.g_lst ?_
  | walk_at "mul"
  | walk_at "dv"
  | walk_at "mod"
  | walk_at "aug"
  | with_reducible refine KA.g_ipi ?_
  | with_reducible refine KA.g_gcons ?_
  | with_reducible refine KA.g_gnil ?_
  | with_reducible refine KA.kB_t ?_
  | with_reducible refine KA.kB_f ?_
  | with_reducible refine KA.kB_nn ?_
  | with_reducible refine KA.ite_kB ?_
  | ((with_reducible refine' KA.g_ixT0 ?h ?k); (case h => exact L2.SqT.of (by assumption)))
  | ((with_reducible refine' KA.g_ixT1 ?h ?k); (case h => exact L2.SqT.of (by assumption)))
  | with_reducible refine KA.g_lct ?_
  | with_reducible refine KA.g_lcl ?_
  | with_reducible refine KA.g_lcr ?_
  | with_reducible refine KA.g_sl ?_
  | with_reducible refine KA.g_nop ?_
  | with_reducible refine KA.g_part ?_
  | with_reducible refine KA.g_exi ?_
  | with_reducible refine KA.g_eqs ?_
  | with_reducible refine KA.g_nes ?_
  | with_reducible refine KA.g_isN_i ?_
  | with_reducible refine KA.g_isN_n ?_
  | with_reducible refine KA.g_isN_r ?_
  | with_reducible refine KA.g_abs ?_
  | with_reducible refine KA.g_mx ?_
  | with_reducible refine KA.g_mn ?_
  | with_reducible refine KA.g_int ?_
  | with_reducible refine KA.g_intb ?_
  | with_reducible refine KA.g_isi_ii ?_
  | with_reducible refine KA.g_isi_ib ?_
  | with_reducible refine KA.g_isi_ss ?_
  | ((with_reducible refine' KA.g_isi_tt ?h ?k); (case h => assumption))
  | ((with_reducible refine' KA.g_lnL ?h ?k); (case h => assumption))
  | ((with_reducible refine' KA.g_lnT ?h ?k); (case h => assumption)))
local macro_rules | `(tactic| walk_at "s") => `(tactic| first
  | walk_at "mulW"
  | ((with_reducible refine' KA.g_ixT0 ?h ?k); (case h => assumption))
  | ((with_reducible refine' KA.g_ixT1 ?h ?k); (case h => assumption))
  | with_reducible refine KR.g_lcz ?_
  | with_reducible refine KR.g_lck ?_
  | with_reducible refine KR.g_forZ ?_
  | with_reducible refine KR.g_forK ?_
  | with_reducible refine KT.g_forR ?_
  | with_reducible refine KW.g_for ?_
  | with_reducible refine KR.g_sfld ?_
  | with_reducible refine KR.g_mth ?_
  | with_reducible refine KR.g_make ?_
  | fail)
section
variable {P : Program} {w : World} {K : PySem.W.Frag} {mg : Str → Option Value} {base : Heap} {A : Adr}
open KR
section
variable {H : Hp} {Q : VK} {a : Addr} {t : Int} {b r : V} {dx : Addr}
theorem g_tp (T : Txt P K mg A) (h : H a = some (.ins A.C_Listener dx (lf t b r))) (k : Q (.int t) H) : KA.kFld K "taps" (.ref a) H Q := ⟨a, _, dx, _, _, rfl, h, T.cl_Listener, T.n_Listener_taps, lf_t, k⟩
theorem g_bf (T : Txt P K mg A) (h : H a = some (.ins A.C_Listener dx (lf t b r))) (k : Q b H) : KA.kFld K "before" (.ref a) H Q := ⟨a, _, dx, _, _, rfl, h, T.cl_Listener, T.n_Listener_before, lf_b, k⟩
theorem g_rw (T : Txt P K mg A) (h : H a = some (.ins A.C_Listener dx (lf t b r))) (k : Q r H) : KA.kFld K "rows" (.ref a) H Q := ⟨a, _, dx, _, _, rfl, h, T.cl_Listener, T.n_Listener_rows, lf_r, k⟩
end
def sp_Listener_init (K : PySem.W.Frag) (A : Adr) : Sp := fun vs H Q E => ∃ (x dx : Addr) (v : V), vs = [.ref x, v] ∧ Kd H v ∧ H x = some (.ins A.C_Listener dx []) ∧ (btw v 1 8 = false → ErrP A "taps" H E) ∧
  ∀ t : Nat, v = .int (t : Int) → 1 ≤ t → t ≤ 8 → ∀ H', Lsn K A.C_Listener H' x t (List.replicate (t - 1) 0) [] → ExA x H H' → (∀ dx b r, H' x = some (.ins A.C_Listener dx (lf t b r)) → ∃ ra, r = .ref ra ∧ H ra = none) → Q .non H'
theorem ok_Listener_init (T : Txt P K mg A) : FnOk P w K mg base (L2.CX P w) 3 A.f_Listener_init A.d_Listener_init ["self", "taps"] (sp_Listener_init K A) := by
  refine T.F_Listener_init.okX sc_Listener_init (fun vs H Q E h => ?_) (fun cdv Ar outer s H vs Q E hr h => ?_)
  · obtain ⟨a, dx, b, rfl, _⟩ := h; rfl
  obtain ⟨x, dx, v, rfl, kv, hx, k1, k2⟩ := h
  refine ⟨_, (pss_cons (ps_if (pt_not (pt_val (pe_call (ok_is_between T) (hr.mono (by decide)) (by rfl) T.m_is_between T.F_is_between.kp T.b_is_between .nil pass0 (pa_cons (pv 1) (pa_cons pe_int (pa_cons (pe_glob (v := .int 8) rfl T.g_MOST_TAPS ⟨_, rfl⟩) pa_nil)))))) (pss_one (ps_raise rfl (takes_of rfl rfl rfl rfl) (KX.pmk_part T.pt_BadNumber T.g_BadNumber (by rfl) hr (pa_cons pe_str pa_nil)))) pss_nil)
  (pss_cons (ps_fld (pv 0) (pv 1) rfl)
  (pss_cons (ps_fld (pv 0) (pe_op KU.op_repA (pe_tup (pa_cons pe_int pa_nil)) (pe_op op_sub (pv 1) pe_int)) rfl)
  (pss_one (ps_fld (pv 0) (pe_lst pa_nil) rfl))))), ?_⟩
  show tSeq _ _ _ [some (.ref x), some v] H
  repeat' (walk_at "s")
  refine ⟨v, _, _, rfl, kv, fun H1 e1 => ?_⟩
  repeat' (walk_at "s")
  refine KA.kB_b (fun h1 => ?_) (fun h1 => ?_)
  · obtain ⟨i, rfl⟩ : ∃ i, v = .int i := by
      cases v <;> first | exact ⟨_, rfl⟩ | cases h1
    have hb : 1 ≤ i ∧ i ≤ 8 := by simpa [btw] using h1
    obtain ⟨t, rfl⟩ := Int.eq_ofNat_of_zero_le (show 0 ≤ i by omega)
    repeat' (walk_at "s")
    refine g_ksf (e1 _ _ hx) T.cl_Listener T.n_Listener_taps (Nat.zero_le _) ?_
    repeat' (walk_at "s")
    refine KA.g_ktup (show 1 ≤ 1000 by decide) fun z Hz hz ez tz => ?_
    repeat' (walk_at "s")
    refine g_repA (SqT.of tz) (by decide) (by omega) (by omega) (by decide) tz fun p H2 e2 h2 => ?_
    repeat' (walk_at "s")
    refine g_ksf (e2 _ _ (ez _ _ upd_same)) T.cl_Listener T.n_Listener_before (by show 1 ≤ 20; decide) ?_
    repeat' (walk_at "s")
    refine KA.g_klst (Nat.zero_le _) fun l H3 hl e3 h3 => ?_
    repeat' (walk_at "s")
    refine g_ksf (e3 _ _ upd_same) T.cl_Listener T.n_Listener_rows (by rw [put_2]; show 2 ≤ 20; decide) ?_
    have nx : ∀ {q : Addr} {o : HO}, H2 q = some o → (∀ C d f, o ≠ .ins C d f) → q ≠ x := fun {q o} hq no z => by
      rw [z, e2 _ _ (ez _ _ upd_same)] at hq; cases hq; exact no _ _ _ rfl
    have px := nx h2 fun _ _ _ z => nomatch z
    have lx : l ≠ x := fun z => by rw [z, upd_same] at hl; cases hl
    refine k2 t rfl (by omega) (by omega) _ ⟨⟨dx, p, .ref l, by rw [upd_same, put_3], ?_, ⟨l, [], rfl, by rw [upd_ne lx]; exact h3, .nil⟩⟩, by omega, by omega, by rw [List.length_replicate]; omega, okL_nil t⟩ ?_ ?_
    · rw [upd_ne px]
      have h2' : upd H2 x (.ins A.C_Listener dx (putF "before" (.ref p) (putF "taps" (.int (t : Int)) []))) p = some (.tup (List.replicate ((t : Int) - 1).toNat [V.int 0]).flatten) := by rw [upd_ne px]; exact h2
      rw [e3 _ _ h2']
      congr 2
      have : ((t : Int) - 1).toNat = t - 1 := by omega
      rw [this]
      generalize t - 1 = n
      induction n with
      | zero => rfl
      | succ n ih => rw [List.replicate_succ, List.flatten_cons, ih, List.replicate_succ]; rfl
    · exact (((((ExA.of e1).trans ExA.put).trans (ExA.of ez)).trans (ExA.of e2)).trans ExA.put).trans ((ExA.of e3).trans ExA.put)
    · intro dx' b' r' h'
      rw [upd_same, put_3] at h'
      cases h'
      refine ⟨l, rfl, ?_⟩
      cases hH : H l with
      | none => rfl
      | some o =>
        rw [upd_ne lx] at hl
        have exl : ExA x H H2 := (((ExA.of e1).trans ExA.put).trans (ExA.of ez)).trans (ExA.of e2)
        have exl := exl l o lx hH
        rw [hl] at exl; cases exl
  · exact mkp_err (k1 h1) e1
def sp_Listener_next_row (K : PySem.W.Frag) (A : Adr) : Sp := fun vs H Q _ => ∃ (a : Addr) (x y : Int) (t : Nat) (bs : List Int) (L : LRd), vs = [.ref a, .int x, .int y] ∧ Lsn K A.C_Listener H a t bs L ∧ RetRow K (nextRow x bs y) H Q
theorem fr_int {K : PySem.W.Frag} {H : Hp} {a : Addr} {n : Int} (h : H a = some (.tup [.int n, .int 1])) : FrV K H (.ref a) ((n : Int) : Rat) := ⟨a, rfl, SqT.of h⟩
theorem ok_Listener_next_row (T : Txt P K mg A) : FnOk P w K mg base CX0 1 A.f_Listener_next_row A.d_Listener_next_row ["self", "sent", "heard"] (sp_Listener_next_row K A) := by
  refine T.F_Listener_next_row.ok sc_Listener_next_row (fun vs H Q E h => ?_) (fun cdv Ar outer s H vs Q E hr h => ?_)
  · obtain ⟨a, x, y, t, bs, L, rfl, _⟩ := h; rfl
  obtain ⟨a, x, y, t, bs, L, rfl, ls, k⟩ := h
  obtain ⟨⟨dx, p, r, ha, hp, hr⟩, t1, t8, hl, ok⟩ := ls
  refine ⟨_, (pss_one (ps_ret (pe_op op_catT (pe_callTy KR.call_tup (by rfl) T.z_tuple (by decide +kernel) (pa_cons (pe_lc (own := [("one", 3)]) (g := gName 3) (tt := tYes) rfl sc_Listener_next_row.nd (pi_tup (pe_op op_catT (pe_tup (pa_cons (pv 1) pa_nil)) (KR.pe_fldK (K := K) rfl (pv 0) rfl))) (blkOk_by (own := [("one", 3)]) (N := N_Listener_next_row) (sc := defScope s_Listener_next_row) (by decide +kernel)) (fun _ _ _ _ _ => (pg_name (i := 3) sc_Listener_next_row.nd rfl (Or.inl rfl))) (fun _ _ _ _ _ => pts_nil) (fun _ _ _ _ _ => (pe_tup (pa_cons (pv 3) (pa_cons pe_int pa_nil))))) pa_nil)) (pe_tup (pa_cons (pe_tup (pa_cons (pv 2) (pa_cons pe_int pa_nil))) pa_nil))))), ?_⟩
  show tRet _ _ [some (.ref a), some (.int x), some (.int y), none] H
  repeat' (walk_at "s")
  refine KA.g_ktup (show 1 ≤ 1000 by decide) fun q H1 hq e1 h1 => ?_
  repeat' (walk_at "s")
  refine g_bf T (e1 _ _ ha) ?_
  repeat' (walk_at "s")
  refine g_catA (SqT.of h1) (SqT.of (e1 _ _ hp)) (List.cons_ne_nil _ _) (by rw [List.length_map]; show 1 + _ ≤ 1000; omega) h1 fun q2 H2 e2 h2 => ?_
  repeat' (walk_at "s")
  refine lcq_tup (FrV K) (fun i => (rats (x :: bs)).take i) (SqT.of h2) rfl (fun D hD i z H3 hz h3 => ?_) (fun D H3 zs hD e3 hz3 hpz => ?_)
  · have hz' : ((x :: bs).map V.int)[i]? = some z := hz
    rw [List.getElem?_map] at hz'
    obtain ⟨n, hn, rfl⟩ := Option.map_eq_some_iff.mp hz'
    unfold LqTurn
    repeat' (walk_at "s")
    refine ⟨rfl, ?_⟩
    repeat' (walk_at "s")
    refine KA.g_ktup (show 2 ≤ 1000 by decide) fun q4 H4 hq4 e4 h4 => ?_
    exact lcq_end (fun _ _ _ _ e h => h.monoT e) hD h3 e4 (by rw [List.length_take]; unfold rats; rw [List.length_map, List.length_cons]; omega) (take_map hn) (fr_int h4)
  · have lz : ([V.int x] ++ bs.map V.int).length = (rats (x :: bs)).length := by unfold rats; simp
    rw [lz, List.take_length] at hpz
    repeat' (walk_at "s")
    refine g_tupL hz3 fun q4 H4 hq4 e4 h4 => ?_
    repeat' (walk_at "s")
    refine KA.g_ktup (show 2 ≤ 1000 by decide) fun q5 H5 hq5 e5 h5 => ?_
    repeat' (walk_at "s")
    refine KA.g_ktup (show 1 ≤ 1000 by decide) fun q6 H6 hq6 e6 h6 => ?_
    repeat' (walk_at "s")
    have h46 := e6 _ _ (e5 _ _ h4)
    have lzs : zs.length ≤ 9 := by rw [hpz.length]; unfold rats; rw [List.length_map, List.length_cons]; omega
    refine g_catA (SqT.of h46) (SqT.of h6) (fun z0 => by rw [z0] at hpz; cases hpz) (by show _ + 1 ≤ 1000; omega) h46 fun q7 H7 e7 h7 => ?_
    refine k _ _ ((((((e1.trans e2).trans e3).trans e4).trans e5).trans e6).trans e7) ⟨q7, _, rfl, h7, ?_⟩
    have z7 := pimp (fun _ _ h => FrV.mono (((e4.trans e5).trans e6).trans e7) h) hpz
    have : nextRow x bs y = rats (x :: bs) ++ [((y : Int) : Rat)] := by unfold nextRow rats; rw [List.map_append]; rfl
    rw [this]
    exact papp z7 (.cons (fr_int (e7 _ _ (e6 _ _ h5))) .nil)
def sp_Listener_fits_none (K : PySem.W.Frag) (A : Adr) : Sp := fun vs H Q _ => ∃ (a : Addr) (t : Nat) (bs : List Int) (L : LRd), vs = [.ref a] ∧ Lsn K A.C_Listener H a t bs L ∧ RetV (.bl (fitsN t L)) H Q
theorem fst_t {t : Nat} {L : LRd} (ok : OkL t L) {z : Nat × List Rat} (h : z ∈ L) : fst t (vec z.2) = if z.1 = t then none else some z.1 := by
  have e := ok.lead h
  obtain ⟨a, b, c⟩ := fst_some e
  by_cases q : z.1 = t
  · rw [if_pos q]; exact fst_no fun j hj => c j (by omega)
  · rw [if_neg q]; exact fst_is (by omega) b c
theorem isN_lead {o : Option Nat} {H : Hp} {Q : VK} (k : Q (.bl o.isNone) H) : KA.rIsN (leadV o) .non H Q := by
  cases o with
  | none => exact KA.g_isN_n k
  | some p => exact KA.g_isN_i k
theorem ok_Listener_fits_none (T : Txt P K mg A) : FnOk P w K mg base CX0 2 A.f_Listener_fits_none A.d_Listener_fits_none ["self"] (sp_Listener_fits_none K A) := by
  refine T.F_Listener_fits_none.ok sc_Listener_fits_none (fun vs H Q E h => ?_) (fun cdv Ar outer s H vs Q E hr h => ?_)
  · obtain ⟨a, t, bs, L, rfl, _⟩ := h; rfl
  obtain ⟨a, t, bs, L, rfl, ls, k⟩ := h
  obtain ⟨⟨dx, p, r, ha, hp, ⟨ra, us, rfl, hra, hus⟩⟩, t1, t8, hl, ok⟩ := ls
  refine ⟨_, (pss_one (ps_ret (pe_callB (cr_any rfl) (by rfl) T.z_any (by decide +kernel) (pa_cons (pe_lc (own := [("row", 1)]) (g := gName 1) (tt := tYes) rfl sc_Listener_fits_none.nd (pi_list (KR.pe_fldK (K := K) rfl (pv 0) rfl)) (blkOk_by (own := [("row", 1)]) (N := N_Listener_fits_none) (sc := defScope s_Listener_fits_none) (by decide +kernel)) (fun _ _ _ _ _ => (pg_name (i := 1) sc_Listener_fits_none.nd rfl (Or.inl rfl))) (fun _ _ _ _ _ => pts_nil) (fun _ _ _ _ _ => (pe_cmpR KA.op_isNn (pe_call (ok_lead_of T) (hr.mono (by decide)) (by rfl) T.m_lead_of T.F_lead_of.kp T.b_lead_of .nil pass0 (pa_cons (pv 1) (pa_cons (KR.pe_fldK (K := K) rfl (pv 0) rfl) pa_nil))) pe_non (nomark _)))) pa_nil)))), ?_⟩
  show tRet _ _ [some (.ref a), none] H
  have lu : us.length = L.length := by rw [hus.length, List.length_map]
  have l9 := ok_len ok
  repeat' (walk_at "s")
  refine g_rw T ha ?_
  refine lcq_lst (fun _ v (b : Bool) => v = .bl b) (fun i => (L.map fun z => decide (z.1 = t)).take i) (SqL.of hra) rfl (fun D hD i x H2 hx h2 => ?_) (fun D H2 zs hD e2 hz hpz => ?_)
  · obtain ⟨o, ho, hro⟩ := pat hus hx
    rw [List.getElem?_map] at ho
    obtain ⟨z, hz, rfl⟩ := Option.map_eq_some_iff.mp ho
    have mz := List.mem_of_getElem? hz
    unfold LqTurn
    repeat' (walk_at "s")
    refine ⟨rfl, ?_⟩
    repeat' (walk_at "s")
    refine g_tp T (h2.1 _ _ ha) ?_
    repeat' (walk_at "s")
    refine ⟨_, z.2, t, rfl, hro.mono h2.1, by rw [ok.len z mz]; omega, by omega, fun H3 e3 => ?_⟩
    repeat' (walk_at "s")
    refine isN_lead ?_
    refine lcq_end (fun _ _ _ _ _ h => h) hD h2 e3 (by rw [List.length_take, List.length_map]; omega) (take_map hz) ?_
    rw [fst_t ok mz]
    by_cases q : z.1 = t <;> simp [q]
  · repeat' (walk_at "s")
    have zeq : zs = (L.map fun z => decide (z.1 = t)).map V.bl := by
      rw [lu, ← List.length_map (f := fun z : Nat × List Rat => decide (z.1 = t)), List.take_length] at hpz
      have : ∀ {l : List V} {m : List Bool}, Paired (fun v (p : Bool) => v = V.bl p) l m → l = m.map V.bl := by
        intro l m h
        induction h with
        | nil => rfl
        | cons r _ ih => rw [r, ih]; rfl
      exact this hpz
    subst zeq
    refine g_any (SqL.of hz) ?_
    have := k H2 e2
    unfold fitsN at this
    rw [List.any_map]
    exact this
end
end K75
end
section
namespace K75
open PySem L2 Evl KX
/-! steps -/
local macro_rules | `(tactic| walk_at "nrm") => `(tactic| (((with_reducible refine' KA.g_nrm ?h ?k)); (case h => ((conv => lhs; simp only [List.set_cons_zero, List.set_cons_succ]); try exact rfl))))
local macro_rules | `(tactic| walk_at "nam") => `(tactic| (((with_reducible refine' KA.g_nameN ?h ?k)); (case h => ((conv => lhs; simp only [List.set_cons_zero, List.set_cons_succ]); try exact rfl))))
local macro_rules | `(tactic| walk_at "var") => `(tactic| (((with_reducible refine' KA.g_var ?h ?k)); (case h => exact rfl)))
local macro_rules | `(tactic| walk_at "aug") => `(tactic| (((with_reducible refine' KA.g_aug ?h ?k)); (case h => exact rfl)))
local macro_rules | `(tactic| walk_at "mul") => `(tactic| ((with_reducible refine KA.g_I (C := CMul) ?h ?k); (case h => first | exact KA.cmul_l (by omega) (by omega) | exact KA.cmul_r (by omega) (by omega))))
local macro_rules | `(tactic| walk_at "dv") => `(tactic| ((with_reducible refine KA.g_I (C := KA.CDv) ?h ?k); (case h => exact ⟨by omega, by omega⟩)))
local macro_rules | `(tactic| walk_at "mod") => `(tactic| ((with_reducible refine KA.g_I (C := fun _ j => 0 < j) ?h ?k); (case h => omega)))
local macro_rules | `(tactic| walk_at "s") => `(tactic| first
  | walk_at "nrm"
  | with_reducible refine KA.g_seq ?_
  | with_reducible refine KA.g_asg ?_
  | walk_at "nam"
  | with_reducible refine KA.g_yes ?_
  | with_reducible refine KA.g_ifs ?_
  | with_reducible refine KA.g_ret ?_
  | with_reducible refine KA.g_retN ?_
  | with_reducible refine KA.g_drop ?_
  | with_reducible refine KA.g_next ?_
  | with_reducible refine KA.g_brk ?_
  | with_reducible refine KA.g_par ?_
  | with_reducible refine KA.g_par3 ?_
  | with_reducible refine KA.g_kpar ?_
  | with_reducible refine KA.g_kpar3 ?_
  | with_reducible refine KA.g_op ?_
  | walk_at "var"
  | with_reducible refine KA.g_c ?_
  | with_reducible refine KA.g_I0 ?_
  | with_reducible refine KA.g_eqi ?_
  | with_reducible refine KA.g_nei ?_
  | with_reducible refine KA.g_test ?_
  | with_reducible refine KA.g_kbl ?_
  | with_reducible refine KA.g_cons ?_
  | with_reducible refine KA.g_nil ?_
  | with_reducible refine KA.g_cb ?_
  | with_reducible refine KA.g_call ?_
  | with_reducible refine KA.g_tb ?_
  | with_reducible refine KA.g_not ?_
  | with_reducible refine KA.g_and ?_
  | with_reducible refine KA.g_or ?_
  | with_reducible refine KA.g_if ?_
  | with_reducible refine KA.g_andV ?_
  | with_reducible refine KA.g_orV ?_
  | with_reducible refine KA.g_notV ?_
  | with_reducible refine KA.g_kbv ?_
  | with_reducible refine KA.g_ex1 ?_
  | with_reducible refine KA.g_chain ?_
  | with_reducible refine KA.g_fld ?_
  | with_reducible refine KA.g_un ?_
  | with_reducible refine KA.g_U ?_
  | with_reducible refine KA.g_tup ?_
  | with_reducible refine KA.g_lst ?_
  | walk_at "mul"
  | walk_at "dv"
  | walk_at "mod"
  | walk_at "aug"
  | with_reducible refine KA.g_ipi ?_
  | with_reducible refine KA.g_gcons ?_
  | with_reducible refine KA.g_gnil ?_
  | with_reducible refine KA.kB_t ?_
  | with_reducible refine KA.kB_f ?_
  | with_reducible refine KA.kB_nn ?_
  | with_reducible refine KA.ite_kB ?_
  | ((with_reducible refine' KA.g_ixT0 ?h ?k); (case h => exact L2.SqT.of (by assumption)))
  | ((with_reducible refine' KA.g_ixT1 ?h ?k); (case h => exact L2.SqT.of (by assumption)))
  | with_reducible refine KA.g_lct ?_
  | with_reducible refine KA.g_lcl ?_
  | with_reducible refine KA.g_lcr ?_
  | with_reducible refine KA.g_sl ?_
  | with_reducible refine KA.g_nop ?_
  | with_reducible refine KA.g_part ?_
  | with_reducible refine KA.g_exi ?_
  | with_reducible refine KA.g_eqs ?_
  | with_reducible refine KA.g_nes ?_
  | with_reducible refine KA.g_isN_i ?_
  | with_reducible refine KA.g_isN_n ?_
  | with_reducible refine KA.g_isN_r ?_
  | with_reducible refine KA.g_abs ?_
  | with_reducible refine KA.g_mx ?_
  | with_reducible refine KA.g_mn ?_
  | with_reducible refine KA.g_int ?_
  | with_reducible refine KA.g_intb ?_
  | with_reducible refine KA.g_isi_ii ?_
  | with_reducible refine KA.g_isi_ib ?_
  | with_reducible refine KA.g_isi_ss ?_
  | ((with_reducible refine' KA.g_isi_tt ?h ?k); (case h => assumption))
  | ((with_reducible refine' KA.g_lnL ?h ?k); (case h => assumption))
  | ((with_reducible refine' KA.g_lnT ?h ?k); (case h => assumption)))
local macro_rules | `(tactic| walk_at "s") => `(tactic| first
  | walk_at "mulW"
  | ((with_reducible refine' KA.g_ixT0 ?h ?k); (case h => assumption))
  | ((with_reducible refine' KA.g_ixT1 ?h ?k); (case h => assumption))
  | with_reducible refine KR.g_lcz ?_
  | with_reducible refine KR.g_lck ?_
  | with_reducible refine KR.g_forZ ?_
  | with_reducible refine KR.g_forK ?_
  | with_reducible refine KT.g_forR ?_
  | with_reducible refine KW.g_for ?_
  | with_reducible refine KR.g_sfld ?_
  | with_reducible refine KR.g_mth ?_
  | with_reducible refine KR.g_make ?_
  | fail)
section
variable {P : Program} {w : World} {K : PySem.W.Frag} {mg : Str → Option Value} {base : Heap} {A : Adr}
open KR
def sp_Listener_known (K : PySem.W.Frag) (A : Adr) : Sp := fun vs H Q _ => ∃ (a : Addr) (t : Nat) (bs : List Int) (L : LRd), vs = [.ref a] ∧ Lsn K A.C_Listener H a t bs L ∧ ∀ q ys H', Ex H H' → H' q = some (.tup ys) → Paired (RowV K H') ys (L.map (·.2)) → Q (.ref q) H'
theorem ok_Listener_known (T : Txt P K mg A) : FnOk P w K mg base CX0 1 A.f_Listener_known A.d_Listener_known ["self"] (sp_Listener_known K A) := by
  refine T.F_Listener_known.ok sc_Listener_known (fun vs H Q E h => ?_) (fun cdv Ar outer s H vs Q E hr h => ?_)
  · obtain ⟨a, t, bs, L, rfl, _⟩ := h; rfl
  obtain ⟨a, t, bs, L, rfl, ls, k⟩ := h
  obtain ⟨⟨dx, p, r, ha, hp, ⟨ra, us, rfl, hra, hus⟩⟩, t1, t8, hl, ok⟩ := ls
  refine ⟨_, (pss_one (ps_ret (pe_callTy KR.call_tup (by rfl) T.z_tuple (by decide +kernel) (pa_cons (KR.pe_fldK (K := K) rfl (pv 0) rfl) pa_nil)))), ?_⟩
  show tRet _ _ [some (.ref a)] H
  repeat' (walk_at "s")
  refine g_rw T ha ?_
  repeat' (walk_at "s")
  refine g_tupL hra fun q H1 hq e1 h1 => ?_
  exact k q us H1 e1 h1 (pimp (fun _ _ h => h.mono e1) hus)
def sp_Listener_word (K : PySem.W.Frag) (A : Adr) : Sp := fun vs H Q _ => ∃ (a : Addr) (t : Nat) (bs : List Int) (L : LRd), vs = [.ref a] ∧ Lsn K A.C_Listener H a t bs L ∧ RetV (.str (wordS t L)) H Q
theorem lsn_mono {C a : Addr} {H H' : Hp} {t : Nat} {bs : List Int} {L : LRd} (e : Ex H H') (h : Lsn K C H a t bs L) : Lsn K C H' a t bs L := by
  obtain ⟨⟨dx, p, r, ha, hp, ⟨ra, us, rfl, hra, hus⟩⟩, t1, t8, hl, ok⟩ := h
  exact ⟨⟨dx, p, _, e _ _ ha, e _ _ hp, ⟨ra, us, rfl, e _ _ hra, pimp (fun _ _ h => h.mono e) hus⟩⟩, t1, t8, hl, ok⟩
theorem ok_Listener_word (T : Txt P K mg A) : FnOk P w K mg base CX0 3 A.f_Listener_word A.d_Listener_word ["self"] (sp_Listener_word K A) := by
  refine T.F_Listener_word.ok sc_Listener_word (fun vs H Q E h => ?_) (fun cdv Ar outer s H vs Q E hr h => ?_)
  · obtain ⟨a, t, bs, L, rfl, _⟩ := h; rfl
  obtain ⟨a, t, bs, L, rfl, ls, k⟩ := h
  have ls' := ls
  obtain ⟨⟨dx, p, r, ha, hp, ⟨ra, us, rfl, hra, hus⟩⟩, t1, t8, hl, ok⟩ := ls
  refine ⟨_, (pss_cons (ps_if (pt_val (pe_meth0 (pv 0) T.cl_Listener T.me_Listener_fits_none (ok_Listener_fits_none T) (hr.mono (by decide)) T.b_Listener_fits_none .nil pass0)) (pss_one (ps_ret pe_str)) pss_nil)
  (pss_one (ps_ret (pe_ifExp (pt_cmpR op_eq (pe_callB KA.call_ln (by rfl) T.z_len (by decide +kernel) (pa_cons (KR.pe_fldK (K := K) rfl (pv 0) rfl) pa_nil)) (KR.pe_fldK (K := K) rfl (pv 0) rfl) (nomark _)) pe_str pe_str)))), ?_⟩
  show tSeq _ _ _ [some (.ref a)] H
  have lu : us.length = L.length := by rw [hus.length, List.length_map]
  repeat' (walk_at "s")
  refine g_kmth ha lf_fits ?_
  repeat' (walk_at "s")
  refine ⟨a, t, bs, L, rfl, ls', fun H1 e1 => ?_⟩
  have k1 := k H1 e1
  unfold wordS at k1
  repeat' (walk_at "s")
  refine KA.kB_b (fun hb => ?_) (fun hb => ?_)
  · rw [if_pos hb] at k1
    repeat' (walk_at "s")
    exact k1
  · rw [if_neg (by rw [hb]; exact Bool.false_ne_true)] at k1
    repeat' (walk_at "s")
    have hra1 := e1 _ _ hra
    refine g_rw T (e1 _ _ ha) ?_
    repeat' (walk_at "s")
    refine g_tp T (e1 _ _ ha) ?_
    repeat' (walk_at "s")
    refine KA.kB_d (fun hc => ?_) (fun hc => ?_)
    · rw [if_pos (by omega)] at k1
      repeat' (walk_at "s")
      exact k1
    · rw [if_neg (by omega)] at k1
      repeat' (walk_at "s")
      exact k1
def sp_Listener_path (K : PySem.W.Frag) (A : Adr) : Sp := fun vs H Q _ => ∃ (a : Addr) (t : Nat) (bs : List Int) (L : LRd), vs = [.ref a] ∧ Lsn K A.C_Listener H a t bs L ∧ ∀ v H', Ex H H' → OptV (RowV K H') v (pathO t L) → Q v H'
theorem ok_Listener_path (T : Txt P K mg A) : FnOk P w K mg base CX0 4 A.f_Listener_path A.d_Listener_path ["self"] (sp_Listener_path K A) := by
  refine T.F_Listener_path.ok sc_Listener_path (fun vs H Q E h => ?_) (fun cdv Ar outer s H vs Q E hr h => ?_)
  · obtain ⟨a, t, bs, L, rfl, _⟩ := h; rfl
  obtain ⟨a, t, bs, L, rfl, ls, k⟩ := h
  have ls' := ls
  obtain ⟨⟨dx, p, r, ha, hp, ⟨ra, us, rfl, hra, hus⟩⟩, t1, t8, hl, ok⟩ := ls
  refine ⟨_, (pss_one (ps_ret (pe_ifExp (pt_cmpR op_eq (pe_meth0 (pv 0) T.cl_Listener T.me_Listener_word (ok_Listener_word T) (hr.mono (by decide)) T.b_Listener_word .nil pass0) pe_str (nomark _)) (pe_callTy KR.call_tup (by rfl) T.z_tuple (by decide +kernel) (pa_cons (pe_lc (own := [("row", 1)]) (g := gName 1) (tt := tYes) rfl sc_Listener_path.nd (pi_list (KR.pe_fldK (K := K) rfl (pv 0) rfl)) (blkOk_by (own := [("row", 1)]) (N := N_Listener_path) (sc := defScope s_Listener_path) (by decide +kernel)) (fun _ _ _ _ _ => (pg_name (i := 1) sc_Listener_path.nd rfl (Or.inl rfl))) (fun _ _ _ _ _ => pts_nil) (fun _ _ _ _ _ => (pe_ix (KR.ix_tupK (K := K) rfl) (pv 1) (KR.pe_fldK (K := K) rfl (pv 0) rfl) (fun _ _ => rfl)))) pa_nil)) pe_non))), ?_⟩
  show tRet _ _ [some (.ref a), none] H
  have lu : us.length = L.length := by rw [hus.length, List.length_map]
  have l9 := ok_len ok
  repeat' (walk_at "s")
  refine g_kmth ha lf_word ?_
  repeat' (walk_at "s")
  refine ⟨a, t, bs, L, rfl, ls', fun H1 e1 => ?_⟩
  repeat' (walk_at "s")
  refine KA.kB_d (fun hc => ?_) (fun hc => ?_)
  · repeat' (walk_at "s")
    refine g_rw T (e1 _ _ ha) ?_
    refine lcq_lst (FrV K) (fun i => (L.map fun z => vec z.2 t).take i) (SqL.of (e1 _ _ hra)) rfl (fun D hD i x H2 hx h2 => ?_) (fun D H2 zs hD e2 hz hpz => ?_)
    · obtain ⟨o, ho, hro⟩ := pat hus hx
      rw [List.getElem?_map] at ho
      obtain ⟨z, hz, rfl⟩ := Option.map_eq_some_iff.mp ho
      have mz := List.mem_of_getElem? hz
      have e12 := e1.trans h2.1
      obtain ⟨pz, wz, rfl, hpz', hwz⟩ := hro.mono e12
      obtain ⟨y, hy⟩ : ∃ y, z.2[t]? = some y := ⟨_, List.getElem?_eq_some_iff.mpr ⟨by rw [ok.len z mz]; omega, rfl⟩⟩
      obtain ⟨vy, hvy, fvy⟩ := paired_get hwz hy
      unfold LqTurn
      repeat' (walk_at "s")
      refine ⟨rfl, ?_⟩
      repeat' (walk_at "s")
      refine g_tp T (e12 _ _ ha) ?_
      repeat' (walk_at "s")
      refine KA.g_ixT (SqT.of hpz') hvy ?_
      refine lcq_end (fun _ _ _ _ e h => h.monoT e) hD h2 (Ex.refl _) (by rw [List.length_take, List.length_map]; omega) (take_map hz) ?_
      rw [vec_lt hy]
      exact fvy
    · rw [lu, ← List.length_map (f := fun z : Nat × List Rat => vec z.2 t), List.take_length] at hpz
      repeat' (walk_at "s")
      refine g_tupL hz fun q H3 hq e3 h3 => ?_
      refine k _ _ ((e1.trans e2).trans e3) ?_
      unfold pathO
      rw [if_pos hc]
      exact ⟨q, zs, rfl, h3, pimp (fun _ _ h => FrV.mono e3 h) hpz⟩
  · repeat' (walk_at "s")
    refine k _ _ e1 ?_
    unfold pathO
    rw [if_neg hc]
    rfl

def ErrQ (A : Adr) (H : Hp) (E : XK) : Prop := ∀ H', Ex H H' → E (.ref A.C_BadQuiet) none H'
def sp_Listener_hear (K : PySem.W.Frag) (A : Adr) : Sp := fun vs H Q E => ∃ (a : Addr) (v u qv : V) (t : Nat) (bs : List Int) (L : LRd), vs = [.ref a, v, u, qv] ∧ Kd H v ∧ Kd H u ∧ Lsn K A.C_Listener H a t bs L ∧
  (snd1 v = false → ErrP A "sent" H E) ∧ (snd1 v = true → snd1 u = false → ErrP A "heard" H E) ∧ (snd1 v = true → snd1 u = true → (∀ b, qv ≠ .bl b) → ErrQ A H E) ∧
  ∀ (x y : Int) (q : Bool), v = .int x → u = .int y → qv = .bl q → snd1 v = true → snd1 u = true → SmR t (nextRow x bs y) ∧ ∀ H', ExA a H H' → Lsn K A.C_Listener H' a t ((x :: bs).take (t - 1)) (if q = true then stepL (t + 1) L (nextRow x bs y) else L) → Q .non H'
theorem btw_int {v : V} {b c : Int} (h : btw v b c = true) : ∃ i, v = .int i := by
  cases v <;> first | exact ⟨_, rfl⟩ | cases h
theorem g_slTp {H : Hp} {a : Addr} {xs : List V} {k : Nat} {Q : VK} (hx : SqT K H a xs) (hk : k < xs.length) (q : ∀ p H', H p = none → Ex H H' → H' p = some (.tup (xs.take k)) → Q (.ref p) H') : rSlT K (.ref a) none (some (k : Int)) H Q := by
  have e1 : HT.sIx xs.length 0 none = 0 := HT.sIx_none _ _
  have e2 : HT.sIx xs.length xs.length (some (k : Int)) = k := by rw [HT.sIx_nat]; omega
  refine ⟨a, xs, rfl, hx, fun z => by omega, fun p hp => q p _ hp (Ex.new hp) ?_⟩
  rw [upd_same]
  unfold cutV
  rw [e1, e2, List.drop_zero, Nat.sub_zero]
theorem sqt_exa {H H' : Hp} {a b C dx : Addr} {fs : List (Str × V)} {xs : List V} (n : H a = some (.ins C dx fs)) (e : ExA a H H') (h : SqT K H b xs) : SqT K H' b xs := by
  rcases h with (h | ⟨o, h⟩) | h
  · exact .inl (.inl (e _ _ (fun z => by rw [z, n] at h; cases h) h))
  · exact .inl (.inr ⟨o, e _ _ (fun z => by rw [z, n] at h; cases h) h⟩)
  · exact .inr h
theorem row_exa {H H' : Hp} {a C dx : Addr} {fs : List (Str × V)} {v : V} {r : List Rat} (n : H a = some (.ins C dx fs)) (e : ExA a H H') (h : RowV K H v r) : RowV K H' v r := by
  obtain ⟨b, ws, rfl, hb, hw⟩ := h
  refine ⟨b, ws, rfl, e _ _ (fun z => by rw [z, n] at hb; cases hb) hb, pimp (fun x q fq => ?_) hw⟩
  obtain ⟨c, rfl, hc⟩ := fq
  exact ⟨c, rfl, sqt_exa n e hc⟩
theorem ok_Listener_hear (T : Txt P K mg A) : FnOk P w K mg base (L2.CX P w) 7 A.f_Listener_hear A.d_Listener_hear ["self", "sent", "heard", "quiet"] (sp_Listener_hear K A) := by
  refine T.F_Listener_hear.okX sc_Listener_hear (fun vs H Q E h => ?_) (fun cdv Ar outer s H vs Q E hr h => ?_)
  · obtain ⟨a, v, u, qv, t, bs, L, rfl, _⟩ := h; rfl
  obtain ⟨a, v, u, qv, t, bs, L, rfl, kv, ku, ls, k1, k2, k3, k4⟩ := h
  refine ⟨_, (pss_cons (ps_expr (pe_call (ok_need_sounds T) (hr.mono (by decide)) (by rfl) T.m_need_sounds T.F_need_sounds.kp T.b_need_sounds .nil KX.passX (pa_cons (pv 1) (pa_cons (pv 2) pa_nil))))
  (pss_cons (ps_if (PW.pt (pw_and (pt_cmpR KU.op_notBA (pv 3) pe_bl (nomark _)) (pw_and1 (pt_cmpR KU.op_notBA (pv 3) pe_bl (nomark _))))) (pss_one (ps_raise rfl (takes_of rfl rfl rfl rfl) (pmk_own PySem.F.excBase_ValueError T.xq_BadQuiet T.g_BadQuiet T.kq_BadQuiet (raises_own T.bq_BadQuiet T.tq_BadQuiet) (by exact rfl)))) pss_nil)
  (Evl.pss_cut (ps_if (pt_val (pv 3)) (pss_one (ps_fld (pv 0) (pe_call (ok_with_row T) (hr.mono (by decide)) (by rfl) T.m_with_row T.F_with_row.kp T.b_with_row .nil pass0 (pa_cons (KR.pe_fldK (K := K) rfl (pv 0) rfl) (pa_cons (pe_meth (pv 0) T.cl_Listener T.me_Listener_next_row (ok_Listener_next_row T) (hr.mono (by decide)) T.b_Listener_next_row .nil pass0 (pa_cons (pv 1) (pa_cons (pv 2) pa_nil))) (pa_cons (pe_op op_add (KR.pe_fldK (K := K) rfl (pv 0) rfl) pe_int) pa_nil)))) rfl)) pss_nil)
  (pss_one (ps_fld (pv 0) (pe_slice sl_tup (pe_op op_catT (pe_tup (pa_cons (pv 1) pa_nil)) (KR.pe_fldK (K := K) rfl (pv 0) rfl)) po_none (po_some (pe_op op_sub (KR.pe_fldK (K := K) rfl (pv 0) rfl) pe_int))) rfl))))), ?_⟩
  show tSeq _ _ _ [some (.ref a), some v, some u, some qv] H
  repeat' (walk_at "s")
  refine ⟨v, u, rfl, kv, ku, k1, k2, fun s1 s2 H1 e1 => ?_⟩
  obtain ⟨x, rfl⟩ := btw_int s1
  obtain ⟨y, rfl⟩ := btw_int s2
  have ls1 := lsn_mono e1 ls
  repeat' (walk_at "s")
  refine ⟨true, rfl, ?_⟩
  repeat' (walk_at "s")
  refine KA.kB_b (fun h1 => ?_) (fun h1 => ?_)
  · obtain rfl : qv = .bl true := by
      cases qv <;> first | (cases h1; done) | (rename_i b; cases b <;> first | rfl | (cases h1; done))
    obtain ⟨sm, k5⟩ := k4 x y true rfl rfl rfl s1 s2
    repeat' (walk_at "s")
    refine KA.g_cut (fun σ H' => σ = [some (.ref a), some (.int x), some (.int y), some (.bl true)] ∧ ExA a H H' ∧ Lsn K A.C_Listener H' a t bs (stepL (t + 1) L (nextRow x bs y))) ?_ ?_
    · repeat' (walk_at "s")
      have ls1' := ls1
      obtain ⟨⟨dx, p, r, ha, hp, ⟨ra, us, rfl, hra, hus⟩⟩, t1, t8, hl, ok⟩ := ls1
      refine g_rw T ha ?_
      repeat' (walk_at "s")
      refine g_kmth ha lf_next ?_
      repeat' (walk_at "s")
      refine ⟨a, x, y, t, bs, L, rfl, ls1', fun v3 H3 e3 h3 => ?_⟩
      repeat' (walk_at "s")
      refine g_tp T (e3 _ _ ha) ?_
      repeat' (walk_at "s")
      refine ⟨ra, v3, us, nextRow x bs y, L, t, rfl, h3, e3 _ _ hra, pimp (fun _ _ h => h.mono e3) hus, ok, t8, sm, fun v4 H4 e4 h4 => ?_⟩
      repeat' (walk_at "s")
      have ha4 := e4 _ _ (e3 _ _ ha)
      refine g_ksf ha4 T.cl_Listener T.n_Listener_rows (by show 3 ≤ 20; decide) ?_
      rw [put_r]
      obtain ⟨r4, us4, rfl, hr4, hus4⟩ := h4
      have n4 : r4 ≠ a := fun z => by rw [z, ha4] at hr4; cases hr4
      have np : p ≠ a := fun z => by rw [z, ha] at hp; cases hp
      refine ⟨rfl, ((ExA.of e1).trans (ExA.of (e3.trans e4))).trans ExA.put, ⟨⟨dx, p, .ref r4, upd_same, by rw [upd_ne np]; exact e4 _ _ (e3 _ _ hp), ⟨r4, us4, rfl, by rw [upd_ne n4]; exact hr4, pimp (fun _ _ h => row_exa ha4 ExA.put h) hus4⟩⟩, t1, t8, hl, okL_step ok sm⟩⟩
    · rintro σ H2 ⟨rfl, ea, ls2⟩
      repeat' (walk_at "s")
      obtain ⟨⟨dx, p, r, ha, hp, hrr⟩, t1, t8, hl, ok2⟩ := ls2
      refine KA.g_ktup (show 1 ≤ 1000 by decide) fun q1 H3 hq1 e3 h3 => ?_
      repeat' (walk_at "s")
      refine g_bf T (e3 _ _ ha) ?_
      repeat' (walk_at "s")
      refine g_catA (SqT.of h3) (SqT.of (e3 _ _ hp)) (List.cons_ne_nil _ _) (by rw [List.length_map]; show 1 + _ ≤ 1000; omega) h3 fun q2 H4 e4 h4 => ?_
      repeat' (walk_at "s")
      refine g_tp T (e4 _ _ (e3 _ _ ha)) ?_
      repeat' (walk_at "s")
      have et : ((t : Int) - 1) = ((t - 1 : Nat) : Int) := by omega
      rw [et]
      refine g_slTp (SqT.of h4) (by show t - 1 < ([V.int x] ++ bs.map V.int).length; rw [List.length_append, List.length_map]; show _ < 1 + _; omega) fun q5 H5 hq5 e5 h5 => ?_
      repeat' (walk_at "s")
      have ex : Ex H2 H5 := (e3.trans e4).trans e5
      have ha5 := ex _ _ ha
      refine g_ksf ha5 T.cl_Listener T.n_Listener_before (by show 3 ≤ 20; decide) ?_
      rw [put_b]
      have n5 : q5 ≠ a := fun z => by rw [z, ha5] at h5; cases h5
      obtain ⟨ra, us, rfl, hra, hus⟩ := hrr
      have nr : ra ≠ a := fun z => by rw [z, ha] at hra; cases hra
      have exa : ExA a H2 (upd H5 a (.ins A.C_Listener dx (lf t (.ref q5) (.ref ra)))) := (ExA.of ex).trans ExA.put
      have nrow : ∀ v r, RowV K H2 v r → RowV K (upd H5 a (.ins A.C_Listener dx (lf t (.ref q5) (.ref ra)))) v r := fun v r h => row_exa ha exa h
      refine k5 _ (ea.trans exa) ⟨⟨dx, q5, .ref ra, upd_same, ?_, ⟨ra, us, rfl, by rw [upd_ne nr]; exact ex _ _ hra, pimp (fun _ _ h => nrow _ _ h) hus⟩⟩, t1, t8, by rw [List.length_take, List.length_cons]; omega, ok2⟩
      rw [upd_ne n5, h5]
      have : ([V.int x] ++ bs.map V.int) = (x :: bs).map V.int := rfl
      rw [this, List.map_take]
  · repeat' (walk_at "s")
    refine ⟨false, rfl, ?_⟩
    repeat' (walk_at "s")
    refine KA.kB_b (fun h2 => ?_) (fun h2 => ?_)
    · obtain rfl : qv = .bl false := by
        cases qv <;> first | (cases h2; done) | (rename_i b; cases b <;> first | rfl | (cases h2; done))
      obtain ⟨sm, k5⟩ := k4 x y false rfl rfl rfl s1 s2
      repeat' (walk_at "s")
      refine KA.g_cut (fun σ H' => σ = [some (.ref a), some (.int x), some (.int y), some (.bl false)] ∧ ExA a H H' ∧ Lsn K A.C_Listener H' a t bs L) ?_ ?_
      · repeat' (walk_at "s")
        exact ⟨rfl, ExA.of e1, ls1⟩
      · rintro σ H2 ⟨rfl, ea, ls2⟩
        repeat' (walk_at "s")
        obtain ⟨⟨dx, p, r, ha, hp, hrr⟩, t1, t8, hl, ok2⟩ := ls2
        refine KA.g_ktup (show 1 ≤ 1000 by decide) fun q1 H3 hq1 e3 h3 => ?_
        repeat' (walk_at "s")
        refine g_bf T (e3 _ _ ha) ?_
        repeat' (walk_at "s")
        refine g_catA (SqT.of h3) (SqT.of (e3 _ _ hp)) (List.cons_ne_nil _ _) (by rw [List.length_map]; show 1 + _ ≤ 1000; omega) h3 fun q2 H4 e4 h4 => ?_
        repeat' (walk_at "s")
        refine g_tp T (e4 _ _ (e3 _ _ ha)) ?_
        repeat' (walk_at "s")
        have et : ((t : Int) - 1) = ((t - 1 : Nat) : Int) := by omega
        rw [et]
        refine g_slTp (SqT.of h4) (by show t - 1 < ([V.int x] ++ bs.map V.int).length; rw [List.length_append, List.length_map]; show _ < 1 + _; omega) fun q5 H5 hq5 e5 h5 => ?_
        repeat' (walk_at "s")
        have ex : Ex H2 H5 := (e3.trans e4).trans e5
        have ha5 := ex _ _ ha
        refine g_ksf ha5 T.cl_Listener T.n_Listener_before (by show 3 ≤ 20; decide) ?_
        rw [put_b]
        have n5 : q5 ≠ a := fun z => by rw [z, ha5] at h5; cases h5
        obtain ⟨ra, us, rfl, hra, hus⟩ := hrr
        have nr : ra ≠ a := fun z => by rw [z, ha] at hra; cases hra
        have exa : ExA a H2 (upd H5 a (.ins A.C_Listener dx (lf t (.ref q5) (.ref ra)))) := (ExA.of ex).trans ExA.put
        have nrow : ∀ v r, RowV K H2 v r → RowV K (upd H5 a (.ins A.C_Listener dx (lf t (.ref q5) (.ref ra)))) v r := fun v r h => row_exa ha exa h
        refine k5 _ (ea.trans exa) ⟨⟨dx, q5, .ref ra, upd_same, ?_, ⟨ra, us, rfl, by rw [upd_ne nr]; exact ex _ _ hra, pimp (fun _ _ h => nrow _ _ h) hus⟩⟩, t1, t8, by rw [List.length_take, List.length_cons]; omega, ok2⟩
        rw [upd_ne n5, h5]
        have : ([V.int x] ++ bs.map V.int) = (x :: bs).map V.int := rfl
        rw [this, List.map_take]
    · refine k3 s1 s2 (fun b z => ?_) H1 e1
      subst z
      cases b
      · cases h2
      · cases h1
end
end K75
end
section
namespace K75
open PySem L2 Evl KX
/-! steps -/
local macro_rules | `(tactic| walk_at "nrm") => `(tactic| (((with_reducible refine' KA.g_nrm ?h ?k)); (case h => ((conv => lhs; simp only [List.set_cons_zero, List.set_cons_succ]); try exact rfl))))
local macro_rules | `(tactic| walk_at "nam") => `(tactic| (((with_reducible refine' KA.g_nameN ?h ?k)); (case h => ((conv => lhs; simp only [List.set_cons_zero, List.set_cons_succ]); try exact rfl))))
local macro_rules | `(tactic| walk_at "var") => `(tactic| (((with_reducible refine' KA.g_var ?h ?k)); (case h => exact rfl)))
local macro_rules | `(tactic| walk_at "aug") => `(tactic| (((with_reducible refine' KA.g_aug ?h ?k)); (case h => exact rfl)))
local macro_rules | `(tactic| walk_at "mul") => `(tactic| ((with_reducible refine KA.g_I (C := CMul) ?h ?k); (case h => first | exact KA.cmul_l (by omega) (by omega) | exact KA.cmul_r (by omega) (by omega))))
local macro_rules | `(tactic| walk_at "dv") => `(tactic| ((with_reducible refine KA.g_I (C := KA.CDv) ?h ?k); (case h => exact ⟨by omega, by omega⟩)))
local macro_rules | `(tactic| walk_at "mod") => `(tactic| ((with_reducible refine KA.g_I (C := fun _ j => 0 < j) ?h ?k); (case h => omega)))
local macro_rules | `(tactic| walk_at "s") => `(tactic| first
  | walk_at "nrm"
  | with_reducible refine KA.g_seq ?_
  | with_reducible refine KA.g_asg ?_
  | walk_at "nam"
  | with_reducible refine KA.g_yes ?_
  | with_reducible refine KA.g_ifs ?_
  | with_reducible refine KA.g_ret ?_
  | with_reducible refine KA.g_retN ?_
  | with_reducible refine KA.g_drop ?_
  | with_reducible refine KA.g_next ?_
  | with_reducible refine KA.g_brk ?_
  | with_reducible refine KA.g_par ?_
  | with_reducible refine KA.g_par3 ?_
  | with_reducible refine KA.g_kpar ?_
  | with_reducible refine KA.g_kpar3 ?_
  | with_reducible refine KA.g_op ?_
  | walk_at "var"
  | with_reducible refine KA.g_c ?_
  | with_reducible refine KA.g_I0 ?_
  | with_reducible refine KA.g_eqi ?_
  | with_reducible refine KA.g_nei ?_
  | with_reducible refine KA.g_test ?_
  | with_reducible refine KA.g_kbl ?_
  | with_reducible refine KA.g_cons ?_
  | with_reducible refine KA.g_nil ?_
  | with_reducible refine KA.g_cb ?_
  | with_reducible refine KA.g_call ?_
  | with_reducible refine KA.g_tb ?_
  | with_reducible refine KA.g_not ?_
  | with_reducible refine KA.g_and ?_
  | with_reducible refine KA.g_or ?_
  | with_reducible refine KA.g_if ?_
  | with_reducible refine KA.g_andV ?_
  | with_reducible refine KA.g_orV ?_
  | with_reducible refine KA.g_notV ?_
  | with_reducible refine KA.g_kbv ?_
  | with_reducible refine KA.g_ex1 ?_
  | with_reducible refine KA.g_chain ?_
  | with_reducible refine KA.g_fld ?_
  | with_reducible refine KA.g_un ?_
  | with_reducible refine KA.g_U ?_
  | with_reducible refine KA.g_tup ?_
  | with_reducible refine KA.g_lst ?_
  | walk_at "mul"
  | walk_at "dv"
  | walk_at "mod"
  | walk_at "aug"
  | with_reducible refine KA.g_ipi ?_
  | with_reducible refine KA.g_gcons ?_
  | with_reducible refine KA.g_gnil ?_
  | with_reducible refine KA.kB_t ?_
  | with_reducible refine KA.kB_f ?_
  | with_reducible refine KA.kB_nn ?_
  | with_reducible refine KA.ite_kB ?_
  | ((with_reducible refine' KA.g_ixT0 ?h ?k); (case h => exact L2.SqT.of (by assumption)))
  | ((with_reducible refine' KA.g_ixT1 ?h ?k); (case h => exact L2.SqT.of (by assumption)))
  | with_reducible refine KA.g_lct ?_
  | with_reducible refine KA.g_lcl ?_
  | with_reducible refine KA.g_lcr ?_
  | with_reducible refine KA.g_sl ?_
  | with_reducible refine KA.g_nop ?_
  | with_reducible refine KA.g_part ?_
  | with_reducible refine KA.g_exi ?_
  | with_reducible refine KA.g_eqs ?_
  | with_reducible refine KA.g_nes ?_
  | with_reducible refine KA.g_isN_i ?_
  | with_reducible refine KA.g_isN_n ?_
  | with_reducible refine KA.g_isN_r ?_
  | with_reducible refine KA.g_abs ?_
  | with_reducible refine KA.g_mx ?_
  | with_reducible refine KA.g_mn ?_
  | with_reducible refine KA.g_int ?_
  | with_reducible refine KA.g_intb ?_
  | with_reducible refine KA.g_isi_ii ?_
  | with_reducible refine KA.g_isi_ib ?_
  | with_reducible refine KA.g_isi_ss ?_
  | ((with_reducible refine' KA.g_isi_tt ?h ?k); (case h => assumption))
  | ((with_reducible refine' KA.g_lnL ?h ?k); (case h => assumption))
  | ((with_reducible refine' KA.g_lnT ?h ?k); (case h => assumption)))
local macro_rules | `(tactic| walk_at "s") => `(tactic| first
  | walk_at "mulW"
  | ((with_reducible refine' KA.g_ixT0 ?h ?k); (case h => assumption))
  | ((with_reducible refine' KA.g_ixT1 ?h ?k); (case h => assumption))
  | with_reducible refine KR.g_lcz ?_
  | with_reducible refine KR.g_lck ?_
  | with_reducible refine KR.g_forZ ?_
  | with_reducible refine KR.g_forK ?_
  | with_reducible refine KT.g_forR ?_
  | with_reducible refine KW.g_for ?_
  | with_reducible refine KR.g_sfld ?_
  | with_reducible refine KR.g_mth ?_
  | with_reducible refine KR.g_make ?_
  | fail)
section
variable {P : Program} {w : World} {K : PySem.W.Frag} {mg : Str → Option Value} {base : Heap} {A : Adr}
open KR
def sp_Listener_left (K : PySem.W.Frag) (A : Adr) : Sp := fun vs H Q E => ∃ (a : Addr) (v u : V) (t : Nat) (bs : List Int) (L : LRd), vs = [.ref a, v, u] ∧ Kd H v ∧ Kd H u ∧ Lsn K A.C_Listener H a t bs L ∧
  (snd1 v = false → ErrP A "sent" H E) ∧ (snd1 v = true → snd1 u = false → ErrP A "heard" H E) ∧
  ∀ (x y : Int), v = .int x → u = .int y → snd1 v = true → snd1 u = true → SmR t (nextRow x bs y) ∧ ∀ v' H', Ex H H' → OptV (FrV K H') v' (leftO t L (nextRow x bs y)) → Q v' H'
theorem lead_t {t : Nat} {L : LRd} (ok : OkL t L) (hf : fitsN t L = false) {z : Nat × List Rat} (h : z ∈ L) : fst t (vec z.2) = some z.1 := by
  rw [fst_t ok h, if_neg]
  intro q
  have : fitsN t L = true := List.any_eq_true.mpr ⟨z, h, by simp [q]⟩
  rw [hf] at this; cases this
theorem ok_Listener_left (T : Txt P K mg A) : FnOk P w K mg base (L2.CX P w) 6 A.f_Listener_left A.d_Listener_left ["self", "sent", "heard"] (sp_Listener_left K A) := by
  refine T.F_Listener_left.okX sc_Listener_left (fun vs H Q E h => ?_) (fun cdv Ar outer s H vs Q E hr h => ?_)
  · obtain ⟨a, v, u, t, bs, L, rfl, _⟩ := h; rfl
  obtain ⟨a, v, u, t, bs, L, rfl, kv, ku, ls, k1, k2, k4⟩ := h
  refine ⟨_, (pss_cons (ps_expr (pe_call (ok_need_sounds T) (hr.mono (by decide)) (by rfl) T.m_need_sounds T.F_need_sounds.kp T.b_need_sounds .nil KX.passX (pa_cons (pv 1) (pa_cons (pv 2) pa_nil))))
  (pss_cons (ps_if (pt_val (pe_meth0 (pv 0) T.cl_Listener T.me_Listener_fits_none (ok_Listener_fits_none T) (hr.mono (by decide)) T.b_Listener_fits_none .nil pass0)) (pss_one (ps_ret pe_non)) pss_nil)
  (pss_cons (ps_setLc (i := 3) (own := [("row", 4)]) (g := gName 4) (tt := tYes) rfl sc_Listener_left.nd rfl rfl rfl (pi_list (KR.pe_fldK (K := K) rfl (pv 0) rfl)) (blkOk_by (own := [("row", 4)]) (N := N_Listener_left) (sc := defScope s_Listener_left) (by decide +kernel)) (fun _ _ _ _ _ => (pg_name (i := 4) sc_Listener_left.nd rfl (Or.inl rfl))) (fun _ _ _ _ _ => pts_nil) (fun _ _ _ _ _ => (pe_call (ok_lead_of T) (hr.mono (by decide)) (by rfl) T.m_lead_of T.F_lead_of.kp T.b_lead_of .nil pass0 (pa_cons (pv 4) (pa_cons (KR.pe_fldK (K := K) rfl (pv 0) rfl) pa_nil)))))
  (pss_cons (ps_set (i := 5) sc_Listener_left.nd rfl (Or.inl rfl) (pe_call (ok_cleared T) (hr.mono (by decide)) (by rfl) T.m_cleared T.F_cleared.kp T.b_cleared .nil pass0 (pa_cons (pe_meth (pv 0) T.cl_Listener T.me_Listener_next_row (ok_Listener_next_row T) (hr.mono (by decide)) T.b_Listener_next_row .nil pass0 (pa_cons (pv 1) (pa_cons (pv 2) pa_nil))) (pa_cons (KR.pe_fldK (K := K) rfl (pv 0) rfl) (pa_cons (pv 3) pa_nil)))))
  (pss_one (ps_ret (pe_ifExp (pt_cmpR KA.op_isNn (pe_call (ok_lead_of T) (hr.mono (by decide)) (by rfl) T.m_lead_of T.F_lead_of.kp T.b_lead_of .nil pass0 (pa_cons (pv 5) (pa_cons (KR.pe_fldK (K := K) rfl (pv 0) rfl) pa_nil))) pe_non (nomark _)) (pe_ix (KR.ix_tupK (K := K) rfl) (pv 5) (KR.pe_fldK (K := K) rfl (pv 0) rfl) (fun _ _ => rfl)) pe_non))))))), ?_⟩
  show tSeq _ _ _ [some (.ref a), some v, some u, none, none, none] H
  repeat' (walk_at "s")
  refine ⟨v, u, rfl, kv, ku, k1, k2, fun s1 s2 H1 e1 => ?_⟩
  obtain ⟨x, rfl⟩ := btw_int s1
  obtain ⟨y, rfl⟩ := btw_int s2
  obtain ⟨sm, k5⟩ := k4 x y rfl rfl s1 s2
  have ls1 := lsn_mono e1 ls
  have ls1' := ls1
  obtain ⟨⟨dx, p, r, ha, hp, ⟨ra, us, rfl, hra, hus⟩⟩, t1, t8, hl, ok⟩ := ls1
  have lu : us.length = L.length := by rw [hus.length, List.length_map]
  have l9 := ok_len ok
  repeat' (walk_at "s")
  refine g_kmth ha lf_fits ?_
  repeat' (walk_at "s")
  refine ⟨a, t, bs, L, rfl, ls1', fun H2 e2 => ?_⟩
  repeat' (walk_at "s")
  refine KA.kB_b (fun hb => ?_) (fun hb => ?_)
  · repeat' (walk_at "s")
    refine k5 _ _ (e1.trans e2) ?_
    unfold leftO
    rw [if_pos hb]
    rfl
  · repeat' (walk_at "s")
    have ha2 := e2 _ _ ha
    have hra2 := e2 _ _ hra
    refine g_rw T ha2 ?_
    refine lcq_lst (fun _ v (p : Nat) => v = .int (p : Int)) (fun i => (L.map (·.1)).take i) (SqL.of hra2) rfl (fun D hD i z H3 hz h3 => ?_) (fun D H3 zs hD e3 hz hpz => ?_)
    · obtain ⟨o, ho, hro⟩ := pat hus hz
      rw [List.getElem?_map] at ho
      obtain ⟨zz, hzz, rfl⟩ := Option.map_eq_some_iff.mp ho
      have mz := List.mem_of_getElem? hzz
      unfold LqTurn
      repeat' (walk_at "s")
      refine ⟨rfl, ?_⟩
      repeat' (walk_at "s")
      refine g_tp T (h3.1 _ _ ha2) ?_
      repeat' (walk_at "s")
      refine ⟨_, zz.2, t, rfl, (hro.mono e2).mono h3.1, by rw [ok.len zz mz]; omega, by omega, fun H4 e4 => ?_⟩
      rw [lead_t ok hb mz]
      exact lcq_end (fun _ _ _ _ _ h => h) hD h3 e4 (by rw [List.length_take, List.length_map]; omega) (take_map hzz) rfl
    · have zeq : zs = L.map fun z => V.int (z.1 : Int) := by
        rw [lu, ← List.length_map (f := fun z : Nat × List Rat => z.1), List.take_length] at hpz
        have : ∀ {l : List V} {m : List Nat}, Paired (fun v (p : Nat) => v = V.int (p : Int)) l m → l = m.map fun (p : Nat) => V.int (p : Int) := by
          intro l m h
          induction h with
          | nil => rfl
          | cons r _ ih => rw [r, ih]; rfl
        rw [this hpz, List.map_map]
        rfl
      subst zeq
      have e23 := e2.trans e3
      have ha3 := e3 _ _ ha2
      repeat' (walk_at "s")
      refine g_kmth ha3 lf_next ?_
      repeat' (walk_at "s")
      refine ⟨a, x, y, t, bs, L, rfl, lsn_mono e23 ls1', fun v4 H4 e4 h4 => ?_⟩
      repeat' (walk_at "s")
      have ha4 := e4 _ _ ha3
      refine g_rw T ha4 ?_
      repeat' (walk_at "s")
      refine ⟨v4, ra, D, us, nextRow x bs y, L, t, rfl, h4, e4 _ _ (e3 _ _ hra2), pimp (fun _ _ h => h.mono (e23.trans e4)) hus, e4 _ _ hz, ok, t8, sm, fun v5 H5 e5 h5 => ?_⟩
      have lc : (clrL L (nextRow x bs y)).length = t + 1 := clrL_len ok.len sm.1
      have ha5 := e5 _ _ ha4
      repeat' (walk_at "s")
      refine g_tp T ha5 ?_
      repeat' (walk_at "s")
      refine ⟨v5, clrL L (nextRow x bs y), t, rfl, h5, by omega, by omega, fun H6 e6 => ?_⟩
      have ha6 := e6 _ _ ha5
      have h6 := h5.mono e6
      have exx : Ex H H6 := (((e1.trans e23).trans e4).trans e5).trans e6
      have k6 := k5
      unfold leftO at k6
      rw [if_neg (by rw [hb]; exact Bool.false_ne_true)] at k6
      repeat' (walk_at "s")
      refine isN_lead ?_
      cases hl2 : fst t (vec (clrL L (nextRow x bs y))) with
      | none =>
        rw [if_pos hl2] at k6
        obtain ⟨pz, wz, rfl, hpz', hwz⟩ := h6
        obtain ⟨q, hq⟩ : ∃ q, (clrL L (nextRow x bs y))[t]? = some q := ⟨_, List.getElem?_eq_some_iff.mpr ⟨by omega, rfl⟩⟩
        obtain ⟨vy, hvy, fvy⟩ := paired_get hwz hq
        simp only [Option.isNone]
        repeat' (walk_at "s")
        refine g_tp T ha6 ?_
        repeat' (walk_at "s")
        refine KA.g_ixT (SqT.of hpz') hvy ?_
        refine k6 _ _ exx ?_
        rw [vec_lt hq]
        exact fvy
      | some p =>
        rw [if_neg (by rw [hl2]; exact fun z => nomatch z)] at k6
        simp only [Option.isNone]
        repeat' (walk_at "s")
        exact k6 _ _ exx rfl
end
end K75
end
section
namespace K75
open PySem L2 Evl KX
/-! steps -/
local macro_rules | `(tactic| walk_at "nrm") => `(tactic| (((with_reducible refine' KA.g_nrm ?h ?k)); (case h => ((conv => lhs; simp only [List.set_cons_zero, List.set_cons_succ]); try exact rfl))))
local macro_rules | `(tactic| walk_at "nam") => `(tactic| (((with_reducible refine' KA.g_nameN ?h ?k)); (case h => ((conv => lhs; simp only [List.set_cons_zero, List.set_cons_succ]); try exact rfl))))
local macro_rules | `(tactic| walk_at "var") => `(tactic| (((with_reducible refine' KA.g_var ?h ?k)); (case h => exact rfl)))
local macro_rules | `(tactic| walk_at "aug") => `(tactic| (((with_reducible refine' KA.g_aug ?h ?k)); (case h => exact rfl)))
local macro_rules | `(tactic| walk_at "mul") => `(tactic| ((with_reducible refine KA.g_I (C := CMul) ?h ?k); (case h => first | exact KA.cmul_l (by omega) (by omega) | exact KA.cmul_r (by omega) (by omega))))
local macro_rules | `(tactic| walk_at "dv") => `(tactic| ((with_reducible refine KA.g_I (C := KA.CDv) ?h ?k); (case h => exact ⟨by omega, by omega⟩)))
local macro_rules | `(tactic| walk_at "mod") => `(tactic| ((with_reducible refine KA.g_I (C := fun _ j => 0 < j) ?h ?k); (case h => omega)))
local macro_rules | `(tactic| walk_at "s") => `(tactic| first
  | walk_at "nrm"
  | with_reducible refine KA.g_seq ?_
  | with_reducible refine KA.g_asg ?_
  | walk_at "nam"
  | with_reducible refine KA.g_yes ?_
  | with_reducible refine KA.g_ifs ?_
  | with_reducible refine KA.g_ret ?_
  | with_reducible refine KA.g_retN ?_
  | with_reducible refine KA.g_drop ?_
  | with_reducible refine KA.g_next ?_
  | with_reducible refine KA.g_brk ?_
  | with_reducible refine KA.g_par ?_
  | with_reducible refine KA.g_par3 ?_
  | with_reducible refine KA.g_kpar ?_
  | with_reducible refine KA.g_kpar3 ?_
  | with_reducible refine KA.g_op ?_
  | walk_at "var"
  | with_reducible refine KA.g_c ?_
  | with_reducible refine KA.g_I0 ?_
  | with_reducible refine KA.g_eqi ?_
  | with_reducible refine KA.g_nei ?_
  | with_reducible refine KA.g_test ?_
  | with_reducible refine KA.g_kbl ?_
  | with_reducible refine KA.g_cons ?_
  | with_reducible refine KA.g_nil ?_
  | with_reducible refine KA.g_cb ?_
  | with_reducible refine KA.g_call ?_
  | with_reducible refine KA.g_tb ?_
  | with_reducible refine KA.g_not ?_
  | with_reducible refine KA.g_and ?_
  | with_reducible refine KA.g_or ?_
  | with_reducible refine KA.g_if ?_
  | with_reducible refine KA.g_andV ?_
  | with_reducible refine KA.g_orV ?_
  | with_reducible refine KA.g_notV ?_
  | with_reducible refine KA.g_kbv ?_
  | with_reducible refine KA.g_ex1 ?_
  | with_reducible refine KA.g_chain ?_
  | with_reducible refine KA.g_fld ?_
  | with_reducible refine KA.g_un ?_
  | with_reducible refine KA.g_U ?_
  | with_reducible refine KA.g_tup ?_
  | with_reducible refine KA.g_lst ?_
  | walk_at "mul"
  | walk_at "dv"
  | walk_at "mod"
  | walk_at "aug"
  | with_reducible refine KA.g_ipi ?_
  | with_reducible refine KA.g_gcons ?_
  | with_reducible refine KA.g_gnil ?_
  | with_reducible refine KA.kB_t ?_
  | with_reducible refine KA.kB_f ?_
  | with_reducible refine KA.kB_nn ?_
  | with_reducible refine KA.ite_kB ?_
  | ((with_reducible refine' KA.g_ixT0 ?h ?k); (case h => exact L2.SqT.of (by assumption)))
  | ((with_reducible refine' KA.g_ixT1 ?h ?k); (case h => exact L2.SqT.of (by assumption)))
  | with_reducible refine KA.g_lct ?_
  | with_reducible refine KA.g_lcl ?_
  | with_reducible refine KA.g_lcr ?_
  | with_reducible refine KA.g_sl ?_
  | with_reducible refine KA.g_nop ?_
  | with_reducible refine KA.g_part ?_
  | with_reducible refine KA.g_exi ?_
  | with_reducible refine KA.g_eqs ?_
  | with_reducible refine KA.g_nes ?_
  | with_reducible refine KA.g_isN_i ?_
  | with_reducible refine KA.g_isN_n ?_
  | with_reducible refine KA.g_isN_r ?_
  | with_reducible refine KA.g_abs ?_
  | with_reducible refine KA.g_mx ?_
  | with_reducible refine KA.g_mn ?_
  | with_reducible refine KA.g_int ?_
  | with_reducible refine KA.g_intb ?_
  | with_reducible refine KA.g_isi_ii ?_
  | with_reducible refine KA.g_isi_ib ?_
  | with_reducible refine KA.g_isi_ss ?_
  | ((with_reducible refine' KA.g_isi_tt ?h ?k); (case h => assumption))
  | ((with_reducible refine' KA.g_lnL ?h ?k); (case h => assumption))
  | ((with_reducible refine' KA.g_lnT ?h ?k); (case h => assumption)))
local macro_rules | `(tactic| walk_at "s") => `(tactic| first
  | walk_at "mulW"
  | ((with_reducible refine' KA.g_ixT0 ?h ?k); (case h => assumption))
  | ((with_reducible refine' KA.g_ixT1 ?h ?k); (case h => assumption))
  | with_reducible refine KR.g_lcz ?_
  | with_reducible refine KR.g_lck ?_
  | with_reducible refine KR.g_forZ ?_
  | with_reducible refine KR.g_forK ?_
  | with_reducible refine KT.g_forR ?_
  | with_reducible refine KW.g_for ?_
  | with_reducible refine KR.g_sfld ?_
  | with_reducible refine KR.g_mth ?_
  | with_reducible refine KR.g_make ?_
  | fail)
section
variable {P : Program} {w : World} {K : PySem.W.Frag} {mg : Str → Option Value} {base : Heap} {A : Adr}
open KR
/-! ### plain: rows of ints -/
def dotI (xs ys : List Int) : Int := (List.zipWith (· * ·) xs ys).sum
theorem dotI_take {xs ys : List Int} {i : Nat} {x y : Int} (h1 : xs[i]? = some x) (h2 : ys[i]? = some y) : dotI (xs.take (i + 1)) (ys.take (i + 1)) = dotI (xs.take i) (ys.take i) + x * y := by
  unfold dotI
  rw [take_snoc h1, take_snoc h2, List.zipWith_append (by rw [List.length_take, List.length_take]; have := (List.getElem?_eq_some_iff.mp h1).1; have := (List.getElem?_eq_some_iff.mp h2).1; omega), List.sum_append]
  simp
theorem dotI_le {xs ys : List Int} {b : Nat} (hl : ys.length = xs.length) (hx : ∀ x ∈ xs, x.natAbs ≤ b) (hy : ∀ y ∈ ys, y.natAbs ≤ b) : ∀ i, i ≤ xs.length → (dotI (xs.take i) (ys.take i)).natAbs ≤ i * (b * b) := by
  intro i
  induction i with
  | zero => simp [dotI]
  | succ i ih =>
    intro hi
    have ih := ih (by omega)
    obtain ⟨x, h1⟩ : ∃ x, xs[i]? = some x := ⟨_, List.getElem?_eq_some_iff.mpr ⟨by omega, rfl⟩⟩
    obtain ⟨y, h2⟩ : ∃ y, ys[i]? = some y := ⟨_, List.getElem?_eq_some_iff.mpr ⟨by omega, rfl⟩⟩
    rw [dotI_take h1 h2, Nat.add_mul]
    have m1 := hx _ (List.mem_of_getElem? h1)
    have m2 := hy _ (List.mem_of_getElem? h2)
    have m3 : (x * y).natAbs ≤ b * b := by rw [Int.natAbs_mul]; exact Nat.mul_le_mul m1 m2
    have := Int.natAbs_add_le (dotI (xs.take i) (ys.take i)) (x * y)
    omega
theorem sz_le {z : Int} {b : Nat} (h : z.natAbs ≤ b) (hb : b < 2 ^ S2) : Sz S2 ((z : Int) : Rat) := sz_int (Nat.lt_of_le_of_lt h hb) (by decide)
def sp__law_dotted (K : PySem.W.Frag) : Sp := fun vs H Q _ => ∃ (v u : V) (xs ys : List Int), vs = [v, u] ∧ RowV K H v (rats xs) ∧ RowV K H u (rats ys) ∧ ys.length = xs.length ∧ xs.length ≤ 8 ∧ (∀ x ∈ xs, x.natAbs ≤ 1000) ∧ (∀ y ∈ ys, y.natAbs ≤ 1000) ∧ RetFr K ((dotI xs ys : Int) : Rat) H Q
theorem fr_new {H : Hp} {a : Addr} (h : H a = some (.tup [.int 0, .int 1])) : FrV K H (.ref a) (0 : Rat) := ⟨a, rfl, SqT.of h⟩
theorem ok__law_dotted (T : Txt P K mg A) : FnOk P w K mg base CX0 4 A.f__law_dotted A.d__law_dotted ["row", "other"] (sp__law_dotted K) := by
  refine T.F__law_dotted.ok sc__law_dotted (fun vs H Q E h => ?_) (fun cdv Ar outer s H vs Q E hr h => ?_)
  · obtain ⟨v, u, xs, ys, rfl, _⟩ := h; rfl
  obtain ⟨_, _, xs, ys, rfl, ⟨a, us, rfl, ha, hp⟩, ⟨b, ws, rfl, hb, hq⟩, hl, h8, bx, by_, k⟩ := h
  refine ⟨_, (pss_cons (ps_set (i := 2) sc__law_dotted.nd rfl (Or.inl rfl) (pe_tup (pa_cons pe_int (pa_cons pe_int pa_nil))))
  (pss_cons (ps_for PassesOwn.never rfl (RZ.pi_zipA rfl T.z_zip (pa_cons (pv 0) (pa_cons (pv 1) pa_nil))) (pg_tup rfl (pgs_cons (pg_name (i := 3) sc__law_dotted.nd rfl (Or.inl rfl)) (pgs_cons (pg_name (i := 4) sc__law_dotted.nd rfl (Or.inl rfl)) pgs_nil))) (pss_one (ps_set (i := 2) sc__law_dotted.nd rfl (Or.inl rfl) (pe_call (ok__law_plus T) (hr.mono (by decide)) (by rfl) T.m__law_plus T.F__law_plus.kp T.b__law_plus .nil pass0 (pa_cons (pv 2) (pa_cons (pe_call (ok__law_times T) (hr.mono (by decide)) (by rfl) T.m__law_times T.F__law_times.kp T.b__law_times .nil pass0 (pa_cons (pv 3) (pa_cons (pv 4) pa_nil))) pa_nil))))))
  (pss_one (ps_ret (pv 2))))), ?_⟩
  show tSeq _ _ _ [some (.ref a), some (.ref b), none, none, none] H
  have lu : us.length = xs.length := by rw [hp.length]; unfold rats; rw [List.length_map]
  have lw : ws.length = us.length := by rw [hq.length]; unfold rats; rw [List.length_map]; omega
  repeat' (walk_at "s")
  refine KA.g_ktup (show 2 ≤ 1000 by decide) fun q1 H1 hq1 e1 h1 => ?_
  repeat' (walk_at "s")
  refine forZ_T (fun i σ H' => ∃ v' x y, σ = [some (.ref a), some (.ref b), some v', x, y] ∧ Ex H H' ∧ FrV K H' v' ((dotI (xs.take i) (ys.take i) : Int) : Rat)) (SqT.of (e1 _ _ ha)) (SqT.of (e1 _ _ hb)) lw ⟨_, _, _, rfl, e1, by simpa [dotI] using fr_new h1⟩
    (fun i σ H' ⟨_, _, _, _, e, _⟩ => ⟨SqT.of (e _ _ ha), SqT.of (e _ _ hb)⟩) ?_ ?_
  · rintro i x y Tt σ H2 H3 hx hy ⟨v', x0, y0, rfl, e2, hc⟩ e3 hT
    obtain ⟨o, ho, hro⟩ := pat hp hx
    obtain ⟨o2, ho2, hro2⟩ := pat hq hy
    unfold rats at ho ho2
    rw [List.getElem?_map] at ho ho2
    obtain ⟨m, hm, rfl⟩ := Option.map_eq_some_iff.mp ho
    obtain ⟨n, hn, rfl⟩ := Option.map_eq_some_iff.mp ho2
    have m1 := bx _ (List.mem_of_getElem? hm)
    have n1 := by_ _ (List.mem_of_getElem? hn)
    have hi := (List.getElem?_eq_some_iff.mp hm).1
    have d1 := dotI_le hl bx by_ i (by omega)
    have e23 := e2.trans e3
    have mn : (m * n).natAbs ≤ 1000 * 1000 := by rw [Int.natAbs_mul]; exact Nat.mul_le_mul m1 n1
    refine KA.g_gtup (SqT.of hT) rfl ?_
    repeat' (walk_at "s")
    refine ⟨_, _, _, _, rfl, hro.mono e23, hro2.mono e23, sz_le m1 (by decide +kernel), sz_le n1 (by decide +kernel), trivial, fun v4 H4 e4 h4 => ?_⟩
    repeat' (walk_at "s")
    have h4 : FrV K H4 v4 ((m * n : Int) : Rat) := by rw [Rat.intCast_mul]; exact h4
    refine ⟨_, _, _, _, rfl, (hc.mono e3).mono e4, h4, sz_le (b := 8 * (1000 * 1000)) (Nat.le_trans d1 (Nat.mul_le_mul_right _ (by omega))) (by decide +kernel), sz_le mn (by decide +kernel), trivial, fun v5 H5 e5 h5 => ?_⟩
    repeat' (walk_at "s")
    have h5 : FrV K H5 v5 ((dotI (xs.take i) (ys.take i) + m * n : Int) : Rat) := by rw [Rat.intCast_add]; exact h5
    exact ⟨_, _, _, rfl, (e23.trans e4).trans e5, by rw [dotI_take hm hn]; exact h5⟩
  · rintro σ H2 ⟨v', x0, y0, rfl, e2, hc⟩
    repeat' (walk_at "s")
    rw [lu, List.take_length, List.take_of_length_le (by omega)] at hc
    exact k _ _ e2 hc
def sp__law_fractions (K : PySem.W.Frag) : Sp := fun vs H Q _ => ∃ (a : Addr) (ns : List Int), vs = [.ref a] ∧ H a = some (.lst (ns.map V.int)) ∧ ns.length ≤ 1000 ∧ RetRow K (rats ns) H Q
theorem ok__law_fractions (T : Txt P K mg A) : FnOk P w K mg base CX0 1 A.f__law_fractions A.d__law_fractions ["numbers_here"] (sp__law_fractions K) := by
  refine T.F__law_fractions.ok sc__law_fractions (fun vs H Q E h => ?_) (fun cdv Ar outer s H vs Q E hr h => ?_)
  · obtain ⟨a, ns, rfl, _⟩ := h; rfl
  obtain ⟨a, ns, rfl, ha, hl, k⟩ := h
  refine ⟨_, (pss_one (ps_ret (pe_callTy KR.call_tup (by rfl) T.z_tuple (by decide +kernel) (pa_cons (pe_lc (own := [("number", 1)]) (g := gName 1) (tt := tYes) rfl sc__law_fractions.nd (pi_list (pv 0)) (blkOk_by (own := [("number", 1)]) (N := N__law_fractions) (sc := defScope s__law_fractions) (by decide +kernel)) (fun _ _ _ _ _ => (pg_name (i := 1) sc__law_fractions.nd rfl (Or.inl rfl))) (fun _ _ _ _ _ => pts_nil) (fun _ _ _ _ _ => (pe_tup (pa_cons (pv 1) (pa_cons pe_int pa_nil))))) pa_nil)))), ?_⟩
  show tRet _ _ [some (.ref a), none] H
  repeat' (walk_at "s")
  refine lcq_lst (FrV K) (fun i => (rats ns).take i) (SqL.of ha) rfl (fun D hD i z H3 hz h3 => ?_) (fun D H3 zs hD e3 hz3 hpz => ?_)
  · rw [List.getElem?_map] at hz
    obtain ⟨n, hn, rfl⟩ := Option.map_eq_some_iff.mp hz
    unfold LqTurn
    repeat' (walk_at "s")
    refine ⟨rfl, ?_⟩
    repeat' (walk_at "s")
    refine KA.g_ktup (show 2 ≤ 1000 by decide) fun q4 H4 hq4 e4 h4 => ?_
    exact lcq_end (fun _ _ _ _ e h => h.monoT e) hD h3 e4 (by rw [List.length_take]; unfold rats; rw [List.length_map]; omega) (take_map hn) (fr_int h4)
  · have lz : (ns.map V.int).length = (rats ns).length := by unfold rats; simp
    rw [lz, List.take_length] at hpz
    repeat' (walk_at "s")
    refine g_tupL hz3 fun q4 H4 hq4 e4 h4 => ?_
    exact k _ _ (e3.trans e4) ⟨q4, zs, rfl, h4, pimp (fun _ _ h => FrV.mono e4 h) hpz⟩
/-- what was sent, the latest first, zeros beyond -/
def back (xs : List Int) (t : Nat) : List Int := (List.range t).map fun k => xs.reverse.getD k 0
def sp__law_row (K : PySem.W.Frag) : Sp := fun vs H Q _ => ∃ (a : Addr) (ns : List Int) (t : Nat) (y : Int), vs = [.ref a, .int (t : Int), .int y] ∧ H a = some (.lst (ns.map V.int)) ∧ ns.length ≤ 1000 ∧ t ≤ 8 ∧ RetRow K (rats (back ns t ++ [y])) H Q
theorem at_back {ns : List Int} {i : Nat} (h : i < ns.length) : atI (ns.map V.int) (-1 - (i : Int)) = some (.int (ns.reverse.getD i 0)) := by
  unfold atI ixN
  rw [if_neg (by omega), List.length_map]
  rw [if_pos (by omega)]
  show (ns.map V.int)[_]? = _
  rw [List.getElem?_map, List.getD_eq_getElem?_getD, List.getElem?_reverse h]
  have : (-1 - (i : Int) + (ns.length : Int)).toNat = ns.length - 1 - i := by omega
  rw [this, List.getElem?_eq_getElem (show ns.length - 1 - i < ns.length by omega)]
  rfl
theorem ok__law_row (T : Txt P K mg A) : FnOk P w K mg base CX0 2 A.f__law_row A.d__law_row ["sent", "taps", "heard"] (sp__law_row K) := by
  refine T.F__law_row.ok sc__law_row (fun vs H Q E h => ?_) (fun cdv Ar outer s H vs Q E hr h => ?_)
  · obtain ⟨a, ns, t, y, rfl, _⟩ := h; rfl
  obtain ⟨a, ns, t, y, rfl, ha, hl, h8, k⟩ := h
  refine ⟨_, (pss_one (ps_ret (pe_call (ok__law_fractions T) (hr.mono (by decide)) (by rfl) T.m__law_fractions T.F__law_fractions.kp T.b__law_fractions .nil pass0 (pa_cons (pe_op op_cat (pe_lc (own := [("k", 3)]) (g := gName 3) (tt := tYes) rfl sc__law_row.nd (pi_range1 rfl T.z_range (pa_cons (pv 1) pa_nil)) (blkOk_by (own := [("k", 3)]) (N := N__law_row) (sc := defScope s__law_row) (by decide +kernel)) (fun _ _ _ _ _ => (pg_name (i := 3) sc__law_row.nd rfl (Or.inl rfl))) (fun _ _ _ _ _ => pts_nil) (fun _ _ _ _ _ => (pe_ifExp (pt_cmpR op_lt (pv 3) (pe_callB (KR.call_lnK (K := K) rfl) (by rfl) T.z_len (by decide +kernel) (pa_cons (pv 0) pa_nil)) (nomark _)) (pe_ix (KR.ix_listK (K := K) rfl) (pv 0) (pe_op op_sub (pe_un un_neg pe_int) (pv 3)) (fun _ _ => rfl)) pe_int))) (pe_lst (pa_cons (pv 2) pa_nil))) pa_nil)))), ?_⟩
  show tRet _ _ [some (.ref a), some (.int (t : Int)), some (.int y), none] H
  repeat' (walk_at "s")
  refine lcq_rng (fun _ v (n : Int) => v = .int n) (fun i => back ns i) ⟨by omega, by omega⟩ rfl (fun D hD i H2 hi h2 => ?_) (fun D H2 zs hD e2 hz hpz => ?_)
  · have ha2 := h2.1 _ _ ha
    have out : back ns (i + 1) = back ns i ++ [ns.reverse.getD i 0] := by unfold back; rw [List.range_succ, List.map_append]; rfl
    have len : (back ns i).length ≤ 100000 := by unfold back; rw [List.length_map, List.length_range]; omega
    unfold LqTurn
    repeat' (walk_at "s")
    refine ⟨rfl, ?_⟩
    repeat' (walk_at "s")
    refine KA.kB_d (fun hc => ?_) (fun hc => ?_)
    · rw [List.length_map] at hc
      repeat' (walk_at "s")
      refine ⟨a, _, _, _, rfl, rfl, SqL.of ha2, by rw [Int.zero_add]; exact at_back (by omega), ?_⟩
      exact lcq_end (fun _ _ _ _ _ h => h) hD h2 (Ex.refl _) len out rfl
    · rw [List.length_map] at hc
      repeat' (walk_at "s")
      refine lcq_end (fun _ _ _ _ _ h => h) hD h2 (Ex.refl _) len out ?_
      rw [List.getD_eq_getElem?_getD, List.getElem?_eq_none (by rw [List.length_reverse]; omega)]
      rfl
  · have zeq : zs = (back ns t).map V.int := by
      have : ∀ {l : List V} {m : List Int}, Paired (fun v (p : Int) => v = V.int p) l m → l = m.map V.int := by
        intro l m h
        induction h with
        | nil => rfl
        | cons r _ ih => rw [r, ih]; rfl
      exact this hpz
    subst zeq
    repeat' (walk_at "s")
    refine KA.g_klst (show 1 ≤ 1000 by decide) fun q3 H3 hq3 e3 h3 => ?_
    repeat' (walk_at "s")
    have lb : (back ns t).length = t := by unfold back; rw [List.length_map, List.length_range]
    refine g_cat (e3 _ _ hz) h3 (by rw [List.length_map, lb]; show _ + 1 ≤ 100000; omega) fun q4 H4 hq4 e4 h4 => ?_
    repeat' (walk_at "s")
    refine ⟨q4, back ns t ++ [y], rfl, by rw [h4, List.map_append]; rfl, by rw [List.length_append, lb]; show _ + 1 ≤ 1000; omega, fun v5 H5 e5 h5 => ?_⟩
    exact k _ _ (((e2.trans e3).trans e4).trans e5) h5
end
end K75
end
section
namespace K75
open PySem L2 Evl KX
/-! steps -/
local macro_rules | `(tactic| walk_at "nrm") => `(tactic| (((with_reducible refine' KA.g_nrm ?h ?k)); (case h => ((conv => lhs; simp only [List.set_cons_zero, List.set_cons_succ]); try exact rfl))))
local macro_rules | `(tactic| walk_at "nam") => `(tactic| (((with_reducible refine' KA.g_nameN ?h ?k)); (case h => ((conv => lhs; simp only [List.set_cons_zero, List.set_cons_succ]); try exact rfl))))
local macro_rules | `(tactic| walk_at "var") => `(tactic| (((with_reducible refine' KA.g_var ?h ?k)); (case h => exact rfl)))
local macro_rules | `(tactic| walk_at "aug") => `(tactic| (((with_reducible refine' KA.g_aug ?h ?k)); (case h => exact rfl)))
local macro_rules | `(tactic| walk_at "mul") => `(tactic| ((with_reducible refine KA.g_I (C := CMul) ?h ?k); (case h => first | exact KA.cmul_l (by omega) (by omega) | exact KA.cmul_r (by omega) (by omega))))
local macro_rules | `(tactic| walk_at "dv") => `(tactic| ((with_reducible refine KA.g_I (C := KA.CDv) ?h ?k); (case h => exact ⟨by omega, by omega⟩)))
local macro_rules | `(tactic| walk_at "mod") => `(tactic| ((with_reducible refine KA.g_I (C := fun _ j => 0 < j) ?h ?k); (case h => omega)))
local macro_rules | `(tactic| walk_at "s") => `(tactic| first
  | walk_at "nrm"
  | with_reducible refine KA.g_seq ?_
  | with_reducible refine KA.g_asg ?_
  | walk_at "nam"
  | with_reducible refine KA.g_yes ?_
  | with_reducible refine KA.g_ifs ?_
  | with_reducible refine KA.g_ret ?_
  | with_reducible refine KA.g_retN ?_
  | with_reducible refine KA.g_drop ?_
  | with_reducible refine KA.g_next ?_
  | with_reducible refine KA.g_brk ?_
  | with_reducible refine KA.g_par ?_
  | with_reducible refine KA.g_par3 ?_
  | with_reducible refine KA.g_kpar ?_
  | with_reducible refine KA.g_kpar3 ?_
  | with_reducible refine KA.g_op ?_
  | walk_at "var"
  | with_reducible refine KA.g_c ?_
  | with_reducible refine KA.g_I0 ?_
  | with_reducible refine KA.g_eqi ?_
  | with_reducible refine KA.g_nei ?_
  | with_reducible refine KA.g_test ?_
  | with_reducible refine KA.g_kbl ?_
  | with_reducible refine KA.g_cons ?_
  | with_reducible refine KA.g_nil ?_
  | with_reducible refine KA.g_cb ?_
  | with_reducible refine KA.g_call ?_
  | with_reducible refine KA.g_tb ?_
  | with_reducible refine KA.g_not ?_
  | with_reducible refine KA.g_and ?_
  | with_reducible refine KA.g_or ?_
  | with_reducible refine KA.g_if ?_
  | with_reducible refine KA.g_andV ?_
  | with_reducible refine KA.g_orV ?_
  | with_reducible refine KA.g_notV ?_
  | with_reducible refine KA.g_kbv ?_
  | with_reducible refine KA.g_ex1 ?_
  | with_reducible refine KA.g_chain ?_
  | with_reducible refine KA.g_fld ?_
  | with_reducible refine KA.g_un ?_
  | with_reducible refine KA.g_U ?_
  | with_reducible refine KA.g_tup ?_
  | with_reducible refine KA.g_lst ?_
  | walk_at "mul"
  | walk_at "dv"
  | walk_at "mod"
  | walk_at "aug"
  | with_reducible refine KA.g_ipi ?_
  | with_reducible refine KA.g_gcons ?_
  | with_reducible refine KA.g_gnil ?_
  | with_reducible refine KA.kB_t ?_
  | with_reducible refine KA.kB_f ?_
  | with_reducible refine KA.kB_nn ?_
  | with_reducible refine KA.ite_kB ?_
  | ((with_reducible refine' KA.g_ixT0 ?h ?k); (case h => exact L2.SqT.of (by assumption)))
  | ((with_reducible refine' KA.g_ixT1 ?h ?k); (case h => exact L2.SqT.of (by assumption)))
  | with_reducible refine KA.g_lct ?_
  | with_reducible refine KA.g_lcl ?_
  | with_reducible refine KA.g_lcr ?_
  | with_reducible refine KA.g_sl ?_
  | with_reducible refine KA.g_nop ?_
  | with_reducible refine KA.g_part ?_
  | with_reducible refine KA.g_exi ?_
  | with_reducible refine KA.g_eqs ?_
  | with_reducible refine KA.g_nes ?_
  | with_reducible refine KA.g_isN_i ?_
  | with_reducible refine KA.g_isN_n ?_
  | with_reducible refine KA.g_isN_r ?_
  | with_reducible refine KA.g_abs ?_
  | with_reducible refine KA.g_mx ?_
  | with_reducible refine KA.g_mn ?_
  | with_reducible refine KA.g_int ?_
  | with_reducible refine KA.g_intb ?_
  | with_reducible refine KA.g_isi_ii ?_
  | with_reducible refine KA.g_isi_ib ?_
  | with_reducible refine KA.g_isi_ss ?_
  | ((with_reducible refine' KA.g_isi_tt ?h ?k); (case h => assumption))
  | ((with_reducible refine' KA.g_lnL ?h ?k); (case h => assumption))
  | ((with_reducible refine' KA.g_lnT ?h ?k); (case h => assumption)))
local macro_rules | `(tactic| walk_at "s") => `(tactic| first
  | walk_at "mulW"
  | ((with_reducible refine' KA.g_ixT0 ?h ?k); (case h => assumption))
  | ((with_reducible refine' KA.g_ixT1 ?h ?k); (case h => assumption))
  | with_reducible refine KR.g_lcz ?_
  | with_reducible refine KR.g_lck ?_
  | with_reducible refine KR.g_forZ ?_
  | with_reducible refine KR.g_forK ?_
  | with_reducible refine KT.g_forR ?_
  | with_reducible refine KW.g_for ?_
  | with_reducible refine KR.g_sfld ?_
  | with_reducible refine KR.g_mth ?_
  | with_reducible refine KR.g_make ?_
  | fail)
local macro_rules | `(tactic| walk_at "s") => `(tactic| first
  | with_reducible refine KW.g_put ?_
  | with_reducible refine KW.g_sub ?_
  | with_reducible refine KW.g_bm0 ?_
  | ((with_reducible refine' KT.s_L ?h ?k); (case h => assumption))
  | ((with_reducible refine' KT.s_R ?h ?k); (case h => assumption))
  | ((with_reducible refine' KT.s_C ?h ?k); (case h => assumption))
  | ((with_reducible refine' KT.s_T ?h ?k); (case h => assumption))
  | ((with_reducible refine' KT.g_pw ?h ?h2 ?k); (case h => exact ⟨by omega, by omega⟩); (case h2 => exact ⟨by omega, by omega⟩))
  | with_reducible refine KT.g_bm ?_
  | with_reducible refine KT.g_pairs ?_
  | with_reducible refine KT.g_pairs0 ?_
  | fail)
section
variable {P : Program} {w : World} {K : PySem.W.Frag} {mg : Str → Option Value} {base : Heap} {A : Adr}
open KR
def addm (F R : List Rat) (s : Rat) : List Rat := List.zipWith (fun f q => f + s * q) F R
theorem addm_at {F R : List Rat} {s f q : Rat} {i : Nat} (h1 : F[i]? = some f) (h2 : R[i]? = some q) : (addm F R s)[i]? = some (f + s * q) := by
  unfold addm
  rw [List.getElem?_zipWith, h1, h2]
theorem addm_len {F R : List Rat} {s : Rat} (h : R.length = F.length) : (addm F R s).length = F.length := by unfold addm; rw [List.length_zipWith]; omega
theorem addm_one {w : Nat} {r : List Rat} (h : r.length = w) : addm (List.replicate w 0) r 1 = r := by
  subst h
  unfold addm
  refine List.ext_getElem (by rw [List.length_zipWith, List.length_replicate]; omega) fun i a b => ?_
  rw [List.getElem_zipWith, List.getElem_replicate, Rat.one_mul, Rat.zero_add]
theorem addm_sub {r o : List Rat} {c : Rat} : addm r o (-c) = subm r o c := by
  unfold addm subm
  congr 1
  funext x y
  grind
/-- the sum so far -/
def sumS (w : Nat) (r o : List Rat) (c : Rat) : Nat → List Rat
  | 0 => List.replicate w 0
  | 1 => r
  | _ => subm r o c
def sp__law_summed (K : PySem.W.Frag) : Sp := fun vs H Q _ => ∃ (n : Nat) (a b : Addr) (v1 v2 s1 s2 : V) (r o : List Rat) (c : Rat), vs = [.int (n : Int), .ref a, .ref b] ∧ H a = some (.lst [v1, v2]) ∧ H b = some (.lst [s1, s2]) ∧ RowV K H v1 r ∧ RowV K H v2 o ∧ FrV K H s1 1 ∧ FrV K H s2 (-c) ∧
  r.length = n ∧ o.length = n ∧ 1 ≤ n ∧ n ≤ 9 ∧ (∀ q ∈ r, Sz 1060 q) ∧ (∀ q ∈ o, Sz 1060 q) ∧ Sz 1060 c ∧ RetRow K (subm r o c) H Q
theorem sz_neg {b : Nat} {q : Rat} (h : Sz b q) : Sz b (-q) := ⟨by rw [Rat.neg_num, Int.natAbs_neg]; exact h.1, by rw [Rat.neg_den]; exact h.2⟩
theorem sz_01 : Sz 1060 (0 : Rat) ∧ Sz 1060 (1 : Rat) := ⟨⟨by decide +kernel, by decide +kernel⟩, ⟨by decide +kernel, by decide +kernel⟩⟩
theorem rep_row {H : Hp} {p q : Addr} {n : Nat} (h : H p = some (.tup (List.replicate n [V.ref q]).flatten)) (hq : FrV K H (.ref q) 0) : RowV K H (.ref p) (List.replicate n 0) := by
  refine ⟨p, _, rfl, h, ?_⟩
  clear h
  induction n with
  | zero => exact .nil
  | succ n ih => rw [List.replicate_succ, List.flatten_cons, List.replicate_succ]; exact .cons hq ih
theorem ok__law_summed (T : Txt P K mg A) : FnOk P w K mg base CX0 4 A.f__law_summed A.d__law_summed ["wide", "rows", "shares"] (sp__law_summed K) := by
  refine T.F__law_summed.ok sc__law_summed (fun vs H Q E h => ?_) (fun cdv Ar outer s H vs Q E hr h => ?_)
  · obtain ⟨n, a, b, v1, v2, s1, s2, r, o, c, rfl, _⟩ := h; rfl
  obtain ⟨n, a, b, v1, v2, s1, s2, r, o, c, rfl, ha, hb, hv1, hv2, hs1, hs2, lr, lo, n1, n9, zr, zo, zc, k⟩ := h
  refine ⟨_, (pss_cons (ps_set (i := 3) sc__law_summed.nd rfl (Or.inl rfl) (pe_op KU.op_repA (pe_tup (pa_cons (pe_tup (pa_cons pe_int (pa_cons pe_int pa_nil))) pa_nil)) (pv 0)))
  (pss_cons (ps_for PassesOwn.never rfl (RZ.pi_zipA rfl T.z_zip (pa_cons (pv 1) (pa_cons (pv 2) pa_nil))) (pg_tup rfl (pgs_cons (pg_name (i := 4) sc__law_summed.nd rfl (Or.inl rfl)) (pgs_cons (pg_name (i := 5) sc__law_summed.nd rfl (Or.inr rfl)) pgs_nil))) (pss_one (ps_set (i := 3) sc__law_summed.nd rfl (Or.inl rfl) (pe_callTy KR.call_tup (by rfl) T.z_tuple (by decide +kernel) (pa_cons (pe_lc (own := [("one", 6), ("two", 7)]) (g := gTup K 2 (gCons (gName 6) (gCons (gName 7) gNil))) (tt := tYes) rfl sc__law_summed.nd (RZ.pi_zipA rfl T.z_zip (pa_cons (pv 3) (pa_cons (pv 4) pa_nil))) (blkOk_by (own := [("one", 6), ("two", 7)]) (N := N__law_summed) (sc := defScope s__law_summed) (by decide +kernel)) (fun _ _ _ _ _ => (pg_tup rfl (pgs_cons (pg_name (i := 6) sc__law_summed.nd rfl (Or.inl rfl)) (pgs_cons (pg_name (i := 7) sc__law_summed.nd rfl (Or.inl rfl)) pgs_nil)))) (fun _ _ _ _ _ => pts_nil) (fun _ _ _ _ _ => (pe_call (ok__law_plus T) (hr.mono (by decide)) (by rfl) T.m__law_plus T.F__law_plus.kp T.b__law_plus .nil pass0 (pa_cons (pv 6) (pa_cons (pe_call (ok__law_times T) (hr.mono (by decide)) (by rfl) T.m__law_times T.F__law_times.kp T.b__law_times .nil pass0 (pa_cons (pv 5) (pa_cons (pv 7) pa_nil))) pa_nil))))) pa_nil)))))
  (pss_one (ps_ret (pv 3))))), ?_⟩
  show tSeq _ _ _ [some (.int (n : Int)), some (.ref a), some (.ref b), none, none, none, none, none] H
  repeat' (walk_at "s")
  refine KA.g_ktup (show 2 ≤ 1000 by decide) fun q1 H1 hq1 e1 h1 => ?_
  repeat' (walk_at "s")
  refine KA.g_ktup (show 1 ≤ 1000 by decide) fun q2 H2 hq2 e2 h2 => ?_
  repeat' (walk_at "s")
  refine g_repA (SqT.of h2) (List.cons_ne_nil _ _) (by omega) (by omega) (by show 1 ≤ 1000; decide) h2 fun p H3 e3 h3 => ?_
  repeat' (walk_at "s")
  have e13 := (e1.trans e2).trans e3
  have h0 : RowV K H3 (.ref p) (List.replicate n 0) := rep_row (by rw [h3]; congr 3) (fr_new (e3 _ _ (e2 _ _ h1)))
  refine forZ_L (fun i σ H' => ∃ v' x y x2 y2, σ = [some (.int (n : Int)), some (.ref a), some (.ref b), some v', x, y, x2, y2] ∧ Ex H3 H' ∧ RowV K H' v' (sumS n r o c i)) (SqL.of (e13 _ _ ha)) (SqL.of (e13 _ _ hb)) rfl ⟨_, _, _, _, _, rfl, Ex.refl _, h0⟩
    (fun i σ H' ⟨_, _, _, _, _, _, e, _⟩ => ⟨SqL.of (e _ _ (e13 _ _ ha)), SqL.of (e _ _ (e13 _ _ hb))⟩) ?_ ?_
  · rintro i x y Tt σ H4 H5 hx hy ⟨v', x0, y0, x20, y20, rfl, e4, hc⟩ e5 hT
    obtain ⟨R, sh, hR, hsh, hxR, hyS, zR, zS, lF, eS, zF⟩ : ∃ (R : List Rat) (sh : Rat), R.length = n ∧ True ∧ RowV K H x R ∧ FrV K H y sh ∧ (∀ q ∈ R, Sz 1060 q) ∧ Sz 1060 sh ∧ (sumS n r o c i).length = n ∧ sumS n r o c (i + 1) = addm (sumS n r o c i) R sh ∧ ∀ q ∈ sumS n r o c i, Sz 1060 q := by
      match i, hx, hy with
      | 0, hx, hy =>
        cases hx; cases hy
        exact ⟨r, 1, lr, trivial, hv1, hs1, zr, sz_01.2, List.length_replicate, (addm_one lr).symm, fun q hq => by rw [(List.mem_replicate.mp hq).2]; exact sz_01.1⟩
      | 1, hx, hy =>
        cases hx; cases hy
        exact ⟨o, -c, lo, trivial, hv2, hs2, zo, sz_neg zc, lr, addm_sub.symm, zr⟩
    have ex5 := (e13.trans e4).trans e5
    obtain ⟨px, xs, rfl, hpx, hxs⟩ := hxR.mono ex5
    obtain ⟨pf, fs, rfl, hpf, hfs⟩ := hc.mono e5
    have hyS5 := hyS.mono ex5
    refine KA.g_gtup (SqT.of hT) rfl ?_
    repeat' (walk_at "s")
    refine lcq_zipT (FrV K) (fun j => (addm (sumS n r o c i) R sh).take j) (SqT.of hpf) (SqT.of hpx) (by rw [hfs.length, hxs.length, lF, hR]) rfl (fun D hD j c1 d1 T1 H6 H7 hc1 hd1 h6 e7 hT1 => ?_) (fun D H6 ws hD e6 hw hpw => ?_)
    · obtain ⟨f, hf1, ff⟩ := pat hfs hc1
      obtain ⟨q, hq1, fq⟩ := pat hxs hd1
      have e67 := h6.1.trans e7
      have len : ((addm (sumS n r o c i) R sh).take j).length ≤ 100000 := by rw [List.length_take, addm_len (by omega)]; omega
      have sf := zF _ (List.mem_of_getElem? hf1)
      have sq := zR _ (List.mem_of_getElem? hq1)
      unfold LqTurn
      refine KA.g_gtup (SqT.of hT1) rfl ?_
      repeat' (walk_at "s")
      refine ⟨rfl, ?_⟩
      repeat' (walk_at "s")
      refine ⟨_, _, sh, q, rfl, hyS5.mono e67, fq.mono e67, sz22 zS, sz22 sq, trivial, fun v H8 e8 hv => ?_⟩
      repeat' (walk_at "s")
      refine ⟨_, _, f, sh * q, rfl, (ff.mono e67).mono e8, hv, sz22 sf, sz22m zS sq, trivial, fun v9 H9 e9 hv9 => ?_⟩
      exact lcq_end (fun _ _ _ _ e h => h.monoT e) hD h6 ((e7.trans e8).trans e9) len (take_snoc (addm_at hf1 hq1)) hv9
    · repeat' (walk_at "s")
      refine g_tupL hw fun q H7 hq7 e7 h7 => ?_
      repeat' (walk_at "s")
      refine ⟨_, _, _, _, _, rfl, ((e4.trans e5).trans e6).trans e7, q, ws, rfl, h7, pimp (fun _ _ h => FrV.mono e7 h) ?_⟩
      have el : fs.length = (addm (sumS n r o c i) R sh).length := by rw [addm_len (by omega), hfs.length]
      rw [el, List.take_length] at hpw
      rw [eS]
      exact hpw
  · rintro σ H4 ⟨v', x0, y0, x20, y20, rfl, e4, hc⟩
    repeat' (walk_at "s")
    exact k _ _ (e13.trans e4) hc
def sp__law_lesser (K : PySem.W.Frag) : Sp := fun vs H Q _ => ∃ (d : Addr) (v : V) (r : List Rat) (L : LRd) (n : Nat), vs = [.ref d, v] ∧ DRow K H d L ∧ RowV K H v r ∧ r.length = n ∧ 1 ≤ n ∧ n ≤ 9 ∧ Len n L ∧ KeysNe L ∧ (∀ z ∈ L, z.1 < n) ∧ (∀ z ∈ L, ∀ q ∈ z.2, Sz 1060 q) ∧
  (∀ i, i < L.length → ∀ q ∈ clrL (L.take i) r, Sz 1060 q) ∧ RetRow K (clrL L r) H Q
theorem clrL_snoc {L : LRd} {r : List Rat} {z : Nat × List Rat} : clrL (L ++ [z]) r = subm (clrL L r) z.2 (vec (clrL L r) z.1) := by
  unfold clrL
  rw [List.foldl_append]
  rfl
theorem ok__law_lesser (T : Txt P K mg A) : FnOk P w K mg base CX0 5 A.f__law_lesser A.d__law_lesser ["rows", "row"] (sp__law_lesser K) := by
  refine T.F__law_lesser.ok sc__law_lesser (fun vs H Q E h => ?_) (fun cdv Ar outer s H vs Q E hr h => ?_)
  · obtain ⟨d, v, r, L, n, rfl, _⟩ := h; rfl
  obtain ⟨d, v, r, L, n, rfl, ⟨kvs, hd, hkv⟩, hv, lr, n1, n9, len, ne, klt, zL, zr, k⟩ := h
  refine ⟨_, (pss_cons (ps_lock (ps_for PassesOwn.never rfl (pi_keys (pv 0)) (pg_name (i := 2) sc__law_lesser.nd rfl (Or.inl rfl)) (pss_one (ps_set (i := 1) sc__law_lesser.nd rfl (Or.inl rfl) (pe_call (ok__law_summed T) (hr.mono (by decide)) (by rfl) T.m__law_summed T.F__law_summed.kp T.b__law_summed .nil pass0 (pa_cons (pe_callB KA.call_ln (by rfl) T.z_len (by decide +kernel) (pa_cons (pv 1) pa_nil)) (pa_cons (pe_lst (pa_cons (pv 1) (pa_cons (pe_dget (hu_of hr) (pv 0) (pv 2) (fun _ _ => rfl)) pa_nil))) (pa_cons (pe_lst (pa_cons (pe_tup (pa_cons pe_int (pa_cons pe_int pa_nil))) (pa_cons (pe_tup (pa_cons (pe_op op_sub pe_int (pe_ix (KR.ix_tupK (K := K) rfl) (pe_ix (KR.ix_tupK (K := K) rfl) (pv 1) (pv 2) (fun _ _ => rfl)) pe_int (fun _ _ => rfl))) (pa_cons (pe_ix (KR.ix_tupK (K := K) rfl) (pe_ix (KR.ix_tupK (K := K) rfl) (pv 1) (pv 2) (fun _ _ => rfl)) pe_int (fun _ _ => rfl)) pa_nil))) pa_nil))) pa_nil))))))))
  (pss_one (ps_ret (pv 1)))), ?_⟩
  show tSeq _ _ _ [some (.ref d), some v, none] H
  have lk : kvs.length = L.length := hkv.length
  refine KA.g_seq ?_
  refine g_lock hd trivial fun od => ?_
  repeat' (walk_at "s")
  have hHL : (upd H d (.frz od (.dK kvs))) d = some (.frz od (.dK kvs)) := upd_same
  refine forK (fun i σ H' => ∃ v' x, σ = [some (.ref d), some v', x] ∧ Ex (upd H d (.frz od (.dK kvs))) H' ∧ RowV K H' v' (clrL (L.take i) r)) hHL ⟨v, _, rfl, Ex.refl _, row_upd hd noT_dk hv⟩
    (fun i σ H' ⟨_, _, _, e, _⟩ => e _ _ hHL) ?_ ?_
  · rintro i kk vv σ H1 hi ⟨v', x0, rfl, e1, hc⟩
    obtain ⟨z, hz, ek, hrow⟩ := patG hkv hi
    have ek : kk = kN z.1 := ek
    subst ek
    have mz := List.mem_of_getElem? hz
    have iL := (List.getElem?_eq_some_iff.mp hz).1
    have lc : (clrL (L.take i) r).length = n := clrL_len (fun y hy => len y (List.mem_of_mem_take hy)) lr
    have zz := klt z mz
    obtain ⟨q, hq⟩ : ∃ q, (clrL (L.take i) r)[z.1]? = some q := ⟨_, List.getElem?_eq_some_iff.mpr ⟨by omega, rfl⟩⟩
    have sq := zr i iL q (List.mem_of_getElem? hq)
    obtain ⟨pc, ws, rfl, hpc, hws⟩ := id hc
    obtain ⟨vq, hvq, fvq⟩ := paired_get hws hq
    obtain ⟨v2, hv2, rv2⟩ := val_rowk hkv ne mz
    have rv2' := (row_upd (o' := .frz od (.dK kvs)) hd noT_dk rv2).mono e1
    obtain ⟨aq, rfl, hqt⟩ := fvq
    have lws : ws.length = n := by rw [hws.length]; exact lc
    unfold kV
    repeat' (walk_at "s")
    refine g_ksubF (k := kN z.1) (e1 _ _ hHL) hv2 ?_
    repeat' (walk_at "s")
    refine KA.g_klst (show 2 ≤ 1000 by decide) fun p1 H2 hp1 e2 h2 => ?_
    repeat' (walk_at "s")
    refine KA.g_ktup (show 2 ≤ 1000 by decide) fun p2 H3 hp2 e3 h3 => ?_
    repeat' (walk_at "s")
    have ex3 := e2.trans e3
    refine KA.g_ixT (SqT.of (ex3 _ _ hpc)) hvq ?_
    have hqt3 := ex_t ex3 hqt
    repeat' (walk_at "s")
    refine KA.g_ixT (SqT.of (ex3 _ _ hpc)) hvq ?_
    repeat' (walk_at "s")
    refine KA.g_ktup (show 2 ≤ 1000 by decide) fun p4 H4 hp4 e4 h4 => ?_
    repeat' (walk_at "s")
    refine KA.g_klst (show 2 ≤ 1000 by decide) fun p5 H5 hp5 e5 h5 => ?_
    repeat' (walk_at "s")
    have e15 := ((ex3.trans e4).trans e5)
    refine ⟨n, p1, p5, _, _, _, _, clrL (L.take i) r, z.2, q, (by rw [lws]; rfl), (e5 _ _ (e4 _ _ (e3 _ _ h2))), h5, hc.mono e15, rv2'.mono e15, ⟨p2, rfl, SqT.of (e5 _ _ (e4 _ _ h3))⟩, ⟨p4, rfl, ?_⟩, lc, len z mz, n1, n9, zr i iL, zL z mz, sq, fun v6 H6 e6 h6 => ?_⟩
    · have := e5 _ _ h4
      rw [Rat.neg_num, Rat.neg_den, ← Int.zero_sub]
      exact SqT.of this
    · repeat' (walk_at "s")
      refine ⟨_, _, rfl, (e1.trans e15).trans e6, ?_⟩
      rw [take_snoc hz, clrL_snoc, vec_lt hq]
      exact h6
  · rintro σ H1 ⟨v', x0, rfl, e1, hc⟩
    have h1 := e1 _ _ hHL
    refine ⟨h1, ?_⟩
    repeat' (walk_at "s")
    rw [lk, List.take_length] at hc
    exact k _ _ (ex_unlock hd e1) (row_upd h1 noT_fdk hc)
end
end K75
end
section
namespace K75
open PySem L2 Evl KX
/-! steps -/
local macro_rules | `(tactic| walk_at "nrm") => `(tactic| (((with_reducible refine' KA.g_nrm ?h ?k)); (case h => ((conv => lhs; simp only [List.set_cons_zero, List.set_cons_succ]); try exact rfl))))
local macro_rules | `(tactic| walk_at "nam") => `(tactic| (((with_reducible refine' KA.g_nameN ?h ?k)); (case h => ((conv => lhs; simp only [List.set_cons_zero, List.set_cons_succ]); try exact rfl))))
local macro_rules | `(tactic| walk_at "var") => `(tactic| (((with_reducible refine' KA.g_var ?h ?k)); (case h => exact rfl)))
local macro_rules | `(tactic| walk_at "aug") => `(tactic| (((with_reducible refine' KA.g_aug ?h ?k)); (case h => exact rfl)))
local macro_rules | `(tactic| walk_at "mul") => `(tactic| ((with_reducible refine KA.g_I (C := CMul) ?h ?k); (case h => first | exact KA.cmul_l (by omega) (by omega) | exact KA.cmul_r (by omega) (by omega))))
local macro_rules | `(tactic| walk_at "dv") => `(tactic| ((with_reducible refine KA.g_I (C := KA.CDv) ?h ?k); (case h => exact ⟨by omega, by omega⟩)))
local macro_rules | `(tactic| walk_at "mod") => `(tactic| ((with_reducible refine KA.g_I (C := fun _ j => 0 < j) ?h ?k); (case h => omega)))
local macro_rules | `(tactic| walk_at "s") => `(tactic| first
  | walk_at "nrm"
  | with_reducible refine KA.g_seq ?_
  | with_reducible refine KA.g_asg ?_
  | walk_at "nam"
  | with_reducible refine KA.g_yes ?_
  | with_reducible refine KA.g_ifs ?_
  | with_reducible refine KA.g_ret ?_
  | with_reducible refine KA.g_retN ?_
  | with_reducible refine KA.g_drop ?_
  | with_reducible refine KA.g_next ?_
  | with_reducible refine KA.g_brk ?_
  | with_reducible refine KA.g_par ?_
  | with_reducible refine KA.g_par3 ?_
  | with_reducible refine KA.g_kpar ?_
  | with_reducible refine KA.g_kpar3 ?_
  | with_reducible refine KA.g_op ?_
  | walk_at "var"
  | with_reducible refine KA.g_c ?_
  | with_reducible refine KA.g_I0 ?_
  | with_reducible refine KA.g_eqi ?_
  | with_reducible refine KA.g_nei ?_
  | with_reducible refine KA.g_test ?_
  | with_reducible refine KA.g_kbl ?_
  | with_reducible refine KA.g_cons ?_
  | with_reducible refine KA.g_nil ?_
  | with_reducible refine KA.g_cb ?_
  | with_reducible refine KA.g_call ?_
  | with_reducible refine KA.g_tb ?_
  | with_reducible refine KA.g_not ?_
  | with_reducible refine KA.g_and ?_
  | with_reducible refine KA.g_or ?_
  | with_reducible refine KA.g_if ?_
  | with_reducible refine KA.g_andV ?_
  | with_reducible refine KA.g_orV ?_
  | with_reducible refine KA.g_notV ?_
  | with_reducible refine KA.g_kbv ?_
  | with_reducible refine KA.g_ex1 ?_
  | with_reducible refine KA.g_chain ?_
  | with_reducible refine KA.g_fld ?_
  | with_reducible refine KA.g_un ?_
  | with_reducible refine KA.g_U ?_
  | with_reducible refine KA.g_tup ?_
  | with_reducible refine KA.g_lst ?_
  | walk_at "mul"
  | walk_at "dv"
  | walk_at "mod"
  | walk_at "aug"
  | with_reducible refine KA.g_ipi ?_
  | with_reducible refine KA.g_gcons ?_
  | with_reducible refine KA.g_gnil ?_
  | with_reducible refine KA.kB_t ?_
  | with_reducible refine KA.kB_f ?_
  | with_reducible refine KA.kB_nn ?_
  | with_reducible refine KA.ite_kB ?_
  | ((with_reducible refine' KA.g_ixT0 ?h ?k); (case h => exact L2.SqT.of (by assumption)))
  | ((with_reducible refine' KA.g_ixT1 ?h ?k); (case h => exact L2.SqT.of (by assumption)))
  | with_reducible refine KA.g_lct ?_
  | with_reducible refine KA.g_lcl ?_
  | with_reducible refine KA.g_lcr ?_
  | with_reducible refine KA.g_sl ?_
  | with_reducible refine KA.g_nop ?_
  | with_reducible refine KA.g_part ?_
  | with_reducible refine KA.g_exi ?_
  | with_reducible refine KA.g_eqs ?_
  | with_reducible refine KA.g_nes ?_
  | with_reducible refine KA.g_isN_i ?_
  | with_reducible refine KA.g_isN_n ?_
  | with_reducible refine KA.g_isN_r ?_
  | with_reducible refine KA.g_abs ?_
  | with_reducible refine KA.g_mx ?_
  | with_reducible refine KA.g_mn ?_
  | with_reducible refine KA.g_int ?_
  | with_reducible refine KA.g_intb ?_
  | with_reducible refine KA.g_isi_ii ?_
  | with_reducible refine KA.g_isi_ib ?_
  | with_reducible refine KA.g_isi_ss ?_
  | ((with_reducible refine' KA.g_isi_tt ?h ?k); (case h => assumption))
  | ((with_reducible refine' KA.g_lnL ?h ?k); (case h => assumption))
  | ((with_reducible refine' KA.g_lnT ?h ?k); (case h => assumption)))
local macro_rules | `(tactic| walk_at "s") => `(tactic| first
  | walk_at "mulW"
  | ((with_reducible refine' KA.g_ixT0 ?h ?k); (case h => assumption))
  | ((with_reducible refine' KA.g_ixT1 ?h ?k); (case h => assumption))
  | with_reducible refine KR.g_lcz ?_
  | with_reducible refine KR.g_lck ?_
  | with_reducible refine KR.g_forZ ?_
  | with_reducible refine KR.g_forK ?_
  | with_reducible refine KT.g_forR ?_
  | with_reducible refine KW.g_for ?_
  | with_reducible refine KR.g_sfld ?_
  | with_reducible refine KR.g_mth ?_
  | with_reducible refine KR.g_make ?_
  | fail)
local macro_rules | `(tactic| walk_at "s") => `(tactic| first
  | with_reducible refine KW.g_put ?_
  | with_reducible refine KW.g_sub ?_
  | with_reducible refine KW.g_bm0 ?_
  | ((with_reducible refine' KT.s_L ?h ?k); (case h => assumption))
  | ((with_reducible refine' KT.s_R ?h ?k); (case h => assumption))
  | ((with_reducible refine' KT.s_C ?h ?k); (case h => assumption))
  | ((with_reducible refine' KT.s_T ?h ?k); (case h => assumption))
  | ((with_reducible refine' KT.g_pw ?h ?h2 ?k); (case h => exact ⟨by omega, by omega⟩); (case h2 => exact ⟨by omega, by omega⟩))
  | with_reducible refine KT.g_bm ?_
  | with_reducible refine KT.g_pairs ?_
  | with_reducible refine KT.g_pairs0 ?_
  | fail)
section
variable {P : Program} {w : World} {K : PySem.W.Frag} {mg : Str → Option Value} {base : Heap} {A : Adr}
open KR
def sp__law_reduced (K : PySem.W.Frag) : Sp := fun vs H Q _ => ∃ (a : Addr) (us : List V) (rows : List (List Rat)) (t : Nat), vs = [.int ((t : Int) + 1), .ref a] ∧ H a = some (.lst us) ∧ Paired (RowV K H) us rows ∧ (∀ r ∈ rows, SmR t r) ∧ 1 ≤ t ∧ t ≤ 8 ∧ ∀ d H', Ex H H' → DRow K H' d (allL (t + 1) rows) → Q (.ref d) H'
def placesN (w : Nat) (r : List Rat) : List Nat := (List.range w).filter fun j => !decide (vec r j = 0)
theorem places_fst {w : Nat} {r : List Rat} : (placesN w r).head? = fst w (vec r) := by
  unfold placesN fst
  rw [List.head?_filter]
  congr 1
  funext j
  by_cases h : vec r j = 0 <;> simp [h]
theorem allL_snoc {w : Nat} {rows : List (List Rat)} {r : List Rat} : allL w (rows ++ [r]) = stepL w (allL w rows) r := by unfold allL; rw [List.foldl_append]; rfl
theorem eqN : ∀ {l : List V} {m : List Nat}, Paired (fun v (p : Nat) => v = V.int (p : Int)) l m → l = (m.map fun (p : Nat) => (p : Int)).map V.int
  | _, _, .nil => rfl
  | _, _, .cons r rs => by rw [r, eqN rs]; rfl
theorem oneL_at {r : List Rat} {p i : Nat} {q : Rat} (h : r[i]? = some q) : (oneL r p)[i]? = some (q * (vec r p)⁻¹) := by unfold oneL; rw [List.getElem?_map, h]; rfl
theorem inv_div (q : Rat) : Rat.divInt (q.den : Int) q.num = q⁻¹ := by rw [Rat.inv_def]
theorem ok__law_reduced (T : Txt P K mg A) : FnOk P w K mg base CX0 6 A.f__law_reduced A.d__law_reduced ["wide", "several"] (sp__law_reduced K) := by
  refine T.F__law_reduced.ok sc__law_reduced (fun vs H Q E h => ?_) (fun cdv Ar outer s H vs Q E hr h => ?_)
  · obtain ⟨a, us, rows, t, rfl, _⟩ := h; rfl
  obtain ⟨a, us, rows, t, rfl, ha, hp, sm, t1, t8, k⟩ := h
  refine ⟨_, (pss_cons (ps_set (i := 2) sc__law_reduced.nd rfl (Or.inr rfl) pe_dnewK)
  (pss_cons (ps_for PassesOwn.never rfl (pi_list (pv 1)) (pg_name (i := 3) sc__law_reduced.nd rfl (Or.inl rfl)) (pss_cons (ps_set (i := 4) sc__law_reduced.nd rfl (Or.inr rfl) (pe_call (ok__law_lesser T) (hr.mono (by decide)) (by rfl) T.m__law_lesser T.F__law_lesser.kp T.b__law_lesser .nil pass0 (pa_cons (pv 2) (pa_cons (pv 3) pa_nil))))
  (pss_cons (ps_setLc (i := 5) (own := [("place", 6)]) (g := gName 6) rfl sc__law_reduced.nd rfl rfl rfl (pi_range1 rfl T.z_range (pa_cons (pv 0) pa_nil)) (blkOk_by (own := [("place", 6)]) (N := N__law_reduced) (sc := defScope s__law_reduced) (by decide +kernel)) (fun _ _ _ _ _ => (pg_name (i := 6) sc__law_reduced.nd rfl (Or.inl rfl))) (fun _ _ _ _ _ => (pts_one (pt_cmpR (KR.op_neK (K := K) rfl (by exact hr.units)) (pe_ix (KR.ix_tupK (K := K) rfl) (pv 4) (pv 6) (fun _ _ => rfl)) (pe_tup (pa_cons pe_int (pa_cons pe_int pa_nil))) (nomark _)))) (fun _ _ _ _ _ => (pv 6)))
  (pss_one (ps_if (pt_cmpR (KR.op_neK (K := K) rfl (by exact hr.units)) (pv 5) (pe_lst pa_nil) (nomark _)) (pss_cons (ps_set (i := 6) sc__law_reduced.nd rfl (Or.inr rfl) (pe_ix (KR.ix_listK (K := K) rfl) (pv 5) pe_int (fun _ _ => rfl)))
  (pss_cons (ps_set (i := 7) sc__law_reduced.nd rfl (Or.inr rfl) (pe_callTy KR.call_tup (by rfl) T.z_tuple (by decide +kernel) (pa_cons (pe_lc (own := [("item", 8)]) (g := gName 8) (tt := tYes) rfl sc__law_reduced.nd (pi_tup (pv 4)) (blkOk_by (own := [("item", 8)]) (N := N__law_reduced) (sc := defScope s__law_reduced) (by decide +kernel)) (fun _ _ _ _ _ => (pg_name (i := 8) sc__law_reduced.nd rfl (Or.inl rfl))) (fun _ _ _ _ _ => pts_nil) (fun _ _ _ _ _ => (pe_call (ok__law_times T) (hr.mono (by decide)) (by rfl) T.m__law_times T.F__law_times.kp T.b__law_times .nil pass0 (pa_cons (pv 8) (pa_cons (pe_call (ok__law_fr T) (hr.mono (by decide)) (by rfl) T.m__law_fr T.F__law_fr.kp T.b__law_fr .nil pass0 (pa_cons (pe_ix (KR.ix_tupK (K := K) rfl) (pe_ix (KR.ix_tupK (K := K) rfl) (pv 4) (pv 6) (fun _ _ => rfl)) pe_int (fun _ _ => rfl)) (pa_cons (pe_ix (KR.ix_tupK (K := K) rfl) (pe_ix (KR.ix_tupK (K := K) rfl) (pv 4) (pv 6) (fun _ _ => rfl)) pe_int (fun _ _ => rfl)) pa_nil))) pa_nil))))) pa_nil)))
  (pss_cons (ps_set (i := 9) sc__law_reduced.nd rfl (Or.inr rfl) (pe_callTy (KR.call_dictK (K := K) rfl rfl) (by rfl) T.z_dict (by decide +kernel) (pa_cons (pe_lock (pe_lc (own := [("other", 10)]) (g := gName 10) (tt := tYes) rfl sc__law_reduced.nd (pi_keys (pv 2)) (blkOk_by (own := [("other", 10)]) (N := N__law_reduced) (sc := defScope s__law_reduced) (by decide +kernel)) (fun _ _ _ _ _ => (pg_name (i := 10) sc__law_reduced.nd rfl (Or.inl rfl))) (fun _ _ _ _ _ => pts_nil) (fun _ _ _ _ _ => (pe_tup (pa_cons (pv 10) (pa_cons (pe_call (ok__law_lesser T) (hr.mono (by decide)) (by rfl) T.m__law_lesser T.F__law_lesser.kp T.b__law_lesser .nil pass0 (pa_cons (pe_disp (pps_cons (pv 6) (pv 7) pps_nil) (by rfl) (by rfl) (fun z => by cases z) (by decide)) (pa_cons (pe_dget (hu_of hr) (pv 2) (pv 10) (fun _ _ => rfl)) pa_nil))) pa_nil)))))) pa_nil)))
  (pss_cons (ps_dput (hu_of hr) (pv 9) (pv 6) (pv 7) rfl)
  (pss_one (ps_set (i := 2) sc__law_reduced.nd rfl (Or.inr rfl) (pe_callTy (KR.call_dictK (K := K) rfl rfl) (by rfl) T.z_dict (by decide +kernel) (pa_cons (pe_lc (own := [("other", 10)]) (g := gName 10) (tt := tYes) rfl sc__law_reduced.nd (pi_list (pe_callB (KR.call_sortD rfl) (by rfl) T.z_sorted (by decide +kernel) (pa_cons (pv 9) pa_nil))) (blkOk_by (own := [("other", 10)]) (N := N__law_reduced) (sc := defScope s__law_reduced) (by decide +kernel)) (fun _ _ _ _ _ => (pg_name (i := 10) sc__law_reduced.nd rfl (Or.inl rfl))) (fun _ _ _ _ _ => pts_nil) (fun _ _ _ _ _ => (pe_tup (pa_cons (pv 10) (pa_cons (pe_dget (hu_of hr) (pv 9) (pv 10) (fun _ _ => rfl)) pa_nil))))) pa_nil)))))))) pss_nil)))))
  (pss_one (ps_ret (pv 2))))), ?_⟩
  show tSeq _ _ _ [some (.int ((t : Int) + 1)), some (.ref a), none, none, none, none, none, none, none, none, none] H
  have lu : us.length = rows.length := hp.length
  refine KA.g_seq ?_
  refine KA.g_asg ?_
  refine KW.g_dnew fun d0 H1 hd0 e1 h1 => ?_
  repeat' (walk_at "s")
  refine KW.g_forL (fun i σ H' => ∃ (d : Addr) (x3 x4 x5 x6 x7 x8 x9 x10 : Option V), σ = [some (.int ((t : Int) + 1)), some (.ref a), some (.ref d), x3, x4, x5, x6, x7, x8, x9, x10] ∧ Ex H H' ∧ DRow K H' d (allL (t + 1) (rows.take i))) (SqL.of (e1 _ _ ha))
    ⟨d0, _, _, _, _, _, _, _, _, rfl, e1, ⟨[], h1, .nil⟩⟩ (fun i σ H' _ ⟨_, _, _, _, _, _, _, _, _, _, e, _⟩ => SqL.of (e _ _ ha)) ?_ ?_
  · rintro i x σ H2 hx ⟨d, x3, x4, x5, x6, x7, x8, x9, x10, rfl, e2, hD⟩
    obtain ⟨row, hrow, rx⟩ := pat hp hx
    have mrow := List.mem_of_getElem? hrow
    have smr := sm row mrow
    generalize hL : allL (t + 1) (rows.take i) = L at hD
    have ok : OkL t L := by rw [← hL]; exact okL_all fun r hr => sm r (List.mem_of_mem_take hr)
    have hstep : allL (t + 1) (rows.take (i + 1)) = stepL (t + 1) L row := by rw [take_snoc hrow, allL_snoc, hL]
    rw [hstep]
    have l9 := ok_len ok
    have rx2 := rx.mono e2
    repeat' (walk_at "s")
    refine ⟨d, x, row, L, t + 1, rfl, hD, rx2, smr.1, by omega, by omega, ok.len, keysNe_of ok.asc, fun z hz => by have := ok.lt hz; omega, fun z hz => ok.size t8 hz, fun i _ => ok.clr_size t8 smr i, fun v3 H3 e3 hv3 => ?_⟩
    have lc : (clrL L row).length = t + 1 := clrL_len ok.len smr.1
    have sc := ok.clr_sz t8 smr
    repeat' (walk_at "s")
    refine lcq_rng (fun _ v (n : Nat) => v = .int (n : Int)) (fun j => (List.range j).filter fun j => !decide (vec (clrL L row) j = 0)) ⟨by omega, by omega⟩ rfl (fun D hD j H4 hj h4 => ?_) (fun D H4 zs hD4 e4 hz hpz => ?_)
    · have hj' : j < t + 1 := by omega
      obtain ⟨q, hq⟩ : ∃ q, (clrL L row)[j]? = some q := ⟨_, List.getElem?_eq_some_iff.mpr ⟨by omega, rfl⟩⟩
      obtain ⟨pc, ws, rfl, hpc, hws⟩ := hv3.mono h4.1
      obtain ⟨vq, hvq, fvq⟩ := paired_get hws hq
      have rs : (List.range (j + 1)).filter (fun j => !decide (vec (clrL L row) j = 0)) = (List.range j).filter (fun j => !decide (vec (clrL L row) j = 0)) ++ [j].filter (fun j => !decide (vec (clrL L row) j = 0)) := by rw [List.range_succ, List.filter_append]
      have le : ((List.range j).filter fun j => !decide (vec (clrL L row) j = 0)).length ≤ 100000 := Nat.le_trans (List.length_filter_le _ _) (by rw [List.length_range]; omega)
      unfold LqTurn
      rw [Int.zero_add]
      repeat' (walk_at "s")
      refine ⟨rfl, ?_⟩
      repeat' (walk_at "s")
      refine KA.g_ixT (SqT.of hpc) hvq ?_
      repeat' (walk_at "s")
      refine KA.g_ktup (show 2 ≤ 1000 by decide) fun p5 H5 hp5 e5 h5 => ?_
      repeat' (walk_at "s")
      refine g_neZ (fvq.mono e5) (SqT.of h5) ?_
      repeat' (walk_at "s")
      refine KA.kB_d (fun h0 => ?_) (fun h0 => ?_)
      · refine lcq_skip (fun _ _ _ _ _ h => h) h4 e5 ?_
        rw [rs]
        have : [j].filter (fun j => !decide (vec (clrL L row) j = 0)) = [] := by simp [vec_lt hq, h0]
        rw [this, List.append_nil]
      · repeat' (walk_at "s")
        refine lcq_end (fun _ _ _ _ _ h => h) hD h4 e5 le (z := j) ?_ rfl
        rw [rs]
        have : [j].filter (fun j => !decide (vec (clrL L row) j = 0)) = [j] := by simp [vec_lt hq, h0]
        rw [this]
    · have zeq := eqN hpz
      have et : (((t : Int) + 1)).toNat = t + 1 := by omega
      rw [et] at zeq
      have zeq : zs = ((placesN (t + 1) (clrL L row)).map fun (p : Nat) => (p : Int)).map V.int := zeq
      subst zeq
      have pf := places_fst (w := t + 1) (r := clrL L row)
      have hsl : stepL (t + 1) L row = match fst (t + 1) (vec (clrL L row)) with
        | none => L
        | some p => putL L p (oneL (clrL L row) p) := rfl
      repeat' (walk_at "s")
      refine KA.g_klst (Nat.zero_le _) fun p5 H5 hp5 e5 h5 => ?_
      repeat' (walk_at "s")
      refine KT.g_neNil (e5 _ _ hz) h5 ?_
      have e25 := (e3.trans e4).trans e5
      have ex5 : Ex H H5 := e2.trans e25
      cases hpl : placesN (t + 1) (clrL L row) with
      | nil =>
        rw [hpl] at pf
        rw [← pf] at hsl
        simp only [List.map_nil, List.isEmpty_nil, Bool.not_true]
        repeat' (walk_at "s")
        exact ⟨d, _, _, _, _, _, _, _, _, rfl, ex5, by rw [hsl]; exact hD.mono e25⟩
      | cons p rest =>
        rw [hpl] at pf hz
        rw [← pf] at hsl
        have hsl : stepL (t + 1) L row = putL L p (oneL (clrL L row) p) := hsl
        have hz5 := e5 _ _ hz
        obtain ⟨p1, p2, p3⟩ := fst_some (pf.symm.trans rfl : fst (t + 1) (vec (clrL L row)) = some p)
        simp only [List.map_cons, List.isEmpty_cons, Bool.not_false]
        repeat' (walk_at "s")
        refine KA.g_ixL (i := 0) (SqL.of hz5) rfl ?_
        repeat' (walk_at "s")
        obtain ⟨q, hq⟩ : ∃ q, (clrL L row)[p]? = some q := ⟨_, List.getElem?_eq_some_iff.mpr ⟨by omega, rfl⟩⟩
        have vq : vec (clrL L row) p = q := vec_lt hq
        have q0 : q ≠ 0 := by rw [← vq]; exact p2
        have sq := sc q (List.mem_of_getElem? hq)
        obtain ⟨pc, ws, rfl, hpc3, hws3⟩ := id hv3
        have e35 := e4.trans e5
        have hpc := e35 _ _ hpc3
        have hws := pimp (fun _ _ h => FrV.mono e35 h) hws3
        obtain ⟨vq', hvq, fvq⟩ := paired_get hws hq
        obtain ⟨aq, rfl, hqt⟩ := fvq
        refine lcq_tup (FrV K) (fun i => (oneL (clrL L row) p).take i) (SqT.of hpc) rfl (fun D7 hD7 j x7' H7 hx7 h7 => ?_) (fun D7 H7 zs7 hD7 e7 hz7 hpz7 => ?_)
        · obtain ⟨y, hy, fy⟩ := pat hws hx7
          have hpc7 := h7.1 _ _ hpc
          have hqt7 := ex_t h7.1 hqt
          have sy := sc y (List.mem_of_getElem? hy)
          unfold LqTurn
          repeat' (walk_at "s")
          refine ⟨rfl, ?_⟩
          repeat' (walk_at "s")
          refine KA.g_ixT (SqT.of hpc7) hvq ?_
          repeat' (walk_at "s")
          refine KA.g_ixT (SqT.of hpc7) hvq ?_
          repeat' (walk_at "s")
          refine ⟨_, _, rfl, num_ne q0, le_pow sq.num (by decide), fun v8 H8 e8 hv8 => ?_⟩
          repeat' (walk_at "s")
          rw [inv_div] at hv8
          refine ⟨_, _, y, q⁻¹, rfl, (fy.mono h7.1).mono e8, hv8, sz22 sy, sz22 (sz_inv sq), trivial, fun v9 H9 e9 hv9 => ?_⟩
          refine lcq_end (fun _ _ _ _ e h => h.monoT e) hD7 h7 (e8.trans e9) (by rw [List.length_take]; unfold oneL; rw [List.length_map]; omega) (take_snoc (oneL_at hy)) ?_
          rw [vq]
          exact hv9
        · have el : ws.length = (oneL (clrL L row) p).length := by unfold oneL; rw [List.length_map]; exact hws.length
          rw [el, List.take_length] at hpz7
          repeat' (walk_at "s")
          refine g_tupL hz7 fun q8 H8 hq8 e8 h8 => ?_
          have hone : RowV K H8 (.ref q8) (oneL (clrL L row) p) := ⟨q8, zs7, rfl, h8, pimp (fun _ _ h => FrV.mono e8 h) hpz7⟩
          have ok' : OkL t (stepL (t + 1) L row) := okL_step ok smr
          have mo : (p, oneL (clrL L row) p) ∈ stepL (t + 1) L row := by rw [hsl]; exact mem_insL.mpr (.inl rfl)
          have so := ok'.size t8 mo
          have lo : (oneL (clrL L row) p).length = t + 1 := ok'.len _ mo
          have e28 := e25.trans (e7.trans e8)
          obtain ⟨kvs, hd8, hk8⟩ := hD.mono e28
          repeat' (walk_at "s")
          refine g_lockE hd8 trivial fun od => ?_
          have hHL : (upd H8 d (.frz od (.dK kvs))) d = some (.frz od (.dK kvs)) := upd_same
          have honeL : RowV K (upd H8 d (.frz od (.dK kvs))) (.ref q8) (oneL (clrL L row) p) := row_upd hd8 noT_dk hone
          repeat' (walk_at "s")
          refine lcq_keys (PairV K) (fun i => (L.map fun z => (z.1, subm z.2 (oneL (clrL L row) p) (vec z.2 p))).take i) hHL rfl (fun D9 hD9 j kk vv H9 hj9 h9 => ?_) (fun D9 H9 zs9 hD9 e9 hz9 hpz9 => ?_)
          · obtain ⟨z, hz', ek, hrow9⟩ := patG hk8 hj9
            have ek : kk = kN z.1 := ek
            subst ek
            have mz := List.mem_of_getElem? hz'
            have lz : z.2.length = t + 1 := ok.len z mz
            obtain ⟨v2, hv2, rv2⟩ := val_rowk hk8 (keysNe_of ok.asc) mz
            have rv2' := (row_upd (o' := .frz od (.dK kvs)) hd8 noT_dk rv2).mono h9.1
            have hone9 := honeL.mono h9.1
            unfold kV LqTurn
            repeat' (walk_at "s")
            refine ⟨rfl, ?_⟩
            repeat' (walk_at "s")
            refine KT.g_disp fun p10 H10 hp10 e10 h10 => ?_
            repeat' (walk_at "s")
            refine g_disp1 h10 (hone9.mono e10) fun H11 x11 hd11 => ?_
            have e11 : Ex H9 H11 := ExA.keep e10 hp10 x11
            repeat' (walk_at "s")
            refine g_ksubF (k := kN z.1) (e11 _ _ (h9.1 _ _ hHL)) hv2 ?_
            repeat' (walk_at "s")
            refine ⟨p10, v2, z.2, [(p, oneL (clrL L row) p)], t + 1, rfl, hd11, rv2'.mono e11, lz, by omega, by omega, fun y hy => by rw [List.mem_singleton.mp hy]; exact lo, List.pairwise_singleton _ _, fun y hy => by rw [List.mem_singleton.mp hy]; exact p1, fun y hy => by rw [List.mem_singleton.mp hy]; exact so, fun i hi => by
              have : i = 0 := by simpa using hi
              subst this
              exact ok.size t8 mz, fun v12 H12 e12 hv12 => ?_⟩
            repeat' (walk_at "s")
            refine KA.g_ktup (show 2 ≤ 1000 by decide) fun p13 H13 hp13 e13 h13 => ?_
            exact lcq_end (fun _ _ _ _ e h => h.monoT e) hD9 h9 ((e11.trans e12).trans e13) (by rw [List.length_take, List.length_map]; omega) (take_map hz') ⟨p13, v12, rfl, SqT.of h13, hv12.mono e13⟩
          · have lk : kvs.length = L.length := hk8.length
            rw [lk, ← List.length_map (f := fun z : Nat × List Rat => (z.1, subm z.2 (oneL (clrL L row) p) (vec z.2 p))), List.take_length] at hpz9
            have hd9 := e9 _ _ hHL
            refine ⟨hd9, ?_⟩
            have e89 := ex_unlock hd8 e9
            have nD : D9 ≠ d := fun z => by rw [z, hHL] at hD9; cases hD9
            have hz9' : (upd H9 d (.dK kvs)) D9 = some (.lst zs9) := by rw [upd_ne nD]; exact hz9
            have hpz9' := pimp (fun _ _ h => pair_upd (o' := .dK kvs) hd9 noT_fdk h) hpz9
            generalize upd H9 d (.dK kvs) = Hu at e89 hz9' hpz9'
            have ascM : (L.map fun z => (z.1, subm z.2 (oneL (clrL L row) p) (vec z.2 p))).Pairwise (fun a b => a.1 < b.1) := List.pairwise_map.mpr ok.asc
            repeat' (walk_at "s")
            refine g_dictP hz9' hpz9' (keysNe_of ascM) fun dl H10 hdl e10 h10 => ?_
            have noP : ∀ z ∈ (L.map fun z => (z.1, subm z.2 (oneL (clrL L row) p) (vec z.2 p))), z.1 ≠ p := fun z hz => by
              obtain ⟨y, hy, rfl⟩ := List.mem_map.mp hz
              intro ep
              have c0 := clr_lead (v := vec row) ok.okk.red (mem_toRd hy)
              rw [← clrL_vec ok.len smr.1] at c0
              exact p2 (by rw [← ep]; exact c0)
            repeat' (walk_at "s")
            refine g_putRow h10 (by rw [List.length_map]; omega) noP ((hone.mono e89).mono e10) fun H11 x11 h11 => ?_
            have e11 : Ex Hu H11 := ExA.keep e10 hdl x11
            have hins : stepL (t + 1) L row = insL (L.map fun z => (z.1, subm z.2 (oneL (clrL L row) p) (vec z.2 p))) (p, oneL (clrL L row) p) := hsl
            repeat' (walk_at "s")
            refine g_sortD h11 (by rw [List.length_append, List.length_map]; show _ + 1 < 64; omega) insL_perm (hins ▸ ok'.asc) fun p12 H12 hp12 e12 h12 => ?_
            rw [← hins] at h12
            obtain ⟨kl, hdl12, hkl12⟩ := h11.mono e12
            have l9' := ok_len ok'
            repeat' (walk_at "s")
            refine lcq_lst (PairV K) (fun i => (stepL (t + 1) L row).take i) (SqL.of h12) rfl (fun D13 hD13 j x13 H13 hx13 h13 => ?_) (fun D13 H13 zs13 hD13 e13 hz13 hpz13 => ?_)
            · rw [List.getElem?_map] at hx13
              obtain ⟨z, hz', rfl⟩ := Option.map_eq_some_iff.mp hx13
              have mz : z ∈ (L.map fun z => (z.1, subm z.2 (oneL (clrL L row) p) (vec z.2 p))) ++ [(p, oneL (clrL L row) p)] := insL_perm.mem_iff.mp (by rw [← hins]; exact List.mem_of_getElem? hz')
              have neM : KeysNe ((L.map fun z => (z.1, subm z.2 (oneL (clrL L row) p) (vec z.2 p))) ++ [(p, oneL (clrL L row) p)]) := List.pairwise_append.mpr ⟨keysNe_of ascM, List.pairwise_singleton _ _, fun a ha b hb => by rw [List.mem_singleton.mp hb]; exact noP a ha⟩
              obtain ⟨v2, hv2, rv2⟩ := val_rowk hkl12 neM mz
              unfold LqTurn
              repeat' (walk_at "s")
              refine ⟨rfl, ?_⟩
              repeat' (walk_at "s")
              refine KW.g_ksub (k := kN z.1) (h13.1 _ _ hdl12) hv2 ?_
              repeat' (walk_at "s")
              refine KA.g_ktup (show 2 ≤ 1000 by decide) fun p14 H14 hp14 e14 h14 => ?_
              exact lcq_end (fun _ _ _ _ e h => h.monoT e) hD13 h13 e14 (by rw [List.length_take]; omega) (take_snoc hz') ⟨p14, v2, rfl, SqT.of h14, (rv2.mono h13.1).mono e14⟩
            · rw [List.length_map, List.take_length] at hpz13
              repeat' (walk_at "s")
              refine g_dictP hz13 hpz13 (keysNe_of ok'.asc) fun dn H14 hdn e14 h14 => ?_
              repeat' (walk_at "s")
              exact ⟨dn, _, _, _, _, _, _, _, _, rfl, ((((e2.trans e28).trans e89).trans e11).trans e12).trans (e13.trans e14), h14⟩
  · rintro σ H2 ⟨d, x3, x4, x5, x6, x7, x8, x9, x10, rfl, e2, hD⟩
    rw [lu, List.take_length] at hD
    repeat' (walk_at "s")
    exact k _ _ e2 hD
end
end K75
end
section
namespace K75
open PySem L2 Evl KX
/-! steps -/
local macro_rules | `(tactic| walk_at "nrm") => `(tactic| (((with_reducible refine' KA.g_nrm ?h ?k)); (case h => ((conv => lhs; simp only [List.set_cons_zero, List.set_cons_succ]); try exact rfl))))
local macro_rules | `(tactic| walk_at "nam") => `(tactic| (((with_reducible refine' KA.g_nameN ?h ?k)); (case h => ((conv => lhs; simp only [List.set_cons_zero, List.set_cons_succ]); try exact rfl))))
local macro_rules | `(tactic| walk_at "var") => `(tactic| (((with_reducible refine' KA.g_var ?h ?k)); (case h => exact rfl)))
local macro_rules | `(tactic| walk_at "aug") => `(tactic| (((with_reducible refine' KA.g_aug ?h ?k)); (case h => exact rfl)))
local macro_rules | `(tactic| walk_at "mul") => `(tactic| ((with_reducible refine KA.g_I (C := CMul) ?h ?k); (case h => first | exact KA.cmul_l (by omega) (by omega) | exact KA.cmul_r (by omega) (by omega))))
local macro_rules | `(tactic| walk_at "dv") => `(tactic| ((with_reducible refine KA.g_I (C := KA.CDv) ?h ?k); (case h => exact ⟨by omega, by omega⟩)))
local macro_rules | `(tactic| walk_at "mod") => `(tactic| ((with_reducible refine KA.g_I (C := fun _ j => 0 < j) ?h ?k); (case h => omega)))
local macro_rules | `(tactic| walk_at "s") => `(tactic| first
  | walk_at "nrm"
  | with_reducible refine KA.g_seq ?_
  | with_reducible refine KA.g_asg ?_
  | walk_at "nam"
  | with_reducible refine KA.g_yes ?_
  | with_reducible refine KA.g_ifs ?_
  | with_reducible refine KA.g_ret ?_
  | with_reducible refine KA.g_retN ?_
  | with_reducible refine KA.g_drop ?_
  | with_reducible refine KA.g_next ?_
  | with_reducible refine KA.g_brk ?_
  | with_reducible refine KA.g_par ?_
  | with_reducible refine KA.g_par3 ?_
  | with_reducible refine KA.g_kpar ?_
  | with_reducible refine KA.g_kpar3 ?_
  | with_reducible refine KA.g_op ?_
  | walk_at "var"
  | with_reducible refine KA.g_c ?_
  | with_reducible refine KA.g_I0 ?_
  | with_reducible refine KA.g_eqi ?_
  | with_reducible refine KA.g_nei ?_
  | with_reducible refine KA.g_test ?_
  | with_reducible refine KA.g_kbl ?_
  | with_reducible refine KA.g_cons ?_
  | with_reducible refine KA.g_nil ?_
  | with_reducible refine KA.g_cb ?_
  | with_reducible refine KA.g_call ?_
  | with_reducible refine KA.g_tb ?_
  | with_reducible refine KA.g_not ?_
  | with_reducible refine KA.g_and ?_
  | with_reducible refine KA.g_or ?_
  | with_reducible refine KA.g_if ?_
  | with_reducible refine KA.g_andV ?_
  | with_reducible refine KA.g_orV ?_
  | with_reducible refine KA.g_notV ?_
  | with_reducible refine KA.g_kbv ?_
  | with_reducible refine KA.g_ex1 ?_
  | with_reducible refine KA.g_chain ?_
  | with_reducible refine KA.g_fld ?_
  | with_reducible refine KA.g_un ?_
  | with_reducible refine KA.g_U ?_
  | with_reducible refine KA.g_tup ?_
  | with_reducible refine KA.g_lst ?_
  | walk_at "mul"
  | walk_at "dv"
  | walk_at "mod"
  | walk_at "aug"
  | with_reducible refine KA.g_ipi ?_
  | with_reducible refine KA.g_gcons ?_
  | with_reducible refine KA.g_gnil ?_
  | with_reducible refine KA.kB_t ?_
  | with_reducible refine KA.kB_f ?_
  | with_reducible refine KA.kB_nn ?_
  | with_reducible refine KA.ite_kB ?_
  | ((with_reducible refine' KA.g_ixT0 ?h ?k); (case h => exact L2.SqT.of (by assumption)))
  | ((with_reducible refine' KA.g_ixT1 ?h ?k); (case h => exact L2.SqT.of (by assumption)))
  | with_reducible refine KA.g_lct ?_
  | with_reducible refine KA.g_lcl ?_
  | with_reducible refine KA.g_lcr ?_
  | with_reducible refine KA.g_sl ?_
  | with_reducible refine KA.g_nop ?_
  | with_reducible refine KA.g_part ?_
  | with_reducible refine KA.g_exi ?_
  | with_reducible refine KA.g_eqs ?_
  | with_reducible refine KA.g_nes ?_
  | with_reducible refine KA.g_isN_i ?_
  | with_reducible refine KA.g_isN_n ?_
  | with_reducible refine KA.g_isN_r ?_
  | with_reducible refine KA.g_abs ?_
  | with_reducible refine KA.g_mx ?_
  | with_reducible refine KA.g_mn ?_
  | with_reducible refine KA.g_int ?_
  | with_reducible refine KA.g_intb ?_
  | with_reducible refine KA.g_isi_ii ?_
  | with_reducible refine KA.g_isi_ib ?_
  | with_reducible refine KA.g_isi_ss ?_
  | ((with_reducible refine' KA.g_isi_tt ?h ?k); (case h => assumption))
  | ((with_reducible refine' KA.g_lnL ?h ?k); (case h => assumption))
  | ((with_reducible refine' KA.g_lnT ?h ?k); (case h => assumption)))
local macro_rules | `(tactic| walk_at "s") => `(tactic| first
  | walk_at "mulW"
  | ((with_reducible refine' KA.g_ixT0 ?h ?k); (case h => assumption))
  | ((with_reducible refine' KA.g_ixT1 ?h ?k); (case h => assumption))
  | with_reducible refine KR.g_lcz ?_
  | with_reducible refine KR.g_lck ?_
  | with_reducible refine KR.g_forZ ?_
  | with_reducible refine KR.g_forK ?_
  | with_reducible refine KT.g_forR ?_
  | with_reducible refine KW.g_for ?_
  | with_reducible refine KR.g_sfld ?_
  | with_reducible refine KR.g_mth ?_
  | with_reducible refine KR.g_make ?_
  | fail)
local macro_rules | `(tactic| walk_at "s") => `(tactic| first
  | with_reducible refine KW.g_put ?_
  | with_reducible refine KW.g_sub ?_
  | with_reducible refine KW.g_bm0 ?_
  | ((with_reducible refine' KT.s_L ?h ?k); (case h => assumption))
  | ((with_reducible refine' KT.s_R ?h ?k); (case h => assumption))
  | ((with_reducible refine' KT.s_C ?h ?k); (case h => assumption))
  | ((with_reducible refine' KT.s_T ?h ?k); (case h => assumption))
  | ((with_reducible refine' KT.g_pw ?h ?h2 ?k); (case h => exact ⟨by omega, by omega⟩); (case h2 => exact ⟨by omega, by omega⟩))
  | with_reducible refine KT.g_bm ?_
  | with_reducible refine KT.g_pairs ?_
  | with_reducible refine KT.g_pairs0 ?_
  | fail)
section
variable {P : Program} {w : World} {K : PySem.W.Frag} {mg : Str → Option Value} {base : Heap} {A : Adr}
open KT KR
/-! the tape -/
def sp__law_blend : Sp := fun vs H Q _ => ∃ (t l c : Addr), vs = [.ref t] ∧ Tape H t l c ∧ ∀ d H', Tape H' t l c → TX2 t l H H' → Q (.int d) H'
theorem ok__law_blend (T : Txt P K mg A) : FnOk P w K mg base CX0 1 A.f__law_blend A.d__law_blend ["tape"] sp__law_blend := by
  refine T.F__law_blend.ok sc__law_blend (fun vs H Q E h => ?_) (fun cdv Ar outer s H vs Q E hr h => ?_)
  · obtain ⟨t, l, c, rfl, _⟩ := h; rfl
  obtain ⟨t, l, c, rfl, tp, k⟩ := h
  obtain ⟨⟨r, u, ht⟩, _⟩ := id tp
  refine ⟨_, (pss_cons (ps_dput (hu_of hr) (pv 0) pe_str (pe_op op_add (pe_dget (hu_of hr) (pv 0) pe_str (fun _ _ => rfl)) pe_int) rfl)
  (pss_cons (ps_par (i := 1) (j := 2) (by rfl) sc__law_blend.nd rfl rfl (by decide) rfl rfl (pa_cons (pe_callTy KA.call_intN (by rfl) T.z_int (by decide +kernel) (pa_cons (pe_dget (hu_of hr) (pv 0) pe_str (fun _ _ => rfl)) pa_nil)) (pa_cons pe_int pa_nil)) (by rfl))
  (pss_cons (ps_for PassesOwn.never rfl (pi_list (pe_lst (pa_cons pe_int (pa_cons pe_int (pa_cons pe_int pa_nil))))) (pg_name (i := 3) sc__law_blend.nd rfl (Or.inl rfl)) (pss_cons (ps_set (i := 4) sc__law_blend.nd rfl (Or.inl rfl) (pe_op op_mod (pe_op op_add (pe_op op_mul (pv 1) pe_int) (pe_op KA.op_dv (pv 3) pe_int)) (pv 3)))
  (pss_cons (ps_for PassesOwn.never rfl (pi_list (pe_dget (hu_of hr) (pv 0) pe_str (fun _ _ => rfl))) (pg_name (i := 5) sc__law_blend.nd rfl (Or.inl rfl)) (pss_one (ps_set (i := 4) sc__law_blend.nd rfl (Or.inl rfl) (pe_op op_mod (pe_op op_add (pe_op op_mul (pv 4) pe_int) (pe_callTy KA.call_intN (by rfl) T.z_int (by decide +kernel) (pa_cons (pv 5) pa_nil))) (pv 3)))))
  (pss_one (ps_set (i := 2) sc__law_blend.nd rfl (Or.inl rfl) (pe_op op_add (pe_op op_mul (pv 2) pe_int) (pe_op op_mod (pe_op op_pow (pv 4) pe_int) (pv 3))))))))
  (pss_one (ps_ret (pv 2)))))), ?_⟩
  show tSeq _ _ _ [some (.ref t), none, none, none, none, none] H
  repeat' (walk_at "s")
  refine KT.w_T ht ?_
  have tp1 : Tape _ t l c := tp.put (r := r) (u := u + 1)
  have tx1 : TX2 t l H _ := TX2.put (l := l) (o := .dK (tape4 l c r (u + 1)))
  have ht1 : upd H t (.dK (tape4 l c r (u + 1))) t = _ := upd_same
  generalize upd H t (.dK (tape4 l c r (u + 1))) = H1 at *
  repeat' (walk_at "s")
  refine KA.g_klst (by simp) fun q H2 hq e2 h2 => ?_
  refine KW.g_forL (fun i σ H' => ∃ (f : Int) (a b d : Option V), σ = [some (.ref t), some (.int (u + 1)), some (.int f), a, b, d] ∧ Ex H2 H') (SqL.of h2) ⟨_, _, _, _, rfl, Ex.refl H2⟩ (fun i σ H' _ ⟨_, _, _, _, _, e⟩ => SqL.of (e _ _ h2)) (fun i y σ H' hi ⟨f, a, b, d, hσ, ex⟩ => ?_) (fun σ H' ⟨f, a, b, d, hσ, ex⟩ => ?_)
  · subst hσ
    obtain ⟨g, rfl, g1, g2⟩ : ∃ g : Int, y = .int g ∧ 0 < g ∧ g < 4294967296 := by
      match i, hi with
      | 0, hi => cases hi; exact ⟨_, rfl, by decide, by decide⟩
      | 1, hi => cases hi; exact ⟨_, rfl, by decide, by decide⟩
      | 2, hi => cases hi; exact ⟨_, rfl, by decide, by decide⟩
      | i + 3, hi => simp at hi
    have ht2 := ex _ _ (e2 _ _ ht1)
    have tp2 := (tp1.mono e2).mono ex
    obtain ⟨_, _, ⟨cs, hc⟩, _⟩ := id tp2
    repeat' (walk_at "s")
    refine KW.g_forL (fun i σ H'' => ∃ (m : Int) (b : Option V), σ = [some (.ref t), some (.int (u + 1)), some (.int f), some (.int g), some (.int m), b] ∧ Ex H' H'' ∧ 0 ≤ m ∧ m < g) (SqL.of hc) ⟨_, _, rfl, Ex.refl H', Int.emod_nonneg _ (by omega), Int.emod_lt_of_pos _ g1⟩ (fun i σ H' _ ⟨_, _, _, e, _⟩ => SqL.of (e _ _ hc)) (fun i y σ H'' hi ⟨m, b, hσ, ex2, m1, m2⟩ => ?_) (fun σ H'' ⟨m, b, hσ, ex2, m1, m2⟩ => ?_)
    · subst hσ
      rw [List.getElem?_map] at hi
      obtain ⟨z, _, rfl⟩ := Option.map_eq_some_iff.mp hi
      repeat' (walk_at "s")
      exact ⟨_, _, rfl, ex2, Int.emod_nonneg _ (by omega), Int.emod_lt_of_pos _ g1⟩
    · subst hσ
      repeat' (walk_at "s")
      exact ⟨_, _, _, _, rfl, ex.trans ex2⟩
  · subst hσ
    repeat' (walk_at "s")
    exact k _ _ ((tp1.mono e2).mono ex) (tx1.trans (TX2.of (e2.trans ex)))
def sp__law_draw : Sp := fun vs H Q _ => ∃ (t l c : Addr) (n : Int), vs = [.ref t, .int n] ∧ Tape H t l c ∧ 1 ≤ n ∧ n ≤ 1000000000000000000 ∧ ∀ d H', 0 ≤ d → d < n → Tape H' t l c → TX2 t l H H' → Q (.int d) H'
theorem ok__law_draw (T : Txt P K mg A) : FnOk P w K mg base CX0 2 A.f__law_draw A.d__law_draw ["tape", "size"] sp__law_draw := by
  refine T.F__law_draw.ok sc__law_draw (fun vs H Q E h => ?_) (fun cdv Ar outer s H vs Q E hr h => ?_)
  · obtain ⟨t, l, c, n, rfl, _⟩ := h; rfl
  obtain ⟨t, l, c, n, rfl, tp, n1, n2, k⟩ := h
  obtain ⟨⟨r, u, ht⟩, ⟨ls, hl⟩, _, _⟩ := id tp
  refine ⟨_, (Evl.pss_cut (ps_if (pt_cmpR op_eq (pe_dget (hu_of hr) (pv 0) pe_str (fun _ _ => rfl)) pe_int (nomark _)) (pss_one (ps_dput (hu_of hr) (pv 0) pe_str (pe_ifExp (pt_cmpR (op_neD hr.units) (pe_dget (hu_of hr) (pv 0) pe_str (fun _ _ => rfl)) (pe_lst pa_nil) (nomark _)) (pe_bm PySem.F.plainAttrs_list PySem.F.slot_list_pop PySem.F.type_list_pop mt_popAt (pe_dget (hu_of hr) (pv 0) pe_str (fun _ _ => rfl)) (pa_cons pe_int pa_nil)) (pe_call (ok__law_blend T) (hr.mono (by decide)) (by rfl) T.m__law_blend T.F__law_blend.kp T.b__law_blend .nil pass0 (pa_cons (pv 0) pa_nil))) rfl)) pss_nil)
  (pss_cons (ps_set (i := 2) sc__law_draw.nd rfl (Or.inl rfl) (pe_op op_mod (pe_callTy KA.call_intN (by rfl) T.z_int (by decide +kernel) (pa_cons (pe_dget (hu_of hr) (pv 0) pe_str (fun _ _ => rfl)) pa_nil)) (pv 1)))
  (pss_cons (ps_dput (hu_of hr) (pv 0) pe_str (pe_op KA.op_dv (pe_callTy KA.call_intN (by rfl) T.z_int (by decide +kernel) (pa_cons (pe_dget (hu_of hr) (pv 0) pe_str (fun _ _ => rfl)) pa_nil)) (pv 1)) rfl)
  (pss_one (ps_ret (pv 2)))))), ?_⟩
  show tCut _ _ _ [some (.ref t), some (.int n), none] H
  refine KA.g_cut (fun σ H' => σ = [some (.ref t), some (.int n), none] ∧ Tape H' t l c ∧ TX2 t l H H') ?_ ?_
  · repeat' (walk_at "s")
    refine KA.kB_d (fun c1 => ?_) (fun c1 => ?_)
    · repeat' (walk_at "s")
      refine KA.g_klst (by simp) fun q H2 hq e2 h2 => ?_
      have ht2 := e2 _ _ ht
      have hl2 := e2 _ _ hl
      have tp2 := tp.mono e2
      refine KT.g_neNil hl2 h2 ?_
      repeat' (walk_at "s")
      refine KA.kB_b (fun c2 => ?_) (fun c2 => ?_)
      · repeat' (walk_at "s")
        refine ⟨t, l, c, rfl, tp2, fun d H3 tp3 tx3 => ?_⟩
        obtain ⟨⟨r3, u3, ht3⟩, _⟩ := id tp3
        repeat' (walk_at "s")
        refine KT.w_R ht3 ?_
        exact ⟨rfl, tp3.put, (TX2.of e2).trans (tx3.trans TX2.put)⟩
      · cases ls with
        | nil => cases c2
        | cons z ls =>
          repeat' (walk_at "s")
          refine ⟨.inl ⟨rfl, _, SqL.of hl2⟩, ?_⟩
          repeat' (walk_at "s")
          refine KT.g_pop0 (xs := ls.map V.int) hl2 ?_
          have tp3 := tp2.pop (ls := ls)
          have tx3 : TX2 t l _ _ := (TX2.of (t := t) (l := l) e2).trans (TX2.pop (v := .int z) (xs := ls.map V.int) (o := .lst (ls.map V.int)) hl2)
          generalize upd H2 l (.lst (ls.map V.int)) = H3 at *
          obtain ⟨⟨r3, u3, ht3⟩, _⟩ := id tp3
          repeat' (walk_at "s")
          refine KT.w_R ht3 ?_
          exact ⟨rfl, tp3.put, tx3.trans TX2.put⟩
    · repeat' (walk_at "s")
      exact ⟨rfl, tp, TX2.of (Ex.refl H)⟩
  · rintro σ H' ⟨rfl, tp1, tx1⟩
    obtain ⟨⟨r1, u1, ht1⟩, _⟩ := id tp1
    repeat' (walk_at "s")
    refine KT.w_R ht1 ?_
    repeat' (walk_at "s")
    exact k _ _ (Int.emod_nonneg _ (by omega)) (Int.emod_lt_of_pos _ (by omega)) tp1.put (tx1.trans TX2.put)
end
section
variable {P : Program} {w : World} {K : PySem.W.Frag} {mg : Str → Option Value} {base : Heap} {A : Adr}
open KT KR
theorem at_any {xs : List V} {d : Int} (d0 : 0 ≤ d) (d1 : d < xs.length) : ∃ x, x ∈ xs ∧ atI xs d = some x := by
  obtain ⟨n, rfl⟩ : ∃ n : Nat, d = n := ⟨d.toNat, (Int.toNat_of_nonneg d0).symm⟩
  have h : n < xs.length := by omega
  exact ⟨xs[n], List.getElem_mem h, atI_nat (List.getElem?_eq_getElem h)⟩
def sp__law_pick : Sp := fun vs H Q _ => ∃ (t l c b : Addr) (xs : List V), vs = [.ref t, .ref b] ∧ Tape H t l c ∧ H b = some (.lst xs) ∧ b ≠ l ∧ 1 ≤ xs.length ∧ xs.length ≤ 1000 ∧
  ∀ x H', x ∈ xs → Tape H' t l c → TX2 t l H H' → Q x H'
theorem ok__law_pick (T : Txt P K mg A) : FnOk P w K mg base CX0 3 A.f__law_pick A.d__law_pick ["tape", "several"] sp__law_pick := by
  refine T.F__law_pick.ok sc__law_pick (fun vs H Q E h => ?_) (fun cdv Ar outer s H vs Q E hr h => ?_)
  · obtain ⟨t, l, c, b, xs, rfl, _⟩ := h; rfl
  obtain ⟨t, l, c, b, xs, rfl, tp, hb, nb, x1, x2, k⟩ := h
  refine ⟨_, (pss_one (ps_ret (pe_ix (KR.ix_listK (K := K) rfl) (pv 1) (pe_call (ok__law_draw T) (hr.mono (by decide)) (by rfl) T.m__law_draw T.F__law_draw.kp T.b__law_draw .nil pass0 (pa_cons (pv 0) (pa_cons (pe_callB KA.call_ln (by rfl) T.z_len (by decide +kernel) (pa_cons (pv 1) pa_nil)) pa_nil))) (fun _ _ => rfl)))), ?_⟩
  show tRet _ _ [some (.ref t), some (.ref b)] H
  repeat' (walk_at "s")
  refine ⟨t, l, c, _, rfl, tp, by omega, by omega, fun d H1 d0 d1 tp1 tx1 => ?_⟩
  obtain ⟨x, hx, hat⟩ := at_any d0 d1
  exact ⟨b, _, d, _, rfl, rfl, SqL.of (tx1.lst tp nb hb), hat, k x H1 hx tp1 tx1⟩
def sp__law_begun : Sp := fun vs H Q _ => ∃ (a : Addr) (ns : List Int), vs = [.ref a] ∧ SqL K H a (ns.map V.int) ∧ ns.length ≤ 63 ∧ ∀ t H' l c, Ex H H' → Tape H' t l c → Q (.ref t) H'
def bigs (ns : List Int) : List Int := (ns.filter fun n => decide (1000000000000000000 ≤ (n.natAbs : Int))).map fun n => (n.natAbs : Int) - 1000000000000000000
def sizes (ns : List Int) : List Int := ns.map fun n => (n.natAbs : Int)
theorem take_one {ns : List Int} {i : Nat} {n : Int} (h : ns[i]? = some n) : ns.take (i + 1) = ns.take i ++ [n] := by
  rw [List.take_add_one, h]; rfl
theorem ok__law_begun (T : Txt P K mg A) : FnOk P w K mg base CX0 1 A.f__law_begun A.d__law_begun ["script"] (sp__law_begun (K := K)) := by
  refine T.F__law_begun.ok sc__law_begun (fun vs H Q E h => ?_) (fun cdv Ar outer s H vs Q E hr h => ?_)
  · obtain ⟨a, ns, rfl, _⟩ := h; rfl
  obtain ⟨a, ns, rfl, hs, hn, k⟩ := h
  refine ⟨_, (pss_cons (ps_setLc (i := 1) (own := [("grain", 2)]) (g := gName 2) rfl sc__law_begun.nd rfl rfl rfl (pi_list (pv 0)) (blkOk_by (own := [("grain", 2)]) (N := N__law_begun) (sc := defScope s__law_begun) (by decide +kernel)) (fun _ _ _ _ _ => (pg_name (i := 2) sc__law_begun.nd rfl (Or.inl rfl))) (fun _ _ _ _ _ => (pts_one (pt_cmpR op_ge (pe_callB KA.call_absN (by rfl) T.z_abs (by decide +kernel) (pa_cons (pv 2) pa_nil)) (pe_op op_pow pe_int pe_int) (nomark _)))) (fun _ _ _ _ _ => (pe_op op_sub (pe_callB KA.call_absN (by rfl) T.z_abs (by decide +kernel) (pa_cons (pv 2) pa_nil)) (pe_op op_pow pe_int pe_int))))
  (pss_one (ps_ret (pe_disp (pps_cons pe_str (pv 1) (pps_cons pe_str pe_int (pps_cons pe_str (pe_lc (own := [("grain", 2)]) (g := gName 2) (tt := tYes) rfl sc__law_begun.nd (pi_list (pv 0)) (blkOk_by (own := [("grain", 2)]) (N := N__law_begun) (sc := defScope s__law_begun) (by decide +kernel)) (fun _ _ _ _ _ => (pg_name (i := 2) sc__law_begun.nd rfl (Or.inl rfl))) (fun _ _ _ _ _ => pts_nil) (fun _ _ _ _ _ => (pe_callB KA.call_absN (by rfl) T.z_abs (by decide +kernel) (pa_cons (pv 2) pa_nil)))) (pps_cons pe_str pe_int pps_nil)))) (by rfl) (by rfl) (fun z => by cases z) (by decide))))), ?_⟩
  show tSeq _ _ _ [some (.ref a), none, none] H
  repeat' (walk_at "s")
  refine KA.g_lcL (fun i => (bigs (ns.take i)).map V.int) hs rfl (fun D hD i v H2 hi L => ?_) fun D H2 hD e2 h2 => ?_
  · rw [List.getElem?_map] at hi
    obtain ⟨n, hn', rfl⟩ := Option.map_eq_some_iff.mp hi
    show gName 2 (.int n) [some (.ref a), none, none] H2 _
    repeat' (walk_at "s")
    refine ⟨rfl, ?_⟩
    repeat' (walk_at "s")
    refine KA.kB_d (fun c1 => ?_) (fun c1 => ?_)
    · repeat' (walk_at "s")
      refine KA.lc_end hD L (Ex.refl _) ?_ ?_
      · rw [List.length_map]; unfold bigs; rw [List.length_map]
        have := List.length_filter_le (fun n : Int => decide (1000000000000000000 ≤ (n.natAbs : Int))) (ns.take i)
        rw [List.length_take] at this
        omega
      · rw [take_one hn']
        unfold bigs
        rw [List.filter_append, List.map_append, List.map_append]
        have c1' : decide (1000000000000000000 ≤ (n.natAbs : Int)) = true := decide_eq_true (by simpa using c1)
        simp only [List.filter_cons, c1', if_true, List.filter_nil, List.map_cons, List.map_nil]
        rfl
    · repeat' (walk_at "s")
      refine KA.lc_skip L (Ex.refl _) ?_
      rw [take_one hn']
      unfold bigs
      rw [List.filter_append, List.map_append, List.map_append]
      have c1' : decide (1000000000000000000 ≤ (n.natAbs : Int)) = false := decide_eq_false (by simpa using c1)
      simp only [List.filter_cons, c1', List.filter_nil]
      simp
  · rw [List.length_map, List.take_length] at h2
    repeat' (walk_at "s")
    refine KT.g_disp fun p H3 hp e3 h3 => ?_
    repeat' (walk_at "s")
    have h2' := e3 _ _ h2
    have nDp : D ≠ p := fun z => by subst z; rw [hp] at h2; cases h2
    have hs3 : SqL K H3 a (ns.map V.int) := ex_l (e2.trans e3) hs
    refine KA.g_lcL (fun i => (sizes (ns.take i)).map V.int) hs3 rfl (fun D' hD' i v H4 hi L => ?_) fun D' H4 hD' e4 h4 => ?_
    · rw [List.getElem?_map] at hi
      obtain ⟨n, hn', rfl⟩ := Option.map_eq_some_iff.mp hi
      show gName 2 (.int n) [some (.ref a), some (.ref D), none] H4 _
      repeat' (walk_at "s")
      refine ⟨rfl, ?_⟩
      repeat' (walk_at "s")
      refine KA.lc_end hD' L (Ex.refl _) ?_ ?_
      · rw [List.length_map]; unfold sizes; rw [List.length_map, List.length_take]; omega
      · rw [take_one hn']
        unfold sizes
        rw [List.map_append, List.map_append]
        rfl
    · rw [List.length_map, List.take_length] at h4
      repeat' (walk_at "s")
      refine KT.g_kdisp4 (e4 _ _ h3) ?_
      have h2'' := e4 _ _ h2'
      have nD'p : D' ≠ p := fun z => by subst z; rw [hD'] at h3; cases h3
      have nDD : D ≠ D' := fun z => by subst z; rw [hD'] at h2'; cases h2'
      refine k p _ D D' (Ex.mut ((e2.trans e3).trans e4) ?_) ⟨⟨_, _, upd_same⟩, ⟨_, by rw [upd_ne nDp]; exact h2''⟩, ⟨_, by rw [upd_ne nD'p]; exact h4⟩, nDD⟩
      cases hq : H p with
      | none => rfl
      | some o => rw [e2 _ _ hq] at hp; cases hp
end
end K75
end
section
namespace K75
open PySem L2 Evl KX
/-! steps -/
local macro_rules | `(tactic| walk_at "nrm") => `(tactic| (((with_reducible refine' KA.g_nrm ?h ?k)); (case h => ((conv => lhs; simp only [List.set_cons_zero, List.set_cons_succ]); try exact rfl))))
local macro_rules | `(tactic| walk_at "nam") => `(tactic| (((with_reducible refine' KA.g_nameN ?h ?k)); (case h => ((conv => lhs; simp only [List.set_cons_zero, List.set_cons_succ]); try exact rfl))))
local macro_rules | `(tactic| walk_at "var") => `(tactic| (((with_reducible refine' KA.g_var ?h ?k)); (case h => exact rfl)))
local macro_rules | `(tactic| walk_at "aug") => `(tactic| (((with_reducible refine' KA.g_aug ?h ?k)); (case h => exact rfl)))
local macro_rules | `(tactic| walk_at "mul") => `(tactic| ((with_reducible refine KA.g_I (C := CMul) ?h ?k); (case h => first | exact KA.cmul_l (by omega) (by omega) | exact KA.cmul_r (by omega) (by omega))))
local macro_rules | `(tactic| walk_at "dv") => `(tactic| ((with_reducible refine KA.g_I (C := KA.CDv) ?h ?k); (case h => exact ⟨by omega, by omega⟩)))
local macro_rules | `(tactic| walk_at "mod") => `(tactic| ((with_reducible refine KA.g_I (C := fun _ j => 0 < j) ?h ?k); (case h => omega)))
local macro_rules | `(tactic| walk_at "s") => `(tactic| first
  | walk_at "nrm"
  | with_reducible refine KA.g_seq ?_
  | with_reducible refine KA.g_asg ?_
  | walk_at "nam"
  | with_reducible refine KA.g_yes ?_
  | with_reducible refine KA.g_ifs ?_
  | with_reducible refine KA.g_ret ?_
  | with_reducible refine KA.g_retN ?_
  | with_reducible refine KA.g_drop ?_
  | with_reducible refine KA.g_next ?_
  | with_reducible refine KA.g_brk ?_
  | with_reducible refine KA.g_par ?_
  | with_reducible refine KA.g_par3 ?_
  | with_reducible refine KA.g_kpar ?_
  | with_reducible refine KA.g_kpar3 ?_
  | with_reducible refine KA.g_op ?_
  | walk_at "var"
  | with_reducible refine KA.g_c ?_
  | with_reducible refine KA.g_I0 ?_
  | with_reducible refine KA.g_eqi ?_
  | with_reducible refine KA.g_nei ?_
  | with_reducible refine KA.g_test ?_
  | with_reducible refine KA.g_kbl ?_
  | with_reducible refine KA.g_cons ?_
  | with_reducible refine KA.g_nil ?_
  | with_reducible refine KA.g_cb ?_
  | with_reducible refine KA.g_call ?_
  | with_reducible refine KA.g_tb ?_
  | with_reducible refine KA.g_not ?_
  | with_reducible refine KA.g_and ?_
  | with_reducible refine KA.g_or ?_
  | with_reducible refine KA.g_if ?_
  | with_reducible refine KA.g_andV ?_
  | with_reducible refine KA.g_orV ?_
  | with_reducible refine KA.g_notV ?_
  | with_reducible refine KA.g_kbv ?_
  | with_reducible refine KA.g_ex1 ?_
  | with_reducible refine KA.g_chain ?_
  | with_reducible refine KA.g_fld ?_
  | with_reducible refine KA.g_un ?_
  | with_reducible refine KA.g_U ?_
  | with_reducible refine KA.g_tup ?_
  | with_reducible refine KA.g_lst ?_
  | walk_at "mul"
  | walk_at "dv"
  | walk_at "mod"
  | walk_at "aug"
  | with_reducible refine KA.g_ipi ?_
  | with_reducible refine KA.g_gcons ?_
  | with_reducible refine KA.g_gnil ?_
  | with_reducible refine KA.kB_t ?_
  | with_reducible refine KA.kB_f ?_
  | with_reducible refine KA.kB_nn ?_
  | with_reducible refine KA.ite_kB ?_
  | ((with_reducible refine' KA.g_ixT0 ?h ?k); (case h => exact L2.SqT.of (by assumption)))
  | ((with_reducible refine' KA.g_ixT1 ?h ?k); (case h => exact L2.SqT.of (by assumption)))
  | with_reducible refine KA.g_lct ?_
  | with_reducible refine KA.g_lcl ?_
  | with_reducible refine KA.g_lcr ?_
  | with_reducible refine KA.g_sl ?_
  | with_reducible refine KA.g_nop ?_
  | with_reducible refine KA.g_part ?_
  | with_reducible refine KA.g_exi ?_
  | with_reducible refine KA.g_eqs ?_
  | with_reducible refine KA.g_nes ?_
  | with_reducible refine KA.g_isN_i ?_
  | with_reducible refine KA.g_isN_n ?_
  | with_reducible refine KA.g_isN_r ?_
  | with_reducible refine KA.g_abs ?_
  | with_reducible refine KA.g_mx ?_
  | with_reducible refine KA.g_mn ?_
  | with_reducible refine KA.g_int ?_
  | with_reducible refine KA.g_intb ?_
  | with_reducible refine KA.g_isi_ii ?_
  | with_reducible refine KA.g_isi_ib ?_
  | with_reducible refine KA.g_isi_ss ?_
  | ((with_reducible refine' KA.g_isi_tt ?h ?k); (case h => assumption))
  | ((with_reducible refine' KA.g_lnL ?h ?k); (case h => assumption))
  | ((with_reducible refine' KA.g_lnT ?h ?k); (case h => assumption)))
local macro_rules | `(tactic| walk_at "s") => `(tactic| first
  | walk_at "mulW"
  | ((with_reducible refine' KA.g_ixT0 ?h ?k); (case h => assumption))
  | ((with_reducible refine' KA.g_ixT1 ?h ?k); (case h => assumption))
  | with_reducible refine KR.g_lcz ?_
  | with_reducible refine KR.g_lck ?_
  | with_reducible refine KR.g_forZ ?_
  | with_reducible refine KR.g_forK ?_
  | with_reducible refine KT.g_forR ?_
  | with_reducible refine KW.g_for ?_
  | with_reducible refine KR.g_sfld ?_
  | with_reducible refine KR.g_mth ?_
  | with_reducible refine KR.g_make ?_
  | fail)
local macro_rules | `(tactic| walk_at "s") => `(tactic| first
  | with_reducible refine KW.g_put ?_
  | with_reducible refine KW.g_sub ?_
  | with_reducible refine KW.g_bm0 ?_
  | ((with_reducible refine' KT.s_L ?h ?k); (case h => assumption))
  | ((with_reducible refine' KT.s_R ?h ?k); (case h => assumption))
  | ((with_reducible refine' KT.s_C ?h ?k); (case h => assumption))
  | ((with_reducible refine' KT.s_T ?h ?k); (case h => assumption))
  | ((with_reducible refine' KT.g_pw ?h ?h2 ?k); (case h => exact ⟨by omega, by omega⟩); (case h2 => exact ⟨by omega, by omega⟩))
  | with_reducible refine KT.g_bm ?_
  | with_reducible refine KT.g_pairs ?_
  | with_reducible refine KT.g_pairs0 ?_
  | with_reducible refine KR.g_din ?_
  | with_reducible refine KR.g_dno ?_
  | fail)
section
variable {P : Program} {w : World} {K : PySem.W.Frag} {mg : Str → Option Value} {base : Heap} {A : Adr}
open KR
def sp__law_state (K : PySem.W.Frag) : Sp := fun vs H Q _ => ∃ (a : Addr) (us : List V) (rows : List (List Rat)) (t : Nat), vs = [.ref a, .int (t : Int)] ∧ H a = some (.lst us) ∧ Paired (RowV K H) us rows ∧ (∀ r ∈ rows, SmR t r) ∧ 1 ≤ t ∧ t ≤ 8 ∧
  ∀ p d v H', Ex H H' → H' p = some (.tup [.ref d, .str (wordS t (allL (t + 1) rows)), v]) → DRow K H' d (allL (t + 1) rows) → OptV (RowV K H') v (pathO t (allL (t + 1) rows)) → Q (.ref p) H'
theorem optV_mono {α : Type} {R : Hp → V → α → Prop} {H H' : Hp} (m : ∀ v q, R H v q → R H' v q) {v : V} {o : Option α} (h : OptV (R H) v o) : OptV (R H') v o := by
  cases o with
  | none => exact h
  | some q => exact m _ _ h
theorem ok__law_state (T : Txt P K mg A) : FnOk P w K mg base CX0 7 A.f__law_state A.d__law_state ["rows", "taps"] (sp__law_state K) := by
  refine T.F__law_state.ok sc__law_state (fun vs H Q E h => ?_) (fun cdv Ar outer s H vs Q E hr h => ?_)
  · obtain ⟨a, us, rows, t, rfl, _⟩ := h; rfl
  obtain ⟨a, us, rows, t, rfl, ha, hp, sm, t1, t8, k⟩ := h
  refine ⟨_, (pss_cons (ps_set (i := 2) sc__law_state.nd rfl (Or.inr rfl) (pe_call (ok__law_reduced T) (hr.mono (by decide)) (by rfl) T.m__law_reduced T.F__law_reduced.kp T.b__law_reduced .nil pass0 (pa_cons (pe_op op_add (pv 1) pe_int) (pa_cons (pv 0) pa_nil))))
  (pss_cons (ps_set (i := 3) sc__law_state.nd rfl (Or.inl rfl) (pe_ifExp (pt_cmp (pc_din (hu_of hr) (pv 1) (pv 2)) (by with_unfolding_all rfl)) pe_str (pe_ifExp (pt_cmpR op_eq (pe_callB KR.call_lenDK (by rfl) T.z_len (by decide +kernel) (pa_cons (pv 2) pa_nil)) (pv 1) (nomark _)) pe_str pe_str)))
  (pss_cons (ps_set (i := 4) sc__law_state.nd rfl (Or.inl rfl) (pe_ifExp (pt_cmpR op_eq (pv 3) pe_str (nomark _)) (pe_callTy KR.call_tup (by rfl) T.z_tuple (by decide +kernel) (pa_cons (pe_lock (pe_lc (own := [("place", 5)]) (g := gName 5) (tt := tYes) rfl sc__law_state.nd (pi_keys (pv 2)) (blkOk_by (own := [("place", 5)]) (N := N__law_state) (sc := defScope s__law_state) (by decide +kernel)) (fun _ _ _ _ _ => (pg_name (i := 5) sc__law_state.nd rfl (Or.inl rfl))) (fun _ _ _ _ _ => pts_nil) (fun _ _ _ _ _ => (pe_ix (KR.ix_tupK (K := K) rfl) (pe_dget (hu_of hr) (pv 2) (pv 5) (fun _ _ => rfl)) (pv 1) (fun _ _ => rfl))))) pa_nil)) pe_non))
  (pss_one (ps_ret (pe_tup (pa_cons (pv 2) (pa_cons (pv 3) (pa_cons (pv 4) pa_nil))))))))), ?_⟩
  show tSeq _ _ _ [some (.ref a), some (.int (t : Int)), none, none, none, none] H
  repeat' (walk_at "s")
  refine ⟨a, us, rows, t, rfl, ha, hp, sm, t1, t8, fun d H1 e1 hD => ?_⟩
  have ok : OkL t (allL (t + 1) rows) := okL_all sm
  generalize hL : allL (t + 1) rows = L at hD ok k
  have l9 := ok_len ok
  repeat' (walk_at "s")
  refine g_kdin hD ?_
  have none_ : ∀ {v : V}, ¬ wordS t L = "one" → v = .non → OptV (RowV K H1) v (pathO t L) := fun {v} h e => by
    unfold pathO
    rw [if_neg h]; exact e
  repeat' (walk_at "s")
  refine KA.kB_b (fun hb => ?_) (fun hb => ?_)
  · have ew : wordS t L = "none" := by unfold wordS; rw [if_pos hb]
    have nw : ¬ (Str.ofString "none" = Str.ofString "one") := by decide +kernel
    repeat' (walk_at "s")
    refine KA.kB_no nw ?_
    repeat' (walk_at "s")
    refine KA.g_ktup (show 3 ≤ 1000 by decide) fun p H2 hp2 e2 h2 => ?_
    exact k p d _ H2 (e1.trans e2) (by rw [ew]; exact h2) (hD.mono e2) (optV_mono (fun _ _ h => RowV.mono e2 h) (none_ (by rw [ew]; exact nw) rfl))
  · repeat' (walk_at "s")
    refine g_lenD hD ?_
    repeat' (walk_at "s")
    refine KA.kB_d (fun hc => ?_) (fun hc => ?_)
    · have ew : wordS t L = "one" := by unfold wordS; rw [if_neg (by rw [hb]; exact Bool.false_ne_true), if_pos (by omega)]
      repeat' (walk_at "s")
      refine KA.kB_yes rfl ?_
      obtain ⟨kvs, hd, hk⟩ := id hD
      repeat' (walk_at "s")
      refine g_lockE hd trivial fun od => ?_
      have hHL : (upd H1 d (.frz od (.dK kvs))) d = some (.frz od (.dK kvs)) := upd_same
      repeat' (walk_at "s")
      refine lcq_keys (FrV K) (fun i => (L.map fun z => vec z.2 t).take i) hHL rfl (fun D9 hD9 j kk vv H9 hj9 h9 => ?_) (fun D9 H9 zs9 hD9 e9 hz9 hpz9 => ?_)
      · obtain ⟨z, hz', ek, hrow9⟩ := patG hk hj9
        have ek : kk = kN z.1 := ek
        subst ek
        have mz := List.mem_of_getElem? hz'
        obtain ⟨v2, hv2, rv2⟩ := val_rowk hk (keysNe_of ok.asc) mz
        obtain ⟨pz, wz, rfl, hpz', hwz⟩ := (row_upd (o' := .frz od (.dK kvs)) hd noT_dk rv2).mono h9.1
        obtain ⟨y, hy⟩ : ∃ y, z.2[t]? = some y := ⟨_, List.getElem?_eq_some_iff.mpr ⟨by rw [ok.len z mz]; omega, rfl⟩⟩
        obtain ⟨vy, hvy, fvy⟩ := paired_get hwz hy
        unfold kV LqTurn
        repeat' (walk_at "s")
        refine ⟨rfl, ?_⟩
        repeat' (walk_at "s")
        refine g_ksubF (k := kN z.1) (h9.1 _ _ hHL) hv2 ?_
        repeat' (walk_at "s")
        refine KA.g_ixT (SqT.of hpz') hvy ?_
        refine lcq_end (fun _ _ _ _ e h => h.monoT e) hD9 h9 (Ex.refl _) (by rw [List.length_take, List.length_map]; omega) (take_map hz') ?_
        rw [vec_lt hy]
        exact fvy
      · have lk : kvs.length = L.length := hk.length
        rw [lk, ← List.length_map (f := fun z : Nat × List Rat => vec z.2 t), List.take_length] at hpz9
        have hd9 := e9 _ _ hHL
        refine ⟨hd9, ?_⟩
        have e19 := ex_unlock hd e9
        have nD : D9 ≠ d := fun z => by rw [z, hHL] at hD9; cases hD9
        have hz9' : (upd H9 d (.dK kvs)) D9 = some (.lst zs9) := by rw [upd_ne nD]; exact hz9
        have hpz9' := pimp (fun _ _ h => fr_upd (o' := .dK kvs) hd9 noT_fdk h) hpz9
        generalize upd H9 d (.dK kvs) = Hu at e19 hz9' hpz9'
        repeat' (walk_at "s")
        refine g_tupL hz9' fun q H3 hq e3 h3 => ?_
        repeat' (walk_at "s")
        refine KA.g_ktup (show 3 ≤ 1000 by decide) fun p H4 hp4 e4 h4 => ?_
        have e14 := (e19.trans e3).trans e4
        refine k p d _ H4 (e1.trans e14) (by rw [ew]; exact h4) (hD.mono e14) ?_
        unfold pathO
        rw [if_pos ew]
        exact ⟨q, zs9, rfl, e4 _ _ h3, pimp (fun _ _ h => FrV.mono (e3.trans e4) h) hpz9'⟩
    · have ew : wordS t L = "many" := by unfold wordS; rw [if_neg (by rw [hb]; exact Bool.false_ne_true), if_neg (by omega)]
      have nw : ¬ (Str.ofString "many" = Str.ofString "one") := by decide +kernel
      repeat' (walk_at "s")
      refine KA.kB_no nw ?_
      repeat' (walk_at "s")
      refine KA.g_ktup (show 3 ≤ 1000 by decide) fun p H2 hp2 e2 h2 => ?_
      exact k p d _ H2 (e1.trans e2) (by rw [ew]; exact h2) (hD.mono e2) (optV_mono (fun _ _ h => RowV.mono e2 h) (none_ (by rw [ew]; exact nw) rfl))
def sp__law_left (K : PySem.W.Frag) : Sp := fun vs H Q _ => ∃ (d a : Addr) (ns : List Int) (L : LRd) (t : Nat) (y : Int), vs = [.ref d, .int (t : Int), .ref a, .int y] ∧ DRow K H d L ∧ OkL t L ∧ H a = some (.lst (ns.map V.int)) ∧ ns.length ≤ 1000 ∧ 1 ≤ t ∧ t ≤ 8 ∧ SmR t (rats (back ns t ++ [y])) ∧
  ∀ v H', Ex H H' → OptV (FrV K H') v (leftO t L (rats (back ns t ++ [y]))) → Q v H'
theorem take_zero {t : Nat} {r : List Rat} (h : t ≤ r.length) : r.take t = List.replicate t 0 ↔ fst t (vec r) = none := by
  constructor
  · intro e
    refine fst_no fun j hj => ?_
    have : (r.take t)[j]? = some 0 := by rw [e, List.getElem?_replicate, if_pos hj]
    rw [List.getElem?_take_of_lt hj] at this
    exact vec_lt this
  · intro e
    have z := fst_none e
    refine List.ext_getElem (by rw [List.length_take, List.length_replicate]; omega) fun i a b => ?_
    rw [List.getElem_replicate, List.getElem_take]
    have : i < t := by rw [List.length_replicate] at b; exact b
    rw [← z i this]
    exact (vec_lt (List.getElem?_eq_getElem (by omega))).symm
theorem ok__law_left (T : Txt P K mg A) : FnOk P w K mg base CX0 6 A.f__law_left A.d__law_left ["known", "taps", "sent", "heard"] (sp__law_left K) := by
  refine T.F__law_left.ok sc__law_left (fun vs H Q E h => ?_) (fun cdv Ar outer s H vs Q E hr h => ?_)
  · obtain ⟨d, a, ns, L, t, y, rfl, _⟩ := h; rfl
  obtain ⟨d, a, ns, L, t, y, rfl, hD, ok, ha, hl, t1, t8, sm, k⟩ := h
  refine ⟨_, (pss_cons (ps_set (i := 4) sc__law_left.nd rfl (Or.inl rfl) (pe_call (ok__law_fractions T) (hr.mono (by decide)) (by rfl) T.m__law_fractions T.F__law_fractions.kp T.b__law_fractions .nil pass0 (pa_cons (pe_op op_cat (pe_lc (own := [("k", 5)]) (g := gName 5) (tt := tYes) rfl sc__law_left.nd (pi_range1 rfl T.z_range (pa_cons (pv 1) pa_nil)) (blkOk_by (own := [("k", 5)]) (N := N__law_left) (sc := defScope s__law_left) (by decide +kernel)) (fun _ _ _ _ _ => (pg_name (i := 5) sc__law_left.nd rfl (Or.inl rfl))) (fun _ _ _ _ _ => pts_nil) (fun _ _ _ _ _ => (pe_ifExp (pt_cmpR op_lt (pv 5) (pe_callB (KR.call_lnK (K := K) rfl) (by rfl) T.z_len (by decide +kernel) (pa_cons (pv 2) pa_nil)) (nomark _)) (pe_ix (KR.ix_listK (K := K) rfl) (pv 2) (pe_op op_sub (pe_un un_neg pe_int) (pv 5)) (fun _ _ => rfl)) pe_int))) (pe_lst (pa_cons (pv 3) pa_nil))) pa_nil)))
  (pss_cons (ps_set (i := 6) sc__law_left.nd rfl (Or.inl rfl) (pe_call (ok__law_lesser T) (hr.mono (by decide)) (by rfl) T.m__law_lesser T.F__law_lesser.kp T.b__law_lesser .nil pass0 (pa_cons (pv 0) (pa_cons (pv 4) pa_nil))))
  (pss_one (ps_ret (pe_ifExp (PW.pt (pw_and (pt_cmp (pc_dnotin (hu_of hr) (pv 1) (pv 0)) (by with_unfolding_all rfl)) (pw_and1 (pt_cmpR (KR.op_eqK (K := K) rfl (by exact hr.units)) (pe_slice sl_tup (pv 6) po_none (po_some (pv 1))) (pe_op KU.op_repA (pe_tup (pa_cons (pe_tup (pa_cons pe_int (pa_cons pe_int pa_nil))) pa_nil)) (pv 1)) (nomark _))))) (pe_ix (KR.ix_tupK (K := K) rfl) (pv 6) (pv 1) (fun _ _ => rfl)) pe_non))))), ?_⟩
  show tSeq _ _ _ [some (.ref d), some (.int (t : Int)), some (.ref a), some (.int y), none, none, none] H
  repeat' (walk_at "s")
  refine lcq_rng (fun _ v (n : Int) => v = .int n) (fun i => back ns i) ⟨by omega, by omega⟩ rfl (fun D hD' i H2 hi h2 => ?_) (fun D H2 zs hD' e2 hz hpz => ?_)
  · have ha2 := h2.1 _ _ ha
    have out : back ns (i + 1) = back ns i ++ [ns.reverse.getD i 0] := by unfold back; rw [List.range_succ, List.map_append]; rfl
    have len : (back ns i).length ≤ 100000 := by unfold back; rw [List.length_map, List.length_range]; omega
    unfold LqTurn
    repeat' (walk_at "s")
    refine ⟨rfl, ?_⟩
    repeat' (walk_at "s")
    refine KA.kB_d (fun hc => ?_) (fun hc => ?_)
    · rw [List.length_map] at hc
      repeat' (walk_at "s")
      refine ⟨a, _, _, _, rfl, rfl, SqL.of ha2, by rw [Int.zero_add]; exact at_back (by omega), ?_⟩
      exact lcq_end (fun _ _ _ _ _ h => h) hD' h2 (Ex.refl _) len out rfl
    · rw [List.length_map] at hc
      repeat' (walk_at "s")
      refine lcq_end (fun _ _ _ _ _ h => h) hD' h2 (Ex.refl _) len out ?_
      rw [List.getD_eq_getElem?_getD, List.getElem?_eq_none (by rw [List.length_reverse]; omega)]
      rfl
  · have zeq : zs = (back ns t).map V.int := by
      have : ∀ {l : List V} {m : List Int}, Paired (fun v (p : Int) => v = V.int p) l m → l = m.map V.int := by
        intro l m h
        induction h with
        | nil => rfl
        | cons r _ ih => rw [r, ih]; rfl
      exact this hpz
    subst zeq
    repeat' (walk_at "s")
    refine KA.g_klst (show 1 ≤ 1000 by decide) fun q3 H3 hq3 e3 h3 => ?_
    repeat' (walk_at "s")
    have lb : (back ns t).length = t := by unfold back; rw [List.length_map, List.length_range]
    refine g_cat (e3 _ _ hz) h3 (by rw [List.length_map, lb]; show _ + 1 ≤ 100000; omega) fun q4 H4 hq4 e4 h4 => ?_
    repeat' (walk_at "s")
    refine ⟨q4, back ns t ++ [y], rfl, by rw [h4, List.map_append]; rfl, by rw [List.length_append, lb]; show _ + 1 ≤ 1000; omega, fun v5 H5 e5 h5 => ?_⟩
    have ex5 := ((e2.trans e3).trans e4).trans e5
    generalize hrow : rats (back ns t ++ [y]) = row at h5 sm k
    have lc : (clrL L row).length = t + 1 := clrL_len ok.len sm.1
    repeat' (walk_at "s")
    refine ⟨d, v5, row, L, t + 1, rfl, hD.mono ex5, h5, sm.1, by omega, by omega, ok.len, keysNe_of ok.asc, fun z hz => by have := ok.lt hz; omega, fun z hz => ok.size t8 hz, fun i _ => ok.clr_size t8 sm i, fun v6 H6 e6 hv6 => ?_⟩
    have ex6 := ex5.trans e6
    have k6 := k
    unfold leftO at k6
    repeat' (walk_at "s")
    refine g_kdno (hD.mono ex6) ?_
    repeat' (walk_at "s")
    refine KA.kB_b (fun hb => ?_) (fun hb => ?_)
    · rw [if_pos hb] at k6
      repeat' (walk_at "s")
      exact k6 _ _ ex6 rfl
    · rw [if_neg (by rw [hb]; exact Bool.false_ne_true)] at k6
      obtain ⟨pz, wz, rfl, hpz', hwz⟩ := id hv6
      repeat' (walk_at "s")
      refine g_slTp (SqT.of hpz') (by rw [hwz.length]; omega) fun q7 H7 hq7 e7 h7 => ?_
      repeat' (walk_at "s")
      refine KA.g_ktup (show 2 ≤ 1000 by decide) fun q8 H8 hq8 e8 h8 => ?_
      repeat' (walk_at "s")
      refine KA.g_ktup (show 1 ≤ 1000 by decide) fun q9 H9 hq9 e9 h9 => ?_
      repeat' (walk_at "s")
      refine g_repA (SqT.of h9) (List.cons_ne_nil _ _) (by omega) (by omega) (by show 1 ≤ 1000; decide) h9 fun p10 H10 e10 h10 => ?_
      have e89 := (e8.trans e9).trans e10
      have e610 := e7.trans e89
      have hl7 : RowV K H10 (.ref q7) ((clrL L row).take t) := ⟨q7, _, rfl, e89 _ _ h7, pimp (fun _ _ h => FrV.mono e610 h) (ptake hwz t)⟩
      have hz10 : RowV K H10 (.ref p10) (List.replicate t 0) := rep_row (by rw [h10]; congr 3) (fr_new (e10 _ _ (e9 _ _ h8)))
      repeat' (walk_at "s")
      refine g_eqR hl7 hz10 ?_
      repeat' (walk_at "s")
      refine KA.kB_d (fun hc => ?_) (fun hc => ?_)
      · rw [if_pos ((take_zero (by omega)).mp hc)] at k6
        obtain ⟨q, hq⟩ : ∃ q, (clrL L row)[t]? = some q := ⟨_, List.getElem?_eq_some_iff.mpr ⟨by omega, rfl⟩⟩
        obtain ⟨vy, hvy, fvy⟩ := paired_get hwz hq
        repeat' (walk_at "s")
        refine KA.g_ixT (SqT.of (e610 _ _ hpz')) hvy ?_
        refine k6 _ _ (ex6.trans e610) ?_
        rw [vec_lt hq]
        exact FrV.mono e610 fvy
      · rw [if_neg fun z => hc ((take_zero (by omega)).mpr z)] at k6
        repeat' (walk_at "s")
        exact k6 _ _ (ex6.trans e610) rfl
end
end K75
end
section
namespace K75
open PySem L2 Evl KX
/-! steps -/
local macro_rules | `(tactic| walk_at "nrm") => `(tactic| (((with_reducible refine' KA.g_nrm ?h ?k)); (case h => ((conv => lhs; simp only [List.set_cons_zero, List.set_cons_succ]); try exact rfl))))
local macro_rules | `(tactic| walk_at "nam") => `(tactic| (((with_reducible refine' KA.g_nameN ?h ?k)); (case h => ((conv => lhs; simp only [List.set_cons_zero, List.set_cons_succ]); try exact rfl))))
local macro_rules | `(tactic| walk_at "var") => `(tactic| (((with_reducible refine' KA.g_var ?h ?k)); (case h => exact rfl)))
local macro_rules | `(tactic| walk_at "aug") => `(tactic| (((with_reducible refine' KA.g_aug ?h ?k)); (case h => exact rfl)))
local macro_rules | `(tactic| walk_at "mul") => `(tactic| ((with_reducible refine KA.g_I (C := CMul) ?h ?k); (case h => first | exact KA.cmul_l (by omega) (by omega) | exact KA.cmul_r (by omega) (by omega))))
local macro_rules | `(tactic| walk_at "dv") => `(tactic| ((with_reducible refine KA.g_I (C := KA.CDv) ?h ?k); (case h => exact ⟨by omega, by omega⟩)))
local macro_rules | `(tactic| walk_at "mod") => `(tactic| ((with_reducible refine KA.g_I (C := fun _ j => 0 < j) ?h ?k); (case h => omega)))
local macro_rules | `(tactic| walk_at "s") => `(tactic| first
  | walk_at "nrm"
  | with_reducible refine KA.g_seq ?_
  | with_reducible refine KA.g_asg ?_
  | walk_at "nam"
  | with_reducible refine KA.g_yes ?_
  | with_reducible refine KA.g_ifs ?_
  | with_reducible refine KA.g_ret ?_
  | with_reducible refine KA.g_retN ?_
  | with_reducible refine KA.g_drop ?_
  | with_reducible refine KA.g_next ?_
  | with_reducible refine KA.g_brk ?_
  | with_reducible refine KA.g_par ?_
  | with_reducible refine KA.g_par3 ?_
  | with_reducible refine KA.g_kpar ?_
  | with_reducible refine KA.g_kpar3 ?_
  | with_reducible refine KA.g_op ?_
  | walk_at "var"
  | with_reducible refine KA.g_c ?_
  | with_reducible refine KA.g_I0 ?_
  | with_reducible refine KA.g_eqi ?_
  | with_reducible refine KA.g_nei ?_
  | with_reducible refine KA.g_test ?_
  | with_reducible refine KA.g_kbl ?_
  | with_reducible refine KA.g_cons ?_
  | with_reducible refine KA.g_nil ?_
  | with_reducible refine KA.g_cb ?_
  | with_reducible refine KA.g_call ?_
  | with_reducible refine KA.g_tb ?_
  | with_reducible refine KA.g_not ?_
  | with_reducible refine KA.g_and ?_
  | with_reducible refine KA.g_or ?_
  | with_reducible refine KA.g_if ?_
  | with_reducible refine KA.g_andV ?_
  | with_reducible refine KA.g_orV ?_
  | with_reducible refine KA.g_notV ?_
  | with_reducible refine KA.g_kbv ?_
  | with_reducible refine KA.g_ex1 ?_
  | with_reducible refine KA.g_chain ?_
  | with_reducible refine KA.g_fld ?_
  | with_reducible refine KA.g_un ?_
  | with_reducible refine KA.g_U ?_
  | with_reducible refine KA.g_tup ?_
  | with_reducible refine KA.g_lst ?_
  | walk_at "mul"
  | walk_at "dv"
  | walk_at "mod"
  | walk_at "aug"
  | with_reducible refine KA.g_ipi ?_
  | with_reducible refine KA.g_gcons ?_
  | with_reducible refine KA.g_gnil ?_
  | with_reducible refine KA.kB_t ?_
  | with_reducible refine KA.kB_f ?_
  | with_reducible refine KA.kB_nn ?_
  | with_reducible refine KA.ite_kB ?_
  | ((with_reducible refine' KA.g_ixT0 ?h ?k); (case h => exact L2.SqT.of (by assumption)))
  | ((with_reducible refine' KA.g_ixT1 ?h ?k); (case h => exact L2.SqT.of (by assumption)))
  | with_reducible refine KA.g_lct ?_
  | with_reducible refine KA.g_lcl ?_
  | with_reducible refine KA.g_lcr ?_
  | with_reducible refine KA.g_sl ?_
  | with_reducible refine KA.g_nop ?_
  | with_reducible refine KA.g_part ?_
  | with_reducible refine KA.g_exi ?_
  | with_reducible refine KA.g_eqs ?_
  | with_reducible refine KA.g_nes ?_
  | with_reducible refine KA.g_isN_i ?_
  | with_reducible refine KA.g_isN_n ?_
  | with_reducible refine KA.g_isN_r ?_
  | with_reducible refine KA.g_abs ?_
  | with_reducible refine KA.g_mx ?_
  | with_reducible refine KA.g_mn ?_
  | with_reducible refine KA.g_int ?_
  | with_reducible refine KA.g_intb ?_
  | with_reducible refine KA.g_isi_ii ?_
  | with_reducible refine KA.g_isi_ib ?_
  | with_reducible refine KA.g_isi_ss ?_
  | ((with_reducible refine' KA.g_isi_tt ?h ?k); (case h => assumption))
  | ((with_reducible refine' KA.g_lnL ?h ?k); (case h => assumption))
  | ((with_reducible refine' KA.g_lnT ?h ?k); (case h => assumption)))
local macro_rules | `(tactic| walk_at "s") => `(tactic| first
  | walk_at "mulW"
  | ((with_reducible refine' KA.g_ixT0 ?h ?k); (case h => assumption))
  | ((with_reducible refine' KA.g_ixT1 ?h ?k); (case h => assumption))
  | with_reducible refine KR.g_lcz ?_
  | with_reducible refine KR.g_lck ?_
  | with_reducible refine KR.g_forZ ?_
  | with_reducible refine KR.g_forK ?_
  | with_reducible refine KT.g_forR ?_
  | with_reducible refine KW.g_for ?_
  | with_reducible refine KR.g_sfld ?_
  | with_reducible refine KR.g_mth ?_
  | with_reducible refine KR.g_make ?_
  | fail)
local macro_rules | `(tactic| walk_at "s") => `(tactic| first
  | with_reducible refine KW.g_put ?_
  | with_reducible refine KW.g_sub ?_
  | with_reducible refine KW.g_bm0 ?_
  | ((with_reducible refine' KT.s_L ?h ?k); (case h => assumption))
  | ((with_reducible refine' KT.s_R ?h ?k); (case h => assumption))
  | ((with_reducible refine' KT.s_C ?h ?k); (case h => assumption))
  | ((with_reducible refine' KT.s_T ?h ?k); (case h => assumption))
  | ((with_reducible refine' KT.g_pw ?h ?h2 ?k); (case h => exact ⟨by omega, by omega⟩); (case h2 => exact ⟨by omega, by omega⟩))
  | with_reducible refine KT.g_bm ?_
  | with_reducible refine KT.g_pairs ?_
  | with_reducible refine KT.g_pairs0 ?_
  | with_reducible refine KR.g_din ?_
  | with_reducible refine KR.g_dno ?_
  | with_reducible refine KR.g_mthK ?_
  | fail)
section
variable {P : Program} {w : World} {K : PySem.W.Frag} {mg : Str → Option Value} {base : Heap} {A : Adr}
open KR
theorem g_vals {H : Hp} {Q : VK} {d : Addr} {kvs : List (L2.Key × V)} (hd : H d = some (.dK kvs)) (h : ∀ p H', H p = none → Ex H H' → H' p = some (KV.valsO p d) → Q (.ref p) H') : KW.kBM0 K "dict" KV.rVals Q (.ref d) H :=
  ⟨.inr (.inr (.inl ⟨rfl, .inl ⟨_, hd⟩⟩)), d, kvs, rfl, rfl, hd, fun p hp => h p _ hp (Ex.new hp) upd_same⟩
theorem g_tupV {H : Hp} {Q : VK} {p d : Addr} {kvs : List (L2.Key × V)} (hp : H p = some (KV.valsO p d)) (hd : H d = some (.dK kvs)) (h : ∀ q H', H q = none → Ex H H' → H' q = some (.tup (kvs.map (·.2))) → Q (.ref q) H') : KV.rTupV [.ref p] H Q :=
  ⟨p, d, kvs, rfl, hp, hd, fun q hq => h q _ hq (Ex.new hq) upd_same⟩
theorem vals_rows {H : Hp} : ∀ {kvs : List (L2.Key × V)} {L : LRd}, Paired (RowK K H) kvs L → Paired (RowV K H) (kvs.map (·.2)) (L.map (·.2))
  | _, _, .nil => .nil
  | _, _, .cons r rs => .cons r.2 (vals_rows rs)
theorem back_next {ns : List Int} {t : Nat} {i : Int} (t1 : 1 ≤ t) : back (ns ++ [i]) t = i :: back ns (t - 1) := by
  obtain ⟨n, rfl⟩ : ∃ n, t = n + 1 := ⟨t - 1, by omega⟩
  unfold back
  rw [List.range_succ_eq_map, List.map_cons, List.map_map, Nat.add_sub_cancel, List.reverse_append]
  rfl
theorem next_back {ns : List Int} {t : Nat} {i j : Int} (t1 : 1 ≤ t) : rats (back (ns ++ [i]) t ++ [j]) = nextRow i (back ns (t - 1)) j := by rw [back_next t1]; rfl
def sp__law_told_right (K : PySem.W.Frag) (A : Adr) : Sp := fun vs H Q _ => ∃ (x ra sa nh : Addr) (t : Nat) (us : List V) (rows : List (List Rat)) (ns : List Int) (i j : Int), vs = [.ref x, .int (t : Int), .ref ra, .ref sa, .ref nh] ∧
  Lsn K A.C_Listener H x t (back ns (t - 1)) (allL (t + 1) rows) ∧ H ra = some (.lst us) ∧ Paired (RowV K H) us rows ∧ (∀ r ∈ rows, SmR t r) ∧ H sa = some (.lst (ns.map V.int)) ∧ ns.length ≤ 900 ∧ H nh = some (.tup [.int i, .int j]) ∧
  snd1 (.int i) = true ∧ snd1 (.int j) = true ∧ SmR t (nextRow i (back ns (t - 1)) j) ∧ RetV (.bl true) H Q
theorem ok__law_told_right (T : Txt P K mg A) : KG.FnG P w K mg base CX0 8 A.f__law_told_right A.d__law_told_right ["listener", "taps", "rows", "sent", "next_here"] (sp__law_told_right K A) := by
  refine KG.okG T.F__law_told_right sc__law_told_right (fun vs H Q E h => ?_) (fun cdv Ar outer s H vs Q E hg hr h => ?_)
  · obtain ⟨x, ra, sa, nh, t, us, rows, ns, i, j, rfl, _⟩ := h; rfl
  obtain ⟨x, ra, sa, nh, t, us, rows, ns, i, j, rfl, ls, hra, hus, sm, hsa, hns, hnh, si, sj, smn, k⟩ := h
  refine ⟨_, (pss_cons (ps_asg (pe_call (ok__law_state T) (hr.mono (by decide)) (by rfl) T.m__law_state T.F__law_state.kp T.b__law_state .nil pass0 (pa_cons (pv 2) (pa_cons (pv 1) pa_nil))) (pg_tup rfl (pgs_cons (pg_name (i := 5) sc__law_told_right.nd rfl (Or.inl rfl)) (pgs_cons (pg_name (i := 6) sc__law_told_right.nd rfl (Or.inl rfl)) (pgs_cons (pg_name (i := 7) sc__law_told_right.nd rfl (Or.inl rfl)) pgs_nil)))))
  (pss_cons (ps_set (i := 8) sc__law_told_right.nd rfl (Or.inl rfl) (pe_meth0 (pv 0) T.cl_Listener T.me_Listener_known (ok_Listener_known T) (hr.mono (by decide)) T.b_Listener_known .nil pass0))
  (pss_cons (ps_if (PW.pt (pw_or (pt_cmpR op_ne (pe_callB (KG.call_repr hg (hr.mono (Nat.zero_le _))) (by rfl) T.z_repr (by decide +kernel) (pa_cons (pv 8) pa_nil)) (pe_callB (KG.call_repr hg (hr.mono (Nat.zero_le _))) (by rfl) T.z_repr (by decide +kernel) (pa_cons (pe_callTy (KV.call_tupV rfl) (by rfl) T.z_tuple (by decide +kernel) (pa_cons (pe_bm0 PySem.F.plainAttrs_dict PySem.F.slot_dict_values PySem.F.type_dict_values KV.mt_values (pv 5)) pa_nil)) pa_nil)) (nomark _)) (pw_or1 (pt_cmpR op_gt (pe_callB KA.call_ln (by rfl) T.z_len (by decide +kernel) (pa_cons (pv 8) pa_nil)) (pe_op op_add (pv 1) pe_int) (nomark _))))) (pss_one (ps_ret pe_bl)) pss_nil)
  (pss_cons (ps_if (pt_cmpR op_ne (pe_callB (KG.call_repr hg (hr.mono (Nat.zero_le _))) (by rfl) T.z_repr (by decide +kernel) (pa_cons (pe_lst (pa_cons (pe_meth0 (pv 0) T.cl_Listener T.me_Listener_word (ok_Listener_word T) (hr.mono (by decide)) T.b_Listener_word .nil pass0) (pa_cons (pe_meth0 (pv 0) T.cl_Listener T.me_Listener_path (ok_Listener_path T) (hr.mono (by decide)) T.b_Listener_path .nil pass0) pa_nil))) pa_nil)) (pe_callB (KG.call_repr hg (hr.mono (Nat.zero_le _))) (by rfl) T.z_repr (by decide +kernel) (pa_cons (pe_lst (pa_cons (pv 6) (pa_cons (pv 7) pa_nil))) pa_nil)) (nomark _)) (pss_one (ps_ret pe_bl)) pss_nil)
  (pss_cons (ps_set (i := 9) sc__law_told_right.nd rfl (Or.inl rfl) (pe_call (ok__law_left T) (hr.mono (by decide)) (by rfl) T.m__law_left T.F__law_left.kp T.b__law_left .nil pass0 (pa_cons (pv 5) (pa_cons (pv 1) (pa_cons (pe_op op_cat (pv 3) (pe_lst (pa_cons (pe_ix (KR.ix_tupK (K := K) rfl) (pv 4) pe_int (fun _ _ => rfl)) pa_nil))) (pa_cons (pe_ix (KR.ix_tupK (K := K) rfl) (pv 4) pe_int (fun _ _ => rfl)) pa_nil))))))
  (pss_cons (ps_if (pt_cmpR op_ne (pe_callB (KG.call_repr hg (hr.mono (Nat.zero_le _))) (by rfl) T.z_repr (by decide +kernel) (pa_cons (pe_lst (pa_cons (pe_meth (pv 0) T.cl_Listener T.me_Listener_left (ok_Listener_left T) (hr.mono (by decide)) T.b_Listener_left .nil passL (pa_cons (pe_ix (KR.ix_tupK (K := K) rfl) (pv 4) pe_int (fun _ _ => rfl)) (pa_cons (pe_ix (KR.ix_tupK (K := K) rfl) (pv 4) pe_int (fun _ _ => rfl)) pa_nil))) (pa_cons (KV.pe_methK0 (pv 0) T.cl_Listener T.me_Listener_left (ok_Listener_left T) (hr.mono (by decide)) T.kb_Listener_left_heard_sent passL (pk_cons (pe_ix (KR.ix_tupK (K := K) rfl) (pv 4) pe_int (fun _ _ => rfl)) (pk_cons (pe_ix (KR.ix_tupK (K := K) rfl) (pv 4) pe_int (fun _ _ => rfl)) pk_nil))) pa_nil))) pa_nil)) (pe_callB (KG.call_repr hg (hr.mono (Nat.zero_le _))) (by rfl) T.z_repr (by decide +kernel) (pa_cons (pe_lst (pa_cons (pv 9) (pa_cons (pv 9) pa_nil))) pa_nil)) (nomark _)) (pss_one (ps_ret pe_bl)) pss_nil)
  (pss_one (ps_ret (pe_cmpR op_eq (pe_callB (KG.call_repr hg (hr.mono (Nat.zero_le _))) (by rfl) T.z_repr (by decide +kernel) (pa_cons (pe_meth0 (pv 0) T.cl_Listener T.me_Listener_known (ok_Listener_known T) (hr.mono (by decide)) T.b_Listener_known .nil pass0) pa_nil)) (pe_callB (KG.call_repr hg (hr.mono (Nat.zero_le _))) (by rfl) T.z_repr (by decide +kernel) (pa_cons (pe_callTy (KV.call_tupV rfl) (by rfl) T.z_tuple (by decide +kernel) (pa_cons (pe_bm0 PySem.F.plainAttrs_dict PySem.F.slot_dict_values PySem.F.type_dict_values KV.mt_values (pv 5)) pa_nil)) pa_nil)) (nomark _)))))))))), ?_⟩
  show tSeq _ _ _ [some (.ref x), some (.int (t : Int)), some (.ref ra), some (.ref sa), some (.ref nh), none, none, none, none, none] H
  have t1 := ls.t1
  have t8 := ls.t8
  have ok := ls.ok
  repeat' (walk_at "s")
  refine ⟨ra, us, rows, t, rfl, hra, hus, sm, t1, t8, fun p d vp H1 e1 h1 hD hP => ?_⟩
  generalize hL : allL (t + 1) rows = L at *
  have l9 := ok_len ok
  refine KA.g_gtup (SqT.of h1) rfl ?_
  repeat' (walk_at "s")
  obtain ⟨⟨dx, pb, rr, hx, _⟩, _⟩ := id ls
  refine g_kmth (e1 _ _ hx) lf_known ?_
  repeat' (walk_at "s")
  refine ⟨x, t, _, L, rfl, lsn_mono e1 ls, fun q ys H2 e2 h2 hys => ?_⟩
  repeat' (walk_at "s")
  have e12 := e1.trans e2
  have oR := okb_rows ok t8 l9
  refine g_reprB rfl (dpL h2 hys) (oR.up (by decide) (by decide)) ?_
  repeat' (walk_at "s")
  obtain ⟨kvs, hd, hk⟩ := hD.mono e2
  refine g_vals hd fun p3 H3 hp3 e3 h3 => ?_
  repeat' (walk_at "s")
  refine g_tupV h3 (e3 _ _ hd) fun q4 H4 hq4 e4 h4 => ?_
  have e34 := e3.trans e4
  repeat' (walk_at "s")
  refine g_reprB rfl (dpL h4 (vals_rows (pimp (fun _ _ h => RowK.mono e34 h) hk))) (oR.up (by decide) (by decide)) ?_
  repeat' (walk_at "s")
  refine KA.kB_yes rfl ?_
  have h24 := e34 _ _ h2
  repeat' (walk_at "s")
  have ly : ys.length = L.length := by rw [hys.length, List.length_map]
  refine KA.kB_no (by omega) ?_
  have e14 := e12.trans e34
  have ls4 := lsn_mono e14 ls
  repeat' (walk_at "s")
  refine g_kmth (e14 _ _ hx) lf_word ?_
  repeat' (walk_at "s")
  refine ⟨x, t, _, L, rfl, ls4, fun H5 e5 => ?_⟩
  repeat' (walk_at "s")
  refine g_kmth (e5 _ _ (e14 _ _ hx)) lf_path ?_
  repeat' (walk_at "s")
  refine ⟨x, t, _, L, rfl, lsn_mono e5 ls4, fun v6 H6 e6 hv6 => ?_⟩
  repeat' (walk_at "s")
  refine KA.g_klst (show 2 ≤ 1000 by decide) fun p7 H7 hp7 e7 h7 => ?_
  repeat' (walk_at "s")
  have oP := okb_path ok t8 l9
  have oW : OkB 3 100 (.list [.str (wordS t L), datO (pathO t L)]) := (OkB.lst (k := 2) (b := 28) (n := 2) (fun d hd => by
    rcases List.mem_cons.mp hd with rfl | hd
    · exact okb_word.up (by decide) (by decide)
    · rw [List.mem_singleton.mp hd]; exact oP) (Nat.le_refl _)).up (by decide) (by decide)
  have d7 : Dp K H7 (.ref p7) (.list [.str (wordS t L), datO (pathO t L)]) := .lst (SqL.of h7) (.cons (.str _) (.cons (dpO (optV_mono (fun _ _ h => RowV.mono e7 h) hv6)) .nil))
  refine g_reprB rfl d7 (oW.up (by decide) (by decide)) ?_
  repeat' (walk_at "s")
  refine KA.g_klst (show 2 ≤ 1000 by decide) fun p8 H8 hp8 e8 h8 => ?_
  repeat' (walk_at "s")
  have e48 := ((e5.trans e6).trans e7).trans e8
  have e28 := (e2.trans e34).trans e48
  have d8 : Dp K H8 (.ref p8) (.list [.str (wordS t L), datO (pathO t L)]) := .lst (SqL.of h8) (.cons (.str _) (.cons (dpO (optV_mono (fun _ _ h => RowV.mono e28 h) hP)) .nil))
  refine g_reprB rfl d8 (oW.up (by decide) (by decide)) ?_
  repeat' (walk_at "s")
  refine KA.kB_yes rfl ?_
  have e18 := e1.trans e28
  have hnh8 := e18 _ _ hnh
  repeat' (walk_at "s")
  refine KA.g_klst (show 1 ≤ 1000 by decide) fun p9 H9 hp9 e9 h9 => ?_
  repeat' (walk_at "s")
  refine g_cat (e9 _ _ (e18 _ _ hsa)) h9 (by rw [List.length_map]; show _ + 1 ≤ 100000; omega) fun p10 H10 hp10 e10 h10 => ?_
  have e810 := e9.trans e10
  have hnh10 := e810 _ _ hnh8
  repeat' (walk_at "s")
  refine ⟨d, p10, ns ++ [i], L, t, j, rfl, hD.mono (e28.trans e810), ok, by rw [h10, List.map_append]; rfl, by rw [List.length_append]; show _ + 1 ≤ 1000; omega, t1, t8, by rw [next_back t1]; exact smn, fun v11 H11 e11 hv11 => ?_⟩
  rw [next_back t1] at hv11
  have e111 := (e18.trans e810).trans e11
  have ls11 := lsn_mono e111 ls
  have hnh11 := e11 _ _ hnh10
  have oF := okb_left ok t8 smn
  repeat' (walk_at "s")
  refine g_kmth (e111 _ _ hx) lf_left ?_
  repeat' (walk_at "s")
  have nT : ∀ {P : Prop}, true = false → P := fun z => by cases z
  refine ⟨x, _, _, t, _, L, rfl, .int _, .int _, ls11, fun z => nT (si.symm.trans z), fun _ z => nT (sj.symm.trans z), fun x' y' ex ey _ _ => ?_⟩
  cases ex; cases ey
  refine ⟨smn, fun v12 H12 e12' hv12 => ?_⟩
  have hnh12 := e12' _ _ hnh11
  have ls12 := lsn_mono e12' ls11
  repeat' (walk_at "s")
  refine g_kmthK (e12' _ _ (e111 _ _ hx)) lf_left ?_
  repeat' (walk_at "s")
  refine ⟨rfl, x, .int i, .int j, t, _, L, rfl, .int _, .int _, ls12, fun z => nT (si.symm.trans z), fun _ z => nT (sj.symm.trans z), fun x' y' ex ey _ _ => ?_⟩
  cases ex; cases ey
  refine ⟨smn, fun v13 H13 e13 hv13 => ?_⟩
  repeat' (walk_at "s")
  refine KA.g_klst (show 2 ≤ 1000 by decide) fun p14 H14 hp14 e14' h14 => ?_
  repeat' (walk_at "s")
  have oW2 : OkB 3 100 (.list [datF (leftO t L (nextRow i (back ns (t - 1)) j)), datF (leftO t L (nextRow i (back ns (t - 1)) j))]) := (OkB.lst (k := 1) (b := 3) (n := 2) (fun d hd => by
    rcases List.mem_cons.mp hd with rfl | hd
    · exact oF
    · rw [List.mem_singleton.mp hd]; exact oF) (Nat.le_refl _)).up (by decide) (by decide)
  have f14 : ∀ {H5 v}, OptV (FrV K H5) v (leftO t L (nextRow i (back ns (t - 1)) j)) → Ex H5 H14 → Dp K H14 v (datF (leftO t L (nextRow i (back ns (t - 1)) j))) := fun h e => dpF (optV_mono (fun _ _ h => FrV.mono e h) h)
  have d14 : Dp K H14 (.ref p14) _ := .lst (SqL.of h14) (.cons (f14 hv12 (e13.trans e14')) (.cons (f14 hv13 e14') .nil))
  refine g_reprB rfl d14 (oW2.up (by decide) (by decide)) ?_
  repeat' (walk_at "s")
  refine KA.g_klst (show 2 ≤ 1000 by decide) fun p15 H15 hp15 e15 h15 => ?_
  repeat' (walk_at "s")
  have e1115 := ((e12'.trans e13).trans e14').trans e15
  have f15 : Dp K H15 v11 (datF (leftO t L (nextRow i (back ns (t - 1)) j))) := dpF (optV_mono (fun _ _ h => FrV.mono e1115 h) hv11)
  have d15 : Dp K H15 (.ref p15) _ := .lst (SqL.of h15) (.cons f15 (.cons f15 .nil))
  refine g_reprB rfl d15 (oW2.up (by decide) (by decide)) ?_
  repeat' (walk_at "s")
  refine KA.kB_yes rfl ?_
  have eAll := e111.trans e1115
  repeat' (walk_at "s")
  refine g_kmth (eAll _ _ hx) lf_known ?_
  repeat' (walk_at "s")
  refine ⟨x, t, _, L, rfl, lsn_mono eAll ls, fun q16 ys16 H16 e16 h16 hys16 => ?_⟩
  repeat' (walk_at "s")
  refine g_reprB rfl (dpL h16 hys16) (oR.up (by decide) (by decide)) ?_
  repeat' (walk_at "s")
  obtain ⟨kvs17, hd17, hk17⟩ := hD.mono (((e28.trans (e810.trans e11)).trans e1115).trans e16)
  refine g_vals hd17 fun p17 H17 hp17 e17 h17 => ?_
  repeat' (walk_at "s")
  refine g_tupV h17 (e17 _ _ hd17) fun q18 H18 hq18 e18 h18 => ?_
  have e1718 := e17.trans e18
  repeat' (walk_at "s")
  refine g_reprB rfl (dpL h18 (vals_rows (pimp (fun _ _ h => RowK.mono e1718 h) hk17))) (oR.up (by decide) (by decide)) ?_
  repeat' (walk_at "s")
  have := k _ ((eAll.trans e16).trans e1718)
  simpa using this
end
end K75
end
section
namespace K75
open PySem L2 Evl KX
/-! steps -/
local macro_rules | `(tactic| walk_at "nrm") => `(tactic| (((with_reducible refine' KA.g_nrm ?h ?k)); (case h => ((conv => lhs; simp only [List.set_cons_zero, List.set_cons_succ]); try exact rfl))))
local macro_rules | `(tactic| walk_at "nam") => `(tactic| (((with_reducible refine' KA.g_nameN ?h ?k)); (case h => ((conv => lhs; simp only [List.set_cons_zero, List.set_cons_succ]); try exact rfl))))
local macro_rules | `(tactic| walk_at "var") => `(tactic| (((with_reducible refine' KA.g_var ?h ?k)); (case h => exact rfl)))
local macro_rules | `(tactic| walk_at "aug") => `(tactic| (((with_reducible refine' KA.g_aug ?h ?k)); (case h => exact rfl)))
local macro_rules | `(tactic| walk_at "mul") => `(tactic| ((with_reducible refine KA.g_I (C := CMul) ?h ?k); (case h => first | exact KA.cmul_l (by omega) (by omega) | exact KA.cmul_r (by omega) (by omega))))
local macro_rules | `(tactic| walk_at "dv") => `(tactic| ((with_reducible refine KA.g_I (C := KA.CDv) ?h ?k); (case h => exact ⟨by omega, by omega⟩)))
local macro_rules | `(tactic| walk_at "mod") => `(tactic| ((with_reducible refine KA.g_I (C := fun _ j => 0 < j) ?h ?k); (case h => omega)))
local macro_rules | `(tactic| walk_at "s") => `(tactic| first
  | walk_at "nrm"
  | with_reducible refine KA.g_seq ?_
  | with_reducible refine KA.g_asg ?_
  | walk_at "nam"
  | with_reducible refine KA.g_yes ?_
  | with_reducible refine KA.g_ifs ?_
  | with_reducible refine KA.g_ret ?_
  | with_reducible refine KA.g_retN ?_
  | with_reducible refine KA.g_drop ?_
  | with_reducible refine KA.g_next ?_
  | with_reducible refine KA.g_brk ?_
  | with_reducible refine KA.g_par ?_
  | with_reducible refine KA.g_par3 ?_
  | with_reducible refine KA.g_kpar ?_
  | with_reducible refine KA.g_kpar3 ?_
  | with_reducible refine KA.g_op ?_
  | walk_at "var"
  | with_reducible refine KA.g_c ?_
  | with_reducible refine KA.g_I0 ?_
  | with_reducible refine KA.g_eqi ?_
  | with_reducible refine KA.g_nei ?_
  | with_reducible refine KA.g_test ?_
  | with_reducible refine KA.g_kbl ?_
  | with_reducible refine KA.g_cons ?_
  | with_reducible refine KA.g_nil ?_
  | with_reducible refine KA.g_cb ?_
  | with_reducible refine KA.g_call ?_
  | with_reducible refine KA.g_tb ?_
  | with_reducible refine KA.g_not ?_
  | with_reducible refine KA.g_and ?_
  | with_reducible refine KA.g_or ?_
  | with_reducible refine KA.g_if ?_
  | with_reducible refine KA.g_andV ?_
  | with_reducible refine KA.g_orV ?_
  | with_reducible refine KA.g_notV ?_
  | with_reducible refine KA.g_kbv ?_
  | with_reducible refine KA.g_ex1 ?_
  | with_reducible refine KA.g_chain ?_
  | with_reducible refine KA.g_fld ?_
  | with_reducible refine KA.g_un ?_
  | with_reducible refine KA.g_U ?_
  | with_reducible refine KA.g_tup ?_
  | with_reducible refine KA.g_lst ?_
  | walk_at "mul"
  | walk_at "dv"
  | walk_at "mod"
  | walk_at "aug"
  | with_reducible refine KA.g_ipi ?_
  | with_reducible refine KA.g_gcons ?_
  | with_reducible refine KA.g_gnil ?_
  | with_reducible refine KA.kB_t ?_
  | with_reducible refine KA.kB_f ?_
  | with_reducible refine KA.kB_nn ?_
  | with_reducible refine KA.ite_kB ?_
  | ((with_reducible refine' KA.g_ixT0 ?h ?k); (case h => exact L2.SqT.of (by assumption)))
  | ((with_reducible refine' KA.g_ixT1 ?h ?k); (case h => exact L2.SqT.of (by assumption)))
  | with_reducible refine KA.g_lct ?_
  | with_reducible refine KA.g_lcl ?_
  | with_reducible refine KA.g_lcr ?_
  | with_reducible refine KA.g_sl ?_
  | with_reducible refine KA.g_nop ?_
  | with_reducible refine KA.g_part ?_
  | with_reducible refine KA.g_exi ?_
  | with_reducible refine KA.g_eqs ?_
  | with_reducible refine KA.g_nes ?_
  | with_reducible refine KA.g_isN_i ?_
  | with_reducible refine KA.g_isN_n ?_
  | with_reducible refine KA.g_isN_r ?_
  | with_reducible refine KA.g_abs ?_
  | with_reducible refine KA.g_mx ?_
  | with_reducible refine KA.g_mn ?_
  | with_reducible refine KA.g_int ?_
  | with_reducible refine KA.g_intb ?_
  | with_reducible refine KA.g_isi_ii ?_
  | with_reducible refine KA.g_isi_ib ?_
  | with_reducible refine KA.g_isi_ss ?_
  | ((with_reducible refine' KA.g_isi_tt ?h ?k); (case h => assumption))
  | ((with_reducible refine' KA.g_lnL ?h ?k); (case h => assumption))
  | ((with_reducible refine' KA.g_lnT ?h ?k); (case h => assumption)))
local macro_rules | `(tactic| walk_at "s") => `(tactic| first
  | walk_at "mulW"
  | ((with_reducible refine' KA.g_ixT0 ?h ?k); (case h => assumption))
  | ((with_reducible refine' KA.g_ixT1 ?h ?k); (case h => assumption))
  | with_reducible refine KR.g_lcz ?_
  | with_reducible refine KR.g_lck ?_
  | with_reducible refine KR.g_forZ ?_
  | with_reducible refine KR.g_forK ?_
  | with_reducible refine KT.g_forR ?_
  | with_reducible refine KW.g_for ?_
  | with_reducible refine KR.g_sfld ?_
  | with_reducible refine KR.g_mth ?_
  | with_reducible refine KR.g_make ?_
  | fail)
local macro_rules | `(tactic| walk_at "s") => `(tactic| first
  | with_reducible refine KW.g_put ?_
  | with_reducible refine KW.g_sub ?_
  | with_reducible refine KW.g_bm0 ?_
  | ((with_reducible refine' KT.s_L ?h ?k); (case h => assumption))
  | ((with_reducible refine' KT.s_R ?h ?k); (case h => assumption))
  | ((with_reducible refine' KT.s_C ?h ?k); (case h => assumption))
  | ((with_reducible refine' KT.s_T ?h ?k); (case h => assumption))
  | ((with_reducible refine' KT.g_pw ?h ?h2 ?k); (case h => exact ⟨by omega, by omega⟩); (case h2 => exact ⟨by omega, by omega⟩))
  | with_reducible refine KT.g_bm ?_
  | with_reducible refine KT.g_pairs ?_
  | with_reducible refine KT.g_pairs0 ?_
  | with_reducible refine KR.g_din ?_
  | with_reducible refine KR.g_dno ?_
  | with_reducible refine KR.g_mthK ?_
  | with_reducible refine KR.g_partOf ?_
  | fail)
section
variable {P : Program} {w : World} {K : PySem.W.Frag} {mg : Str → Option Value} {base : Heap} {A : Adr}
open KT KR
theorem g_cau {H : Hp} {Q : VK} {CS : Addr} {tl : XK → Hp → VK → Prop} (h : tl (fun cls d H' => PySem.W.exmOne K cls (.ref CS) = some true ∧ ∀ a, H' a = none → Q (.ref a) (upd H' a (KX.XO cls d a))) H fun _ H' => Q .non H') : KX.TCau K CS tl H Q := h
def refQ : Str := "_law_refused.<locals>.<lambda>"
abbrev refT (A : Adr) : List (Addr × Str) := [(A.P__law_refused, refQ)]
def BadP (v u : V) (p : Str) : Prop := (snd1 v = false ∧ p = ("sent" : Str)) ∨ (snd1 v = true ∧ snd1 u = false ∧ p = ("heard" : Str))
theorem hear_err {a : Addr} {v u q : V} {t : Nat} {bs : List Int} {L : LRd} {H : Hp} {Q : VK} {E : XK} {p : Str} (b : BadP v u p) (kv : Kd H v) (ku : Kd H u) (ls : Lsn K A.C_Listener H a t bs L) (k : ErrP A p H E) : sp_Listener_hear K A [.ref a, v, u, q] H Q E := by
  have nT : ∀ {P : Prop}, true = false → P := fun z => by cases z
  refine ⟨a, v, u, q, t, bs, L, rfl, kv, ku, ls, fun z => ?_, fun y z => ?_, fun y z => ?_, fun x y' q' _ _ _ y z => ?_⟩
  all_goals rcases b with ⟨b1, b2⟩ | ⟨b1, b2, b3⟩
  · rw [b2] at k; exact k
  · exact nT (b1.symm.trans z)
  · exact nT (y.symm.trans b1)
  · rw [b3] at k; exact k
  · exact nT (y.symm.trans b1)
  · exact nT (z.symm.trans b2)
  · exact nT (y.symm.trans b1)
  · exact nT (z.symm.trans b2)
theorem left_err {a : Addr} {v u : V} {t : Nat} {bs : List Int} {L : LRd} {H : Hp} {Q : VK} {E : XK} {p : Str} (b : BadP v u p) (kv : Kd H v) (ku : Kd H u) (ls : Lsn K A.C_Listener H a t bs L) (k : ErrP A p H E) : sp_Listener_left K A [.ref a, v, u] H Q E := by
  have nT : ∀ {P : Prop}, true = false → P := fun z => by cases z
  refine ⟨a, v, u, t, bs, L, rfl, kv, ku, ls, fun z => ?_, fun y z => ?_, fun x y' _ _ y z => ?_⟩
  all_goals rcases b with ⟨b1, b2⟩ | ⟨b1, b2, b3⟩
  · rw [b2] at k; exact k
  · exact nT (b1.symm.trans z)
  · exact nT (y.symm.trans b1)
  · rw [b3] at k; exact k
  · exact nT (y.symm.trans b1)
  · exact nT (z.symm.trans b2)
def sp__law_refused (K : PySem.W.Frag) (A : Adr) : Sp := fun vs H Q _ => ∃ (t l c x : Addr) (n : Nat) (bs : List Int) (L : LRd), vs = [.ref t, .ref x] ∧ Tape H t l c ∧ Lsn K A.C_Listener H x n bs L ∧ LamX.Tabs (refT A) H ∧
  ∀ H', Tape H' t l c → TN t l H H' → LamX.Tabs (refT A) H' → Q (.bl true) H'
theorem ok__law_refused (T : Txt P K mg A) (tb : LamX.TabB base mg A.c__law_refused A.P__law_refused) : FnOk P w K mg base CX0 10 A.f__law_refused A.d__law_refused ["tape", "listener"] (sp__law_refused K A) := by
  refine KX.okC T.F__law_refused sc__law_refused (fun vs H Q E h => ?_) (fun cdv Ar outer s H vs Q E hc hr h => ?_)
  · obtain ⟨t, l, c, x, n, bs, L, rfl, _⟩ := h; rfl
  obtain ⟨t, l, c, x, n, bs, L, rfl, tp, ls, tab, k⟩ := h
  have hcode : cdv = .ref A.c__law_refused := hc.symm.trans T.cd__law_refused
  refine ⟨_, (pss_cons (ps_asg (pe_tup (pa_cons (pe_call (ok__law_pick T) (hr.mono (by decide)) (by rfl) T.m__law_pick T.F__law_pick.kp T.b__law_pick .nil pass0 (pa_cons (pv 0) (pa_cons (pe_lst (pa_cons pe_non (pa_cons (pe_op op_add (pe_op op_pow pe_int pe_int) pe_int) (pa_cons pe_bl (pa_cons pe_str (pa_cons (pe_tup (pa_cons pe_int pa_nil)) (pa_cons (pe_op op_sub (pe_op op_sub pe_int (pe_op op_pow pe_int pe_int)) pe_int) pa_nil))))))) pa_nil))) (pa_cons (pe_call (ok__law_pick T) (hr.mono (by decide)) (by rfl) T.m__law_pick T.F__law_pick.kp T.b__law_pick .nil pass0 (pa_cons (pv 0) (pa_cons (pe_lst (pa_cons pe_non (pa_cons pe_int (pa_cons pe_int (pa_cons pe_str (pa_cons (pe_tup pa_nil) pa_nil)))))) pa_nil))) pa_nil))) (pg_tup rfl (pgs_cons (pg_name (i := 2) sc__law_refused.nd rfl (Or.inl rfl)) (pgs_cons (pg_name (i := 3) sc__law_refused.nd rfl (Or.inr rfl)) pgs_nil))))
  (pss_cons (ps_for PassesOwn.never rfl (pi_list (pe_lst (pa_cons (pe_tup (pa_cons (pe_tup (pa_cons (pv 2) (pa_cons pe_non pa_nil))) (pa_cons pe_str pa_nil))) (pa_cons (pe_tup (pa_cons (pe_tup (pa_cons pe_int (pa_cons (pv 2) pa_nil))) (pa_cons pe_str pa_nil))) pa_nil)))) (pg_tup rfl (pgs_cons (pg_name (i := 4) sc__law_refused.nd rfl (Or.inr rfl)) (pgs_cons (pg_name (i := 5) sc__law_refused.nd rfl (Or.inl rfl)) pgs_nil))) (pss_cons (ps_set (i := 6) sc__law_refused.nd rfl (Or.inl rfl) (KX.pe_cau T.F__law_caught T.cau T.b__law_caught (by rfl) T.m__law_caught T.g_CallError tb hcode (by exact List.mem_cons_self) KX.one_tab hr (LamX.lamS_by (show LamX.lamSB (defScope s__law_refused) _ = true by decide +kernel)) rfl (fun _ _ _ _ _ => rfl) (fun A outer s H E f c hr => (pe_meth (pv 1) T.cl_Listener T.me_Listener_hear (ok_Listener_hear T) (hr.mono (by decide)) T.b_Listener_hear .nil KX.passLam (pa_cons (pe_ix (KR.ix_tupK (K := K) rfl) (pv 4) pe_int (fun _ _ => rfl)) (pa_cons (pe_ix (KR.ix_tupK (K := K) rfl) (pv 4) pe_int (fun _ _ => rfl)) (pa_cons (pv 3) pa_nil)))))))
  (pss_cons (ps_set (i := 7) sc__law_refused.nd rfl (Or.inl rfl) (KX.pe_cau T.F__law_caught T.cau T.b__law_caught (by rfl) T.m__law_caught T.g_CallError tb hcode (by exact List.mem_cons_self) KX.one_tab hr (LamX.lamS_by (show LamX.lamSB (defScope s__law_refused) _ = true by decide +kernel)) rfl (fun _ _ _ _ _ => rfl) (fun A outer s H E f c hr => (pe_meth (pv 1) T.cl_Listener T.me_Listener_left (ok_Listener_left T) (hr.mono (by decide)) T.b_Listener_left .nil KX.passLam (pa_cons (pe_ix (KR.ix_tupK (K := K) rfl) (pv 4) pe_int (fun _ _ => rfl)) (pa_cons (pe_ix (KR.ix_tupK (K := K) rfl) (pv 4) pe_int (fun _ _ => rfl)) pa_nil))))))
  (pss_one (ps_if (PW.pt (pw_or (pt_not (pt_val (pe_callB KX.call_isX (by rfl) T.z_isinstance (by decide +kernel) (pa_cons (pv 6) (pa_cons (pe_glob (v := .ref A.C_BadNumber) rfl T.g_BadNumber rfl) pa_nil))))) (pw_or (pt_not (pt_val (pe_callB KX.call_isX (by rfl) T.z_isinstance (by decide +kernel) (pa_cons (pv 7) (pa_cons (pe_glob (v := .ref A.C_BadNumber) rfl T.g_BadNumber rfl) pa_nil))))) (pw_or1 (pt_cmpR (KR.op_neK (K := K) rfl (by exact hr.units)) (pe_lst (pa_cons (KX.pe_partOf (pv 6)) (pa_cons (KX.pe_partOf (pv 7)) pa_nil))) (pe_lst (pa_cons (pv 5) (pa_cons (pv 5) pa_nil))) (nomark _)))))) (pss_one (ps_ret pe_bl)) pss_nil)))))
  (pss_cons (ps_if (pt_not (pt_val (pe_callB KX.call_isX (by rfl) T.z_isinstance (by decide +kernel) (pa_cons (KX.pe_cau T.F__law_caught T.cau T.b__law_caught (by rfl) T.m__law_caught T.g_CallError tb hcode (by exact List.mem_cons_self) KX.one_tab hr (LamX.lamS_by (show LamX.lamSB (defScope s__law_refused) _ = true by decide +kernel)) rfl (fun _ _ _ _ _ => rfl) (fun A outer s H E f c hr => (pe_meth (pv 1) T.cl_Listener T.me_Listener_hear (ok_Listener_hear T) (hr.mono (by decide)) T.b_Listener_hear .nil KX.passLam (pa_cons pe_int (pa_cons pe_int (pa_cons (pv 3) pa_nil)))))) (pa_cons (pe_glob (v := .ref A.C_BadQuiet) rfl T.g_BadQuiet rfl) pa_nil))))) (pss_one (ps_ret pe_bl)) pss_nil)
  (pss_cons (ps_set (i := 8) sc__law_refused.nd rfl (Or.inl rfl) (KX.pe_cau T.F__law_caught T.cau T.b__law_caught (by rfl) T.m__law_caught T.g_CallError tb hcode (by exact List.mem_cons_self) KX.one_tab hr (LamX.lamS_by (show LamX.lamSB (defScope s__law_refused) _ = true by decide +kernel)) rfl (fun _ _ _ _ _ => rfl) (fun A outer s H E f c hr => (pe_make T.mk_Listener (ok_Listener_init T) (hr.mono (by decide)) (by rfl) T.g_Listener T.b_Listener_init .nil KX.passLam (pa_cons (pe_call (ok__law_pick T) (hr.mono (by decide)) (by rfl) T.m__law_pick T.F__law_pick.kp T.b__law_pick .nil pass0 (pa_cons (pv 0) (pa_cons (pe_lst (pa_cons pe_non (pa_cons pe_int (pa_cons pe_int (pa_cons pe_bl (pa_cons pe_str (pa_cons (pe_un un_neg pe_int) pa_nil))))))) pa_nil))) pa_nil)))))
  (pss_one (ps_ret (pe_and (pe_callB KX.call_isX (by rfl) T.z_isinstance (by decide +kernel) (pa_cons (pv 8) (pa_cons (pe_glob (v := .ref A.C_BadNumber) rfl T.g_BadNumber rfl) pa_nil))) (pe_one (pe_cmpR op_eq (KX.pe_partOf (pv 8)) pe_str (nomark _)))))))))), ?_⟩
  show tSeq _ _ _ [some (.ref t), some (.ref x), none, none, none, none, none, none, none] H
  repeat' (walk_at "s")
  refine KA.g_ktup (show 1 ≤ 1000 by decide) fun q1 H1 hq1 e1 h1 => ?_
  repeat' (walk_at "s")
  refine KA.g_klst (show 6 ≤ 1000 by decide) fun q2 H2 hq2 e2 h2 => ?_
  have tp2 := tp.mono (e1.trans e2)
  have new_ : ∀ {H' : Hp} {q : Addr} (T' : Tape H' t l c), H' q = none → q ≠ l := fun T' hn z => by
    obtain ⟨ls', hl'⟩ := T'.lar
    rw [z, hl'] at hn; cases hn
  repeat' (walk_at "s")
  refine ⟨t, l, c, q2, _, rfl, tp2, h2, new_ (tp.mono e1) hq2, by show 1 ≤ 6; decide, by show 6 ≤ 1000; decide, fun bad H3 hbad tp3 tx3 => ?_⟩
  have q13 : H3 q1 = some (.tup [V.int 1]) := (TN.tx tx3).tup tp2 (e2 _ _ h1)
  have ib : snd1 bad = false ∧ Kd H3 bad := by
    rcases List.mem_cons.mp hbad with rfl | hbad
    · exact ⟨rfl, .non⟩
    rcases List.mem_cons.mp hbad with rfl | hbad
    · exact ⟨by decide +kernel, .int _⟩
    rcases List.mem_cons.mp hbad with rfl | hbad
    · exact ⟨rfl, .bl _⟩
    rcases List.mem_cons.mp hbad with rfl | hbad
    · exact ⟨rfl, .str _⟩
    rcases List.mem_cons.mp hbad with rfl | hbad
    · exact ⟨rfl, .tup q13⟩
    rw [List.mem_singleton.mp hbad]
    exact ⟨by decide +kernel, .int _⟩
  repeat' (walk_at "s")
  refine KA.g_ktup (Nat.zero_le _) fun q4 H4 hq4 e4 h4 => ?_
  repeat' (walk_at "s")
  refine KA.g_klst (show 5 ≤ 1000 by decide) fun q5 H5 hq5 e5 h5 => ?_
  have tp5 := tp3.mono (e4.trans e5)
  repeat' (walk_at "s")
  refine ⟨t, l, c, q5, _, rfl, tp5, h5, new_ (tp3.mono e4) hq5, by show 1 ≤ 5; decide, by show 5 ≤ 1000; decide, fun odd H6 hodd tp6 tx6 => ?_⟩
  have q46 : H6 q4 = some (.tup []) := (TN.tx tx6).tup tp5 (e5 _ _ h4)
  have io : (∀ b, odd ≠ .bl b) ∧ Kd H6 odd := by
    rcases List.mem_cons.mp hodd with rfl | hodd
    · exact ⟨(fun _ z => nomatch z), .non⟩
    rcases List.mem_cons.mp hodd with rfl | hodd
    · exact ⟨(fun _ z => nomatch z), .int _⟩
    rcases List.mem_cons.mp hodd with rfl | hodd
    · exact ⟨(fun _ z => nomatch z), .int _⟩
    rcases List.mem_cons.mp hodd with rfl | hodd
    · exact ⟨(fun _ z => nomatch z), .str _⟩
    rw [List.mem_singleton.mp hodd]
    exact ⟨(fun _ z => nomatch z), .tup q46⟩
  have n06 : TN t l H H6 := ((TN.of (e1.trans e2)).trans (TN.tx tx3)).trans ((TN.of (e4.trans e5)).trans (TN.tx tx6))
  have tab6 : LamX.Tabs (refT A) H6 := tabs_tx tp5 tx6 ((tabs_tx tp2 tx3 (tab.ext (e1.trans e2))).ext (e4.trans e5))
  have ls6 := lsn_tn tp n06 ls
  have kb6 : Kd H6 bad := kd_tn tp5 (TN.tx tx6) (ib.2.mono (e4.trans e5))
  repeat' (walk_at "s")
  refine KA.g_ktup (show 2 ≤ 1000 by decide) fun q7 H7 hq7 e7 h7 => ?_
  refine KA.g_gtup (SqT.of h7) rfl ?_
  repeat' (walk_at "s")
  refine KA.g_ktup (show 2 ≤ 1000 by decide) fun p8 H8 hp8 e8 h8 => ?_
  repeat' (walk_at "s")
  refine KA.g_ktup (show 2 ≤ 1000 by decide) fun p9 H9 hp9 e9 h9 => ?_
  repeat' (walk_at "s")
  refine KA.g_ktup (show 2 ≤ 1000 by decide) fun p10 H10 hp10 e10 h10 => ?_
  repeat' (walk_at "s")
  refine KA.g_ktup (show 2 ≤ 1000 by decide) fun p11 H11 hp11 e11 h11 => ?_
  repeat' (walk_at "s")
  refine KA.g_klst (show 2 ≤ 1000 by decide) fun p12 H12 hp12 e12 h12 => ?_
  have e612 : Ex H6 H12 := ((((e7.trans e8).trans e9).trans e10).trans e11).trans e12
  have tp12 := tp6.mono e612
  have ls12 := lsn_mono e612 ls6
  have tab12 := tab6.ext e612
  have kb12 := kb6.mono e612
  have ko12 := io.2.mono e612
  have h12' : H12 p12 = some (.lst ([p9, p11].map V.ref)) := h12
  refine KW.g_forL (fun i σ H' => ∃ x4 x5 x6 x7 x8, σ = [some (.ref t), some (.ref x), some bad, some odd, x4, x5, x6, x7, x8] ∧ TN t l H12 H' ∧ Tape H' t l c ∧ LamX.Tabs (refT A) H') (SqL.of h12)
    ⟨_, _, _, _, _, rfl, TN.of (Ex.refl _), tp12, tab12⟩ (fun i σ H' _ ⟨_, _, _, _, _, _, e, _, _⟩ => SqL.of (TN.refs tp12 e h12')) ?_ ?_
  · rintro i y σ H13 hy ⟨x4, x5, x6, x7, x8, rfl, n13, tp13, tab13⟩
    obtain ⟨pp, th, part, v, u, rfl, hpp, hth, bp, kv, ku⟩ : ∃ (pp th : Addr) (part : Str) (v u : V), y = .ref pp ∧ H12 pp = some (.tup [.ref th, .str part]) ∧ H12 th = some (.tup [v, u]) ∧ BadP v u part ∧ Kd H12 v ∧ Kd H12 u := by
      match i, hy with
      | 0, hy =>
        cases hy
        exact ⟨p9, p8, _, bad, .non, rfl, e12 _ _ (e11 _ _ (e10 _ _ h9)), e12 _ _ (e11 _ _ (e10 _ _ (e9 _ _ h8))), .inl ⟨ib.1, rfl⟩, kb12, .non⟩
      | 1, hy =>
        cases hy
        exact ⟨p11, p10, _, .int 1, bad, rfl, e12 _ _ h11, e12 _ _ (e11 _ _ h10), .inr ⟨by decide +kernel, ib.1, rfl⟩, .int _, kb12⟩
    have hth13 := n13.tup tp12 hth
    refine KA.g_gtup (SqT.of (n13.tup tp12 hpp)) rfl ?_
    repeat' (walk_at "s")
    refine ⟨tab13, fun H14 x14 tab14 => ?_⟩
    have n14 : TN t l H12 H14 := n13.trans (TN.ext x14)
    have tp14 := tape_ext tp13 x14
    have hth14 := n14.tup tp12 hth
    refine g_cau ?_
    repeat' (walk_at "s")
    obtain ⟨⟨dx, _, _, hx12, _⟩, _⟩ := id ls12
    refine g_kmth (n14.ins tp12 hx12) lf_hear ?_
    repeat' (walk_at "s")
    refine hear_err bp (kd_tn tp12 n14 kv) (kd_tn tp12 n14 ku) (lsn_tn tp12 n14 ls12) fun d H15 e15 hd15 => ⟨T.te_BadNumber, fun ea hea => ?_⟩
    have e16 : Ex H15 (upd H15 ea (KX.XO (.ref A.C_BadNumber) (some d) ea)) := Ex.new hea
    have hx16 : (upd H15 ea (KX.XO (.ref A.C_BadNumber) (some d) ea)) ea = some (KX.XO (.ref A.C_BadNumber) (some d) ea) := upd_same
    have hd16 := e16 _ _ hd15
    have n16 := n14.trans (TN.of (e15.trans e16))
    have tab16 := tab14.ext (e15.trans e16)
    have tp16 := tp14.mono (e15.trans e16)
    generalize upd H15 ea (KX.XO (.ref A.C_BadNumber) (some d) ea) = H16 at e16 hx16 hd16 n16 tab16 tp16
    repeat' (walk_at "s")
    refine ⟨tab16, fun H17 x17 tab17 => ?_⟩
    have n17 : TN t l H12 H17 := n16.trans (TN.ext x17)
    have tp17 := tape_ext tp16 x17
    have hth17 := n17.tup tp12 hth
    refine g_cau ?_
    repeat' (walk_at "s")
    refine g_kmth (n17.ins tp12 hx12) lf_left ?_
    repeat' (walk_at "s")
    refine left_err bp (kd_tn tp12 n17 kv) (kd_tn tp12 n17 ku) (lsn_tn tp12 n17 ls12) fun d2 H18 e18 hd18 => ⟨T.te_BadNumber, fun ea2 hea2 => ?_⟩
    have e19 : Ex H18 (upd H18 ea2 (KX.XO (.ref A.C_BadNumber) (some d2) ea2)) := Ex.new hea2
    have hx19 : (upd H18 ea2 (KX.XO (.ref A.C_BadNumber) (some d2) ea2)) ea2 = some (KX.XO (.ref A.C_BadNumber) (some d2) ea2) := upd_same
    have hd19 := e19 _ _ hd18
    have n19 := n17.trans (TN.of (e18.trans e19))
    have tab19 := tab17.ext (e18.trans e19)
    have tp19 := tp17.mono (e18.trans e19)
    have x19 : LamX.ExtN H16 (upd H18 ea2 (KX.XO (.ref A.C_BadNumber) (some d2) ea2)) := x17.trans (extN_of (e18.trans e19))
    generalize upd H18 ea2 (KX.XO (.ref A.C_BadNumber) (some d2) ea2) = H19 at e19 hx19 hd19 n19 tab19 tp19 x19
    have hxa := x19 _ _ hx16 (fun _ z => nomatch z)
    have hda := x19 _ _ hd16 (fun _ z => nomatch z)
    repeat' (walk_at "s")
    refine g_isX hxa (fun dd z => by cases z; exact ⟨_, hda⟩) T.ec_BadNumber T.ki_BadNumber ?_
    repeat' (walk_at "s")
    refine g_isX hx19 (fun dd z => by cases z; exact ⟨_, hd19⟩) T.ec_BadNumber T.ki_BadNumber ?_
    repeat' (walk_at "s")
    refine g_kpart hxa T.xf_BadNumber T.pt_BadNumber.noN hda ?_
    repeat' (walk_at "s")
    refine g_kpart hx19 T.xf_BadNumber T.pt_BadNumber.noN hd19 ?_
    repeat' (walk_at "s")
    refine KA.g_klst (show 2 ≤ 1000 by decide) fun q20 H20 hq20 e20 h20 => ?_
    repeat' (walk_at "s")
    refine KA.g_klst (show 2 ≤ 1000 by decide) fun q21 H21 hq21 e21 h21 => ?_
    repeat' (walk_at "s")
    have sh : SeqAt.shaped (.list [.str part, .str part]) = true := by
      rcases bp with ⟨_, rfl⟩ | ⟨_, _, rfl⟩ <;> decide +kernel
    have ev : PyData.eqv (.list [.str part, .str part]) (.list [.str part, .str part]) = true := by
      show ((part == part) && ((part == part) && true)) = true
      rw [beq_self_eq_true]; rfl
    refine ⟨.list [.str part, .str part], .list [.str part, .str part], .lst (SqL.of (e21 _ _ h20)) (.cons (.str _) (.cons (.str _) .nil)), .lst (SqL.of h21) (.cons (.str _) (.cons (.str _) .nil)), sh, sh, ?_⟩
    rw [ev]
    simp only [Bool.not_true]
    repeat' (walk_at "s")
    exact ⟨_, _, _, _, _, rfl, n19.trans (TN.of (e20.trans e21)), tp19.mono (e20.trans e21), tab19.ext (e20.trans e21)⟩
  · rintro σ H13 ⟨x4, x5, x6, x7, x8, rfl, n13, tp13, tab13⟩
    repeat' (walk_at "s")
    refine ⟨tab13, fun H14 x14 tab14 => ?_⟩
    have n14 : TN t l H12 H14 := n13.trans (TN.ext x14)
    have tp14 := tape_ext tp13 x14
    refine g_cau ?_
    repeat' (walk_at "s")
    obtain ⟨⟨dx, _, _, hx12, _⟩, _⟩ := id ls12
    refine g_kmth (n14.ins tp12 hx12) lf_hear ?_
    repeat' (walk_at "s")
    have s1 : snd1 (.int 1) = true := by decide +kernel
    have nT : ∀ {P : Prop}, true = false → P := fun z => by cases z
    refine ⟨x, _, _, _, n, bs, L, rfl, .int 1, .int 1, lsn_tn tp12 n14 ls12, fun z => nT (s1.symm.trans z), fun _ z => nT (s1.symm.trans z), fun _ _ _ H15 e15 => ⟨T.te_BadQuiet, fun ea hea => ?_⟩, fun _ _ q _ _ z => absurd z (io.1 q)⟩
    have e16 : Ex H15 (upd H15 ea (KX.XO (.ref A.C_BadQuiet) none ea)) := Ex.new hea
    have hx16 : (upd H15 ea (KX.XO (.ref A.C_BadQuiet) none ea)) ea = some (KX.XO (.ref A.C_BadQuiet) none ea) := upd_same
    have n16 := n14.trans (TN.of (e15.trans e16))
    have tab16 := tab14.ext (e15.trans e16)
    have tp16 := tp14.mono (e15.trans e16)
    generalize upd H15 ea (KX.XO (.ref A.C_BadQuiet) none ea) = H16 at e16 hx16 n16 tab16 tp16
    repeat' (walk_at "s")
    refine g_isX hx16 (fun dd z => nomatch z) T.ec_BadQuiet T.ki_BadQuiet ?_
    repeat' (walk_at "s")
    refine ⟨tab16, fun H17 x17 tab17 => ?_⟩
    have n17 : TN t l H12 H17 := n16.trans (TN.ext x17)
    have tp17 := tape_ext tp16 x17
    refine g_cau ?_
    repeat' (walk_at "s")
    refine KA.g_klst (show 6 ≤ 1000 by decide) fun q18 H18 hq18 e18 h18 => ?_
    have tp18 := tp17.mono e18
    repeat' (walk_at "s")
    refine ⟨t, l, c, q18, _, rfl, tp18, h18, new_ tp17 hq18, by show 1 ≤ 6; decide, by show 6 ≤ 1000; decide, fun tv H19 htv tp19 tx19 => ?_⟩
    have it : btw tv 1 8 = false ∧ ∀ H', Kd H' tv := by
      rcases List.mem_cons.mp htv with rfl | htv
      · exact ⟨rfl, fun _ => .non⟩
      rcases List.mem_cons.mp htv with rfl | htv
      · exact ⟨by decide +kernel, fun _ => .int _⟩
      rcases List.mem_cons.mp htv with rfl | htv
      · exact ⟨by decide +kernel, fun _ => .int _⟩
      rcases List.mem_cons.mp htv with rfl | htv
      · exact ⟨rfl, fun _ => .bl _⟩
      rcases List.mem_cons.mp htv with rfl | htv
      · exact ⟨rfl, fun _ => .str _⟩
      rw [List.mem_singleton.mp htv]
      exact ⟨by decide +kernel, fun _ => .int _⟩
    have tab19 := tabs_tx tp18 tx19 (tab17.ext e18)
    have n19 : TN t l H12 H19 := n17.trans ((TN.of e18).trans (TN.tx tx19))
    repeat' (walk_at "s")
    intro ox odx hox hodx hne
    have e20 : Ex H19 (upd (upd H19 odx (.own ox)) ox (.ins A.C_Listener odx [])) := (Ex.new hodx).trans (Ex.new (by rw [upd_ne hne.symm]; exact hox))
    refine ⟨ox, odx, tv, rfl, it.2 _, upd_same, fun _ d H21 e21 hd21 => ⟨T.te_BadNumber, fun ea2 hea2 => ?_⟩, fun tt et t1 t8 => ?_⟩
    · have e22 : Ex H21 (upd H21 ea2 (KX.XO (.ref A.C_BadNumber) (some d) ea2)) := Ex.new hea2
      have hx22 : (upd H21 ea2 (KX.XO (.ref A.C_BadNumber) (some d) ea2)) ea2 = some (KX.XO (.ref A.C_BadNumber) (some d) ea2) := upd_same
      have hd22 := e22 _ _ hd21
      have e1922 := (e20.trans e21).trans e22
      generalize upd H21 ea2 (KX.XO (.ref A.C_BadNumber) (some d) ea2) = H22 at e22 hx22 hd22 e1922
      repeat' (walk_at "s")
      refine g_isX hx22 (fun dd z => by cases z; exact ⟨_, hd22⟩) T.ec_BadNumber T.ki_BadNumber ?_
      repeat' (walk_at "s")
      refine g_kpart hx22 T.xf_BadNumber T.pt_BadNumber.noN hd22 ?_
      repeat' (walk_at "s")
      have := k H22 (tp19.mono e1922) (n06.trans ((TN.of e612).trans (n19.trans (TN.of e1922)))) (tab19.ext e1922)
      simpa using this
    · rw [et] at it
      have : btw (.int (tt : Int)) 1 8 = true := by
        unfold btw
        simp
        omega
      exact nT (this.symm.trans it.1)
end
end K75
end
section
namespace K75
open PySem L2 Evl KX
/-! steps -/
local macro_rules | `(tactic| walk_at "nrm") => `(tactic| (((with_reducible refine' KA.g_nrm ?h ?k)); (case h => ((conv => lhs; simp only [List.set_cons_zero, List.set_cons_succ]); try exact rfl))))
local macro_rules | `(tactic| walk_at "nam") => `(tactic| (((with_reducible refine' KA.g_nameN ?h ?k)); (case h => ((conv => lhs; simp only [List.set_cons_zero, List.set_cons_succ]); try exact rfl))))
local macro_rules | `(tactic| walk_at "var") => `(tactic| (((with_reducible refine' KA.g_var ?h ?k)); (case h => exact rfl)))
local macro_rules | `(tactic| walk_at "aug") => `(tactic| (((with_reducible refine' KA.g_aug ?h ?k)); (case h => exact rfl)))
local macro_rules | `(tactic| walk_at "mul") => `(tactic| ((with_reducible refine KA.g_I (C := CMul) ?h ?k); (case h => first | exact KA.cmul_l (by omega) (by omega) | exact KA.cmul_r (by omega) (by omega))))
local macro_rules | `(tactic| walk_at "dv") => `(tactic| ((with_reducible refine KA.g_I (C := KA.CDv) ?h ?k); (case h => exact ⟨by omega, by omega⟩)))
local macro_rules | `(tactic| walk_at "mod") => `(tactic| ((with_reducible refine KA.g_I (C := fun _ j => 0 < j) ?h ?k); (case h => omega)))
local macro_rules | `(tactic| walk_at "s") => `(tactic| first
  | walk_at "nrm"
  | with_reducible refine KA.g_seq ?_
  | with_reducible refine KA.g_asg ?_
  | walk_at "nam"
  | with_reducible refine KA.g_yes ?_
  | with_reducible refine KA.g_ifs ?_
  | with_reducible refine KA.g_ret ?_
  | with_reducible refine KA.g_retN ?_
  | with_reducible refine KA.g_drop ?_
  | with_reducible refine KA.g_next ?_
  | with_reducible refine KA.g_brk ?_
  | with_reducible refine KA.g_par ?_
  | with_reducible refine KA.g_par3 ?_
  | with_reducible refine KA.g_kpar ?_
  | with_reducible refine KA.g_kpar3 ?_
  | with_reducible refine KA.g_op ?_
  | walk_at "var"
  | with_reducible refine KA.g_c ?_
  | with_reducible refine KA.g_I0 ?_
  | with_reducible refine KA.g_eqi ?_
  | with_reducible refine KA.g_nei ?_
  | with_reducible refine KA.g_test ?_
  | with_reducible refine KA.g_kbl ?_
  | with_reducible refine KA.g_cons ?_
  | with_reducible refine KA.g_nil ?_
  | with_reducible refine KA.g_cb ?_
  | with_reducible refine KA.g_call ?_
  | with_reducible refine KA.g_tb ?_
  | with_reducible refine KA.g_not ?_
  | with_reducible refine KA.g_and ?_
  | with_reducible refine KA.g_or ?_
  | with_reducible refine KA.g_if ?_
  | with_reducible refine KA.g_andV ?_
  | with_reducible refine KA.g_orV ?_
  | with_reducible refine KA.g_notV ?_
  | with_reducible refine KA.g_kbv ?_
  | with_reducible refine KA.g_ex1 ?_
  | with_reducible refine KA.g_chain ?_
  | with_reducible refine KA.g_fld ?_
  | with_reducible refine KA.g_un ?_
  | with_reducible refine KA.g_U ?_
  | with_reducible refine KA.g_tup ?_
  | with_reducible refine KA.g_lst ?_
  | walk_at "mul"
  | walk_at "dv"
  | walk_at "mod"
  | walk_at "aug"
  | with_reducible refine KA.g_ipi ?_
  | with_reducible refine KA.g_gcons ?_
  | with_reducible refine KA.g_gnil ?_
  | with_reducible refine KA.kB_t ?_
  | with_reducible refine KA.kB_f ?_
  | with_reducible refine KA.kB_nn ?_
  | with_reducible refine KA.ite_kB ?_
  | ((with_reducible refine' KA.g_ixT0 ?h ?k); (case h => exact L2.SqT.of (by assumption)))
  | ((with_reducible refine' KA.g_ixT1 ?h ?k); (case h => exact L2.SqT.of (by assumption)))
  | with_reducible refine KA.g_lct ?_
  | with_reducible refine KA.g_lcl ?_
  | with_reducible refine KA.g_lcr ?_
  | with_reducible refine KA.g_sl ?_
  | with_reducible refine KA.g_nop ?_
  | with_reducible refine KA.g_part ?_
  | with_reducible refine KA.g_exi ?_
  | with_reducible refine KA.g_eqs ?_
  | with_reducible refine KA.g_nes ?_
  | with_reducible refine KA.g_isN_i ?_
  | with_reducible refine KA.g_isN_n ?_
  | with_reducible refine KA.g_isN_r ?_
  | with_reducible refine KA.g_abs ?_
  | with_reducible refine KA.g_mx ?_
  | with_reducible refine KA.g_mn ?_
  | with_reducible refine KA.g_int ?_
  | with_reducible refine KA.g_intb ?_
  | with_reducible refine KA.g_isi_ii ?_
  | with_reducible refine KA.g_isi_ib ?_
  | with_reducible refine KA.g_isi_ss ?_
  | ((with_reducible refine' KA.g_isi_tt ?h ?k); (case h => assumption))
  | ((with_reducible refine' KA.g_lnL ?h ?k); (case h => assumption))
  | ((with_reducible refine' KA.g_lnT ?h ?k); (case h => assumption)))
local macro_rules | `(tactic| walk_at "s") => `(tactic| first
  | walk_at "mulW"
  | ((with_reducible refine' KA.g_ixT0 ?h ?k); (case h => assumption))
  | ((with_reducible refine' KA.g_ixT1 ?h ?k); (case h => assumption))
  | with_reducible refine KR.g_lcz ?_
  | with_reducible refine KR.g_lck ?_
  | with_reducible refine KR.g_forZ ?_
  | with_reducible refine KR.g_forK ?_
  | with_reducible refine KT.g_forR ?_
  | with_reducible refine KW.g_for ?_
  | with_reducible refine KR.g_sfld ?_
  | with_reducible refine KR.g_mth ?_
  | with_reducible refine KR.g_make ?_
  | fail)
local macro_rules | `(tactic| walk_at "s") => `(tactic| first
  | with_reducible refine KW.g_put ?_
  | with_reducible refine KW.g_sub ?_
  | with_reducible refine KW.g_bm0 ?_
  | ((with_reducible refine' KT.s_L ?h ?k); (case h => assumption))
  | ((with_reducible refine' KT.s_R ?h ?k); (case h => assumption))
  | ((with_reducible refine' KT.s_C ?h ?k); (case h => assumption))
  | ((with_reducible refine' KT.s_T ?h ?k); (case h => assumption))
  | ((with_reducible refine' KT.g_pw ?h ?h2 ?k); (case h => exact ⟨by omega, by omega⟩); (case h2 => exact ⟨by omega, by omega⟩))
  | with_reducible refine KT.g_bm ?_
  | with_reducible refine KT.g_pairs ?_
  | with_reducible refine KT.g_pairs0 ?_
  | with_reducible refine KR.g_din ?_
  | with_reducible refine KR.g_dno ?_
  | with_reducible refine KR.g_mthK ?_
  | with_reducible refine KR.g_partOf ?_
  | fail)
local macro_rules | `(tactic| walk_at "u") => `(tactic| ((fail_if_success (with_reducible refine KA.g_if ?_)); (fail_if_success (with_reducible refine KA.g_ifs ?_)); walk_at "s"))
section
variable {P : Program} {w : World} {K : PySem.W.Frag} {mg : Str → Option Value} {base : Heap} {A : Adr}
open KT KR
/-! boxes -/
/-- neither a tuple nor a list -/
def NoTL (o : HO) : Prop := NoT o ∧ ∀ xs, o ≠ .lst xs
theorem noTL_ins {C dx : Addr} {fs : List (Str × V)} : NoTL (.ins C dx fs) := ⟨noT_ins, fun _ z => nomatch z⟩
theorem noTL_dk {kvs : List (L2.Key × V)} : NoTL (.dK kvs) := ⟨noT_dk, fun _ z => nomatch z⟩
/-- all but b and x stay -/
def ExS (b x : Addr) (H H' : Hp) : Prop := ∀ a o, a ≠ b → a ≠ x → H a = some o → H' a = some o
section
variable {b x a : Addr} {H H' H'' : Hp} {ob ox : HO}
theorem ExS.of (e : Ex H H') : ExS b x H H' := fun a o _ _ h => e a o h
theorem ExS.ofx (e : ExA x H H') : ExS b x H H' := fun a o _ h2 h => e a o h2 h
theorem ExS.ofb {o : HO} : ExS b x H (upd H b o) := fun a u h1 _ h => by rw [upd_ne h1]; exact h
theorem ExS.trans (e : ExS b x H H') (f : ExS b x H' H'') : ExS b x H H'' := fun a o h1 h2 h => f a o h1 h2 (e a o h1 h2 h)
theorem ExS.tup {xs : List V} (hb : H b = some ob) (hx : H x = some ox) (nb : NoTL ob) (nx : NoTL ox) (e : ExS b x H H') (h : H a = some (.tup xs)) : H' a = some (.tup xs) :=
  e a _ (fun z => by rw [z, hb] at h; cases h; exact nb.1.1 _ rfl) (fun z => by rw [z, hx] at h; cases h; exact nx.1.1 _ rfl) h
theorem ExS.lst {xs : List V} (hb : H b = some ob) (hx : H x = some ox) (nb : NoTL ob) (nx : NoTL ox) (e : ExS b x H H') (h : H a = some (.lst xs)) : H' a = some (.lst xs) :=
  e a _ (fun z => by rw [z, hb] at h; cases h; exact nb.2 _ rfl) (fun z => by rw [z, hx] at h; cases h; exact nx.2 _ rfl) h
theorem ExS.sqt {xs : List V} (hb : H b = some ob) (hx : H x = some ox) (nb : NoTL ob) (nx : NoTL ox) (e : ExS b x H H') (h : SqT K H a xs) : SqT K H' a xs := by
  rcases h with (h | ⟨o, h⟩) | h
  · exact .inl (.inl (e.tup hb hx nb nx h))
  · exact .inl (.inr ⟨o, e a _ (fun z => by rw [z, hb] at h; cases h; exact nb.1.2 _ _ rfl) (fun z => by rw [z, hx] at h; cases h; exact nx.1.2 _ _ rfl) h⟩)
  · exact .inr h
theorem ExS.row {v : V} {r : List Rat} (hb : H b = some ob) (hx : H x = some ox) (nb : NoTL ob) (nx : NoTL ox) (e : ExS b x H H') (h : RowV K H v r) : RowV K H' v r := by
  obtain ⟨a, ws, rfl, ha, hw⟩ := h
  refine ⟨a, ws, rfl, e.tup hb hx nb nx ha, pimp (fun _ _ h => ?_) hw⟩
  obtain ⟨c, rfl, hc⟩ := h
  exact ⟨c, rfl, e.sqt hb hx nb nx hc⟩
end
structure BoxV (K : PySem.W.Frag) (A : Adr) (l : Addr) (n m : Nat) (H : Hp) (b x : Addr) (ns : List Int) (rows : List (List Rat)) (path : List Int) : Prop where
  ex : ∃ (p s r : Addr) (us : List V), H b = some (.dK (box4 x p s r)) ∧ RowV K H (.ref p) (rats path) ∧ H s = some (.lst (ns.map V.int)) ∧ s ≠ l ∧ H r = some (.lst us) ∧ Paired (RowV K H) us rows
  ls : Lsn K A.C_Listener H x n (back ns (n - 1)) (allL (n + 1) rows)
  sm : ∀ r ∈ rows, SmR n r
  pl : path.length = n
  pb : ∀ z ∈ path, z.natAbs ≤ 3
  nb : ∀ z ∈ ns, z.natAbs ≤ 5
  nl : ns.length ≤ m
  rl : rows.length ≤ m
section
variable {H H' : Hp} {l t c : Addr} {n m : Nat} {b x : Addr} {ns : List Int} {rows : List (List Rat)} {path : List Int}
theorem BoxV.tn (T : Tape H t l c) (e : TN t l H H') (B : BoxV K A l n m H b x ns rows path) : BoxV K A l n m H' b x ns rows path := by
  obtain ⟨⟨p, s, r, us, hb, hp, hs, sl, hr, hus⟩, ls, sm, pl, pb, nb, nl, rl⟩ := B
  obtain ⟨as, rfl⟩ := rows_refs hus
  exact ⟨⟨p, s, r, _, e.keep T hb box_noTape (fun _ z => nomatch z) (fun _ z => nomatch z), row_tn T e hp, e.lst T sl hs, sl, e.refs T hr, pimp (fun _ _ h => row_tn T e h) hus⟩, lsn_tn T e ls, sm, pl, pb, nb, nl, rl⟩
theorem BoxV.up {m' : Nat} (h : m ≤ m') (B : BoxV K A l n m H b x ns rows path) : BoxV K A l n m' H b x ns rows path := { B with nl := Nat.le_trans B.nl h, rl := Nat.le_trans B.rl h }
theorem BoxV.exs {b' x' : Addr} {ob ox : HO} (hb' : H b' = some ob) (hx' : H x' = some ox) (nb' : NoTL ob) (nx' : NoTL ox) (n1 : b ≠ b') (n2 : b ≠ x') (n3 : x ≠ b') (n4 : x ≠ x') (e : ExS b' x' H H') (B : BoxV K A l n m H b x ns rows path) : BoxV K A l n m H' b x ns rows path := by
  obtain ⟨⟨p, s, r, us, hb, hp, hs, sl, hr, hus⟩, ⟨⟨dx, q, rr, hx, hq, ⟨ra, us2, rfl, hra, hus2⟩⟩, t1, t8, hl, ok⟩, sm, pl, pb, nb, nl, rl⟩ := B
  exact ⟨⟨p, s, r, us, e _ _ n1 n2 hb, e.row hb' hx' nb' nx' hp, e.lst hb' hx' nb' nx' hs, sl, e.lst hb' hx' nb' nx' hr, pimp (fun _ _ h => e.row hb' hx' nb' nx' h) hus⟩,
    ⟨⟨dx, q, _, e _ _ n3 n4 hx, e.tup hb' hx' nb' nx' hq, ⟨ra, us2, rfl, e.lst hb' hx' nb' nx' hra, pimp (fun _ _ h => e.row hb' hx' nb' nx' h) hus2⟩⟩, t1, t8, hl, ok⟩, sm, pl, pb, nb, nl, rl⟩
theorem BoxV.mono (e : Ex H H') (B : BoxV K A l n m H b x ns rows path) : BoxV K A l n m H' b x ns rows path := by
  obtain ⟨⟨p, s, r, us, hb, hp, hs, sl, hr, hus⟩, ls, sm, pl, pb, nb, nl, rl⟩ := B
  exact ⟨⟨p, s, r, us, e _ _ hb, hp.mono e, e _ _ hs, sl, e _ _ hr, pimp (fun _ _ h => h.mono e) hus⟩, lsn_mono e ls, sm, pl, pb, nb, nl, rl⟩
end
/-- the boxes in the list at pb -/
structure BoxS (K : PySem.W.Frag) (A : Adr) (l : Addr) (n m : Nat) (H : Hp) (pb : Addr) (as : List (Addr × Addr)) : Prop where
  lst : H pb = some (.lst ((as.map (·.1)).map V.ref))
  all : ∀ z ∈ as, ∃ ns rows path, BoxV K A l n m H z.1 z.2 ns rows path
  ne : ∀ y ∈ as, ∀ z ∈ as, (y.1 = z.1 ∨ y.2 = z.2) → y = z
section
variable {H H' : Hp} {l t c pb : Addr} {n m : Nat} {as : List (Addr × Addr)}
theorem BoxS.tn (T : Tape H t l c) (e : TN t l H H') (B : BoxS K A l n m H pb as) : BoxS K A l n m H' pb as :=
  ⟨e.refs T B.lst, fun z hz => let ⟨ns, rows, path, h⟩ := B.all z hz; ⟨ns, rows, path, h.tn T e⟩, B.ne⟩
theorem BoxS.mono (e : Ex H H') (B : BoxS K A l n m H pb as) : BoxS K A l n m H' pb as :=
  ⟨e _ _ B.lst, fun z hz => let ⟨ns, rows, path, h⟩ := B.all z hz; ⟨ns, rows, path, h.mono e⟩, B.ne⟩
theorem BoxS.up {m' : Nat} (h : m ≤ m') (B : BoxS K A l n m H pb as) : BoxS K A l n m' H pb as :=
  ⟨B.lst, fun z hz => let ⟨ns, rows, path, g⟩ := B.all z hz; ⟨ns, rows, path, g.up h⟩, B.ne⟩
theorem box_of {b x : Addr} {ns : List Int} {rows : List (List Rat)} {path : List Int} (B : BoxV K A l n m H b x ns rows path) : (∃ kvs, H b = some (.dK kvs)) ∧ ∃ C dx fs, H x = some (.ins C dx fs) := by
  obtain ⟨⟨p, s, r, us, hb, _⟩, ⟨⟨dx, q, rr, hx, _⟩, _⟩, _⟩ := B
  exact ⟨⟨_, hb⟩, ⟨_, _, _, hx⟩⟩
/-- one box has gone on -/
theorem BoxS.step {z : Addr × Addr} (hz : z ∈ as) (B : BoxS K A l n m H pb as) (e : ExS z.1 z.2 H H') (h : ∃ ns rows path, BoxV K A l n m H' z.1 z.2 ns rows path) : BoxS K A l n m H' pb as := by
  obtain ⟨ns, rows, path, Bz⟩ := B.all z hz
  obtain ⟨⟨kvs, hb⟩, ⟨C, dx, fs, hx⟩⟩ := box_of Bz
  refine ⟨e.lst hb hx noTL_dk noTL_ins B.lst, fun y hy => ?_, B.ne⟩
  by_cases q : y = z
  · rw [q]; exact h
  · obtain ⟨ns', rows', path', By⟩ := B.all y hy
    obtain ⟨⟨kvs', hb'⟩, ⟨C', dx', fs', hx'⟩⟩ := box_of By
    exact ⟨ns', rows', path', By.exs hb hx noTL_dk noTL_ins (fun g => q (B.ne y hy z hz (.inl g))) (fun g => by rw [g, hx] at hb'; cases hb') (fun g => by rw [g, hb] at hx'; cases hx') (fun g => q (B.ne y hy z hz (.inr g))) e⟩
end
/-- the box's own lists are not at pb -/
def NotPb (H : Hp) (b x pb : Addr) : Prop := (∀ p s r, H b = some (.dK (box4 x p s r)) → s ≠ pb ∧ r ≠ pb) ∧ ∀ C dx t b' ra, H x = some (.ins C dx (lf t b' (.ref ra))) → ra ≠ pb
section
variable {H H' : Hp} {l t c pb : Addr} {n m : Nat} {b x : Addr} {ns : List Int} {rows : List (List Rat)} {path : List Int}
theorem NotPb.keep {ob ox : HO} (hb : H b = some ob) (hx : H x = some ox) (hb' : H' b = some ob) (hx' : H' x = some ox) (h : NotPb H b x pb) : NotPb H' b x pb :=
  ⟨fun p s r e => h.1 p s r (by rw [hb]; rw [hb'] at e; exact e), fun C dx t b' ra e => h.2 C dx t b' ra (by rw [hx]; rw [hx'] at e; exact e)⟩
theorem BoxV.pb_upd {xs : List V} {o : HO} (hpb : H pb = some (.lst xs)) (nn : NotPb H b x pb) (B : BoxV K A l n m H b x ns rows path) : BoxV K A l n m (upd H pb o) b x ns rows path ∧ NotPb (upd H pb o) b x pb := by
  obtain ⟨⟨p, s, r, us, hb, hp, hs, sl, hr, hus⟩, ⟨⟨dx, q, rr, hx, hq, ⟨ra, us2, rfl, hra, hus2⟩⟩, t1, t8, hl, ok⟩, sm, pl, pb', nb, nl, rl⟩ := B
  obtain ⟨ns1, nr1⟩ := nn.1 _ _ _ hb
  have nra := nn.2 _ _ _ _ _ hx
  have hb' : upd H pb o b = some (.dK (box4 x p s r)) := by rw [upd_ne (fun z => by rw [z, hpb] at hb; cases hb)]; exact hb
  have hx' : upd H pb o x = some (.ins A.C_Listener dx (lf n (.ref q) (.ref ra))) := by rw [upd_ne (fun z => by rw [z, hpb] at hx; cases hx)]; exact hx
  have row : ∀ v r, RowV K H v r → RowV K (upd H pb o) v r := fun v r h => row_upd hpb noT_lst h
  exact ⟨⟨⟨p, s, r, us, hb', row _ _ hp, by rw [upd_ne ns1]; exact hs, sl, by rw [upd_ne nr1]; exact hr, pimp (fun _ _ h => row _ _ h) hus⟩,
    ⟨⟨dx, q, _, hx', by rw [upd_ne (fun z => by rw [z, hpb] at hq; cases hq)]; exact hq, ⟨ra, us2, rfl, by rw [upd_ne nra]; exact hra, pimp (fun _ _ h => row _ _ h) hus2⟩⟩, t1, t8, hl, ok⟩, sm, pl, pb', nb, nl, rl⟩, nn.keep hb hx hb' hx'⟩
end
/-- at the start: boxes that heard nothing -/
structure Box0S (K : PySem.W.Frag) (A : Adr) (l : Addr) (n : Nat) (H : Hp) (pb : Addr) (as : List (Addr × Addr)) : Prop where
  lst : H pb = some (.lst ((as.map (·.1)).map V.ref))
  all : ∀ z ∈ as, ∃ path, BoxV K A l n 0 H z.1 z.2 [] [] path ∧ NotPb H z.1 z.2 pb
  ne : ∀ y ∈ as, ∀ z ∈ as, (y.1 = z.1 ∨ y.2 = z.2) → y = z
theorem Box0S.tn {H H' : Hp} {l t c pb : Addr} {n : Nat} {as : List (Addr × Addr)} (T : Tape H t l c) (e : TN t l H H') (B : Box0S K A l n H pb as) : Box0S K A l n H' pb as :=
  ⟨e.refs T B.lst, fun z hz => by
    obtain ⟨path, h, g⟩ := B.all z hz
    obtain ⟨⟨p, s, r, us, hb, _⟩, ⟨⟨dx, q, rr, hx, _⟩, _⟩, _⟩ := id h
    exact ⟨path, h.tn T e, g.keep hb hx (e.keep T hb box_noTape (fun _ z => nomatch z) (fun _ z => nomatch z)) (e.ins T hx)⟩, B.ne⟩
theorem Box0S.mono {H H' : Hp} {l pb : Addr} {n : Nat} {as : List (Addr × Addr)} (e : Ex H H') (B : Box0S K A l n H pb as) : Box0S K A l n H' pb as :=
  ⟨e _ _ B.lst, fun z hz => by
    obtain ⟨path, h, g⟩ := B.all z hz
    obtain ⟨⟨p, s, r, us, hb, _⟩, ⟨⟨dx, q, rr, hx, _⟩, _⟩, _⟩ := id h
    exact ⟨path, h.mono e, g.keep hb hx (e _ _ hb) (e _ _ hx)⟩, B.ne⟩
/-- one box more -/
theorem Box0S.add {H : Hp} {l pb b x : Addr} {n : Nat} {as : List (Addr × Addr)} {path : List Int} (B : Box0S K A l n H pb as) (h : BoxV K A l n 0 H b x [] [] path) (g : NotPb H b x pb) (nb : ∀ y ∈ as, y.1 ≠ b ∧ y.2 ≠ x) :
    Box0S K A l n (upd H pb (.lst ((as.map (·.1)).map V.ref ++ [.ref b]))) pb (as ++ [(b, x)]) := by
  refine ⟨by rw [upd_same, List.map_append, List.map_append]; rfl, fun z hz => ?_, fun y hy z hz q => ?_⟩
  · rcases List.mem_append.mp hz with hz | hz
    · obtain ⟨path', h', g'⟩ := B.all z hz
      exact ⟨path', h'.pb_upd B.lst g'⟩
    · rw [List.mem_singleton.mp hz]
      exact ⟨path, h.pb_upd B.lst g⟩
  · rcases List.mem_append.mp hy with hy | hy
    · rcases List.mem_append.mp hz with hz | hz
      · exact B.ne y hy z hz q
      · rw [List.mem_singleton.mp hz] at q
        have := nb y hy
        exact absurd q (fun q => q.elim this.1 this.2)
    · rcases List.mem_append.mp hz with hz | hz
      · rw [List.mem_singleton.mp hy] at q
        have := nb z hz
        exact absurd q (fun q => q.elim (fun e => this.1 e.symm) (fun e => this.2 e.symm))
      · rw [List.mem_singleton.mp hy, List.mem_singleton.mp hz]
theorem Box0S.to {H : Hp} {l pb : Addr} {n : Nat} {as : List (Addr × Addr)} (B : Box0S K A l n H pb as) : BoxS K A l n 0 H pb as :=
  ⟨B.lst, fun z hz => let ⟨path, h, _⟩ := B.all z hz; ⟨[], [], path, h⟩, B.ne⟩
theorem dotI_le2 {xs ys : List Int} {b c : Nat} (hl : ys.length = xs.length) (hx : ∀ x ∈ xs, x.natAbs ≤ b) (hy : ∀ y ∈ ys, y.natAbs ≤ c) : ∀ i, i ≤ xs.length → (dotI (xs.take i) (ys.take i)).natAbs ≤ i * (b * c) := by
  intro i
  induction i with
  | zero => simp [dotI]
  | succ i ih =>
    intro hi
    have ih := ih (by omega)
    obtain ⟨x, h1⟩ : ∃ x, xs[i]? = some x := ⟨_, List.getElem?_eq_some_iff.mpr ⟨by omega, rfl⟩⟩
    obtain ⟨y, h2⟩ : ∃ y, ys[i]? = some y := ⟨_, List.getElem?_eq_some_iff.mpr ⟨by omega, rfl⟩⟩
    rw [dotI_take h1 h2, Nat.add_mul]
    have m1 := hx _ (List.mem_of_getElem? h1)
    have m2 := hy _ (List.mem_of_getElem? h2)
    have m3 : (x * y).natAbs ≤ b * c := by rw [Int.natAbs_mul]; exact Nat.mul_le_mul m1 m2
    have := Int.natAbs_add_le (dotI (xs.take i) (ys.take i)) (x * y)
    omega
theorem at_last0 (xs : List V) (v : V) : atI (xs ++ [v]) (-1) = some v := by
  unfold atI ixN
  rw [if_neg (by decide), if_pos (by rw [List.length_append]; show -(((xs.length + 1 : Nat)) : Int) ≤ -1; omega)]
  show (xs ++ [v])[_]? = _
  have : ((-1 : Int) + ((xs ++ [v]).length : Int)).toNat = xs.length := by rw [List.length_append]; show ((-1 : Int) + ((xs.length + 1 : Nat) : Int)).toNat = _; omega
  rw [this]
  simp
theorem smr_row {n : Nat} {cs : List Int} {y : Int} (hl : cs.length = n) (hc : ∀ z ∈ cs, z.natAbs ≤ 5) (hy : y.natAbs ≤ 200) : SmR n (rats (cs ++ [y])) := by
  refine ⟨by unfold rats; rw [List.length_map, List.length_append, hl]; rfl, fun j hj => ?_, ?_⟩
  · obtain ⟨z, hz⟩ : ∃ z, cs[j]? = some z := ⟨_, List.getElem?_eq_some_iff.mpr ⟨by omega, rfl⟩⟩
    refine ⟨z, vec_lt ?_, by have := hc z (List.mem_of_getElem? hz); omega⟩
    unfold rats
    rw [List.getElem?_map, List.getElem?_append_left (by omega), hz]
    rfl
  · refine ⟨y, vec_lt ?_, by omega⟩
    unfold rats
    rw [List.getElem?_map, List.getElem?_append_right (by omega), hl, Nat.sub_self]
    rfl
theorem back_take {ns : List Int} {n m : Nat} (h : m ≤ n) : (back ns n).take m = back ns m := by
  unfold back
  rw [← List.map_take, List.take_range]
  congr 2
  omega
theorem lsn_updk {H : Hp} {C a b : Addr} {n : Nat} {bs : List Int} {L : LRd} {kvs : List (L2.Key × V)} {o : HO} (hb : H b = some (.dK kvs)) (h : Lsn K C H a n bs L) : Lsn K C (upd H b o) a n bs L := by
  obtain ⟨⟨dx, p, r, ha, hp, ⟨ra, us, rfl, hra, hus⟩⟩, t1, t8, hl, ok⟩ := h
  have n : ∀ {a : Addr} {u : HO}, (∀ kvs, u ≠ .dK kvs) → H a = some u → upd H b o a = some u := fun no h => by rw [upd_ne (fun z => by rw [z, hb] at h; cases h; exact no _ rfl)]; exact h
  exact ⟨⟨dx, p, _, n (fun _ z => nomatch z) ha, n (fun _ z => nomatch z) hp, ⟨ra, us, rfl, n (fun _ z => nomatch z) hra, pimp (fun _ _ h => row_upd hb noT_dk h) hus⟩⟩, t1, t8, hl, ok⟩
theorem _root_.KR.TN.lst_refs {H H' : Hp} {t l c a : Addr} {us : List V} {rs : List (List Rat)} (e : TN t l H H') (T : Tape H t l c) (hp : Paired (RowV K H) us rs) (h : H a = some (.lst us)) : H' a = some (.lst us) := by
  obtain ⟨as, rfl⟩ := rows_refs hp
  exact e.refs T h
theorem back_mem {ns : List Int} {n b : Nat} (nb : ∀ z ∈ ns, z.natAbs ≤ b) {z : Int} (hz : z ∈ back ns n) : z.natAbs ≤ b := by
  unfold back at hz
  obtain ⟨j, _, rfl⟩ := List.mem_map.mp hz
  rw [List.getD_eq_getElem?_getD]
  cases hj : ns.reverse[j]? with
  | none => exact Nat.zero_le _
  | some y => exact nb y (List.mem_reverse.mp (List.mem_of_getElem? hj))
theorem back_nil {n : Nat} : back [] n = List.replicate n 0 := by
  unfold back
  refine List.ext_getElem (by rw [List.length_map, List.length_range, List.length_replicate]) fun i a b => ?_
  rw [List.getElem_map, List.getElem_replicate]
  rfl
def sp__law_heard_right (A : Adr) : Sp := fun vs H Q _ => ∃ (t l c : Addr) (n k : Nat), vs = [.ref t, .int (n : Int), .int (k : Int)] ∧ Tape H t l c ∧ LamX.Tabs (refT A) H ∧ 1 ≤ n ∧ n ≤ 8 ∧ k ≤ 100 ∧ ∀ H', Tape H' t l c → LamX.Tabs (refT A) H' → Q (.bl true) H'
theorem ok__law_heard_right (T : Txt P K mg A) (tb : LamX.TabB base mg A.c__law_refused A.P__law_refused) : KG.FnG P w K mg base CX0 11 A.f__law_heard_right A.d__law_heard_right ["tape", "taps", "ticks"] (sp__law_heard_right A) := by
  refine KG.okG T.F__law_heard_right sc__law_heard_right (fun vs H Q E h => ?_) (fun cdv Ar outer s H vs Q E hg hr h => ?_)
  · obtain ⟨t, l, c, n, k, rfl, _⟩ := h; rfl
  obtain ⟨t, l, c, n, kk, rfl, tp, tab, n1, n8, k100, k⟩ := h
  refine ⟨_, (pss_cons (ps_set (i := 3) sc__law_heard_right.nd rfl (Or.inl rfl) (pe_lst pa_nil))
  (pss_cons (ps_for PassesOwn.never rfl (pi_range1 rfl T.z_range (pa_cons pe_int pa_nil)) (pg_name (i := 4) sc__law_heard_right.nd rfl (Or.inl rfl)) (pss_cons (ps_set (i := 5) sc__law_heard_right.nd rfl (Or.inl rfl) (pe_call (ok__law_fractions T) (hr.mono (by decide)) (by rfl) T.m__law_fractions T.F__law_fractions.kp T.b__law_fractions .nil pass0 (pa_cons (pe_lc (own := [("tap", 6)]) (g := gName 6) (tt := tYes) rfl sc__law_heard_right.nd (pi_range1 rfl T.z_range (pa_cons (pv 1) pa_nil)) (blkOk_by (own := [("tap", 6)]) (N := N__law_heard_right) (sc := defScope s__law_heard_right) (by decide +kernel)) (fun _ _ _ _ _ => (pg_name (i := 6) sc__law_heard_right.nd rfl (Or.inl rfl))) (fun _ _ _ _ _ => pts_nil) (fun _ _ _ _ _ => (pe_call (ok__law_pick T) (hr.mono (by decide)) (by rfl) T.m__law_pick T.F__law_pick.kp T.b__law_pick .nil pass0 (pa_cons (pv 0) (pa_cons (pe_lst (pa_cons pe_int (pa_cons pe_int (pa_cons (pe_un un_neg pe_int) (pa_cons pe_int (pa_cons pe_int pa_nil)))))) pa_nil))))) pa_nil)))
  (pss_one (ps_expr (pe_bm PySem.F.plainAttrs_list PySem.F.slot_list_append PySem.F.type_list_append mt_append (pv 3) (pa_cons (pe_disp (pps_cons pe_str (pe_make T.mk_Listener (ok_Listener_init T) (hr.mono (by decide)) (by rfl) T.g_Listener T.b_Listener_init .nil passL (pa_cons (pv 1) pa_nil)) (pps_cons pe_str (pv 5) (pps_cons pe_str (pe_lst pa_nil) (pps_cons pe_str (pe_lst pa_nil) pps_nil)))) (by rfl) (by rfl) (fun z => by cases z) (by decide)) pa_nil))))))
  (pss_cons (ps_for PassesOwn.never rfl (pi_range1 rfl T.z_range (pa_cons (pv 2) pa_nil)) (pg_name (i := 7) sc__law_heard_right.nd rfl (Or.inl rfl)) (pss_cons (ps_set (i := 8) sc__law_heard_right.nd rfl (Or.inl rfl) (pe_ix (KR.ix_listK (K := K) rfl) (pv 3) (pe_call (ok__law_draw T) (hr.mono (by decide)) (by rfl) T.m__law_draw T.F__law_draw.kp T.b__law_draw .nil pass0 (pa_cons (pv 0) (pa_cons pe_int pa_nil))) (fun _ _ => rfl)))
  (pss_cons (ps_par (i := 9) (j := 10) (by rfl) sc__law_heard_right.nd rfl rfl (by decide) rfl rfl (pa_cons (pe_op op_cat (pe_dget (hu_of hr) (pv 8) pe_str (fun _ _ => rfl)) (pe_lst (pa_cons (pe_call (ok__law_pick T) (hr.mono (by decide)) (by rfl) T.m__law_pick T.F__law_pick.kp T.b__law_pick .nil pass0 (pa_cons (pv 0) (pa_cons (pe_lst (pa_cons pe_int (pa_cons pe_int (pa_cons (pe_un un_neg pe_int) (pa_cons pe_int (pa_cons pe_int (pa_cons pe_int (pa_cons pe_int pa_nil)))))))) pa_nil))) pa_nil))) (pa_cons (pe_cmpR op_gt (pe_call (ok__law_draw T) (hr.mono (by decide)) (by rfl) T.m__law_draw T.F__law_draw.kp T.b__law_draw .nil pass0 (pa_cons (pv 0) (pa_cons pe_int pa_nil))) pe_int (nomark _)) pa_nil)) (by rfl))
  (pss_cons (ps_set (i := 11) sc__law_heard_right.nd rfl (Or.inl rfl) (pe_ix (KR.ix_tupK (K := K) rfl) (pe_call (ok__law_dotted T) (hr.mono (by decide)) (by rfl) T.m__law_dotted T.F__law_dotted.kp T.b__law_dotted .nil pass0 (pa_cons (pe_slice sl_tup (pe_call (ok__law_row T) (hr.mono (by decide)) (by rfl) T.m__law_row T.F__law_row.kp T.b__law_row .nil pass0 (pa_cons (pv 9) (pa_cons (pv 1) (pa_cons pe_int pa_nil)))) po_none (po_some (pv 1))) (pa_cons (pe_dget (hu_of hr) (pv 8) pe_str (fun _ _ => rfl)) pa_nil))) pe_int (fun _ _ => rfl)))
  (pss_cons (ps_set (i := 12) sc__law_heard_right.nd rfl (Or.inl rfl) (pe_op op_add (pv 11) (pe_ifExp (PW.pt (pw_and (pt_val (pv 10)) (pw_and1 (pt_cmpR op_gt (pe_call (ok__law_draw T) (hr.mono (by decide)) (by rfl) T.m__law_draw T.F__law_draw.kp T.b__law_draw .nil pass0 (pa_cons (pv 0) (pa_cons pe_int pa_nil))) pe_int (nomark _))))) pe_int (pe_call (ok__law_pick T) (hr.mono (by decide)) (by rfl) T.m__law_pick T.F__law_pick.kp T.b__law_pick .nil pass0 (pa_cons (pv 0) (pa_cons (pe_lst (pa_cons pe_int (pa_cons pe_int (pa_cons (pe_un un_neg pe_int) (pa_cons pe_int pa_nil))))) pa_nil))))))
  (pss_cons (ps_if (pt_cmpR KA.op_notNn (pe_meth (pe_dget (hu_of hr) (pv 8) pe_str (fun _ _ => rfl)) T.cl_Listener T.me_Listener_hear (ok_Listener_hear T) (hr.mono (by decide)) T.b_Listener_hear .nil passL (pa_cons (pe_ix (KR.ix_listK (K := K) rfl) (pv 9) (pe_un un_neg pe_int) (fun _ _ => rfl)) (pa_cons (pv 12) (pa_cons (pv 10) pa_nil)))) pe_non (nomark _)) (pss_one (ps_ret pe_bl)) pss_nil)
  (pss_cons (ps_dput (hu_of hr) (pv 8) pe_str (pv 9) rfl)
  (pss_cons (ps_dput (hu_of hr) (pv 8) pe_str (pe_op op_cat (pe_dget (hu_of hr) (pv 8) pe_str (fun _ _ => rfl)) (pe_ifExp (pt_val (pv 10)) (pe_lst (pa_cons (pe_call (ok__law_row T) (hr.mono (by decide)) (by rfl) T.m__law_row T.F__law_row.kp T.b__law_row .nil pass0 (pa_cons (pv 9) (pa_cons (pv 1) (pa_cons (pv 12) pa_nil)))) pa_nil)) (pe_lst pa_nil))) rfl)
  (pss_one (ps_if (PW.pt (pw_or (pt_cmpR op_lt (pv 7) pe_int (nomark _)) (pw_or1 (pt_cmpR op_eq (pe_call (ok__law_draw T) (hr.mono (by decide)) (by rfl) T.m__law_draw T.F__law_draw.kp T.b__law_draw .nil pass0 (pa_cons (pv 0) (pa_cons pe_int pa_nil))) pe_int (nomark _))))) (pss_cons (ps_par (i := 8) (j := 13) (by rfl) sc__law_heard_right.nd rfl rfl (by decide) rfl rfl (pa_cons (pe_call (ok__law_pick T) (hr.mono (by decide)) (by rfl) T.m__law_pick T.F__law_pick.kp T.b__law_pick .nil pass0 (pa_cons (pv 0) (pa_cons (pv 3) pa_nil))) (pa_cons (pe_tup (pa_cons (pe_call (ok__law_pick T) (hr.mono (by decide)) (by rfl) T.m__law_pick T.F__law_pick.kp T.b__law_pick .nil pass0 (pa_cons (pv 0) (pa_cons (pe_lst (pa_cons pe_int (pa_cons pe_int (pa_cons pe_int (pa_cons (pe_un un_neg pe_int) pa_nil))))) pa_nil))) (pa_cons (pe_call (ok__law_pick T) (hr.mono (by decide)) (by rfl) T.m__law_pick T.F__law_pick.kp T.b__law_pick .nil pass0 (pa_cons (pv 0) (pa_cons (pe_lst (pa_cons pe_int (pa_cons pe_int (pa_cons (pe_un un_neg pe_int) pa_nil)))) pa_nil))) pa_nil))) pa_nil)) (by rfl))
  (pss_cons (ps_if (pt_not (pt_val (pe_call (ok__law_refused T tb) (hr.mono (by decide)) (by rfl) T.m__law_refused T.F__law_refused.kp T.b__law_refused .nil pass0 (pa_cons (pv 0) (pa_cons (pe_dget (hu_of hr) (pv 8) pe_str (fun _ _ => rfl)) pa_nil))))) (pss_one (ps_ret pe_bl)) pss_nil)
  (pss_one (ps_if (pt_not (pt_val (KG.pe_callG (ok__law_told_right T) hg (hr.mono (by decide)) (by rfl) T.m__law_told_right T.F__law_told_right.kp T.b__law_told_right .nil pass0 (pa_cons (pe_dget (hu_of hr) (pv 8) pe_str (fun _ _ => rfl)) (pa_cons (pv 1) (pa_cons (pe_dget (hu_of hr) (pv 8) pe_str (fun _ _ => rfl)) (pa_cons (pe_dget (hu_of hr) (pv 8) pe_str (fun _ _ => rfl)) (pa_cons (pv 13) pa_nil)))))))) (pss_one (ps_ret pe_bl)) pss_nil)))) pss_nil))))))))))
  (pss_one (ps_ret pe_bl))))), ?_⟩
  show tSeq _ _ _ [some (.ref t), some (.int (n : Int)), some (.int (kk : Int)), none, none, none, none, none, none, none, none, none, none, none] H
  repeat' (walk_at "s")
  refine KA.g_klst (Nat.zero_le _) fun pb H1 hpb e1 h1 => ?_
  repeat' (walk_at "s")
  refine KT.g_kforR (fun i σ H' => ∃ x4 x5 x6 as, σ = [some (.ref t), some (.int (n : Int)), some (.int (kk : Int)), some (.ref pb), x4, x5, x6, none, none, none, none, none, none, none] ∧ Tape H' t l c ∧ LamX.Tabs (refT A) H' ∧ Box0S K A l n H' pb as ∧ as.length = i)
    ⟨by decide, by decide⟩ ⟨_, _, _, [], rfl, tp.mono e1, tab.ext e1, ⟨h1, (fun _ h => nomatch h), (fun _ h => nomatch h)⟩, rfl⟩ ?_ ?_
  · rintro i σ H2 hi ⟨x4, x5, x6, as, rfl, tp2, tab2, B2, las⟩
    repeat' (walk_at "s")
    refine lcr_any (fun D i H' => Tape H' t l c ∧ TX2 t l H2 H' ∧ ∃ ns : List Int, ns.length = i ∧ (∀ z ∈ ns, z.natAbs ≤ 3) ∧ H' D = some (.lst (ns.map V.int))) ⟨by omega, by omega⟩ (fun D hD => ⟨tp2.mono (Ex.new hD), TX2.of (Ex.new hD), [], rfl, (fun _ h => nomatch h), upd_same⟩)
      (fun D hD j H3 hj ⟨tp3, tx3, ns, ln, bn, h3⟩ => ?_) (fun D H3 hD ⟨tp3, tx3, ns, ln, bn, h3⟩ => ?_)
    · unfold AnyTurn
      repeat' (walk_at "s")
      refine ⟨rfl, ?_⟩
      repeat' (walk_at "s")
      refine KA.g_klst (show 5 ≤ 1000 by decide) fun q4 H4 hq4 e4 h4 => ?_
      have nl4 : q4 ≠ l := fun z => by
        obtain ⟨ls', hl'⟩ := tp3.lar
        rw [z, hl'] at hq4; cases hq4
      repeat' (walk_at "s")
      refine ⟨t, l, c, q4, _, rfl, tp3.mono e4, h4, nl4, by show 1 ≤ 5; decide, by show 5 ≤ 1000; decide, fun v H5 hv tp5 tx5 => ?_⟩
      obtain ⟨z, rfl, hz⟩ : ∃ z : Int, v = .int z ∧ z.natAbs ≤ 3 := by
        rcases List.mem_cons.mp hv with rfl | hv
        · exact ⟨_, rfl, by decide⟩
        rcases List.mem_cons.mp hv with rfl | hv
        · exact ⟨_, rfl, by decide⟩
        rcases List.mem_cons.mp hv with rfl | hv
        · exact ⟨_, rfl, by decide⟩
        rcases List.mem_cons.mp hv with rfl | hv
        · exact ⟨_, rfl, by decide⟩
        rw [List.mem_singleton.mp hv]
        exact ⟨_, rfl, by decide⟩
      have nD : D ≠ l := fun z => by
        obtain ⟨ls', hl'⟩ := tp2.lar
        rw [z, hl'] at hD; cases hD
      have h5 := tx5.lst (tp3.mono e4) nD (e4 _ _ h3)
      refine ⟨_, h5, by rw [List.length_map, ln]; exact Nat.lt_of_lt_of_le (show j < 100 by omega) (by decide), tape_new hD tp2 tp5, TX2.new hD (tx3.trans ((TX2.of e4).trans tx5)), ns ++ [z], by rw [List.length_append, ln]; rfl, fun y hy => ?_, by rw [upd_same, List.map_append]; rfl⟩
      rcases List.mem_append.mp hy with hy | hy
      · exact bn y hy
      · rw [List.mem_singleton.mp hy]; exact hz
    · have ln : ns.length = n := by omega
      have tab3 := tabs_tx tp2 tx3 tab2
      have B3 := B2.tn tp2 (TN.tx tx3)
      repeat' (walk_at "s")
      refine ⟨D, ns, rfl, h3, by omega, fun v4 H4 e4 h4 => ?_⟩
      repeat' (walk_at "s")
      obtain ⟨ap, wp, rfl, hap, hwp⟩ := id h4
      have B4 := B3.mono e4
      have hpb4 := B4.lst
      refine ⟨.inl ⟨rfl, _, SqL.of hpb4⟩, ?_⟩
      repeat' (walk_at "s")
      refine KT.g_disp fun b H5 hb e5 h5 => ?_
      repeat' (walk_at "s")
      intro ox odx hox hodx hne
      have e6 : Ex H5 (upd (upd H5 odx (.own ox)) ox (.ins A.C_Listener odx [])) := (Ex.new hodx).trans (Ex.new (by rw [upd_ne hne.symm]; exact hox))
      refine ⟨ox, odx, _, rfl, .int _, upd_same, fun z => ?_, fun tt et t1 t8 H7 ls7 x7 fr7 => ?_⟩
      · have : btw (.int (n : Int)) 1 8 = true := by unfold btw; simp; omega
        rw [this] at z; cases z
      have et : n = tt := by have := V.int.inj et; omega
      subst et
      refine ⟨rfl, ?_⟩
      have e7 : Ex H5 H7 := ExA.keep e6 hox x7
      repeat' (walk_at "s")
      refine KA.g_klst (Nat.zero_le _) fun ps H8 hps e8 h8 => ?_
      repeat' (walk_at "s")
      refine KA.g_klst (Nat.zero_le _) fun pr H9 hpr e9 h9 => ?_
      repeat' (walk_at "s")
      have h5' : H9 b = some (.dK []) := e9 _ _ (e8 _ _ (e7 _ _ h5))
      refine ⟨h5', box4 ox ap ps pr, rfl, by show 4 ≤ 15; decide, ?_⟩
      rw [made_box]
      have e59 : Ex H5 H9 := (e7.trans e8).trans e9
      have e49 : Ex H4 (upd H9 b (.dK (box4 ox ap ps pr))) := ExA.keep (e5.trans e59) hb ExA.put
      have hb10 : upd H9 b (.dK (box4 ox ap ps pr)) b = some (.dK (box4 ox ap ps pr)) := upd_same
      have keep : ∀ {a o}, a ≠ b → H9 a = some o → upd H9 b (.dK (box4 ox ap ps pr)) a = some o := fun {a o} n h => by rw [upd_ne n]; exact h
      have ls9 : Lsn K A.C_Listener H9 ox n (List.replicate (n - 1) 0) [] := lsn_mono (e8.trans e9) ls7
      obtain ⟨⟨dx, pq, rr, hx9, hq9, ⟨ra, us2, rfl, hra9, hus2⟩⟩, _, _, _, _⟩ := id ls9
      have x7' : H7 ox = some (.ins A.C_Listener dx (lf n (.ref pq) (.ref ra))) := by
        obtain ⟨⟨dx', pq', rr', hx7, _⟩, _⟩ := id ls7
        rw [hx7, ← (e8.trans e9) _ _ hx7]
        exact hx9
      have nxb : ox ≠ b := fun z => by rw [z, h5] at hox; cases hox
      obtain ⟨ra', era, hra0⟩ := fr7 _ _ _ x7'
      cases era
      have npb : ∀ {q : Addr} {H' : Hp}, Ex H4 H' → H' q = none → q ≠ pb := fun e hn z => by rw [z, e _ _ hpb4] at hn; cases hn
      have npl : ∀ {q : Addr} {H' : Hp}, Ex H4 H' → H' q = none → q ≠ l := fun e hn z => by
        obtain ⟨ls', hl'⟩ := (tp3.mono e4).lar
        rw [z, e _ _ hl'] at hn; cases hn
      have e45 : Ex H4 H5 := e5
      have e48 : Ex H4 H8 := (e5.trans e7).trans e8
      have hrow : RowV K H4 (.ref ap) (rats ns) := h4
      have B10 : Box0S K A l n (upd H9 b (.dK (box4 ox ap ps pr))) pb as := B4.mono e49
      have hx10 := keep nxb hx9
      have hps9 := e9 _ _ h8
      have nps : ps ≠ b := fun z => by rw [z, h5'] at hps9; cases hps9
      have npr : pr ≠ b := fun z => by rw [z, h5'] at h9; cases h9
      have npq : pq ≠ b := fun z => by rw [z, h5'] at hq9; cases hq9
      have nra : ra ≠ b := fun z => by rw [z, h5'] at hra9; cases hra9
      have exl : Ex H4 (upd (upd H5 odx (.own ox)) ox (.ins A.C_Listener odx [])) := e5.trans e6
      have us0 : us2 = [] := by cases hus2; rfl
      subst us0
      have Bnew : BoxV K A l n 0 (upd H9 b (.dK (box4 ox ap ps pr))) b ox [] [] ns := ⟨⟨ap, ps, pr, [], hb10, hrow.mono e49, keep nps hps9, npl (e5.trans e7) hps, keep npr h9, .nil⟩,
        ⟨⟨dx, pq, .ref ra, hx10, by rw [back_nil]; exact keep npq hq9, ⟨ra, [], rfl, keep nra hra9, .nil⟩⟩, n1, n8, by rw [back_nil, List.length_replicate]; omega, okL_nil n⟩, (fun _ h => nomatch h), ln, bn, (fun _ h => nomatch h), Nat.le_refl _, Nat.le_refl _⟩
      have Nnew : NotPb (upd H9 b (.dK (box4 ox ap ps pr))) b ox pb := by
        refine ⟨fun p' s' r' h' => ?_, fun C' dx' t' b' ra' h' => ?_⟩
        · rw [hb10] at h'
          cases h'
          exact ⟨npb (e5.trans e7) hps, npb e48 hpr⟩
        · rw [hx10] at h'
          cases h'
          exact npb exl hra0
      have nas : ∀ y ∈ as, y.1 ≠ b ∧ y.2 ≠ ox := fun y hy => by
        obtain ⟨path', By, _⟩ := B4.all y hy
        obtain ⟨⟨kvs, hb'⟩, ⟨C', dx', fs', hx'⟩⟩ := box_of By
        exact ⟨fun z => (by rw [z, hb] at hb'; cases hb'), fun z => (by rw [z] at hx'; have := e5 _ _ hx'; rw [hox] at this; cases this)⟩
      have tab10 : LamX.Tabs (refT A) (upd H9 b (.dK (box4 ox ap ps pr))) := (tab3.ext e4).ext e49
      have tp10 : Tape (upd H9 b (.dK (box4 ox ap ps pr))) t l c := (tp3.mono e4).mono e49
      have las1 : as.length < 100000 := by omega
      generalize upd H9 b (.dK (box4 ox ap ps pr)) = H10 at *
      have hpb10 := B10.lst
      repeat' (walk_at "s")
      refine ⟨pb, _, _, rfl, rfl, hpb10, by rw [List.length_map, List.length_map]; exact Nat.lt_of_lt_of_le las1 (by decide), ?_⟩
      exact ⟨_, _, _, as ++ [(b, ox)], rfl, tape_new hpb tp tp10, tabs_upd hpb10 (fun _ z => nomatch z) (fun _ z => nomatch z) tab10, B10.add Bnew Nnew nas, by rw [List.length_append, las]; rfl⟩
  · rintro σ H2 ⟨x4, x5, x6, as, rfl, tp2, tab2, B2, las⟩
    have las : as.length = 2 := las
    have B2 := B2.to
    clear tp tab h1 e1 hpb H1
    repeat' (walk_at "s")
    refine KT.g_kforR (fun i σ H' => ∃ x4 x5 x6 x7 x8 x9 x10 x11 x12 x13, σ = [some (.ref t), some (.int (n : Int)), some (.int (kk : Int)), some (.ref pb), x4, x5, x6, x7, x8, x9, x10, x11, x12, x13] ∧ Tape H' t l c ∧ LamX.Tabs (refT A) H' ∧ BoxS K A l n i H' pb as)
      ⟨by omega, by omega⟩ ⟨_, _, _, _, _, _, _, _, _, _, rfl, tp2, tab2, B2⟩ ?_ ?_
    · clear tp2 tab2 B2
      rintro i σ H2 hi ⟨x4, x5, x6, x7, x8, x9, x10, x11, x12, x13, rfl, tp2, tab2, B2⟩
      have i100 : i < 100 := by omega
      have newl : ∀ {H' : Hp} {q : Addr}, Tape H' t l c → H' q = none → q ≠ l := fun T' hn z => by
        obtain ⟨ls', hl'⟩ := T'.lar
        rw [z, hl'] at hn; cases hn
      repeat' (walk_at "s")
      refine ⟨t, l, c, 2, rfl, tp2, by decide, by decide, fun d3 H3 d30 d31 tp3 tx3 => ?_⟩
      have B3 := B2.tn tp2 (TN.tx tx3)
      have tab3 := tabs_tx tp2 tx3 tab2
      repeat' (walk_at "s")
      obtain ⟨z, mz, hat⟩ : ∃ z ∈ as, atI ((as.map (·.1)).map V.ref) d3 = some (.ref z.1) := by
        obtain ⟨v, hv, hat⟩ := at_any (xs := (as.map (·.1)).map V.ref) d30 (by rw [List.length_map, List.length_map, las]; omega)
        obtain ⟨a, ha, rfl⟩ := List.mem_map.mp hv
        obtain ⟨z, hz, rfl⟩ := List.mem_map.mp ha
        exact ⟨z, hz, hat⟩
      obtain ⟨b, x⟩ := z
      refine ⟨pb, _, d3, _, rfl, rfl, SqL.of B3.lst, hat, ?_⟩
      obtain ⟨ns, rows, path, Bz⟩ := B3.all _ mz
      obtain ⟨⟨p, sa, ra, us, hb, hp, hs, sl, hr, hus⟩, ls, sm, pl, pbd, nb, nl, rl⟩ := id Bz
      repeat' (walk_at "s")
      refine KW.g_ksub (k := kSe) hb bv_S ?_
      repeat' (walk_at "s")
      refine KA.g_klst (show 7 ≤ 1000 by decide) fun q4 H4 hq4 e4 h4 => ?_
      have tp4 := tp3.mono e4
      repeat' (walk_at "s")
      refine ⟨t, l, c, q4, _, rfl, tp4, h4, newl tp3 hq4, by show 1 ≤ 7; decide, by show 7 ≤ 1000; decide, fun v H5 hv tp5 tx5 => ?_⟩
      obtain ⟨xx, rfl, hxx⟩ : ∃ z : Int, v = .int z ∧ z.natAbs ≤ 5 := by
        rcases List.mem_cons.mp hv with rfl | hv
        · exact ⟨_, rfl, by decide⟩
        rcases List.mem_cons.mp hv with rfl | hv
        · exact ⟨_, rfl, by decide⟩
        rcases List.mem_cons.mp hv with rfl | hv
        · exact ⟨_, rfl, by decide⟩
        rcases List.mem_cons.mp hv with rfl | hv
        · exact ⟨_, rfl, by decide⟩
        rcases List.mem_cons.mp hv with rfl | hv
        · exact ⟨_, rfl, by decide⟩
        rcases List.mem_cons.mp hv with rfl | hv
        · exact ⟨_, rfl, by decide⟩
        rw [List.mem_singleton.mp hv]
        exact ⟨_, rfl, by decide⟩
      have B5 := (B3.mono e4).tn tp4 (TN.tx tx5)
      have tab5 := tabs_tx tp4 tx5 (tab3.ext e4)
      have n35 : TN t l H3 H5 := (TN.of e4).trans (TN.tx tx5)
      have hs5 := n35.lst tp3 sl hs
      repeat' (walk_at "s")
      refine KA.g_klst (show 1 ≤ 1000 by decide) fun q6 H6 hq6 e6 h6 => ?_
      repeat' (walk_at "s")
      refine g_cat (e6 _ _ hs5) h6 (by rw [List.length_map]; show _ + 1 ≤ 100000; omega) fun s2 H7 hs2 e7 h7 => ?_
      have tp6 := tp5.mono e6
      have s2l : s2 ≠ l := newl tp6 hs2
      have tp7 := tp6.mono e7
      have tab7 := (tab5.ext e6).ext e7
      have B7 := (B5.mono e6).mono e7
      have h7 : H7 s2 = some (.lst ((ns ++ [xx]).map V.int)) := by rw [h7, List.map_append]; rfl
      repeat' (walk_at "s")
      refine ⟨t, l, c, 3, rfl, tp7, by decide, by decide, fun d8 H8 d80 d81 tp8 tx8 => ?_⟩
      have B8 := B7.tn tp7 (TN.tx tx8)
      have tab8 := tabs_tx tp7 tx8 tab7
      have h8 := tx8.lst tp7 s2l h7
      repeat' (walk_at "s")
      generalize hq : decide ((0 : Int) < d8) = q
      have lbk : (back (ns ++ [xx]) n).length = n := by unfold back; rw [List.length_map, List.length_range]
      refine ⟨s2, ns ++ [xx], n, 0, rfl, h8, by rw [List.length_append]; show _ + 1 ≤ 1000; omega, n8, fun v9 H9 e9 h9 => ?_⟩
      obtain ⟨pz, wz, rfl, hpz, hwz⟩ := id h9
      repeat' (walk_at "s")
      have lw : wz.length = n + 1 := by rw [hwz.length]; unfold rats; rw [List.length_map, List.length_append, lbk]; rfl
      refine g_slTp (SqT.of hpz) (by omega) fun q10 H10 hq10 e10 h10 => ?_
      repeat' (walk_at "s")
      have n38 : TN t l H3 H8 := (n35.trans (TN.of (e6.trans e7))).trans (TN.tx tx8)
      have n310 := n38.trans (TN.of (e9.trans e10))
      have hp10 := row_tn tp3 n310 hp
      have hb10 : H10 b = some (.dK (box4 x p sa ra)) := n310.keep tp3 hb box_noTape (fun _ z => nomatch z) (fun _ z => nomatch z)
      have h10' : RowV K H10 (.ref q10) (rats (back (ns ++ [xx]) n)) := by
        refine ⟨q10, _, rfl, h10, ?_⟩
        have := pimp (fun _ _ h => FrV.mono e10 h) (ptake hwz n)
        have e : (rats (back (ns ++ [xx]) n ++ [0])).take n = rats (back (ns ++ [xx]) n) := by
          unfold rats
          rw [List.map_append, List.take_append_of_le_length (by rw [List.length_map, lbk]; exact Nat.le_refl _), List.take_of_length_le (by rw [List.length_map, lbk]; exact Nat.le_refl _)]
        rw [e] at this
        exact this
      have bbk : ∀ z ∈ back (ns ++ [xx]) n, z.natAbs ≤ 5 := fun z hz => by
        unfold back at hz
        obtain ⟨j, _, rfl⟩ := List.mem_map.mp hz
        rw [List.getD_eq_getElem?_getD]
        cases hj : (ns ++ [xx]).reverse[j]? with
        | none => decide
        | some y =>
          have my := List.mem_of_getElem? hj
          rw [List.mem_reverse] at my
          rcases List.mem_append.mp my with my | my
          · exact nb y my
          · rw [List.mem_singleton.mp my]; exact hxx
      refine KW.g_ksub (k := kPa) hb10 bv_P ?_
      repeat' (walk_at "s")
      refine ⟨_, _, back (ns ++ [xx]) n, path, rfl, h10', hp10, by rw [pl, lbk], by rw [lbk]; exact n8, fun z hz => Nat.le_trans (bbk z hz) (by decide), fun z hz => Nat.le_trans (pbd z hz) (by decide), fun v11 H11 e11 h11 => ?_⟩
      generalize he : dotI (back (ns ++ [xx]) n) path = e at h11
      have be : e.natAbs ≤ 120 := by
        have := dotI_le2 (b := 5) (c := 3) (show path.length = (back (ns ++ [xx]) n).length by rw [pl, lbk]) bbk pbd n (by rw [lbk]; exact Nat.le_refl _)
        rw [List.take_of_length_le (by rw [lbk]; exact Nat.le_refl _), List.take_of_length_le (by rw [pl]; exact Nat.le_refl _), he] at this
        have : e.natAbs ≤ n * (5 * 3) := this
        omega
      obtain ⟨ae, rfl, hse⟩ := h11
      have hse : SqT K H11 ae [.int e, .int ((((e : Int) : Rat).den : Nat) : Int)] := hse
      repeat' (walk_at "u")
      have tp11 : Tape H11 t l c := ((tp8.mono e9).mono e10).mono e11
      refine joinE (fun v H' => ∃ y : Int, v = .int y ∧ y.natAbs ≤ 40 ∧ Tape H' t l c ∧ TX2 t l H11 H') (fun Q' kq => ?_) ?_
      · have pick : ∀ (H12 : Hp), Tape H12 t l c → TX2 t l H11 H12 → ∀ (q13 : Addr) (H13 : Hp), H12 q13 = none → Ex H12 H13 → H13 q13 = some (.lst [.int 0, .int 1, .int (-2), .int 40]) → sp__law_pick [.ref t, .ref q13] H13 Q' E0 := fun H12 tp12 tx12 q13 H13 hq13 e13 h13 => by
          refine ⟨t, l, c, q13, _, rfl, tp12.mono e13, h13, newl tp12 hq13, by show 1 ≤ 4; decide, by show 4 ≤ 1000; decide, fun v H14 hv tp14 tx14 => kq v H14 ?_⟩
          have tx : TX2 t l H11 H14 := (tx12.trans (TX2.of e13)).trans tx14
          rcases List.mem_cons.mp hv with rfl | hv
          · exact ⟨_, rfl, by decide, tp14, tx⟩
          rcases List.mem_cons.mp hv with rfl | hv
          · exact ⟨_, rfl, by decide, tp14, tx⟩
          rcases List.mem_cons.mp hv with rfl | hv
          · exact ⟨_, rfl, by decide, tp14, tx⟩
          rw [List.mem_singleton.mp hv]
          exact ⟨_, rfl, by decide, tp14, tx⟩
        repeat' (walk_at "s")
        refine KA.kB_b (fun hc => ?_) (fun hc => ?_)
        · repeat' (walk_at "s")
          refine ⟨t, l, c, 60, rfl, tp11, by decide, by decide, fun d12 H12 d120 d121 tp12 tx12 => ?_⟩
          repeat' (walk_at "s")
          refine KA.kB_d (fun hd => ?_) (fun hd => ?_)
          · repeat' (walk_at "s")
            exact kq _ _ ⟨0, rfl, by decide, tp12, tx12⟩
          · repeat' (walk_at "s")
            refine KA.g_klst (show 4 ≤ 1000 by decide) fun q13 H13 hq13 e13 h13 => ?_
            repeat' (walk_at "s")
            exact pick _ tp12 tx12 _ _ hq13 e13 h13
        · repeat' (walk_at "s")
          refine KA.g_klst (show 4 ≤ 1000 by decide) fun q13 H13 hq13 e13 h13 => ?_
          repeat' (walk_at "s")
          exact pick _ tp11 (TX2.of (Ex.refl _)) _ _ hq13 e13 h13
      rintro _ H12 ⟨y2, rfl, hy2, tp12, tx12⟩
      have n312 := (n310.trans (TN.of e11)).trans (TN.tx tx12)
      have B12 := B3.tn tp3 n312
      have n812 : TX2 t l H8 H12 := (TX2.of ((e9.trans e10).trans e11)).trans tx12
      have tab12 := tabs_tx tp8 n812 tab8
      have h12 := n812.lst tp8 s2l h8
      repeat' (walk_at "s")
      generalize hy : e + y2 = y
      have by200 : y.natAbs ≤ 200 := by omega
      have hb12 : H12 b = some (.dK (box4 x p sa ra)) := n312.keep tp3 hb box_noTape (fun _ z => nomatch z) (fun _ z => nomatch z)
      have ls12 := lsn_tn tp3 n312 ls
      obtain ⟨⟨dx, pq, rr, hx12, hq12, hrr12⟩, _⟩ := id ls12
      refine KW.g_ksub (k := kLi) hb12 bv_L ?_
      refine g_kmth hx12 lf_hear ?_
      repeat' (walk_at "s")
      refine ⟨s2, _, -1, .int xx, rfl, rfl, SqL.of h12, by rw [List.map_append]; exact at_last0 _ _, ?_⟩
      repeat' (walk_at "s")
      have sx : snd1 (.int xx) = true := by unfold snd1 btw; simp; omega
      have sy : snd1 (.int y) = true := by unfold snd1 btw; simp; omega
      have nT : ∀ {P : Prop}, true = false → P := fun z => by cases z
      have smn : SmR n (nextRow xx (back ns (n - 1)) y) := by
        rw [← next_back n1]
        exact smr_row lbk bbk by200
      refine ⟨x, _, _, _, n, _, _, rfl, .int _, .int _, ls12, fun z => nT (sx.symm.trans z), fun _ z => nT (sy.symm.trans z), fun _ _ h => absurd rfl (h q), fun x' y' q' ex ey eq _ _ => ?_⟩
      cases ex; cases ey; cases eq
      refine ⟨smn, fun H13 x13' ls13 => ?_⟩
      repeat' (walk_at "s")
      refine ⟨rfl, ?_⟩
      simp only [decide_true, Bool.not_true]
      repeat' (walk_at "s")
      have nbx : b ≠ x := fun z => by rw [z, hx12] at hb12; cases hb12
      have hb13 := x13' _ _ nbx hb12
      have tp13 := tape_exa tp12 hx12 x13'
      have tab13 := tabs_exa hx12 x13' tab12
      refine KW.g_kput (k := kSe) hb13 (by show 4 ≤ 1000; decide) ?_
      rw [bp_S]
      have hb14 : upd H13 b (.dK (box4 x p s2 ra)) b = some (.dK (box4 x p s2 ra)) := upd_same
      have es14 : ExS b x H12 (upd H13 b (.dK (box4 x p s2 ra))) := (ExS.ofx x13').trans ExS.ofb
      have ls14 : Lsn K A.C_Listener (upd H13 b (.dK (box4 x p s2 ra))) x n _ _ := lsn_updk hb13 ls13
      have tp14 : Tape (upd H13 b (.dK (box4 x p s2 ra))) t l c := tape_upd tp13 hb13 box_noTape (fun _ z => nomatch z)
      have tab14 : LamX.Tabs (refT A) (upd H13 b (.dK (box4 x p s2 ra))) := tabs_upd hb13 (fun _ z => nomatch z) (fun _ z => nomatch z) tab13
      generalize upd H13 b (.dK (box4 x p s2 ra)) = H14 at hb14 es14 ls14 tp14 tab14
      have nlb : NoTL (.dK (box4 x p sa ra)) := noTL_dk
      have nlx := noTL_ins (C := A.C_Listener) (dx := dx) (fs := lf n (.ref pq) rr)
      have hr14 := es14.lst hb12 hx12 nlb nlx (n312.lst_refs tp3 hus hr)
      have hus14 := pimp (fun _ _ h => es14.row hb12 hx12 nlb nlx (row_tn tp3 n312 h)) hus
      have h14 := es14.lst hb12 hx12 nlb nlx h12
      have hp14 := es14.row hb12 hx12 nlb nlx (row_tn tp3 n312 hp)
      have lus : us.length ≤ i := by rw [hus.length]; exact rl
      repeat' (walk_at "u")
      refine KW.g_ksub (k := kRo) hb14 bv_R ?_
      repeat' (walk_at "u")
      refine joinE (fun v H' => ∃ (q15 : Addr) (us2 : List V), v = .ref q15 ∧ Ex H14 H' ∧ H' q15 = some (.lst us2) ∧ Paired (RowV K H') us2 (if q = true then [rats (back (ns ++ [xx]) n ++ [y])] else []) ∧ us2.length ≤ 1) (fun Q' kq => ?_) ?_
      · repeat' (walk_at "s")
        refine KA.kB_b (fun hc => ?_) (fun hc => ?_)
        · repeat' (walk_at "s")
          refine ⟨s2, ns ++ [xx], n, y, rfl, h14, by rw [List.length_append]; show _ + 1 ≤ 1000; omega, n8, fun v15 H15 e15 h15 => ?_⟩
          repeat' (walk_at "s")
          refine KA.g_klst (show 1 ≤ 1000 by decide) fun q16 H16 hq16 e16 h16 => ?_
          refine kq _ _ ⟨q16, _, rfl, e15.trans e16, h16, ?_, Nat.le_refl _⟩
          rw [if_pos hc]
          exact .cons (h15.mono e16) .nil
        · repeat' (walk_at "s")
          refine KA.g_klst (Nat.zero_le _) fun q16 H16 hq16 e16 h16 => ?_
          refine kq _ _ ⟨q16, _, rfl, e16, h16, ?_, Nat.zero_le _⟩
          rw [if_neg (by rw [hc]; exact Bool.false_ne_true)]
          exact .nil
      rintro _ H15 ⟨q15, us2, rfl, e15, h15, hus15, lus2⟩
      repeat' (walk_at "s")
      refine g_cat (e15 _ _ hr14) h15 (by omega) fun r2 H16 hr2 e16 h16 => ?_
      have e1416 := e15.trans e16
      have hb16 := e1416 _ _ hb14
      repeat' (walk_at "u")
      refine KW.g_kput (k := kRo) hb16 (by show 4 ≤ 1000; decide) ?_
      rw [bp_R]
      have es18 : ExS b x H12 (upd H16 b (.dK (box4 x p s2 r2))) := es14.trans ((ExS.of e1416).trans ExS.ofb)
      have nb16 : ∀ {a : Addr} {o : HO}, a ≠ b → H16 a = some o → upd H16 b (.dK (box4 x p s2 r2)) a = some o := fun n h => by rw [upd_ne n]; exact h
      have B18 : BoxV K A l n (i + 1) (upd H16 b (.dK (box4 x p s2 r2))) b x (ns ++ [xx]) (rows ++ (if q = true then [rats (back (ns ++ [xx]) n ++ [y])] else [])) path := by
        refine ⟨⟨p, s2, r2, us ++ us2, upd_same, row_upd hb16 noT_dk (hp14.mono e1416), nb16 (fun z => by rw [z, hb14] at h14; cases h14) (e1416 _ _ h14), s2l, nb16 (fun z => by rw [z, hb16] at h16; cases h16) h16, ?_⟩, ?_, ?_, pl, pbd, ?_, ?_, ?_⟩
        · exact papp (pimp (fun _ _ h => row_upd hb16 noT_dk (h.mono e1416)) hus14) (pimp (fun _ _ h => row_upd hb16 noT_dk (h.mono e16)) hus15)
        · have l16 := lsn_updk (o := .dK (box4 x p s2 r2)) hb16 (lsn_mono e1416 ls14)
          have eb : (xx :: back ns (n - 1)).take (n - 1) = back (ns ++ [xx]) (n - 1) := by rw [← back_next n1, back_take (by omega)]
          rw [eb, ← next_back n1] at l16
          have el : allL (n + 1) (rows ++ (if q = true then [rats (back (ns ++ [xx]) n ++ [y])] else [])) = if q = true then stepL (n + 1) (allL (n + 1) rows) (rats (back (ns ++ [xx]) n ++ [y])) else allL (n + 1) rows := by
            cases q
            · rw [if_neg Bool.false_ne_true, if_neg Bool.false_ne_true, List.append_nil]
            · rw [if_pos rfl, if_pos rfl, allL_snoc]
          rw [el]
          exact l16
        · intro r hr'
          rcases List.mem_append.mp hr' with h | h
          · exact sm r h
          · cases q
            · cases h
            · rw [List.mem_singleton.mp h]; exact smr_row lbk bbk by200
        · intro z hz
          rcases List.mem_append.mp hz with h | h
          · exact nb z h
          · rw [List.mem_singleton.mp h]; exact hxx
        · rw [List.length_append]; exact Nat.add_le_add_right nl 1
        · rw [List.length_append]
          have : (if q = true then [rats (back (ns ++ [xx]) n ++ [y])] else []).length ≤ 1 := by cases q <;> simp
          omega
      have BS18 : BoxS K A l n (i + 1) (upd H16 b (.dK (box4 x p s2 r2))) pb as := (B12.up (Nat.le_succ i)).step mz es18 ⟨_, _, _, B18⟩
      have tp18 : Tape (upd H16 b (.dK (box4 x p s2 r2))) t l c := tape_upd (tp14.mono e1416) hb16 box_noTape (fun _ z => nomatch z)
      have tab18 : LamX.Tabs (refT A) (upd H16 b (.dK (box4 x p s2 r2))) := tabs_upd hb16 (fun _ z => nomatch z) (fun _ z => nomatch z) (tab14.ext e1416)
      generalize upd H16 b (.dK (box4 x p s2 r2)) = H18 at BS18 tp18 tab18
      with_reducible refine KA.g_ifs ?_
      refine joinT (fun _ H' => Tape H' t l c ∧ TX2 t l H18 H') (fun R kr => ?_) ?_
      · repeat' (walk_at "s")
        refine KA.kB_d (fun hc => ?_) (fun hc => ?_)
        · repeat' (walk_at "s")
          exact kr _ _ ⟨tp18, TX2.of (Ex.refl _)⟩
        · repeat' (walk_at "s")
          refine ⟨t, l, c, 6, rfl, tp18, by decide, by decide, fun d19 H19 _ _ tp19 tx19 => ?_⟩
          repeat' (walk_at "s")
          exact kr _ _ ⟨tp19, tx19⟩
      rintro bb H19 ⟨tp19, tx19⟩
      have BS19 := BS18.tn tp18 (TN.tx tx19)
      have tab19 := tabs_tx tp18 tx19 tab18
      refine KA.kB_b (fun hc => ?_) (fun hc => ?_)
      · repeat' (walk_at "s")
        have pbl : pb ≠ l := fun z => by
          obtain ⟨ls', hl'⟩ := tp19.lar
          have := BS19.lst
          rw [z, hl'] at this
          cases as with
          | nil => cases las
          | cons z zs =>
            have := HO.lst.inj (Option.some.inj this)
            cases ls' <;> cases this
        refine ⟨t, l, c, pb, _, rfl, tp19, BS19.lst, pbl, by rw [List.length_map, List.length_map, las]; decide, by rw [List.length_map, List.length_map, las]; decide, fun v20 H20 hv20 tp20 tx20 => ?_⟩
        have BS20 := BS19.tn tp19 (TN.tx tx20)
        have tab20 := tabs_tx tp19 tx20 tab19
        obtain ⟨a2, ha2, rfl⟩ := List.mem_map.mp hv20
        obtain ⟨⟨b2, xb2⟩, mz2, rfl⟩ := List.mem_map.mp ha2
        repeat' (walk_at "s")
        refine KA.g_klst (show 4 ≤ 1000 by decide) fun q21 H21 hq21 e21 h21 => ?_
        repeat' (walk_at "s")
        refine ⟨t, l, c, q21, _, rfl, tp20.mono e21, h21, newl tp20 hq21, by show 1 ≤ 4; decide, by show 4 ≤ 1000; decide, fun v22 H22 hv22 tp22 tx22 => ?_⟩
        obtain ⟨i2, rfl, hi2⟩ : ∃ z : Int, v22 = .int z ∧ z.natAbs ≤ 5 := by
          rcases List.mem_cons.mp hv22 with rfl | hv
          · exact ⟨_, rfl, by decide⟩
          rcases List.mem_cons.mp hv with rfl | hv
          · exact ⟨_, rfl, by decide⟩
          rcases List.mem_cons.mp hv with rfl | hv
          · exact ⟨_, rfl, by decide⟩
          rw [List.mem_singleton.mp hv]
          exact ⟨_, rfl, by decide⟩
        have tab22 := tabs_tx (tp20.mono e21) tx22 (tab20.ext e21)
        repeat' (walk_at "s")
        refine KA.g_klst (show 3 ≤ 1000 by decide) fun q23 H23 hq23 e23 h23 => ?_
        repeat' (walk_at "s")
        refine ⟨t, l, c, q23, _, rfl, tp22.mono e23, h23, newl tp22 hq23, by show 1 ≤ 3; decide, by show 3 ≤ 1000; decide, fun v24 H24 hv24 tp24 tx24 => ?_⟩
        obtain ⟨j2, rfl, hj2⟩ : ∃ z : Int, v24 = .int z ∧ z.natAbs ≤ 7 := by
          rcases List.mem_cons.mp hv24 with rfl | hv
          · exact ⟨_, rfl, by decide⟩
          rcases List.mem_cons.mp hv with rfl | hv
          · exact ⟨_, rfl, by decide⟩
          rw [List.mem_singleton.mp hv]
          exact ⟨_, rfl, by decide⟩
        have tab24 := tabs_tx (tp22.mono e23) tx24 (tab22.ext e23)
        have n2024 : TN t l H20 H24 := (TN.of e21).trans ((TN.tx tx22).trans ((TN.of e23).trans (TN.tx tx24)))
        repeat' (walk_at "s")
        refine KA.g_ktup (show 2 ≤ 1000 by decide) fun nh H25 hnh e25 h25 => ?_
        have BS25 := (BS20.tn tp20 n2024).mono e25
        have tp25 := tp24.mono e25
        have tab25 := tab24.ext e25
        obtain ⟨ns2, rows2, path2, Bz2⟩ := BS25.all _ mz2
        obtain ⟨⟨p2, sa2, ra2, us2', hb2, hp2, hs2', sl2, hr2', hus2'⟩, ls2, sm2, pl2, pbd2, nb2, nl2, rl2⟩ := id Bz2
        repeat' (walk_at "s")
        refine KW.g_ksub (k := kLi) hb2 bv_L ?_
        repeat' (walk_at "s")
        refine ⟨t, l, c, xb2, n, _, _, rfl, tp25, ls2, tab25, fun H26 tp26 tn26 tab26 => ?_⟩
        have BS26 := BS25.tn tp25 tn26
        have hb26 : H26 b2 = some (.dK (box4 xb2 p2 sa2 ra2)) := tn26.keep tp25 hb2 box_noTape (fun _ z => nomatch z) (fun _ z => nomatch z)
        repeat' (walk_at "s")
        refine KW.g_ksub (k := kLi) hb26 bv_L ?_
        repeat' (walk_at "s")
        refine KW.g_ksub (k := kRo) hb26 bv_R ?_
        repeat' (walk_at "s")
        refine KW.g_ksub (k := kSe) hb26 bv_S ?_
        repeat' (walk_at "s")
        have smq : SmR n (nextRow i2 (back ns2 (n - 1)) j2) := by
          rw [← next_back n1]
          refine smr_row (by unfold back; rw [List.length_map, List.length_range]) (fun z hz => ?_) (by omega)
          rw [back_next n1] at hz
          rcases List.mem_cons.mp hz with rfl | hz
          · exact hi2
          · exact back_mem nb2 hz
        refine ⟨xb2, ra2, sa2, nh, n, us2', rows2, ns2, i2, j2, rfl, lsn_tn tp25 tn26 ls2, tn26.lst_refs tp25 hus2' hr2', pimp (fun _ _ h => row_tn tp25 tn26 h) hus2', sm2, tn26.lst tp25 sl2 hs2', by omega, tn26.tup tp25 h25, by unfold snd1 btw; simp; omega, by unfold snd1 btw; simp; omega, smq, fun H27 e27 => ?_⟩
        repeat' (walk_at "s")
        exact ⟨_, _, _, _, _, _, _, _, _, _, rfl, tp26.mono e27, tab26.ext e27, BS26.mono e27⟩
      · repeat' (walk_at "s")
        exact ⟨_, _, _, _, _, _, _, _, _, _, rfl, tp19, tab19, BS19⟩
    · rintro σ H3 ⟨x4, x5, x6, x7, x8, x9, x10, x11, x12, x13, rfl, tp3, tab3, B3⟩
      repeat' (walk_at "s")
      exact k _ tp3 tab3
end
end K75
end
section
namespace K75
open PySem L2 Evl KX
/-! steps -/
local macro_rules | `(tactic| walk_at "nrm") => `(tactic| (((with_reducible refine' KA.g_nrm ?h ?k)); (case h => ((conv => lhs; simp only [List.set_cons_zero, List.set_cons_succ]); try exact rfl))))
local macro_rules | `(tactic| walk_at "nam") => `(tactic| (((with_reducible refine' KA.g_nameN ?h ?k)); (case h => ((conv => lhs; simp only [List.set_cons_zero, List.set_cons_succ]); try exact rfl))))
local macro_rules | `(tactic| walk_at "var") => `(tactic| (((with_reducible refine' KA.g_var ?h ?k)); (case h => exact rfl)))
local macro_rules | `(tactic| walk_at "aug") => `(tactic| (((with_reducible refine' KA.g_aug ?h ?k)); (case h => exact rfl)))
local macro_rules | `(tactic| walk_at "mul") => `(tactic| ((with_reducible refine KA.g_I (C := CMul) ?h ?k); (case h => first | exact KA.cmul_l (by omega) (by omega) | exact KA.cmul_r (by omega) (by omega))))
local macro_rules | `(tactic| walk_at "dv") => `(tactic| ((with_reducible refine KA.g_I (C := KA.CDv) ?h ?k); (case h => exact ⟨by omega, by omega⟩)))
local macro_rules | `(tactic| walk_at "mod") => `(tactic| ((with_reducible refine KA.g_I (C := fun _ j => 0 < j) ?h ?k); (case h => omega)))
local macro_rules | `(tactic| walk_at "s") => `(tactic| first
  | walk_at "nrm"
  | with_reducible refine KA.g_seq ?_
  | with_reducible refine KA.g_asg ?_
  | walk_at "nam"
  | with_reducible refine KA.g_yes ?_
  | with_reducible refine KA.g_ifs ?_
  | with_reducible refine KA.g_ret ?_
  | with_reducible refine KA.g_retN ?_
  | with_reducible refine KA.g_drop ?_
  | with_reducible refine KA.g_next ?_
  | with_reducible refine KA.g_brk ?_
  | with_reducible refine KA.g_par ?_
  | with_reducible refine KA.g_par3 ?_
  | with_reducible refine KA.g_kpar ?_
  | with_reducible refine KA.g_kpar3 ?_
  | with_reducible refine KA.g_op ?_
  | walk_at "var"
  | with_reducible refine KA.g_c ?_
  | with_reducible refine KA.g_I0 ?_
  | with_reducible refine KA.g_eqi ?_
  | with_reducible refine KA.g_nei ?_
  | with_reducible refine KA.g_test ?_
  | with_reducible refine KA.g_kbl ?_
  | with_reducible refine KA.g_cons ?_
  | with_reducible refine KA.g_nil ?_
  | with_reducible refine KA.g_cb ?_
  | with_reducible refine KA.g_call ?_
  | with_reducible refine KA.g_tb ?_
  | with_reducible refine KA.g_not ?_
  | with_reducible refine KA.g_and ?_
  | with_reducible refine KA.g_or ?_
  | with_reducible refine KA.g_if ?_
  | with_reducible refine KA.g_andV ?_
  | with_reducible refine KA.g_orV ?_
  | with_reducible refine KA.g_notV ?_
  | with_reducible refine KA.g_kbv ?_
  | with_reducible refine KA.g_ex1 ?_
  | with_reducible refine KA.g_chain ?_
  | with_reducible refine KA.g_fld ?_
  | with_reducible refine KA.g_un ?_
  | with_reducible refine KA.g_U ?_
  | with_reducible refine KA.g_tup ?_
  | with_reducible refine KA.g_lst ?_
  | walk_at "mul"
  | walk_at "dv"
  | walk_at "mod"
  | walk_at "aug"
  | with_reducible refine KA.g_ipi ?_
  | with_reducible refine KA.g_gcons ?_
  | with_reducible refine KA.g_gnil ?_
  | with_reducible refine KA.kB_t ?_
  | with_reducible refine KA.kB_f ?_
  | with_reducible refine KA.kB_nn ?_
  | with_reducible refine KA.ite_kB ?_
  | ((with_reducible refine' KA.g_ixT0 ?h ?k); (case h => exact L2.SqT.of (by assumption)))
  | ((with_reducible refine' KA.g_ixT1 ?h ?k); (case h => exact L2.SqT.of (by assumption)))
  | with_reducible refine KA.g_lct ?_
  | with_reducible refine KA.g_lcl ?_
  | with_reducible refine KA.g_lcr ?_
  | with_reducible refine KA.g_sl ?_
  | with_reducible refine KA.g_nop ?_
  | with_reducible refine KA.g_part ?_
  | with_reducible refine KA.g_exi ?_
  | with_reducible refine KA.g_eqs ?_
  | with_reducible refine KA.g_nes ?_
  | with_reducible refine KA.g_isN_i ?_
  | with_reducible refine KA.g_isN_n ?_
  | with_reducible refine KA.g_isN_r ?_
  | with_reducible refine KA.g_abs ?_
  | with_reducible refine KA.g_mx ?_
  | with_reducible refine KA.g_mn ?_
  | with_reducible refine KA.g_int ?_
  | with_reducible refine KA.g_intb ?_
  | with_reducible refine KA.g_isi_ii ?_
  | with_reducible refine KA.g_isi_ib ?_
  | with_reducible refine KA.g_isi_ss ?_
  | ((with_reducible refine' KA.g_isi_tt ?h ?k); (case h => assumption))
  | ((with_reducible refine' KA.g_lnL ?h ?k); (case h => assumption))
  | ((with_reducible refine' KA.g_lnT ?h ?k); (case h => assumption)))
local macro_rules | `(tactic| walk_at "s") => `(tactic| first
  | walk_at "mulW"
  | ((with_reducible refine' KA.g_ixT0 ?h ?k); (case h => assumption))
  | ((with_reducible refine' KA.g_ixT1 ?h ?k); (case h => assumption))
  | with_reducible refine KR.g_lcz ?_
  | with_reducible refine KR.g_lck ?_
  | with_reducible refine KR.g_forZ ?_
  | with_reducible refine KR.g_forK ?_
  | with_reducible refine KT.g_forR ?_
  | with_reducible refine KW.g_for ?_
  | with_reducible refine KR.g_sfld ?_
  | with_reducible refine KR.g_mth ?_
  | with_reducible refine KR.g_make ?_
  | fail)
local macro_rules | `(tactic| walk_at "s") => `(tactic| first
  | with_reducible refine KW.g_put ?_
  | with_reducible refine KW.g_sub ?_
  | with_reducible refine KW.g_bm0 ?_
  | ((with_reducible refine' KT.s_L ?h ?k); (case h => assumption))
  | ((with_reducible refine' KT.s_R ?h ?k); (case h => assumption))
  | ((with_reducible refine' KT.s_C ?h ?k); (case h => assumption))
  | ((with_reducible refine' KT.s_T ?h ?k); (case h => assumption))
  | ((with_reducible refine' KT.g_pw ?h ?h2 ?k); (case h => exact ⟨by omega, by omega⟩); (case h2 => exact ⟨by omega, by omega⟩))
  | with_reducible refine KT.g_bm ?_
  | with_reducible refine KT.g_pairs ?_
  | with_reducible refine KT.g_pairs0 ?_
  | with_reducible refine KR.g_din ?_
  | with_reducible refine KR.g_dno ?_
  | with_reducible refine KR.g_mthK ?_
  | with_reducible refine KR.g_partOf ?_
  | fail)
local macro_rules | `(tactic| walk_at "u") => `(tactic| ((fail_if_success (with_reducible refine KA.g_if ?_)); (fail_if_success (with_reducible refine KA.g_ifs ?_)); walk_at "s"))
section
variable {P : Program} {w : World} {K : PySem.W.Frag} {mg : Str → Option Value} {base : Heap} {A : Adr}
open KT KR
abbrev Tk := Int × Int × Bool
def StrA (H : Hp) (a : Addr) (ss : List Tk) : Prop := ∃ ts : List Addr, H a = some (.lst (ts.map V.ref)) ∧ Paired (fun p (z : Tk) => H p = some (.tup [.int z.1, .int z.2.1, .bl z.2.2])) ts ss
theorem pimpG {α β : Type} {R S : α → β → Prop} (h : ∀ a b, R a b → S a b) : ∀ {l : List α} {m : List β}, Paired R l m → Paired S l m
  | _, _, .nil => .nil
  | _, _, .cons r rs => .cons (h _ _ r) (pimpG h rs)
theorem StrA.tn {H H' : Hp} {t l c a : Addr} {ss : List Tk} (T : Tape H t l c) (e : TN t l H H') (h : StrA H a ss) : StrA H' a ss := let ⟨ts, h1, h2⟩ := h; ⟨ts, e.refs T h1, pimpG (fun _ _ g => e.tup T g) h2⟩
theorem StrA.mono {H H' : Hp} {a : Addr} {ss : List Tk} (e : Ex H H') (h : StrA H a ss) : StrA H' a ss := let ⟨ts, h1, h2⟩ := h; ⟨ts, e _ _ h1, pimpG (fun _ _ g => e _ _ g) h2⟩
def datT (z : Tk) : PyData := .tuple [.int z.1, .int z.2.1, .bool z.2.2]
theorem dpA_str {H : Hp} : ∀ {ts : List Addr} {ss : List Tk}, Paired (fun p (z : Tk) => H p = some (.tup [.int z.1, .int z.2.1, .bl z.2.2])) ts ss → DpAll K H (ts.map V.ref) (ss.map datT)
  | _, _, .nil => .nil
  | _, _, .cons r rs => .cons (.tup (SqT.of r) (.cons (.int _) (.cons (.int _) (.cons (.bl _) .nil)))) (dpA_str rs)
theorem dp_str {H : Hp} {a : Addr} {ss : List Tk} (h : StrA H a ss) : Dp K H (.ref a) (.list (ss.map datT)) := let ⟨ts, h1, h2⟩ := h; .lst (SqL.of h1) (dpA_str h2)
theorem dpA_strs {H : Hp} : ∀ {as : List Addr}, (∀ a ∈ as, ∃ ss, StrA H a ss) → ∃ sss : List (List Tk), sss.length = as.length ∧ DpAll K H (as.map V.ref) (sss.map fun ss => .list (ss.map datT))
  | [], _ => ⟨[], rfl, .nil⟩
  | a :: as, h => by
    obtain ⟨ss, hs⟩ := h a (.head _)
    obtain ⟨sss, h1, h2⟩ := dpA_strs fun b hb => h b (.tail _ hb)
    exact ⟨ss :: sss, by rw [List.length_cons, List.length_cons, h1], .cons (dp_str hs) h2⟩
theorem shaped_strs (sss : List (List Tk)) : SeqAt.shaped (.list (sss.map fun ss => .list (ss.map datT))) = true := by
  unfold SeqAt.shaped
  rw [Bool.and_eq_true_iff]
  have dT : ∀ z : Tk, PyData.depth (datT z) ≤ 1 := fun z => by
    show PyData.depthAll [.int z.1, .int z.2.1, .bool z.2.2] + 1 ≤ 1
    have : PyData.depthAll [.int z.1, .int z.2.1, .bool z.2.2] = 0 := rfl
    omega
  have dS : ∀ ss : List Tk, PyData.depth (.list (ss.map datT)) ≤ 2 := fun ss => by
    have := dep_all (f := datT) (n := 1) (l := ss) fun z _ => dT z
    show PyData.depthAll (ss.map datT) + 1 ≤ 2
    omega
  refine ⟨can_all fun ss _ => can_all fun z _ => rfl, decide_eq_true ?_⟩
  have := dep_all (f := fun ss : List Tk => PyData.list (ss.map datT)) (n := 2) (l := sss) fun ss _ => dS ss
  show PyData.depthAll _ + 1 ≤ 64
  omega
theorem seq_nat {d : Int} {n : Nat} (h0 : 0 ≤ d) (h1 : d < n) : seqIndex? d n = some d.toNat := by
  unfold seqIndex?
  simp
  omega
theorem erase_perm {α : Type} : ∀ {l : List α} {k : Nat} {x : α}, l[k]? = some x → (x :: l.eraseIdx k).Perm l
  | y :: l, 0, x, h => by cases h; exact .refl _
  | y :: l, k + 1, x, h => (List.Perm.swap y x _).trans (.cons y (erase_perm (l := l) (k := k) h))
theorem erase_map {α β : Type} {f : α → β} : ∀ {l : List α} {k : Nat}, (l.map f).eraseIdx k = (l.eraseIdx k).map f
  | [], _ => rfl
  | _ :: _, 0 => rfl
  | x :: l, k + 1 => by
    show f x :: (l.map f).eraseIdx k = f x :: (l.eraseIdx k).map f
    rw [erase_map]
def sp__law_shuffled : Sp := fun vs H Q _ => ∃ (t l c b : Addr) (as : List Addr), vs = [.ref t, .ref b] ∧ Tape H t l c ∧ H b = some (.lst (as.map V.ref)) ∧ as.length ≤ 1000 ∧ (∀ a ∈ as, ∃ ss, StrA H a ss) ∧
  ∀ (q : Addr) (H' : Hp) (bs : List Addr), bs.Perm as → H' q = some (.lst (bs.map V.ref)) → Tape H' t l c → TX2 t l H H' → Q (.ref q) H'
theorem ok__law_shuffled (T : Txt P K mg A) : FnOk P w K mg base CX0 3 A.f__law_shuffled A.d__law_shuffled ["tape", "several"] sp__law_shuffled := by
  refine T.F__law_shuffled.ok sc__law_shuffled (fun vs H Q E h => ?_) (fun cdv Ar outer s H vs Q E hr h => ?_)
  · obtain ⟨t, l, c, b, as, rfl, _⟩ := h; rfl
  obtain ⟨t, l, c, b, as, rfl, tp, hb, las, hss, k⟩ := h
  refine ⟨_, (pss_cons (ps_par (i := 2) (j := 3) (by rfl) sc__law_shuffled.nd rfl rfl (by decide) rfl rfl (pa_cons (pe_callTy KR.call_listK (by rfl) T.z_list (by decide +kernel) (pa_cons (pv 1) pa_nil)) (pa_cons (pe_lst pa_nil) pa_nil)) (by rfl))
  (pss_cons (ps_while PassesOwn.never (pt_cmpR (KR.op_neK (K := K) rfl (by exact hr.units)) (pv 2) (pe_lst pa_nil) (nomark _)) (pss_one (ps_expr (pe_bm PySem.F.plainAttrs_list PySem.F.slot_list_append PySem.F.type_list_append mt_append (pv 3) (pa_cons (pe_bm PySem.F.plainAttrs_list PySem.F.slot_list_pop PySem.F.type_list_pop mt_popAt (pv 2) (pa_cons (pe_call (ok__law_draw T) (hr.mono (by decide)) (by rfl) T.m__law_draw T.F__law_draw.kp T.b__law_draw .nil pass0 (pa_cons (pv 0) (pa_cons (pe_callB KA.call_ln (by rfl) T.z_len (by decide +kernel) (pa_cons (pv 2) pa_nil)) pa_nil))) pa_nil)) pa_nil)))))
  (pss_one (ps_ret (pv 3))))), ?_⟩
  show tSeq _ _ _ [some (.ref t), some (.ref b), none, none] H
  repeat' (walk_at "s")
  refine ⟨b, _, rfl, .inl (SqL.of hb), fun pL hpL => ?_⟩
  have e1 : Ex H (upd H pL (.lst (as.map V.ref))) := Ex.new hpL
  have h1 : upd H pL (.lst (as.map V.ref)) pL = some (.lst (as.map V.ref)) := upd_same
  generalize upd H pL (.lst (as.map V.ref)) = H1 at e1 h1
  repeat' (walk_at "s")
  refine KA.g_klst (Nat.zero_le _) fun pF H2 hpF e2 h2 => ?_
  repeat' (walk_at "s")
  have nFL : pF ≠ pL := fun z => by rw [z, h1] at hpF; cases hpF
  have hpF0 : H pF = none := by
    cases hh : H pF with
    | none => rfl
    | some o => rw [e1 _ _ hh] at hpF; cases hpF
  have npl : pL ≠ l := fun z => by
    obtain ⟨ls', hl'⟩ := tp.lar
    rw [z, hl'] at hpL; cases hpL
  have nfl : pF ≠ l := fun z => by
    obtain ⟨ls', hl'⟩ := tp.lar
    rw [z, hl'] at hpF0; cases hpF0
  refine KA.g_while (α := List Addr × List Addr) (fun z σ H' => σ = [some (.ref t), some (.ref b), some (.ref pL), some (.ref pF)] ∧ H' pL = some (.lst (z.1.map V.ref)) ∧ H' pF = some (.lst (z.2.map V.ref)) ∧ (z.2 ++ z.1).Perm as ∧ Tape H' t l c ∧ TX2 t l H H')
    (fun z => z.1.length) (as, []) ⟨rfl, e2 _ _ h1, h2, .refl _, (tp.mono e1).mono e2, TX2.of (e1.trans e2)⟩ ?_
  rintro ⟨ls, fs⟩ σ H3 ⟨rfl, hL, hF, pm, tp3, tx3⟩
  have hL : H3 pL = some (.lst (ls.map V.ref)) := hL
  have hF : H3 pF = some (.lst (fs.map V.ref)) := hF
  have pm : (fs ++ ls).Perm as := pm
  have lsa : ls.length + fs.length = as.length := by have := pm.length_eq; rw [List.length_append] at this; omega
  repeat' (walk_at "s")
  refine KA.g_klst (Nat.zero_le _) fun q4 H4 hq4 e4 h4 => ?_
  obtain ⟨sss, hl, hd⟩ := dpA_strs (K := K) (H := H4) (as := ls) fun a ha => by
    obtain ⟨ss, hs⟩ := hss a (pm.subset (List.mem_append_right _ ha))
    exact ⟨ss, (hs.tn tp (TN.tx tx3)).mono e4⟩
  refine ⟨_, .list [], .lst (SqL.of (e4 _ _ hL)) hd, .lst (SqL.of h4) .nil, shaped_strs sss, by decide +kernel, ?_⟩
  have ev : PyData.eqv (.list (sss.map fun ss => .list (ss.map datT))) (.list []) = ls.isEmpty := by
    cases sss with
    | nil => cases ls with
      | nil => rfl
      | cons a b => cases hl
    | cons s r => cases ls with
      | nil => cases hl
      | cons a b => rfl
  rw [ev]
  repeat' (walk_at "s")
  refine KA.kWh_b (fun hy => ?_) (fun hy => ?_)
  · have tp4 := tp3.mono e4
    have hL4 := e4 _ _ hL
    have ne : 1 ≤ ls.length := by
      cases ls with
      | nil => cases hy
      | cons a b => exact Nat.succ_le_succ (Nat.zero_le _)
    repeat' (walk_at "s")
    refine ⟨.inl ⟨rfl, _, SqL.of (e4 _ _ hF)⟩, ?_⟩
    repeat' (walk_at "s")
    refine ⟨.inl ⟨rfl, _, SqL.of hL4⟩, ?_⟩
    repeat' (walk_at "s")
    refine ⟨t, l, c, _, rfl, tp4, by rw [List.length_map]; omega, by rw [List.length_map]; omega, fun d H5 d0 d1 tp5 tx5 => ?_⟩
    have d1 : d < ls.length := by rw [List.length_map] at d1; exact d1
    have hL5 := tx5.lst tp4 npl hL4
    have hF5 := tx5.lst tp4 nfl (e4 _ _ hF)
    obtain ⟨x, hx⟩ : ∃ x, ls[d.toNat]? = some x := ⟨_, List.getElem?_eq_some_iff.mpr ⟨by omega, rfl⟩⟩
    repeat' (walk_at "s")
    refine ⟨pL, _, d, d.toNat, .ref x, rfl, rfl, hL5, by omega, by omega, seq_nat d0 (by rw [List.length_map]; exact d1), by rw [List.getElem?_map, hx]; rfl, ?_⟩
    have hL6 : upd H5 pL (.lst ((ls.map V.ref).eraseIdx d.toNat)) pL = some (.lst ((ls.eraseIdx d.toNat).map V.ref)) := by rw [upd_same, erase_map]
    have hF6 : upd H5 pL (.lst ((ls.map V.ref).eraseIdx d.toNat)) pF = some (.lst (fs.map V.ref)) := by rw [upd_ne nFL]; exact hF5
    have tx6 : TX2 t l H (upd H5 pL (.lst ((ls.map V.ref).eraseIdx d.toNat))) := TX2.new hpL ((tx3.trans (TX2.of e4)).trans tx5)
    have tp6 : Tape (upd H5 pL (.lst ((ls.map V.ref).eraseIdx d.toNat))) t l c := tape_new hpL tp tp5
    generalize upd H5 pL (.lst ((ls.map V.ref).eraseIdx d.toNat)) = H6 at hL6 hF6 tx6 tp6
    repeat' (walk_at "s")
    refine ⟨pF, _, _, rfl, rfl, hF6, by rw [List.length_map]; exact Nat.lt_of_le_of_lt (show fs.length ≤ 1000 by omega) (by decide), ?_⟩
    refine ⟨(ls.eraseIdx d.toNat, fs ++ [x]), ?_, rfl, by rw [upd_ne nFL.symm]; exact hL6, by rw [upd_same, List.map_append]; rfl, ?_, tape_new hpF0 tp tp6, TX2.new hpF0 tx6⟩
    · show (ls.eraseIdx d.toNat).length < ls.length
      rw [List.length_eraseIdx, if_pos (by omega)]; omega
    · show ((fs ++ [x]) ++ ls.eraseIdx d.toNat).Perm as
      rw [List.append_assoc]
      exact ((erase_perm hx).append_left fs).trans pm
  · have l0 : ls = [] := by
      cases ls with
      | nil => rfl
      | cons a b => cases hy
    subst l0
    repeat' (walk_at "s")
    exact k pF H4 fs (by rw [List.append_nil] at pm; exact pm) (e4 _ _ hF) (tp3.mono e4) (tx3.trans (TX2.of e4))
end
end K75
end
section
namespace K75
open PySem L2 Evl KX
/-! steps -/
local macro_rules | `(tactic| walk_at "nrm") => `(tactic| (((with_reducible refine' KA.g_nrm ?h ?k)); (case h => ((conv => lhs; simp only [List.set_cons_zero, List.set_cons_succ]); try exact rfl))))
local macro_rules | `(tactic| walk_at "nam") => `(tactic| (((with_reducible refine' KA.g_nameN ?h ?k)); (case h => ((conv => lhs; simp only [List.set_cons_zero, List.set_cons_succ]); try exact rfl))))
local macro_rules | `(tactic| walk_at "var") => `(tactic| (((with_reducible refine' KA.g_var ?h ?k)); (case h => exact rfl)))
local macro_rules | `(tactic| walk_at "aug") => `(tactic| (((with_reducible refine' KA.g_aug ?h ?k)); (case h => exact rfl)))
local macro_rules | `(tactic| walk_at "mul") => `(tactic| ((with_reducible refine KA.g_I (C := CMul) ?h ?k); (case h => first | exact KA.cmul_l (by omega) (by omega) | exact KA.cmul_r (by omega) (by omega))))
local macro_rules | `(tactic| walk_at "dv") => `(tactic| ((with_reducible refine KA.g_I (C := KA.CDv) ?h ?k); (case h => exact ⟨by omega, by omega⟩)))
local macro_rules | `(tactic| walk_at "mod") => `(tactic| ((with_reducible refine KA.g_I (C := fun _ j => 0 < j) ?h ?k); (case h => omega)))
local macro_rules | `(tactic| walk_at "s") => `(tactic| first
  | walk_at "nrm"
  | with_reducible refine KA.g_seq ?_
  | with_reducible refine KA.g_asg ?_
  | walk_at "nam"
  | with_reducible refine KA.g_yes ?_
  | with_reducible refine KA.g_ifs ?_
  | with_reducible refine KA.g_ret ?_
  | with_reducible refine KA.g_retN ?_
  | with_reducible refine KA.g_drop ?_
  | with_reducible refine KA.g_next ?_
  | with_reducible refine KA.g_brk ?_
  | with_reducible refine KA.g_par ?_
  | with_reducible refine KA.g_par3 ?_
  | with_reducible refine KA.g_kpar ?_
  | with_reducible refine KA.g_kpar3 ?_
  | with_reducible refine KA.g_op ?_
  | walk_at "var"
  | with_reducible refine KA.g_c ?_
  | with_reducible refine KA.g_I0 ?_
  | with_reducible refine KA.g_eqi ?_
  | with_reducible refine KA.g_nei ?_
  | with_reducible refine KA.g_test ?_
  | with_reducible refine KA.g_kbl ?_
  | with_reducible refine KA.g_cons ?_
  | with_reducible refine KA.g_nil ?_
  | with_reducible refine KA.g_cb ?_
  | with_reducible refine KA.g_call ?_
  | with_reducible refine KA.g_tb ?_
  | with_reducible refine KA.g_not ?_
  | with_reducible refine KA.g_and ?_
  | with_reducible refine KA.g_or ?_
  | with_reducible refine KA.g_if ?_
  | with_reducible refine KA.g_andV ?_
  | with_reducible refine KA.g_orV ?_
  | with_reducible refine KA.g_notV ?_
  | with_reducible refine KA.g_kbv ?_
  | with_reducible refine KA.g_ex1 ?_
  | with_reducible refine KA.g_chain ?_
  | with_reducible refine KA.g_fld ?_
  | with_reducible refine KA.g_un ?_
  | with_reducible refine KA.g_U ?_
  | with_reducible refine KA.g_tup ?_
  | with_reducible refine KA.g_lst ?_
  | walk_at "mul"
  | walk_at "dv"
  | walk_at "mod"
  | walk_at "aug"
  | with_reducible refine KA.g_ipi ?_
  | with_reducible refine KA.g_gcons ?_
  | with_reducible refine KA.g_gnil ?_
  | with_reducible refine KA.kB_t ?_
  | with_reducible refine KA.kB_f ?_
  | with_reducible refine KA.kB_nn ?_
  | with_reducible refine KA.ite_kB ?_
  | ((with_reducible refine' KA.g_ixT0 ?h ?k); (case h => exact L2.SqT.of (by assumption)))
  | ((with_reducible refine' KA.g_ixT1 ?h ?k); (case h => exact L2.SqT.of (by assumption)))
  | with_reducible refine KA.g_lct ?_
  | with_reducible refine KA.g_lcl ?_
  | with_reducible refine KA.g_lcr ?_
  | with_reducible refine KA.g_sl ?_
  | with_reducible refine KA.g_nop ?_
  | with_reducible refine KA.g_part ?_
  | with_reducible refine KA.g_exi ?_
  | with_reducible refine KA.g_eqs ?_
  | with_reducible refine KA.g_nes ?_
  | with_reducible refine KA.g_isN_i ?_
  | with_reducible refine KA.g_isN_n ?_
  | with_reducible refine KA.g_isN_r ?_
  | with_reducible refine KA.g_abs ?_
  | with_reducible refine KA.g_mx ?_
  | with_reducible refine KA.g_mn ?_
  | with_reducible refine KA.g_int ?_
  | with_reducible refine KA.g_intb ?_
  | with_reducible refine KA.g_isi_ii ?_
  | with_reducible refine KA.g_isi_ib ?_
  | with_reducible refine KA.g_isi_ss ?_
  | ((with_reducible refine' KA.g_isi_tt ?h ?k); (case h => assumption))
  | ((with_reducible refine' KA.g_lnL ?h ?k); (case h => assumption))
  | ((with_reducible refine' KA.g_lnT ?h ?k); (case h => assumption)))
local macro_rules | `(tactic| walk_at "s") => `(tactic| first
  | walk_at "mulW"
  | ((with_reducible refine' KA.g_ixT0 ?h ?k); (case h => assumption))
  | ((with_reducible refine' KA.g_ixT1 ?h ?k); (case h => assumption))
  | with_reducible refine KR.g_lcz ?_
  | with_reducible refine KR.g_lck ?_
  | with_reducible refine KR.g_forZ ?_
  | with_reducible refine KR.g_forK ?_
  | with_reducible refine KT.g_forR ?_
  | with_reducible refine KW.g_for ?_
  | with_reducible refine KR.g_sfld ?_
  | with_reducible refine KR.g_mth ?_
  | with_reducible refine KR.g_make ?_
  | fail)
local macro_rules | `(tactic| walk_at "s") => `(tactic| first
  | with_reducible refine KW.g_put ?_
  | with_reducible refine KW.g_sub ?_
  | with_reducible refine KW.g_bm0 ?_
  | ((with_reducible refine' KT.s_L ?h ?k); (case h => assumption))
  | ((with_reducible refine' KT.s_R ?h ?k); (case h => assumption))
  | ((with_reducible refine' KT.s_C ?h ?k); (case h => assumption))
  | ((with_reducible refine' KT.s_T ?h ?k); (case h => assumption))
  | ((with_reducible refine' KT.g_pw ?h ?h2 ?k); (case h => exact ⟨by omega, by omega⟩); (case h2 => exact ⟨by omega, by omega⟩))
  | with_reducible refine KT.g_bm ?_
  | with_reducible refine KT.g_pairs ?_
  | with_reducible refine KT.g_pairs0 ?_
  | with_reducible refine KR.g_din ?_
  | with_reducible refine KR.g_dno ?_
  | with_reducible refine KR.g_mthK ?_
  | with_reducible refine KR.g_partOf ?_
  | fail)
local macro_rules | `(tactic| walk_at "u") => `(tactic| ((fail_if_success (with_reducible refine KA.g_if ?_)); (fail_if_success (with_reducible refine KA.g_ifs ?_)); walk_at "s"))
section
variable {P : Program} {w : World} {K : PySem.W.Frag} {mg : Str → Option Value} {base : Heap} {A : Adr}
open KT KR
/-! plain: what a stretch gives -/
def tickS (n : Nat) (st : List Int × List (List Rat)) (z : Tk) : List Int × List (List Rat) := ((z.1 :: st.1).take (n - 1), if z.2.2 = true then st.2 ++ [nextRow z.1 st.1 z.2.1] else st.2)
def runS (n : Nat) (bs : List Int) (ss : List Tk) : List Int × List (List Rat) := ss.foldl (tickS n) (bs, [])
theorem run_go {n : Nat} : ∀ {ss : List Tk} {bs : List Int} {R : List (List Rat)}, ss.foldl (tickS n) (bs, R) = ((runS n bs ss).1, R ++ (runS n bs ss).2)
  | [], bs, R => by unfold runS; rw [List.foldl_nil, List.foldl_nil, List.append_nil]
  | z :: ss, bs, R => by
    unfold runS
    rw [List.foldl_cons, List.foldl_cons]
    show ss.foldl (tickS n) ((z.1 :: bs).take (n - 1), if z.2.2 = true then R ++ [nextRow z.1 bs z.2.1] else R) = (((ss.foldl (tickS n) ((z.1 :: bs).take (n - 1), if z.2.2 = true then [] ++ [nextRow z.1 bs z.2.1] else []))).1, R ++ ((ss.foldl (tickS n) ((z.1 :: bs).take (n - 1), if z.2.2 = true then [] ++ [nextRow z.1 bs z.2.1] else []))).2)
    cases z.2.2
    · rw [if_neg Bool.false_ne_true, if_neg Bool.false_ne_true, run_go (R := R), run_go (R := [])]
      rfl
    · rw [if_pos rfl, if_pos rfl, run_go (R := R ++ _), run_go (R := [] ++ _), List.append_assoc]
      rfl
theorem run_snoc {n : Nat} {bs : List Int} {ss : List Tk} {z : Tk} : runS n bs (ss ++ [z]) = tickS n (runS n bs ss) z := by unfold runS; rw [List.foldl_append]; rfl
theorem run_len {n : Nat} (h1 : 1 ≤ n) : ∀ {ss : List Tk} {bs : List Int}, bs.length + 1 = n → (runS n bs ss).1.length + 1 = n := by
  intro ss
  induction ss with
  | nil => intro bs h; exact h
  | cons z ss ih =>
    intro bs h
    unfold runS
    rw [List.foldl_cons]
    show ((ss.foldl (tickS n) ((z.1 :: bs).take (n - 1), _)).1).length + 1 = n
    rw [run_go]
    exact ih (by rw [List.length_take, List.length_cons]; omega)
/-- each tick whole and small -/
def SmT (ss : List Tk) : Prop := ∀ z ∈ ss, z.1.natAbs ≤ 5 ∧ z.2.1.natAbs ≤ 200
theorem run_small {n : Nat} (h1 : 1 ≤ n) : ∀ {ss : List Tk} {bs : List Int}, SmT ss → bs.length + 1 = n → (∀ z ∈ bs, z.natAbs ≤ 5) → (∀ z ∈ (runS n bs ss).1, z.natAbs ≤ 5) ∧ ∀ r ∈ (runS n bs ss).2, SmR n r := by
  intro ss
  induction ss with
  | nil => intro bs _ _ h; exact ⟨h, fun _ h => nomatch h⟩
  | cons z ss ih =>
    intro bs hs hl hb
    obtain ⟨z1, z2⟩ := hs z (.head _)
    have hb' : ∀ y ∈ (z.1 :: bs).take (n - 1), y.natAbs ≤ 5 := fun y hy => by
      rcases List.mem_cons.mp (List.mem_of_mem_take hy) with h | h
      · rw [h]; exact z1
      · exact hb y h
    obtain ⟨i1, i2⟩ := ih (bs := (z.1 :: bs).take (n - 1)) (fun y hy => hs y (.tail _ hy)) (by rw [List.length_take, List.length_cons]; omega) hb'
    have sm : SmR n (nextRow z.1 bs z.2.1) := smr_row (cs := z.1 :: bs) (by rw [List.length_cons]; exact hl) (fun y hy => by
      rcases List.mem_cons.mp hy with h | h
      · rw [h]; exact z1
      · exact hb y h) z2
    unfold runS
    rw [List.foldl_cons]
    show (∀ y ∈ (ss.foldl (tickS n) ((z.1 :: bs).take (n - 1), if z.2.2 = true then [] ++ [nextRow z.1 bs z.2.1] else [])).1, _) ∧ ∀ r ∈ (ss.foldl (tickS n) ((z.1 :: bs).take (n - 1), if z.2.2 = true then [] ++ [nextRow z.1 bs z.2.1] else [])).2, _
    rw [run_go]
    refine ⟨i1, fun r hr => ?_⟩
    rcases List.mem_append.mp hr with h | h
    · cases hq : z.2.2 with
      | false => rw [hq, if_neg Bool.false_ne_true] at h; cases h
      | true => rw [hq, if_pos rfl] at h; rw [List.mem_singleton.mp h]; exact sm
    · exact i2 r h
/-- zeros behind eight still ticks -/
theorem run_zeros {n : Nat} (h1 : 1 ≤ n) (h8 : n ≤ 8) {bs : List Int} (hl : bs.length + 1 = n) {d : Int} : (runS n bs (List.replicate 8 (0, d, false))).1 = List.replicate (n - 1) 0 := by
  have key : ∀ k : Nat, (runS n bs (List.replicate k (0, d, false))).1 = (List.replicate k 0 ++ bs).take (n - 1) := by
    intro k
    induction k with
    | zero =>
      show bs = _
      rw [List.replicate_zero, List.nil_append, List.take_of_length_le (by omega)]
    | succ k ih =>
      rw [List.replicate_succ', run_snoc]
      show ((0 : Int) :: (runS n bs (List.replicate k (0, d, false))).1).take (n - 1) = _
      rw [ih, List.replicate_succ, List.cons_append]
      cases hn : n - 1 with
      | zero => rfl
      | succ m => rw [List.take_succ_cons, List.take_succ_cons, List.take_take, Nat.min_eq_left (by omega)]
  rw [key 8, List.take_append_of_le_length (by rw [List.length_replicate]; omega), List.take_replicate, Nat.min_eq_left (by omega)]
/-- a stretch as the law builds it -/
def Good (ss : List Tk) : Prop := SmT ss ∧ ∃ body d, ss = body ++ List.replicate 8 ((0 : Int), (d : Int), false)
theorem good_end {n : Nat} (h1 : 1 ≤ n) (h8 : n ≤ 8) {ss : List Tk} (g : Good ss) {bs : List Int} (hl : bs.length + 1 = n) : (runS n bs ss).1 = List.replicate (n - 1) 0 := by
  obtain ⟨_, body, d, rfl⟩ := g
  unfold runS
  rw [List.foldl_append]
  have e : body.foldl (tickS n) (bs, []) = runS n bs body := rfl
  rw [e, show runS n bs body = ((runS n bs body).1, (runS n bs body).2) from rfl, run_go]
  exact run_zeros h1 h8 (run_len h1 hl)
def zs (n : Nat) : List Int := List.replicate (n - 1) 0
theorem zs_len {n : Nat} (h1 : 1 ≤ n) : (zs n).length + 1 = n := by unfold zs; rw [List.length_replicate]; omega
theorem zs_small {n : Nat} : ∀ z ∈ zs n, z.natAbs ≤ 5 := fun z hz => by rw [(List.mem_replicate.mp hz).2]; decide
theorem choose_f {α β : Type} [Inhabited β] {P : α → β → Prop} {l : List α} (h : ∀ a ∈ l, ∃ b, P a b) : ∃ f : α → β, ∀ a ∈ l, P a (f a) := by
  classical
  refine ⟨fun a => if h' : ∃ b, P a b then h'.choose else default, fun a ha => ?_⟩
  show P a (if h' : ∃ b, P a b then h'.choose else default)
  rw [dif_pos (h a ha)]
  exact (h a ha).choose_spec
theorem lsn_exs {H H' : Hp} {C x n : Nat} {bs : List Int} {L : LRd} {b' x' : Addr} {ob ox : HO} (hb' : H b' = some ob) (hx' : H x' = some ox) (nb' : NoTL ob) (nx' : NoTL ox) (n3 : x ≠ b') (n4 : x ≠ x') (e : ExS b' x' H H') (h : Lsn K C H x n bs L) : Lsn K C H' x n bs L := by
  obtain ⟨⟨dx, q, rr, hx, hq, ⟨ra, us2, rfl, hra, hus2⟩⟩, t1, t8, hl, ok⟩ := h
  exact ⟨⟨dx, q, _, e _ _ n3 n4 hx, e.tup hb' hx' nb' nx' hq, ⟨ra, us2, rfl, e.lst hb' hx' nb' nx' hra, pimp (fun _ _ h => e.row hb' hx' nb' nx' h) hus2⟩⟩, t1, t8, hl, ok⟩
theorem StrA.exs {H H' : Hp} {a : Addr} {ss : List Tk} {b' x' : Addr} {ob ox : HO} (hb' : H b' = some ob) (hx' : H x' = some ox) (nb' : NoTL ob) (nx' : NoTL ox) (e : ExS b' x' H H') (h : StrA H a ss) : StrA H' a ss :=
  let ⟨ts, h1, h2⟩ := h; ⟨ts, e.lst hb' hx' nb' nx' h1, pimpG (fun _ _ g => e.tup hb' hx' nb' nx' g) h2⟩
theorem lcl_any {g : TG} {tt : TT} {te : TE} {vs : List Nat} {σ : L2.St} {H1 : Hp} {Q : VK} {a : Addr} {xs : List V} (Pv : Addr → Nat → Hp → Prop) (hq : SqL K H1 a xs) (h0 : ∀ D, H1 D = none → Pv D 0 (upd H1 D (.lst []))) (hG : ∀ D i H, H1 D = none → Pv D i H → SqL K H a xs)
    (hs : ∀ D, H1 D = none → ∀ i x H2, xs[i]? = some x → Pv D i H2 → AnyTurn g tt te vs σ (Pv D) D i x H2) (hd : ∀ D H2, H1 D = none → Pv D xs.length H2 → Q (.ref D) H2) : KA.kLcL K (KA.kLc g tt te vs σ Q) (.ref a) H1 :=
  ⟨a, rfl, ⟨xs, hq⟩, fun D hD => lc_it walk_list (Pv D) (h0 D hD) (fun i H _ p => hG D i H hD p) (fun i x H2 H3 hi p y => by obtain ⟨rfl, y⟩ := y; exact hs D hD i x _ y p) fun H2 p => hd D H2 hD p⟩
def Told (K : PySem.W.Frag) (n : Nat) (L : LRd) (H : Hp) (q : Addr) : Prop := ∃ kq ys pv lv, H q = some (.lst [.ref kq, .str (wordS n L), pv, lv]) ∧ H kq = some (.tup ys) ∧ Paired (RowV K H) ys (L.map (·.2)) ∧ OptV (RowV K H) pv (pathO n L) ∧ OptV (FrV K H) lv (leftO n L (nextRow 1 (zs n) 1))
theorem Told.mono {n : Nat} {L : LRd} {H H' : Hp} {q : Addr} (e : Ex H H') (h : Told K n L H q) : Told K n L H' q :=
  let ⟨kq, ys, pv, lv, h1, h2, h3, h4, h5⟩ := h; ⟨kq, ys, pv, lv, e _ _ h1, e _ _ h2, pimp (fun _ _ h => RowV.mono e h) h3, optV_mono (fun _ _ h => RowV.mono e h) h4, optV_mono (fun _ _ h => FrV.mono e h) h5⟩
theorem Told.updD {n : Nat} {L : LRd} {H : Hp} {q D : Addr} {xs : List V} {o : HO} (hD : H D = some (.lst xs)) (nq : q ≠ D) (h : Told K n L H q) : Told K n L (upd H D o) q :=
  let ⟨kq, ys, pv, lv, h1, h2, h3, h4, h5⟩ := h; ⟨kq, ys, pv, lv, by rw [upd_ne nq]; exact h1, by rw [upd_ne (fun z => by rw [z, hD] at h2; cases h2)]; exact h2, pimp (fun _ _ h => row_upd hD noT_lst h) h3, optV_mono (fun _ _ h => row_upd hD noT_lst h) h4, optV_mono (fun _ _ h => fr_upd hD noT_lst h) h5⟩
def datTold (n : Nat) (L : LRd) : PyData := .list [datL L, .str (wordS n L), datO (pathO n L), datF (leftO n L (nextRow 1 (zs n) 1))]
theorem Told.dp {n : Nat} {L : LRd} {H : Hp} {q : Addr} (h : Told K n L H q) : Dp K H (.ref q) (datTold n L) :=
  let ⟨kq, ys, pv, lv, h1, h2, h3, h4, h5⟩ := h; .lst (SqL.of h1) (.cons (dpL h2 h3) (.cons (.str _) (.cons (dpO h4) (.cons (dpF h5) .nil))))
theorem okb_told {n : Nat} {L : LRd} (ok : OkL n L) (n8 : n ≤ 8) (l9 : L.length ≤ n + 1) (sm : SmR n (nextRow 1 (zs n) 1)) : OkB 4 1013 (datTold n L) :=
  OkB.lst (k := 3) (b := 253) (n := 4) (fun d hd => by
    rcases List.mem_cons.mp hd with rfl | hd
    · exact okb_rows ok n8 l9
    rcases List.mem_cons.mp hd with rfl | hd
    · exact okb_word.up (by decide) (by decide)
    rcases List.mem_cons.mp hd with rfl | hd
    · exact (okb_path ok n8 l9).up (by decide) (by decide)
    rw [List.mem_singleton.mp hd]
    exact (okb_left ok n8 sm).up (by decide) (by decide)) (Nat.le_refl _)
def sp__law_turned_right (A : Adr) : Sp := fun vs H Q _ => ∃ (t l c : Addr) (n : Nat), vs = [.ref t, .int (n : Int)] ∧ Tape H t l c ∧ LamX.Tabs (refT A) H ∧ 1 ≤ n ∧ n ≤ 8 ∧ ∀ H', Tape H' t l c → LamX.Tabs (refT A) H' → Q (.bl true) H'
theorem StrA.updL {H : Hp} {a b : Addr} {xs : List V} {o : HO} {ss : List Tk} (hb : H b = some (.lst xs)) (n : a ≠ b) (h : StrA H a ss) : StrA (upd H b o) a ss := by
  obtain ⟨ts, h1, h2⟩ := h
  exact ⟨ts, by rw [upd_ne n]; exact h1, pimpG (fun p z g => by rw [upd_ne (fun e => by rw [e, hb] at g; cases g)]; exact g) h2⟩
theorem ok__law_turned_right (T : Txt P K mg A) : KG.FnG P w K mg base CX0 8 A.f__law_turned_right A.d__law_turned_right ["tape", "taps"] (sp__law_turned_right A) := by
  refine KG.okG T.F__law_turned_right sc__law_turned_right (fun vs H Q E h => ?_) (fun cdv Ar outer s H vs Q E hg hr h => ?_)
  · obtain ⟨t, l, c, n, rfl, _⟩ := h; rfl
  obtain ⟨t, l, c, n, rfl, tp, tab, n1, n8, k⟩ := h
  refine ⟨_, (pss_cons (ps_set (i := 2) sc__law_turned_right.nd rfl (Or.inl rfl) (pe_lst pa_nil))
  (pss_cons (ps_for PassesOwn.never rfl (pi_range1 rfl T.z_range (pa_cons (pe_op op_add pe_int (pe_call (ok__law_draw T) (hr.mono (by decide)) (by rfl) T.m__law_draw T.F__law_draw.kp T.b__law_draw .nil pass0 (pa_cons (pv 0) (pa_cons pe_int pa_nil)))) pa_nil)) (pg_name (i := 3) sc__law_turned_right.nd rfl (Or.inl rfl)) (pss_cons (ps_setLc (i := 4) (own := [("tick", 5)]) (g := gName 5) (tt := tYes) rfl sc__law_turned_right.nd rfl rfl rfl (pi_range1 rfl T.z_range (pa_cons (pe_op op_add pe_int (pe_call (ok__law_draw T) (hr.mono (by decide)) (by rfl) T.m__law_draw T.F__law_draw.kp T.b__law_draw .nil pass0 (pa_cons (pv 0) (pa_cons pe_int pa_nil)))) pa_nil)) (blkOk_by (own := [("tick", 5)]) (N := N__law_turned_right) (sc := defScope s__law_turned_right) (by decide +kernel)) (fun _ _ _ _ _ => (pg_name (i := 5) sc__law_turned_right.nd rfl (Or.inl rfl))) (fun _ _ _ _ _ => pts_nil) (fun _ _ _ _ _ => (pe_tup (pa_cons (pe_call (ok__law_pick T) (hr.mono (by decide)) (by rfl) T.m__law_pick T.F__law_pick.kp T.b__law_pick .nil pass0 (pa_cons (pv 0) (pa_cons (pe_lst (pa_cons pe_int (pa_cons pe_int (pa_cons (pe_un un_neg pe_int) (pa_cons pe_int (pa_cons pe_int pa_nil)))))) pa_nil))) (pa_cons (pe_call (ok__law_pick T) (hr.mono (by decide)) (by rfl) T.m__law_pick T.F__law_pick.kp T.b__law_pick .nil pass0 (pa_cons (pv 0) (pa_cons (pe_lst (pa_cons pe_int (pa_cons pe_int (pa_cons pe_int (pa_cons (pe_un un_neg pe_int) pa_nil))))) pa_nil))) (pa_cons (pe_cmpR op_eq (pe_call (ok__law_draw T) (hr.mono (by decide)) (by rfl) T.m__law_draw T.F__law_draw.kp T.b__law_draw .nil pass0 (pa_cons (pv 0) (pa_cons pe_int pa_nil))) pe_int (nomark _)) pa_nil))))))
  (pss_one (ps_expr (pe_bm PySem.F.plainAttrs_list PySem.F.slot_list_append PySem.F.type_list_append mt_append (pv 2) (pa_cons (pe_op op_cat (pv 4) (pe_op op_rep (pe_lst (pa_cons (pe_tup (pa_cons pe_int (pa_cons (pe_call (ok__law_draw T) (hr.mono (by decide)) (by rfl) T.m__law_draw T.F__law_draw.kp T.b__law_draw .nil pass0 (pa_cons (pv 0) (pa_cons pe_int pa_nil))) (pa_cons pe_bl pa_nil)))) pa_nil)) pe_int)) pa_nil))))))
  (pss_cons (ps_set (i := 6) sc__law_turned_right.nd rfl (Or.inl rfl) (pe_lst (pa_cons (pe_make T.mk_Listener (ok_Listener_init T) (hr.mono (by decide)) (by rfl) T.g_Listener T.b_Listener_init .nil passL (pa_cons (pv 1) pa_nil)) (pa_cons (pe_makeK0 T.mk_Listener (ok_Listener_init T) (hr.mono (by decide)) (by rfl) T.g_Listener T.kb_Listener_init_taps passL (pk_cons (pv 1) pk_nil)) pa_nil))))
  (pss_cons (ps_for PassesOwn.never rfl (RZ.pi_zipA rfl T.z_zip (pa_cons (pv 6) (pa_cons (pe_lst (pa_cons (pv 2) (pa_cons (pe_call (ok__law_shuffled T) (hr.mono (by decide)) (by rfl) T.m__law_shuffled T.F__law_shuffled.kp T.b__law_shuffled .nil pass0 (pa_cons (pv 0) (pa_cons (pv 2) pa_nil))) pa_nil))) pa_nil))) (pg_tup rfl (pgs_cons (pg_name (i := 7) sc__law_turned_right.nd rfl (Or.inl rfl)) (pgs_cons (pg_name (i := 8) sc__law_turned_right.nd rfl (Or.inl rfl)) pgs_nil))) (pss_one (ps_for PassesOwn.never rfl (pi_list (pv 8)) (pg_name (i := 4) sc__law_turned_right.nd rfl (Or.inl rfl)) (pss_one (ps_for PassesOwn.never rfl (pi_list (pv 4)) (pg_tup rfl (pgs_cons (pg_name (i := 9) sc__law_turned_right.nd rfl (Or.inl rfl)) (pgs_cons (pg_name (i := 10) sc__law_turned_right.nd rfl (Or.inl rfl)) (pgs_cons (pg_name (i := 11) sc__law_turned_right.nd rfl (Or.inl rfl)) pgs_nil)))) (pss_one (ps_expr (KV.pe_methK0 (pv 7) T.cl_Listener T.me_Listener_hear (ok_Listener_hear T) (hr.mono (by decide)) T.kb_Listener_hear_quiet_heard_sent passL (pk_cons (pv 11) (pk_cons (pv 10) (pk_cons (pv 9) pk_nil)))))))))))
  (pss_cons (ps_setLc (i := 12) (own := [("listener", 7)]) (g := gName 7) (tt := tYes) rfl sc__law_turned_right.nd rfl rfl rfl (pi_list (pv 6)) (blkOk_by (own := [("listener", 7)]) (N := N__law_turned_right) (sc := defScope s__law_turned_right) (by decide +kernel)) (fun _ _ _ _ _ => (pg_name (i := 7) sc__law_turned_right.nd rfl (Or.inl rfl))) (fun _ _ _ _ _ => pts_nil) (fun _ _ _ _ _ => (pe_lst (pa_cons (pe_meth0 (pv 7) T.cl_Listener T.me_Listener_known (ok_Listener_known T) (hr.mono (by decide)) T.b_Listener_known .nil pass0) (pa_cons (pe_meth0 (pv 7) T.cl_Listener T.me_Listener_word (ok_Listener_word T) (hr.mono (by decide)) T.b_Listener_word .nil pass0) (pa_cons (pe_meth0 (pv 7) T.cl_Listener T.me_Listener_path (ok_Listener_path T) (hr.mono (by decide)) T.b_Listener_path .nil pass0) (pa_cons (pe_meth (pv 7) T.cl_Listener T.me_Listener_left (ok_Listener_left T) (hr.mono (by decide)) T.b_Listener_left .nil passL (pa_cons pe_int (pa_cons pe_int pa_nil))) pa_nil)))))))
  (pss_one (ps_ret (pe_cmpR op_eq (pe_callB (KG.call_repr hg (hr.mono (Nat.zero_le _))) (by rfl) T.z_repr (by decide +kernel) (pa_cons (pe_ix (KR.ix_listK (K := K) rfl) (pv 12) pe_int (fun _ _ => rfl)) pa_nil)) (pe_callB (KG.call_repr hg (hr.mono (Nat.zero_le _))) (by rfl) T.z_repr (by decide +kernel) (pa_cons (pe_ix (KR.ix_listK (K := K) rfl) (pv 12) pe_int (fun _ _ => rfl)) pa_nil)) (nomark _))))))))), ?_⟩
  show tSeq _ _ _ [some (.ref t), some (.int (n : Int)), none, none, none, none, none, none, none, none, none, none, none] H
  have newl : ∀ {H' : Hp} {q : Addr}, Tape H' t l c → H' q = none → q ≠ l := fun T' hn z => by
    obtain ⟨ls', hl'⟩ := T'.lar
    rw [z, hl'] at hn; cases hn
  repeat' (walk_at "s")
  refine KA.g_klst (Nat.zero_le _) fun pS H1 hpS e1 h1 => ?_
  repeat' (walk_at "s")
  refine ⟨t, l, c, 3, rfl, tp.mono e1, by decide, by decide, fun d2 H2 d20 d21 tp2 tx2 => ?_⟩
  have tab2 := tabs_tx (tp.mono e1) tx2 (tab.ext e1)
  have h2 := tx2.lst (tp.mono e1) (newl tp hpS) h1
  repeat' (walk_at "s")
  refine KT.g_kforR (fun i σ H' => ∃ x3 x4 x5 as, σ = [some (.ref t), some (.int (n : Int)), some (.ref pS), x3, x4, x5, none, none, none, none, none, none, none] ∧ Tape H' t l c ∧ LamX.Tabs (refT A) H' ∧ H' pS = some (.lst (as.map V.ref)) ∧ as.length = i ∧ ∀ a ∈ as, a ≠ pS ∧ ∃ ss, StrA H' a ss ∧ Good ss)
    ⟨by omega, by omega⟩ ⟨_, _, _, [], rfl, tp2, tab2, h2, rfl, fun _ h => nomatch h⟩ ?_ ?_
  · rintro i σ H3 hi ⟨x3, x4, x5, as, rfl, tp3, tab3, h3, las, hss⟩
    repeat' (walk_at "s")
    refine ⟨t, l, c, 4, rfl, tp3, by decide, by decide, fun d4 H4 d40 d41 tp4 tx4 => ?_⟩
    repeat' (walk_at "s")
    refine lcr_any (fun D j H' => Tape H' t l c ∧ TX2 t l H4 H' ∧ ∃ (ts : List Addr) (ss : List Tk), ss.length = j ∧ SmT ss ∧ H' D = some (.lst (ts.map V.ref)) ∧ Paired (fun p (z : Tk) => H' p = some (.tup [.int z.1, .int z.2.1, .bl z.2.2])) ts ss) ⟨by omega, by omega⟩
      (fun D hD => ⟨tp4.mono (Ex.new hD), TX2.of (Ex.new hD), [], [], rfl, (fun _ h => nomatch h), upd_same, .nil⟩) (fun D hD j H5 hj ⟨tp5, tx5, ts, ss, ls, sm, h5, hts⟩ => ?_) (fun D H5 hD ⟨tp5, tx5, ts, ss, ls, sm, h5, hts⟩ => ?_)
    · unfold AnyTurn
      repeat' (walk_at "s")
      refine ⟨rfl, ?_⟩
      repeat' (walk_at "s")
      refine KA.g_klst (show 5 ≤ 1000 by decide) fun q6 H6 hq6 e6 h6 => ?_
      repeat' (walk_at "s")
      refine ⟨t, l, c, q6, _, rfl, tp5.mono e6, h6, newl tp5 hq6, by show 1 ≤ 5; decide, by show 5 ≤ 1000; decide, fun v7 H7 hv7 tp7 tx7 => ?_⟩
      obtain ⟨z1, rfl, hz1⟩ : ∃ z : Int, v7 = .int z ∧ z.natAbs ≤ 5 := by
        rcases List.mem_cons.mp hv7 with rfl | hv
        · exact ⟨_, rfl, by decide⟩
        rcases List.mem_cons.mp hv with rfl | hv
        · exact ⟨_, rfl, by decide⟩
        rcases List.mem_cons.mp hv with rfl | hv
        · exact ⟨_, rfl, by decide⟩
        rcases List.mem_cons.mp hv with rfl | hv
        · exact ⟨_, rfl, by decide⟩
        rw [List.mem_singleton.mp hv]
        exact ⟨_, rfl, by decide⟩
      repeat' (walk_at "s")
      refine KA.g_klst (show 4 ≤ 1000 by decide) fun q8 H8 hq8 e8 h8 => ?_
      repeat' (walk_at "s")
      refine ⟨t, l, c, q8, _, rfl, tp7.mono e8, h8, newl tp7 hq8, by show 1 ≤ 4; decide, by show 4 ≤ 1000; decide, fun v9 H9 hv9 tp9 tx9 => ?_⟩
      obtain ⟨z2, rfl, hz2⟩ : ∃ z : Int, v9 = .int z ∧ z.natAbs ≤ 200 := by
        rcases List.mem_cons.mp hv9 with rfl | hv
        · exact ⟨_, rfl, by decide⟩
        rcases List.mem_cons.mp hv with rfl | hv
        · exact ⟨_, rfl, by decide⟩
        rcases List.mem_cons.mp hv with rfl | hv
        · exact ⟨_, rfl, by decide⟩
        rw [List.mem_singleton.mp hv]
        exact ⟨_, rfl, by decide⟩
      repeat' (walk_at "s")
      refine ⟨t, l, c, 2, rfl, tp9, by decide, by decide, fun d10 H10 d100 d101 tp10 tx10 => ?_⟩
      have tx510 : TX2 t l H5 H10 := (((TX2.of e6).trans tx7).trans (TX2.of e8)).trans (tx9.trans tx10)
      repeat' (walk_at "s")
      refine KA.g_ktup (show 3 ≤ 1000 by decide) fun q11 H11 hq11 e11 h11 => ?_
      have nD : D ≠ l := newl tp4 hD
      have n511 : TN t l H5 H11 := (TN.tx tx510).trans (TN.of e11)
      have h5' := n511.lst tp5 nD h5
      have nDq : ∀ p z, H11 p = some (.tup z) → upd H11 D (.lst (ts.map V.ref ++ [.ref q11])) p = some (.tup z) := fun p z h => by rw [upd_ne (fun e => by rw [e, h5'] at h; cases h)]; exact h
      refine ⟨_, h5', ?_, tape_new hD tp4 (tp10.mono e11), TX2.new hD ((tx5.trans tx510).trans (TX2.of e11)), ts ++ [q11], ss ++ [(z1, z2, decide (d10 = 0))], by rw [List.length_append, ls]; rfl, fun y hy => ?_, by rw [upd_same, List.map_append]; rfl, ?_⟩
      · rw [List.length_map, hts.length, ls]; exact Nat.lt_of_lt_of_le (show j < 100 by omega) (by decide)
      · rcases List.mem_append.mp hy with hy | hy
        · exact sm y hy
        · rw [List.mem_singleton.mp hy]; exact ⟨hz1, hz2⟩
      · exact (pimpG (fun p z h => nDq _ _ (n511.tup tp5 h)) hts).snoc (nDq _ _ h11)
    · have nD : D ≠ l := newl tp4 hD
      have tx35 : TX2 t l H3 H5 := tx4.trans tx5
      have tab5 := tabs_tx tp3 tx35 tab3
      have pSl : pS ≠ l := newl tp hpS
      have h3' := tx35.lst tp3 pSl h3
      repeat' (walk_at "s")
      refine ⟨.inl ⟨rfl, _, SqL.of h3'⟩, ?_⟩
      repeat' (walk_at "s")
      refine ⟨t, l, c, 3, rfl, tp5, by decide, by decide, fun d6 H6 d60 d61 tp6 tx6 => ?_⟩
      repeat' (walk_at "s")
      refine KA.g_ktup (show 3 ≤ 1000 by decide) fun q7 H7 hq7 e7 h7 => ?_
      repeat' (walk_at "s")
      refine KA.g_klst (show 1 ≤ 1000 by decide) fun q8 H8 hq8 e8 h8 => ?_
      repeat' (walk_at "s")
      refine ⟨q8, 8, _, rfl, rfl, h8, by decide, by decide, by show 1 * 8 ≤ sizeLine; decide, fun q9 hq9 => ?_⟩
      have e9 : Ex H8 (upd H8 q9 (.lst (List.replicate (8 : Int).toNat [V.ref q7]).flatten)) := Ex.new hq9
      have h9 : upd H8 q9 (.lst (List.replicate (8 : Int).toNat [V.ref q7]).flatten) q9 = some (.lst ((List.replicate 8 q7).map V.ref)) := upd_same
      generalize upd H8 q9 (.lst (List.replicate (8 : Int).toNat [V.ref q7]).flatten) = H9 at e9 h9
      have e69 : Ex H6 H9 := (e7.trans e8).trans e9
      have hD9 : H9 D = some (.lst (ts.map V.ref)) := e69 _ _ (tx6.lst tp5 nD h5)
      have lts : ts.length < 100 := by rw [hts.length, ls]; omega
      repeat' (walk_at "s")
      refine g_cat hD9 h9 (by rw [List.length_map, List.length_map, List.length_replicate]; omega) fun qn H10 hqn e10 h10 => ?_
      have e610 := e69.trans e10
      have n510 : TN t l H5 H10 := (TN.tx tx6).trans (TN.of e610)
      have n310 : TN t l H3 H10 := (TN.tx tx35).trans n510
      have tp10 := tp6.mono e610
      have tab10 : LamX.Tabs (refT A) H10 := (tabs_tx tp5 tx6 tab5).ext e610
      have h310 : H10 pS = some (.lst (as.map V.ref)) := e610 _ _ (tx6.lst tp5 pSl h3')
      have hq710 : H10 q7 = some (.tup [.int 0, .int d6, .bl false]) := e10 _ _ (e9 _ _ (e8 _ _ h7))
      have sn : StrA H10 qn (ss ++ List.replicate 8 ((0 : Int), d6, false)) := by
        refine ⟨ts ++ List.replicate 8 q7, by rw [h10, List.map_append], ?_⟩
        have r8 : ∀ k : Nat, Paired (fun p (z : Tk) => H10 p = some (.tup [.int z.1, .int z.2.1, .bl z.2.2])) (List.replicate k q7) (List.replicate k ((0 : Int), d6, false)) := by
          intro k
          induction k with
          | zero => exact .nil
          | succ k ih => rw [List.replicate_succ, List.replicate_succ]; exact .cons hq710 ih
        have ap : ∀ {l1 : List Addr} {m1 : List Tk} {l2 : List Addr} {m2 : List Tk}, Paired (fun p (z : Tk) => H10 p = some (.tup [.int z.1, .int z.2.1, .bl z.2.2])) l1 m1 → Paired (fun p (z : Tk) => H10 p = some (.tup [.int z.1, .int z.2.1, .bl z.2.2])) l2 m2 → Paired (fun p (z : Tk) => H10 p = some (.tup [.int z.1, .int z.2.1, .bl z.2.2])) (l1 ++ l2) (m1 ++ m2) := by
          intro l1 m1 l2 m2 h g
          induction h with
          | nil => exact g
          | cons r _ ih => exact .cons r ih
        exact ap (pimpG (fun p z g => n510.tup tp5 g) hts) (r8 8)
      have gn : Good (ss ++ List.replicate 8 ((0 : Int), d6, false)) := ⟨fun z hz => by
        rcases List.mem_append.mp hz with h | h
        · exact sm z h
        · rw [(List.mem_replicate.mp h).2]; exact ⟨by show (0 : Int).natAbs ≤ 5; decide, by show d6.natAbs ≤ 200; omega⟩, ss, d6, rfl⟩
      have nqS : qn ≠ pS := fun z => by
        rw [z] at hqn
        have h39 : H9 pS = some (.lst (as.map V.ref)) := e69 _ _ (tx6.lst tp5 pSl h3')
        rw [h39] at hqn; cases hqn
      repeat' (walk_at "s")
      refine ⟨pS, _, _, rfl, rfl, h310, by rw [List.length_map, las]; exact Nat.lt_of_lt_of_le (show i < 100 by omega) (by decide), ?_⟩
      refine ⟨_, _, _, as ++ [qn], rfl, tape_new hpS tp tp10, tabs_upd h310 (fun _ z => nomatch z) (fun _ z => nomatch z) tab10, by rw [upd_same, List.map_append]; rfl, by rw [List.length_append, las]; rfl, fun a ha => ?_⟩
      rcases List.mem_append.mp ha with ha | ha
      · obtain ⟨na, ss', s1, s2⟩ := hss a ha
        exact ⟨na, ss', (s1.tn tp3 n310).updL h310 na, s2⟩
      · rw [List.mem_singleton.mp ha]
        exact ⟨nqS, _, sn.updL h310 nqS, gn⟩
  · rintro σ H3 ⟨x3, x4, x5, as, rfl, tp3, tab3, h3, las, hss⟩
    have las : as.length ≤ 4 := by omega
    clear tp2 tab2 h2 tx2
    repeat' (walk_at "s")
    intro o1 od1 ho1 hod1 hne1
    have e4 : Ex H3 (upd (upd H3 od1 (.own o1)) o1 (.ins A.C_Listener od1 [])) := (Ex.new hod1).trans (Ex.new (by rw [upd_ne hne1.symm]; exact ho1))
    have nT : ∀ {P : Prop}, true = false → P := fun z => by cases z
    have bt : btw (.int (n : Int)) 1 8 = true := by unfold btw; simp; omega
    refine ⟨o1, od1, _, rfl, .int _, upd_same, fun z => nT (bt.symm.trans z), fun tt et t1' t8' H5 ls5 x5' _ => ?_⟩
    have et : n = tt := by have := V.int.inj et; omega
    subst et
    refine ⟨rfl, ?_⟩
    have e5 : Ex H3 H5 := ExA.keep e4 ho1 x5'
    repeat' (walk_at "s")
    unfold tMakeK
    repeat' (walk_at "s")
    refine ⟨rfl, rfl, fun o2 od2 ho2 hod2 hne2 => ?_⟩
    have e6 : Ex H5 (upd (upd H5 od2 (.own o2)) o2 (.ins A.C_Listener od2 [])) := (Ex.new hod2).trans (Ex.new (by rw [upd_ne hne2.symm]; exact ho2))
    refine ⟨o2, od2, _, rfl, .int _, upd_same, fun z => nT (bt.symm.trans z), fun tt et t1' t8' H7 ls7 x7' _ => ?_⟩
    have et : n = tt := by have := V.int.inj et; omega
    subst et
    refine ⟨rfl, ?_⟩
    have e7 : Ex H5 H7 := ExA.keep e6 ho2 x7'
    have no12 : o1 ≠ o2 := fun z => by
      obtain ⟨⟨dx, _, _, hx, _⟩, _⟩ := ls5
      rw [z, ho2] at hx; cases hx
    repeat' (walk_at "s")
    refine KA.g_klst (show 2 ≤ 1000 by decide) fun pl H8 hpl e8 h8 => ?_
    have e38 : Ex H3 H8 := (e5.trans e7).trans e8
    have tp8 := tp3.mono e38
    have tab8 := tab3.ext e38
    repeat' (walk_at "s")
    refine ⟨t, l, c, pS, as, rfl, tp8, e38 _ _ h3, by omega, fun a ha => let ⟨_, ss, h, _⟩ := hss a ha; ⟨ss, h.mono e38⟩, fun qs H9 bs pm hqs tp9 tx9 => ?_⟩
    have n89 := TN.tx tx9
    have tab9 := tabs_tx tp8 tx9 tab8
    repeat' (walk_at "s")
    refine KA.g_klst (show 2 ≤ 1000 by decide) fun pz H10 hpz e10 h10 => ?_
    have pSl : pS ≠ l := newl tp hpS
    have n810 : TN t l H8 H10 := n89.trans (TN.of e10)
    have hS10 : H10 pS = some (.lst (as.map V.ref)) := n810.lst tp8 pSl (e38 _ _ h3)
    have hq10 := e10 _ _ hqs
    have hl10 : H10 pl = some (.lst ([o1, o2].map V.ref)) := n810.refs tp8 h8
    have ls1 : Lsn K A.C_Listener H10 o1 n (zs n) [] := lsn_tn tp8 n810 (lsn_mono (e7.trans e8) ls5)
    have ls2 : Lsn K A.C_Listener H10 o2 n (zs n) [] := lsn_tn tp8 n810 (lsn_mono e8 ls7)
    have tp10 := tp9.mono e10
    have tab10 := tab9.ext e10
    have hss10 : ∀ a ∈ as, ∃ ss, StrA H10 a ss ∧ Good ss := fun a ha => let ⟨_, ss, h, g⟩ := hss a ha; ⟨ss, (h.mono e38).tn tp8 n810, g⟩
    obtain ⟨f, hf⟩ : ∃ f : Addr → List Tk, ∀ a ∈ as, StrA H10 a (f a) ∧ Good (f a) := by
      exact choose_f hss10
    have hfb : ∀ a ∈ bs, StrA H10 a (f a) ∧ Good (f a) := fun a ha => hf a (pm.subset ha)
    obtain ⟨⟨dx1, _, _, hx1, _⟩, _⟩ := id ls1
    obtain ⟨⟨dx2, _, _, hx2, _⟩, _⟩ := id ls2
    repeat' (walk_at "s")
    refine forZ_L (fun i σ H' => ∃ x4 x7 x8 x9 x10 x11, σ = [some (.ref t), some (.int (n : Int)), some (.ref pS), x3, x4, x5, some (.ref pl), x7, x8, x9, x10, x11, none] ∧ ExS o1 o2 H10 H' ∧ Tape H' t l c ∧ LamX.Tabs (refT A) H' ∧
        Lsn K A.C_Listener H' o1 n (zs n) (allL (n + 1) (if 0 < i then as.flatMap fun a => (runS n (zs n) (f a)).2 else [])) ∧ Lsn K A.C_Listener H' o2 n (zs n) (allL (n + 1) (if 1 < i then bs.flatMap fun a => (runS n (zs n) (f a)).2 else [])))
      (SqL.of hl10) (SqL.of h10) rfl ⟨_, _, _, _, _, _, rfl, ExS.of (Ex.refl _), tp10, tab10, ls1, ls2⟩ (fun i σ H' ⟨_, _, _, _, _, _, _, e, _⟩ => ⟨SqL.of (e.lst hx1 hx2 noTL_ins noTL_ins hl10), SqL.of (e.lst hx1 hx2 noTL_ins noTL_ins h10)⟩) ?_ ?_
    · rintro i x y Tt σ H11 H12 hx hy ⟨x4, x7, x8, x9, x10, x11, rfl, e11, tp11, tab11, l1, l2⟩ e12 hT
      have tp12 := tp11.mono e12
      have tab12 := tab11.ext e12
      have ex12 : ExS o1 o2 H10 H12 := e11.trans (ExS.of e12)
      have l1 := lsn_mono e12 l1
      have l2 := lsn_mono e12 l2
      obtain ⟨oi, oj, pp, li, Lj, rfl, rfl, nij, hoi, hpp, hli, lsi, lsj, nxt⟩ : ∃ (oi oj pp : Addr) (li : List Addr) (Lj : LRd), x = .ref oi ∧ y = .ref pp ∧ oi ≠ oj ∧ (oi = o1 ∨ oi = o2) ∧ H10 pp = some (.lst (li.map V.ref)) ∧ (∀ a ∈ li, StrA H10 a (f a) ∧ Good (f a)) ∧
          Lsn K A.C_Listener H12 oi n (zs n) (allL (n + 1) []) ∧ Lsn K A.C_Listener H12 oj n (zs n) Lj ∧ ∀ H', ExS o1 o2 H10 H' → Tape H' t l c → LamX.Tabs (refT A) H' → Lsn K A.C_Listener H' oi n (zs n) (allL (n + 1) (li.flatMap fun a => (runS n (zs n) (f a)).2)) → Lsn K A.C_Listener H' oj n (zs n) Lj →
            Lsn K A.C_Listener H' o1 n (zs n) (allL (n + 1) (if 0 < i + 1 then as.flatMap fun a => (runS n (zs n) (f a)).2 else [])) ∧ Lsn K A.C_Listener H' o2 n (zs n) (allL (n + 1) (if 1 < i + 1 then bs.flatMap fun a => (runS n (zs n) (f a)).2 else [])) := by
        match i, hx, hy with
        | 0, hx, hy =>
          cases hx; cases hy
          exact ⟨o1, o2, pS, as, _, rfl, rfl, no12, .inl rfl, hS10, hf, l1, l2, fun _ _ _ _ a b => ⟨a, b⟩⟩
        | 1, hx, hy =>
          cases hx; cases hy
          exact ⟨o2, o1, qs, bs, _, rfl, rfl, no12.symm, .inr rfl, hq10, hfb, l2, l1, fun _ _ _ _ a b => ⟨b, a⟩⟩
      refine KA.g_gtup (SqT.of hT) rfl ?_
      repeat' (walk_at "s")
      have kpp : ∀ {H'}, ExS o1 o2 H10 H' → H' pp = some (.lst (li.map V.ref)) := fun e => e.lst hx1 hx2 noTL_ins noTL_ins hpp
      refine KW.g_forL (fun j σ H' => ∃ x4 x9 x10 x11, σ = [some (.ref t), some (.int (n : Int)), some (.ref pS), x3, x4, x5, some (.ref pl), some (.ref oi), some (.ref pp), x9, x10, x11, none] ∧ ExS o1 o2 H10 H' ∧ Tape H' t l c ∧ LamX.Tabs (refT A) H' ∧
          Lsn K A.C_Listener H' oi n (zs n) (allL (n + 1) ((li.take j).flatMap fun a => (runS n (zs n) (f a)).2)) ∧ Lsn K A.C_Listener H' oj n (zs n) Lj)
        (SqL.of (kpp ex12)) ⟨_, _, _, _, rfl, ex12, tp12, tab12, lsi, lsj⟩ (fun j σ H' _ ⟨_, _, _, _, _, e, _⟩ => SqL.of (kpp e)) ?_ ?_
      · rintro j x σ H13 hx ⟨x4, x9, x10, x11, rfl, e13, tp13, tab13, lsi13, lsj13⟩
        rw [List.getElem?_map] at hx
        obtain ⟨a, ha, rfl⟩ := Option.map_eq_some_iff.mp hx
        have ma := List.mem_of_getElem? ha
        obtain ⟨sta, ga⟩ := hli a ma
        generalize hR : ((li.take j).flatMap fun a => (runS n (zs n) (f a)).2) = Rj at lsi13
        have hR1 : ((li.take (j + 1)).flatMap fun a => (runS n (zs n) (f a)).2) = Rj ++ (runS n (zs n) (f a)).2 := by
          rw [take_snoc ha, List.flatMap_append, hR]; simp
        rw [hR1]
        obtain ⟨ts, hta, htp⟩ := id sta
        have kta : ∀ {H'}, ExS o1 o2 H10 H' → H' a = some (.lst (ts.map V.ref)) := fun e => e.lst hx1 hx2 noTL_ins noTL_ins hta
        have hRsm : ∀ m, ∀ r ∈ (runS n (zs n) ((f a).take m)).2, SmR n r := fun m => (run_small n1 (fun z hz => ga.1 z (List.mem_of_mem_take hz)) (zs_len n1) zs_small).2
        have hBsm : ∀ m, ∀ z ∈ (runS n (zs n) ((f a).take m)).1, z.natAbs ≤ 5 := fun m => (run_small n1 (fun z hz => ga.1 z (List.mem_of_mem_take hz)) (zs_len n1) zs_small).1
        repeat' (walk_at "s")
        refine KW.g_forL (fun m σ H' => ∃ x9 x10 x11, σ = [some (.ref t), some (.int (n : Int)), some (.ref pS), x3, some (.ref a), x5, some (.ref pl), some (.ref oi), some (.ref pp), x9, x10, x11, none] ∧ ExS o1 o2 H10 H' ∧ Tape H' t l c ∧ LamX.Tabs (refT A) H' ∧
            Lsn K A.C_Listener H' oi n (runS n (zs n) ((f a).take m)).1 (allL (n + 1) (Rj ++ (runS n (zs n) ((f a).take m)).2)) ∧ Lsn K A.C_Listener H' oj n (zs n) Lj)
          (SqL.of (kta e13)) ⟨_, _, _, rfl, e13, tp13, tab13, by rw [List.take_zero]; show Lsn _ _ _ _ _ (zs n) (allL (n + 1) (Rj ++ [])); rw [List.append_nil]; exact lsi13, lsj13⟩ (fun m σ H' _ ⟨_, _, _, _, e, _⟩ => SqL.of (kta e)) ?_ ?_
        · rintro m x σ H14 hx ⟨x9, x10, x11, rfl, e14, tp14, tab14, lsi14, lsj14⟩
          rw [List.getElem?_map] at hx
          obtain ⟨pt, hpt, rfl⟩ := Option.map_eq_some_iff.mp hx
          obtain ⟨z, hz, htup⟩ := patG htp hpt
          have mz := List.mem_of_getElem? hz
          obtain ⟨z1, z2⟩ := ga.1 z mz
          rw [take_snoc hz, run_snoc]
          have hbl : (runS n (zs n) ((f a).take m)).1.length + 1 = n := run_len n1 (zs_len n1)
          have hbs := hBsm m
          generalize hst : runS n (zs n) ((f a).take m) = st at lsi14 hbl hbs
          obtain ⟨b, R⟩ := st
          have lsi14 : Lsn K A.C_Listener H14 oi n b (allL (n + 1) (Rj ++ R)) := lsi14
          refine KA.g_gtup (SqT.of (e14.tup hx1 hx2 noTL_ins noTL_ins htup)) rfl ?_
          repeat' (walk_at "s")
          obtain ⟨⟨dx, _, _, hxi, _⟩, _⟩ := id lsi14
          refine g_kmthK hxi lf_hear ?_
          repeat' (walk_at "s")
          have s1 : snd1 (.int z.1) = true := by unfold snd1 btw; simp; omega
          have s2 : snd1 (.int z.2.1) = true := by unfold snd1 btw; simp; omega
          refine ⟨rfl, oi, _, _, _, n, _, _, rfl, .int _, .int _, lsi14, fun w => nT (s1.symm.trans w), fun _ w => nT (s2.symm.trans w), fun _ _ h => absurd rfl (h z.2.2), fun x' y' q' ex ey eq _ _ => ?_⟩
          cases ex; cases ey; cases eq
          have smz : SmR n (nextRow z.1 b z.2.1) := smr_row (cs := z.1 :: b) (by rw [List.length_cons]; exact hbl) (fun y hy => by
            rcases List.mem_cons.mp hy with h | h
            · rw [h]; exact z1
            · exact hbs y h) z2
          refine ⟨smz, fun H15 x15 ls15 => ?_⟩
          have es : ExS o1 o2 H14 H15 := fun u o h1 h2 h => x15 u o (by rcases hoi with rfl | rfl <;> assumption) h
          repeat' (walk_at "s")
          refine ⟨_, _, _, rfl, e14.trans es, tape_exa tp14 hxi x15, tabs_exa hxi x15 tab14, ?_, lsn_exs hxi hxi noTL_ins noTL_ins nij.symm nij.symm (ExS.ofx x15) lsj14⟩
          unfold tickS
          have el : allL (n + 1) (Rj ++ (if z.2.2 = true then R ++ [nextRow z.1 b z.2.1] else R)) = if z.2.2 = true then stepL (n + 1) (allL (n + 1) (Rj ++ R)) (nextRow z.1 b z.2.1) else allL (n + 1) (Rj ++ R) := by
            cases z.2.2
            · rw [if_neg Bool.false_ne_true, if_neg Bool.false_ne_true]
            · rw [if_pos rfl, if_pos rfl, ← List.append_assoc, allL_snoc]
          rw [el]
          exact ls15
        · rintro σ H14 ⟨x9, x10, x11, rfl, e14, tp14, tab14, lsi14, lsj14⟩
          have lt : (ts.map V.ref).length = (f a).length := by rw [List.length_map, htp.length]
          rw [lt, List.take_length, good_end n1 n8 ga (zs_len n1)] at lsi14
          repeat' (walk_at "s")
          exact ⟨_, _, _, _, rfl, e14, tp14, tab14, lsi14, lsj14⟩
      · rintro σ H13 ⟨x4, x9, x10, x11, rfl, e13, tp13, tab13, lsi13, lsj13⟩
        rw [List.length_map, List.take_length] at lsi13
        repeat' (walk_at "s")
        obtain ⟨r1, r2⟩ := nxt H13 e13 tp13 tab13 lsi13 lsj13
        exact ⟨_, _, _, _, _, _, rfl, e13, tp13, tab13, r1, r2⟩
    · rintro σ H11 ⟨x4, x7, x8, x9, x10, x11, rfl, e11, tp11, tab11, l1, l2⟩
      have l1 : Lsn K A.C_Listener H11 o1 n (zs n) (allL (n + 1) (as.flatMap fun a => (runS n (zs n) (f a)).2)) := l1
      have l2 : Lsn K A.C_Listener H11 o2 n (zs n) (allL (n + 1) (bs.flatMap fun a => (runS n (zs n) (f a)).2)) := l2
      have same : allL (n + 1) (bs.flatMap fun a => (runS n (zs n) (f a)).2) = allL (n + 1) (as.flatMap fun a => (runS n (zs n) (f a)).2) := by
        refine allL_same (fun r hr => ?_) fun r => ?_
        · obtain ⟨a, ha, h⟩ := List.mem_flatMap.mp hr
          exact ((run_small n1 (hfb a ha).2.1 (zs_len n1) zs_small).2 r h).1
        · rw [List.mem_flatMap, List.mem_flatMap]
          exact ⟨fun ⟨a, ha, h⟩ => ⟨a, pm.mem_iff.mp ha, h⟩, fun ⟨a, ha, h⟩ => ⟨a, pm.mem_iff.mpr ha, h⟩⟩
      rw [same] at l2
      have hl11 := e11.lst hx1 hx2 noTL_ins noTL_ins hl10
      generalize allL (n + 1) (as.flatMap fun a => (runS n (zs n) (f a)).2) = L at l1 l2
      repeat' (walk_at "s")
      have s11 : snd1 (.int 1) = true := by decide +kernel
      have sm1 : SmR n (nextRow 1 (zs n) 1) := smr_row (cs := 1 :: zs n) (by rw [List.length_cons]; exact zs_len n1) (fun y hy => by
        rcases List.mem_cons.mp hy with h | h
        · rw [h]; decide
        · exact zs_small y h) (by decide)
      have hor : ∀ (i : Nat) (o : V), ([o1, o2].map V.ref)[i]? = some o → ∃ q : Addr, o = V.ref q ∧ Lsn K A.C_Listener H11 q n (zs n) L := fun i o h => by
        match i, h with
        | 0, h => cases h; exact ⟨o1, rfl, l1⟩
        | 1, h => cases h; exact ⟨o2, rfl, l2⟩
      refine lcl_any (fun D i H' => Ex H11 H' ∧ ∃ qs : List Addr, H' D = some (.lst (qs.map V.ref)) ∧ qs.length = i ∧ ∀ q ∈ qs, q ≠ D ∧ Told K n L H' q) (SqL.of hl11) (fun D hD => ⟨Ex.new hD, [], upd_same, rfl, fun _ h => nomatch h⟩) (fun D i H' _ ⟨e, _⟩ => SqL.of (e _ _ hl11)) (fun D hD i x H12 hx ⟨e12, qs', hD12, lq, hq⟩ => ?_) (fun D H12 hD ⟨e12, qs', hD12, lq, hq⟩ => ?_)
      · obtain ⟨o, rfl, lo⟩ := hor i x hx
        have lo12 := lsn_mono e12 lo
        obtain ⟨⟨dx, _, _, hxo, _⟩, _⟩ := id lo12
        unfold AnyTurn
        repeat' (walk_at "s")
        refine ⟨rfl, ?_⟩
        repeat' (walk_at "s")
        refine g_kmth hxo lf_known ?_
        repeat' (walk_at "s")
        refine ⟨o, n, _, L, rfl, lo12, fun kq ys H13 e13 h13 hys => ?_⟩
        repeat' (walk_at "s")
        refine g_kmth (e13 _ _ hxo) lf_word ?_
        repeat' (walk_at "s")
        refine ⟨o, n, _, L, rfl, lsn_mono e13 lo12, fun H14 e14 => ?_⟩
        have e1314 := e13.trans e14
        repeat' (walk_at "s")
        refine g_kmth (e1314 _ _ hxo) lf_path ?_
        repeat' (walk_at "s")
        refine ⟨o, n, _, L, rfl, lsn_mono e1314 lo12, fun pv H15 e15 hpv => ?_⟩
        have e1315 := e1314.trans e15
        repeat' (walk_at "s")
        refine g_kmth (e1315 _ _ hxo) lf_left ?_
        repeat' (walk_at "s")
        refine ⟨o, _, _, n, _, L, rfl, .int _, .int _, lsn_mono e1315 lo12, fun z => nT (s11.symm.trans z), fun _ z => nT (s11.symm.trans z), fun x' y' ex ey _ _ => ?_⟩
        cases ex; cases ey
        refine ⟨sm1, fun lv H16 e16 hlv => ?_⟩
        repeat' (walk_at "s")
        refine KA.g_klst (show 4 ≤ 1000 by decide) fun q17 H17 hq17 e17 h17 => ?_
        have e1217 := (e1315.trans e16).trans e17
        have tq : Told K n L H17 q17 := ⟨kq, ys, pv, lv, h17, e17 _ _ (e16 _ _ (e15 _ _ (e14 _ _ h13))), pimp (fun _ _ h => RowV.mono (((e14.trans e15).trans e16).trans e17) h) hys, optV_mono (fun _ _ h => RowV.mono (e16.trans e17) h) hpv, optV_mono (fun _ _ h => FrV.mono e17 h) hlv⟩
        have hD17 := e1217 _ _ hD12
        have nq : q17 ≠ D := fun z => by
          have : H16 D = some _ := (e1315.trans e16) _ _ hD12
          rw [z, this] at hq17; cases hq17
        refine ⟨_, hD17, by rw [List.length_map, lq]; exact Nat.lt_of_lt_of_le (show i < 100 by have := (List.getElem?_eq_some_iff.mp hx).1; simp at this; omega) (by decide), Ex.mut (e12.trans e1217) hD, qs' ++ [q17], by rw [upd_same, List.map_append]; rfl, by rw [List.length_append, lq]; rfl, fun q hq' => ?_⟩
        rcases List.mem_append.mp hq' with h | h
        · obtain ⟨nq', tq'⟩ := hq q h
          exact ⟨nq', (tq'.mono e1217).updD hD17 nq'⟩
        · rw [List.mem_singleton.mp h]
          exact ⟨nq, tq.updD hD17 nq⟩
      · have lq : qs'.length = 2 := lq
        have okL : OkL n L := l1.ok
        have oD := okb_told okL n8 (ok_len okL) sm1
        match qs', lq with
        | [qa, qb], _ =>
          have ta := (hq qa (.head _)).2
          have tb' := (hq qb (.tail _ (.head _))).2
          have e1 := tp11.mono e12
          have e2 := tab11.ext e12
          repeat' (walk_at "s")
          refine KA.g_ixL (i := 0) (SqL.of hD12) rfl ?_
          repeat' (walk_at "s")
          refine g_reprB rfl ta.dp (oD.up (by decide) (by decide)) ?_
          repeat' (walk_at "s")
          refine KA.g_ixL (i := 1) (SqL.of hD12) rfl ?_
          repeat' (walk_at "s")
          refine g_reprB rfl tb'.dp (oD.up (by decide) (by decide)) ?_
          repeat' (walk_at "s")
          have := k H12 e1 e2
          simpa using this
end
end K75
end
section
namespace K75
open PySem L2 Evl KX
/-! steps -/
local macro_rules | `(tactic| walk_at "nrm") => `(tactic| (((with_reducible refine' KA.g_nrm ?h ?k)); (case h => ((conv => lhs; simp only [List.set_cons_zero, List.set_cons_succ]); try exact rfl))))
local macro_rules | `(tactic| walk_at "nam") => `(tactic| (((with_reducible refine' KA.g_nameN ?h ?k)); (case h => ((conv => lhs; simp only [List.set_cons_zero, List.set_cons_succ]); try exact rfl))))
local macro_rules | `(tactic| walk_at "var") => `(tactic| (((with_reducible refine' KA.g_var ?h ?k)); (case h => exact rfl)))
local macro_rules | `(tactic| walk_at "aug") => `(tactic| (((with_reducible refine' KA.g_aug ?h ?k)); (case h => exact rfl)))
local macro_rules | `(tactic| walk_at "mul") => `(tactic| ((with_reducible refine KA.g_I (C := CMul) ?h ?k); (case h => first | exact KA.cmul_l (by omega) (by omega) | exact KA.cmul_r (by omega) (by omega))))
local macro_rules | `(tactic| walk_at "dv") => `(tactic| ((with_reducible refine KA.g_I (C := KA.CDv) ?h ?k); (case h => exact ⟨by omega, by omega⟩)))
local macro_rules | `(tactic| walk_at "mod") => `(tactic| ((with_reducible refine KA.g_I (C := fun _ j => 0 < j) ?h ?k); (case h => omega)))
local macro_rules | `(tactic| walk_at "s") => `(tactic| first
  | walk_at "nrm"
  | with_reducible refine KA.g_seq ?_
  | with_reducible refine KA.g_asg ?_
  | walk_at "nam"
  | with_reducible refine KA.g_yes ?_
  | with_reducible refine KA.g_ifs ?_
  | with_reducible refine KA.g_ret ?_
  | with_reducible refine KA.g_retN ?_
  | with_reducible refine KA.g_drop ?_
  | with_reducible refine KA.g_next ?_
  | with_reducible refine KA.g_brk ?_
  | with_reducible refine KA.g_par ?_
  | with_reducible refine KA.g_par3 ?_
  | with_reducible refine KA.g_kpar ?_
  | with_reducible refine KA.g_kpar3 ?_
  | with_reducible refine KA.g_op ?_
  | walk_at "var"
  | with_reducible refine KA.g_c ?_
  | with_reducible refine KA.g_I0 ?_
  | with_reducible refine KA.g_eqi ?_
  | with_reducible refine KA.g_nei ?_
  | with_reducible refine KA.g_test ?_
  | with_reducible refine KA.g_kbl ?_
  | with_reducible refine KA.g_cons ?_
  | with_reducible refine KA.g_nil ?_
  | with_reducible refine KA.g_cb ?_
  | with_reducible refine KA.g_call ?_
  | with_reducible refine KA.g_tb ?_
  | with_reducible refine KA.g_not ?_
  | with_reducible refine KA.g_and ?_
  | with_reducible refine KA.g_or ?_
  | with_reducible refine KA.g_if ?_
  | with_reducible refine KA.g_andV ?_
  | with_reducible refine KA.g_orV ?_
  | with_reducible refine KA.g_notV ?_
  | with_reducible refine KA.g_kbv ?_
  | with_reducible refine KA.g_ex1 ?_
  | with_reducible refine KA.g_chain ?_
  | with_reducible refine KA.g_fld ?_
  | with_reducible refine KA.g_un ?_
  | with_reducible refine KA.g_U ?_
  | with_reducible refine KA.g_tup ?_
  | with_reducible refine KA.g_lst ?_
  | walk_at "mul"
  | walk_at "dv"
  | walk_at "mod"
  | walk_at "aug"
  | with_reducible refine KA.g_ipi ?_
  | with_reducible refine KA.g_gcons ?_
  | with_reducible refine KA.g_gnil ?_
  | with_reducible refine KA.kB_t ?_
  | with_reducible refine KA.kB_f ?_
  | with_reducible refine KA.kB_nn ?_
  | with_reducible refine KA.ite_kB ?_
  | ((with_reducible refine' KA.g_ixT0 ?h ?k); (case h => exact L2.SqT.of (by assumption)))
  | ((with_reducible refine' KA.g_ixT1 ?h ?k); (case h => exact L2.SqT.of (by assumption)))
  | with_reducible refine KA.g_lct ?_
  | with_reducible refine KA.g_lcl ?_
  | with_reducible refine KA.g_lcr ?_
  | with_reducible refine KA.g_sl ?_
  | with_reducible refine KA.g_nop ?_
  | with_reducible refine KA.g_part ?_
  | with_reducible refine KA.g_exi ?_
  | with_reducible refine KA.g_eqs ?_
  | with_reducible refine KA.g_nes ?_
  | with_reducible refine KA.g_isN_i ?_
  | with_reducible refine KA.g_isN_n ?_
  | with_reducible refine KA.g_isN_r ?_
  | with_reducible refine KA.g_abs ?_
  | with_reducible refine KA.g_mx ?_
  | with_reducible refine KA.g_mn ?_
  | with_reducible refine KA.g_int ?_
  | with_reducible refine KA.g_intb ?_
  | with_reducible refine KA.g_isi_ii ?_
  | with_reducible refine KA.g_isi_ib ?_
  | with_reducible refine KA.g_isi_ss ?_
  | ((with_reducible refine' KA.g_isi_tt ?h ?k); (case h => assumption))
  | ((with_reducible refine' KA.g_lnL ?h ?k); (case h => assumption))
  | ((with_reducible refine' KA.g_lnT ?h ?k); (case h => assumption))
  | fail)
local macro_rules | `(tactic| walk_at "s") => `(tactic| first
  | walk_at "mulW"
  | ((with_reducible refine' KA.g_ixT0 ?h ?k); (case h => assumption))
  | ((with_reducible refine' KA.g_ixT1 ?h ?k); (case h => assumption))
  | with_reducible refine KR.g_lcz ?_
  | with_reducible refine KR.g_lck ?_
  | with_reducible refine KR.g_forZ ?_
  | with_reducible refine KR.g_forK ?_
  | with_reducible refine KT.g_forR ?_
  | with_reducible refine KW.g_for ?_
  | with_reducible refine KR.g_sfld ?_
  | with_reducible refine KR.g_mth ?_
  | with_reducible refine KR.g_make ?_
  | fail)
local macro_rules | `(tactic| walk_at "s") => `(tactic| first
  | with_reducible refine KW.g_put ?_
  | with_reducible refine KW.g_sub ?_
  | with_reducible refine KW.g_bm0 ?_
  | ((with_reducible refine' KT.s_L ?h ?k); (case h => assumption))
  | ((with_reducible refine' KT.s_R ?h ?k); (case h => assumption))
  | ((with_reducible refine' KT.s_C ?h ?k); (case h => assumption))
  | ((with_reducible refine' KT.s_T ?h ?k); (case h => assumption))
  | ((with_reducible refine' KT.g_pw ?h ?h2 ?k); (case h => exact ⟨by omega, by omega⟩); (case h2 => exact ⟨by omega, by omega⟩))
  | with_reducible refine KT.g_bm ?_
  | with_reducible refine KT.g_pairs ?_
  | with_reducible refine KT.g_pairs0 ?_
  | with_reducible refine KR.g_din ?_
  | with_reducible refine KR.g_dno ?_
  | with_reducible refine KR.g_mthK ?_
  | with_reducible refine KR.g_partOf ?_
  | fail)
local macro_rules | `(tactic| walk_at "u") => `(tactic| ((fail_if_success (with_reducible refine KA.g_if ?_)); (fail_if_success (with_reducible refine KA.g_ifs ?_)); walk_at "s"))
section
variable {P : Program} {w : World} {K : PySem.W.Frag} {mg : Str → Option Value} {base : Heap} {A : Adr}
open KT KR
def L1 : LRd := [(0, [1, (1 : Rat) / 2])]
theorem c1 : leftO 1 [] (nextRow 0 (zs 1) 5) = some 5 := by decide +kernel
theorem c2 : leftO 1 [] (nextRow 1 (zs 1) 5) = none := by decide +kernel
theorem c3 : stepL (1 + 1) [] (nextRow 2 (zs 1) 1) = L1 := by decide +kernel
theorem c4 : leftO 1 L1 (nextRow 3 (zs 1) 5) = some ((7 : Rat) / 2) := by decide +kernel
theorem c5 : pathO 1 L1 = some [(1 : Rat) / 2] := by decide +kernel
theorem c6 : wordS 1 L1 = "one" := by decide +kernel
theorem c7 : wordS 1 [] = "many" := by decide +kernel
theorem c8 : pathO 1 [] = none := by decide +kernel
theorem c9 : ((1 : Rat) / 2).num = 1 ∧ ((((1 : Rat) / 2).den : Nat) : Int) = 2 := by decide +kernel
theorem c10 : ((7 : Rat) / 2).num = 7 ∧ ((((7 : Rat) / 2).den : Nat) : Int) = 2 := by decide +kernel
def sp_law (K : PySem.W.Frag) (A : Adr) : Sp := fun vs H Q _ => ∃ (a : Addr) (ns : List Int), vs = [.ref a] ∧ SqL K H a (ns.map V.int) ∧ ns.length ≤ 63 ∧ LamX.Tabs (refT A) H ∧ ∀ H', Q (.bl true) H'
theorem ok_law (T : Txt P K mg A) (tb : LamX.TabB base mg A.c__law_refused A.P__law_refused) : KG.FnG P w K mg base CX0 12 A.f_law A.d_law ["script"] (sp_law K A) := by
  refine KG.okG T.F_law sc_law (fun vs H Q E h => ?_) (fun cdv Ar outer s H vs Q E hg hr h => ?_)
  · obtain ⟨a, ns, rfl, _⟩ := h; rfl
  obtain ⟨a, ns, rfl, ha, hn, tab, k⟩ := h
  refine ⟨_, (pss_cons (ps_set (i := 1) sc_law.nd rfl (Or.inl rfl) (pe_call (ok__law_begun T) (hr.mono (by decide)) (by rfl) T.m__law_begun T.F__law_begun.kp T.b__law_begun .nil pass0 (pa_cons (pv 0) pa_nil)))
  (pss_cons (ps_for PassesOwn.never rfl (pi_range1 rfl T.z_range (pa_cons (pe_op op_add pe_int (pe_callB (KA.call_mn rfl) (by rfl) T.z_min (by decide +kernel) (pa_cons (pe_callB KA.call_ln (by rfl) T.z_len (by decide +kernel) (pa_cons (pv 0) pa_nil)) (pa_cons pe_int pa_nil)))) pa_nil)) (pg_name (i := 2) sc_law.nd rfl (Or.inl rfl)) (pss_cons (ps_set (i := 3) sc_law.nd rfl (Or.inl rfl) (pe_op op_add pe_int (pe_call (ok__law_draw T) (hr.mono (by decide)) (by rfl) T.m__law_draw T.F__law_draw.kp T.b__law_draw .nil pass0 (pa_cons (pv 1) (pa_cons (pe_call (ok__law_pick T) (hr.mono (by decide)) (by rfl) T.m__law_pick T.F__law_pick.kp T.b__law_pick .nil pass0 (pa_cons (pv 1) (pa_cons (pe_lst (pa_cons pe_int (pa_cons pe_int (pa_cons pe_int pa_nil)))) pa_nil))) pa_nil)))))
  (pss_one (ps_if (PW.pt (pw_or (pt_not (pt_val (KG.pe_callG (ok__law_heard_right T tb) hg (hr.mono (by decide)) (by rfl) T.m__law_heard_right T.F__law_heard_right.kp T.b__law_heard_right .nil pass0 (pa_cons (pv 1) (pa_cons (pv 3) (pa_cons (pe_call (ok__law_pick T) (hr.mono (by decide)) (by rfl) T.m__law_pick T.F__law_pick.kp T.b__law_pick .nil pass0 (pa_cons (pv 1) (pa_cons (pe_lst (pa_cons pe_int (pa_cons pe_int (pa_cons pe_int pa_nil)))) pa_nil))) pa_nil)))))) (pw_or1 (pt_not (pt_val (KG.pe_callG (ok__law_turned_right T) hg (hr.mono (by decide)) (by rfl) T.m__law_turned_right T.F__law_turned_right.kp T.b__law_turned_right .nil pass0 (pa_cons (pv 1) (pa_cons (pv 3) pa_nil)))))))) (pss_one (ps_ret pe_bl)) pss_nil))))
  (pss_cons (ps_set (i := 4) sc_law.nd rfl (Or.inl rfl) (pe_make T.mk_Listener (ok_Listener_init T) (hr.mono (by decide)) (by rfl) T.g_Listener T.b_Listener_init .nil passL (pa_cons pe_int pa_nil)))
  (pss_cons (ps_if (pt_cmpR op_ne (pe_callB (KG.call_repr hg (hr.mono (Nat.zero_le _))) (by rfl) T.z_repr (by decide +kernel) (pa_cons (pe_lst (pa_cons (pe_meth0 (pv 4) T.cl_Listener T.me_Listener_word (ok_Listener_word T) (hr.mono (by decide)) T.b_Listener_word .nil pass0) (pa_cons (pe_meth0 (pv 4) T.cl_Listener T.me_Listener_path (ok_Listener_path T) (hr.mono (by decide)) T.b_Listener_path .nil pass0) (pa_cons (pe_meth (pv 4) T.cl_Listener T.me_Listener_left (ok_Listener_left T) (hr.mono (by decide)) T.b_Listener_left .nil passL (pa_cons pe_int (pa_cons pe_int pa_nil))) (pa_cons (pe_meth (pv 4) T.cl_Listener T.me_Listener_left (ok_Listener_left T) (hr.mono (by decide)) T.b_Listener_left .nil passL (pa_cons pe_int (pa_cons pe_int pa_nil))) pa_nil))))) pa_nil)) (pe_callB (KG.call_repr hg (hr.mono (Nat.zero_le _))) (by rfl) T.z_repr (by decide +kernel) (pa_cons (pe_lst (pa_cons pe_str (pa_cons pe_non (pa_cons (pe_tup (pa_cons pe_int (pa_cons pe_int pa_nil))) (pa_cons pe_non pa_nil))))) pa_nil)) (nomark _)) (pss_one (ps_ret pe_bl)) pss_nil)
  (pss_cons (ps_expr (pe_meth (pv 4) T.cl_Listener T.me_Listener_hear (ok_Listener_hear T) (hr.mono (by decide)) T.b_Listener_hear .nil passL (pa_cons pe_int (pa_cons pe_int (pa_cons pe_bl pa_nil)))))
  (pss_one (ps_ret (pe_cmpR op_eq (pe_callB (KG.call_repr hg (hr.mono (Nat.zero_le _))) (by rfl) T.z_repr (by decide +kernel) (pa_cons (pe_lst (pa_cons (pe_meth0 (pv 4) T.cl_Listener T.me_Listener_word (ok_Listener_word T) (hr.mono (by decide)) T.b_Listener_word .nil pass0) (pa_cons (pe_meth0 (pv 4) T.cl_Listener T.me_Listener_path (ok_Listener_path T) (hr.mono (by decide)) T.b_Listener_path .nil pass0) (pa_cons (pe_meth (pv 4) T.cl_Listener T.me_Listener_left (ok_Listener_left T) (hr.mono (by decide)) T.b_Listener_left .nil passL (pa_cons pe_int (pa_cons pe_int pa_nil))) pa_nil)))) pa_nil)) (pe_callB (KG.call_repr hg (hr.mono (Nat.zero_le _))) (by rfl) T.z_repr (by decide +kernel) (pa_cons (pe_lst (pa_cons pe_str (pa_cons (pe_tup (pa_cons (pe_tup (pa_cons pe_int (pa_cons pe_int pa_nil))) pa_nil)) (pa_cons (pe_tup (pa_cons pe_int (pa_cons pe_int pa_nil))) pa_nil)))) pa_nil)) (nomark _))))))))), ?_⟩
  show tSeq _ _ _ [some (.ref a), none, none, none, none] H
  have nT : ∀ {P : Prop}, true = false → P := fun z => by cases z
  repeat' (walk_at "s")
  refine ⟨a, ns, rfl, ha, hn, fun t H1 l c e1 tp1 => ?_⟩
  have newl : ∀ {H' : Hp} {q : Addr}, Tape H' t l c → H' q = none → q ≠ l := fun T' hn z => by
    obtain ⟨ls', hl'⟩ := T'.lar
    rw [z, hl'] at hn; cases hn
  repeat' (walk_at "s")
  refine g_lnSL (ex_l e1 ha) ?_
  repeat' (walk_at "s")
  refine KT.g_kforR (fun i σ H' => ∃ x2 x3, σ = [some (.ref a), some (.ref t), x2, x3, none] ∧ Tape H' t l c ∧ LamX.Tabs (refT A) H') ⟨by omega, by omega⟩ ⟨_, _, rfl, tp1, tab.ext e1⟩ ?_ ?_
  · rintro i σ H2 hi ⟨x2, x3, rfl, tp2, tab2⟩
    repeat' (walk_at "s")
    refine KA.g_klst (show 3 ≤ 1000 by decide) fun q3 H3 hq3 e3 h3 => ?_
    repeat' (walk_at "s")
    refine ⟨t, l, c, q3, _, rfl, tp2.mono e3, h3, newl tp2 hq3, by show 1 ≤ 3; decide, by show 3 ≤ 1000; decide, fun v4 H4 hv4 tp4 tx4 => ?_⟩
    obtain ⟨m, rfl, m1, m8⟩ : ∃ z : Int, v4 = .int z ∧ 1 ≤ z ∧ z ≤ 8 := by
      rcases List.mem_cons.mp hv4 with rfl | hv
      · exact ⟨_, rfl, by decide, by decide⟩
      rcases List.mem_cons.mp hv with rfl | hv
      · exact ⟨_, rfl, by decide, by decide⟩
      rw [List.mem_singleton.mp hv]
      exact ⟨_, rfl, by decide, by decide⟩
    have tab4 := tabs_tx (tp2.mono e3) tx4 (tab2.ext e3)
    repeat' (walk_at "s")
    refine ⟨t, l, c, m, rfl, tp4, m1, by omega, fun d H5 d0 d1 tp5 tx5 => ?_⟩
    have tab5 := tabs_tx tp4 tx5 tab4
    repeat' (walk_at "s")
    obtain ⟨n, en⟩ : ∃ n : Nat, 1 + d = (n : Int) := ⟨(1 + d).toNat, by omega⟩
    rw [en]
    have n1 : 1 ≤ n := by omega
    have n8 : n ≤ 8 := by omega
    repeat' (walk_at "s")
    refine KA.g_klst (show 3 ≤ 1000 by decide) fun q6 H6 hq6 e6 h6 => ?_
    repeat' (walk_at "s")
    refine ⟨t, l, c, q6, _, rfl, tp5.mono e6, h6, newl tp5 hq6, by show 1 ≤ 3; decide, by show 3 ≤ 1000; decide, fun v7 H7 hv7 tp7 tx7 => ?_⟩
    obtain ⟨kk, rfl, kk1⟩ : ∃ z : Nat, v7 = .int (z : Int) ∧ z ≤ 100 := by
      rcases List.mem_cons.mp hv7 with rfl | hv
      · exact ⟨10, rfl, by decide⟩
      rcases List.mem_cons.mp hv with rfl | hv
      · exact ⟨30, rfl, by decide⟩
      rw [List.mem_singleton.mp hv]
      exact ⟨100, rfl, by decide⟩
    have tab7 := tabs_tx (tp5.mono e6) tx7 (tab5.ext e6)
    repeat' (walk_at "s")
    refine ⟨t, l, c, n, kk, rfl, tp7, tab7, n1, n8, kk1, fun H8 tp8 tab8 => ?_⟩
    repeat' (walk_at "s")
    refine ⟨t, l, c, n, rfl, tp8, tab8, n1, n8, fun H9 tp9 tab9 => ?_⟩
    repeat' (walk_at "s")
    exact ⟨_, _, rfl, tp9, tab9⟩
  · rintro σ H2 ⟨x2, x3, rfl, tp2, tab2⟩
    repeat' (walk_at "s")
    intro o1 od1 ho1 hod1 hne1
    refine ⟨o1, od1, _, rfl, .int _, upd_same, fun z => nT ((show btw (.int 1) 1 8 = true by decide +kernel).symm.trans z), fun tt et t1' t8' H3 ls3 x3' _ => ?_⟩
    have et : tt = 1 := by have := V.int.inj et; omega
    subst et
    refine ⟨rfl, ?_⟩
    have ls3 : Lsn K A.C_Listener H3 o1 1 (zs 1) [] := ls3
    obtain ⟨⟨dx, _, _, hx, _⟩, _⟩ := id ls3
    have sm : ∀ x y : Int, x.natAbs ≤ 5 → y.natAbs ≤ 200 → SmR 1 (nextRow x (zs 1) y) := fun x y h1 h2 => smr_row (cs := x :: zs 1) rfl (fun z hz => by
      rcases List.mem_cons.mp hz with h | h
      · rw [h]; exact h1
      · exact zs_small z h) h2
    have sn : ∀ x : Int, x.natAbs ≤ 200 → snd1 (.int x) = true := fun x h => by unfold snd1 btw; simp; omega
    repeat' (walk_at "s")
    refine g_kmth hx lf_word ?_
    repeat' (walk_at "s")
    refine ⟨o1, 1, _, _, rfl, ls3, fun H4 e4 => ?_⟩
    repeat' (walk_at "s")
    refine g_kmth (e4 _ _ hx) lf_path ?_
    repeat' (walk_at "s")
    refine ⟨o1, 1, _, _, rfl, lsn_mono e4 ls3, fun v5 H5 e5 h5 => ?_⟩
    have e45 := e4.trans e5
    repeat' (walk_at "s")
    refine g_kmth (e45 _ _ hx) lf_left ?_
    repeat' (walk_at "s")
    refine ⟨o1, _, _, 1, _, _, rfl, .int _, .int _, lsn_mono e45 ls3, fun z => nT ((sn 0 (by decide)).symm.trans z), fun _ z => nT ((sn 5 (by decide)).symm.trans z), fun x' y' ex ey _ _ => ?_⟩
    cases ex; cases ey
    refine ⟨sm _ _ (by decide) (by decide), fun v6 H6 e6 h6 => ?_⟩
    have e46 := e45.trans e6
    repeat' (walk_at "s")
    refine g_kmth (e46 _ _ hx) lf_left ?_
    repeat' (walk_at "s")
    refine ⟨o1, _, _, 1, _, _, rfl, .int _, .int _, lsn_mono e46 ls3, fun z => nT ((sn 1 (by decide)).symm.trans z), fun _ z => nT ((sn 5 (by decide)).symm.trans z), fun x' y' ex ey _ _ => ?_⟩
    cases ex; cases ey
    refine ⟨sm _ _ (by decide) (by decide), fun v7 H7 e7 h7 => ?_⟩
    repeat' (walk_at "s")
    refine KA.g_klst (show 4 ≤ 1000 by decide) fun q8 H8 hq8 e8 h8 => ?_
    rw [c1] at h6
    rw [c2] at h7
    rw [c8] at h5
    cases h5
    cases h7
    have e48 := (e46.trans e7).trans e8
    have d8 : Dp K H8 (.ref q8) (.list [.str "many", .none, dat 5, .none]) := .lst (SqL.of h8) (.cons (by rw [c7]; exact .str _) (.cons .non (.cons (dp_fr (FrV.mono (e7.trans e8) h6)) (.cons .non .nil))))
    have o8 : OkB 5 2000 (.list [.str "many", .none, dat 5, .none]) := ⟨by decide +kernel, by decide +kernel, by decide +kernel, by decide +kernel, by decide +kernel⟩
    repeat' (walk_at "s")
    refine g_reprB rfl d8 o8 ?_
    repeat' (walk_at "s")
    refine KA.g_ktup (show 2 ≤ 1000 by decide) fun q9 H9 hq9 e9 h9 => ?_
    repeat' (walk_at "s")
    refine KA.g_klst (show 4 ≤ 1000 by decide) fun q10 H10 hq10 e10 h10 => ?_
    repeat' (walk_at "s")
    have d10 : Dp K H10 (.ref q10) (.list [.str "many", .none, dat 5, .none]) := .lst (SqL.of h10) (.cons (.str _) (.cons .non (.cons (.tup (SqT.of (e10 _ _ h9)) (.cons (.int _) (.cons (.int _) .nil))) (.cons .non .nil))))
    refine g_reprB rfl d10 o8 ?_
    repeat' (walk_at "s")
    refine KA.kB_yes rfl ?_
    have e410 := (e48.trans e9).trans e10
    have ls10 := lsn_mono e410 ls3
    repeat' (walk_at "s")
    refine g_kmth (e410 _ _ hx) lf_hear ?_
    repeat' (walk_at "s")
    refine ⟨o1, _, _, _, 1, _, _, rfl, .int _, .int _, ls10, fun z => nT ((sn 2 (by decide)).symm.trans z), fun _ z => nT ((sn 1 (by decide)).symm.trans z), fun _ _ h => absurd rfl (h true), fun x' y' q' ex ey eq _ _ => ?_⟩
    cases ex; cases ey; cases eq
    refine ⟨sm _ _ (by decide) (by decide), fun H11 x11 ls11 => ?_⟩
    rw [if_pos rfl, c3] at ls11
    have ls11 : Lsn K A.C_Listener H11 o1 1 (zs 1) L1 := ls11
    obtain ⟨⟨dx', _, _, hx', _⟩, _⟩ := id ls11
    repeat' (walk_at "s")
    refine g_kmth hx' lf_word ?_
    repeat' (walk_at "s")
    refine ⟨o1, 1, _, _, rfl, ls11, fun H12 e12 => ?_⟩
    repeat' (walk_at "s")
    refine g_kmth (e12 _ _ hx') lf_path ?_
    repeat' (walk_at "s")
    refine ⟨o1, 1, _, _, rfl, lsn_mono e12 ls11, fun v13 H13 e13 h13 => ?_⟩
    have e113 := e12.trans e13
    repeat' (walk_at "s")
    refine g_kmth (e113 _ _ hx') lf_left ?_
    repeat' (walk_at "s")
    refine ⟨o1, _, _, 1, _, _, rfl, .int _, .int _, lsn_mono e113 ls11, fun z => nT ((sn 3 (by decide)).symm.trans z), fun _ z => nT ((sn 5 (by decide)).symm.trans z), fun x' y' ex ey _ _ => ?_⟩
    cases ex; cases ey
    refine ⟨sm _ _ (by decide) (by decide), fun v14 H14 e14 h14 => ?_⟩
    repeat' (walk_at "s")
    refine KA.g_klst (show 3 ≤ 1000 by decide) fun q15 H15 hq15 e15 h15 => ?_
    rw [c4] at h14
    rw [c5] at h13
    have d15 : Dp K H15 (.ref q15) (.list [.str "one", datR [(1 : Rat) / 2], dat ((7 : Rat) / 2)]) := .lst (SqL.of h15) (.cons (by rw [c6]; exact .str _) (.cons (dpR (RowV.mono (e14.trans e15) h13)) (.cons (dp_fr (FrV.mono e15 h14)) .nil)))
    have o15 : OkB 5 2000 (.list [.str "one", datR [(1 : Rat) / 2], dat ((7 : Rat) / 2)]) := ⟨by decide +kernel, by decide +kernel, by decide +kernel, by decide +kernel, by decide +kernel⟩
    repeat' (walk_at "s")
    refine g_reprB rfl d15 o15 ?_
    repeat' (walk_at "s")
    refine KA.g_ktup (show 2 ≤ 1000 by decide) fun q16 H16 hq16 e16 h16 => ?_
    repeat' (walk_at "s")
    refine KA.g_ktup (show 1 ≤ 1000 by decide) fun q17 H17 hq17 e17 h17 => ?_
    repeat' (walk_at "s")
    refine KA.g_ktup (show 2 ≤ 1000 by decide) fun q18 H18 hq18 e18 h18 => ?_
    repeat' (walk_at "s")
    refine KA.g_klst (show 3 ≤ 1000 by decide) fun q19 H19 hq19 e19 h19 => ?_
    repeat' (walk_at "s")
    have f1 : FrV K H19 (.ref q16) ((1 : Rat) / 2) := ⟨q16, rfl, by rw [c9.1, c9.2]; exact SqT.of (e19 _ _ (e18 _ _ (e17 _ _ h16)))⟩
    have f2 : FrV K H19 (.ref q18) ((7 : Rat) / 2) := ⟨q18, rfl, by rw [c10.1, c10.2]; exact SqT.of (e19 _ _ h18)⟩
    have f3 : RowV K H19 (.ref q17) [(1 : Rat) / 2] := ⟨q17, _, rfl, e19 _ _ (e18 _ _ h17), .cons f1 .nil⟩
    have d19 : Dp K H19 (.ref q19) (.list [.str "one", datR [(1 : Rat) / 2], dat ((7 : Rat) / 2)]) := .lst (SqL.of h19) (.cons (.str _) (.cons (dpR f3) (.cons (dp_fr f2) .nil)))
    refine g_reprB rfl d19 o15 ?_
    repeat' (walk_at "s")
    have := k H19
    simpa using this
end
end K75
end
section
namespace K75
open PySem L2 Evl KX
section
variable {K : PySem.W.Frag} {f : Addr} {d : FuncData}
theorem vals_rev : ∀ {zs : List V} {ws : List Value}, Vals zs ws → Vals zs.reverse ws.reverse
  | _, _, .nil => .nil
  | _, _, .cons r rs => by rw [List.reverse_cons, List.reverse_cons]; exact (vals_rev rs).append (.cons r .nil)
theorem kb1 (F : Fun K "__init__" "Listener.__init__" s_Listener_init f d) : KBn K d ["self", "taps"] 1 ["taps"] (fun us ws => us ++ ws) (fun us ws => us ++ ws) := by
  obtain ⟨oc, od, kV, doc, pm, an, cdv, ct, osl, rfl, lk, hcd⟩ := F.ex
  exact ⟨fun s us ws _ h1 h2 => (match us, ws, h1, h2 with | [_], [_], _, _ => .of_eq rfl), fun r1 r2 => r1.append r2⟩
theorem kb2 (F : Fun K "left" "Listener.left" s_Listener_left f d) : KBn K d ["self", "sent", "heard"] 1 ["heard", "sent"] (fun us ws => us ++ ws.reverse) (fun us ws => us ++ ws.reverse) := by
  obtain ⟨oc, od, kV, doc, pm, an, cdv, ct, osl, rfl, lk, hcd⟩ := F.ex
  exact ⟨fun s us ws _ h1 h2 => (match us, ws, h1, h2 with | [_], [_, _], _, _ => .of_eq rfl), fun r1 r2 => r1.append (vals_rev r2)⟩
theorem kb3 (F : Fun K "hear" "Listener.hear" s_Listener_hear f d) : KBn K d ["self", "sent", "heard", "quiet"] 1 ["quiet", "heard", "sent"] (fun us ws => us ++ ws.reverse) (fun us ws => us ++ ws.reverse) := by
  obtain ⟨oc, od, kV, doc, pm, an, cdv, ct, osl, rfl, lk, hcd⟩ := F.ex
  exact ⟨fun s us ws _ h1 h2 => (match us, ws, h1, h2 with | [_], [_, _, _], _, _ => .of_eq rfl), fun r1 r2 => r1.append (vals_rev r2)⟩
end
theorem cau_ok : KX.CauT s__law_caught := ⟨sc__law_caught, ⟨_, _, _, _, _, _, _, _, _, _, _, _, _, _, _, rfl⟩, rfl, rfl, rfl, rfl⟩
end K75
end
section
namespace K75
open PySem L2 Evl KX
theorem part_mk {P : Program} {K : PySem.W.Frag} {mg : Str → Option Value} {C D fI cda cc : Addr} {o1 o2 o3 o4 : Obj} {nm q : Str} {N : Addr} {bs bm : List Value} {sn : List Str} {sub : List Value} {ab : Bool} {col : Option Bool} {dd : Option Addr} {k0 k1 k2 k3 k5 : Option Value}
    {qual : Str} {oc : Value} {od : Option Addr} {doc pm : Value} {an : Option Addr} {ct : Value} {osl : Array (Option Value)} {m : Str} {j : Nat} {p1 p2 a1 a2 a3 a4 a5 a6 q1 q2 q3 q4 : Pos} {cl3 cl4 : Value} {cd3 cd4 : Option Addr} {sl3 sl4 : Array (Option Value)} {vs : Array Value} {file : Str} {tf : Tok} {cdD : ClassData}
    (l1 : K.lookup C = some o1) (e1 : o1 = excClassObj nm q C N bs bm true sn sub ab col dd k0 k1 k2 k3 k5 "ValueError.__new__") (b1 : PySem.HandSPX.refsVE bm = true)
    (l2 : K.lookup fI = some o2) (e2 : o2 = ⟨oc, od, .func (PySem.W.ksFn "__init__" qual (iA p1 p2) (iB m j a1 a2 a3 a4 a5 a6 q1 q2 q3 q4) iS .none .none doc pm an (.ref cda) ct cc), osl⟩)
    (l3 : K.lookup cc = some o3) (e3 : o3 = ⟨cl3, cd3, .cell (some (.ref D)), sl3⟩) (l4 : K.lookup cda = some o4) (e4 : o4 = ⟨cl4, cd4, .fields vs, sl4⟩) (e5 : vs[2]? = some (.str file tf)) (e6 : ((P.main.file : Str) == file) = true) (e7 : (a3.endLine == a5.line) = true) (e8 : PySem.W.codeIn K (.ref cda) qual = true)
    (sa : PySem.W.findIn K (.ref C) "__setattr__" = some (some (.builtin "object.__setattr__"))) (noN : PySem.W.findIn K (.ref C) "part" = some none) (iC : PySem.W.findIn K (.ref C) "__init__" = some (some (.ref fI))) (tC : PySem.W.typeIn K (.ref fI) = some (.type "function")) (kC : PySem.W.keepIn K (.ref C) = true)
    (exC : PySem.W.subIn K (.ref C) (.type "BaseException") = some true) (veC : PySem.W.subIn K (.ref C) (.type "ValueError") = some true) (tyC : PySem.W.typeIn K (.ref C) = some (.type "type")) (hD : PySem.W.clsIn K D = some cdD) (sub' : PySem.W.mroIn K C (.ref D) = some true) (sup : PySem.W.ks_superIn K C D "__init__" = some (some (.builtin "ValueError.__init__")))
    (third : PySem.W.nsIn K cStatics "thirdparty.any" = some none) (top : (P.main.scope.names.lookup ("super" : Str)).isSome = false) (noS : mg "super" = none) : KX.PartT P K mg C D fI :=
  ⟨⟨_, _, _, _, _, _, _, _, _, _, _, _, _, _, _, l1.trans (congrArg some e1), b1⟩, sa, noN, iC, tC, kC, exC, veC, tyC, ⟨_, hD⟩, sub', sup, third, noS, top,
    ⟨_, _, _, _, _, _, _, _, _, _, _, _, _, _, _, _, _, _, _, _, _, _, _, _, l2.trans (congrArg some e2), e8, ⟨_, _, _, l3.trans (congrArg some e3)⟩, _, _, _, _, _, _, l4.trans (congrArg some e4), e5, e6, e7⟩⟩

def spL (K : PySem.W.Frag) (Pt : Addr) : Sp := fun vs H Q _ => ∃ (a : Addr) (ns : List Int), vs = [.ref a] ∧ SqL K H a (ns.map V.int) ∧ ns.length ≤ 63 ∧ LamX.Tabs [(Pt, refQ)] H ∧ ∀ H', Q (.bl true) H'
theorem all_mk {l : PySem.W.OpenLaw} {q : Program} {lv : List (Str × PySem.W.WData)} {w : World} {K : PySem.W.Frag} {h : Heap} {mg : Str → Option Value} {fa : Addr} (X : K.In h) (G : h.Ns mainGlobals mg) (hfa : mg "law" = some (.ref fa)) (XL : PySem.W.XL q lv mg h)
    {f_is_number f_is_between f_divisor f_lowest f_less f_product f_parted f_scaled f_taken f_lead_of f_cleared f_with_row f_is_sound f_need_sounds f_Listener_init f_Listener_next_row f_Listener_hear f_Listener_known f_Listener_fits_none f_Listener_word f_Listener_path f_Listener_left f__law_caught f__law_gcd f__law_fr f__law_plus f__law_times f__law_dotted f__law_summed f__law_lesser f__law_reduced f__law_fractions f__law_begun f__law_blend f__law_draw f__law_pick f__law_shuffled f__law_state f__law_left f__law_told_right f__law_refused f__law_row f__law_heard_right f__law_turned_right f_law C_Listener C_BadNumber C_BadQuiet C_CallError C_PartError f_PartError_init a_ZERO a_ONE c__law_refused P__law_refused : Addr} {t_MOST_TAPS t_MOST_SOUND : Tok}
    {od_is_number an_is_number : Option Addr} {sl_is_number : Array (Option Value)} {oc_is_number kV_is_number dc_is_number pm_is_number cd_is_number ct_is_number : Value}
    {od_is_between an_is_between : Option Addr} {sl_is_between : Array (Option Value)} {oc_is_between kV_is_between dc_is_between pm_is_between cd_is_between ct_is_between : Value}
    {od_divisor an_divisor : Option Addr} {sl_divisor : Array (Option Value)} {oc_divisor kV_divisor dc_divisor pm_divisor cd_divisor ct_divisor : Value}
    {od_lowest an_lowest : Option Addr} {sl_lowest : Array (Option Value)} {oc_lowest kV_lowest dc_lowest pm_lowest cd_lowest ct_lowest : Value}
    {od_less an_less : Option Addr} {sl_less : Array (Option Value)} {oc_less kV_less dc_less pm_less cd_less ct_less : Value}
    {od_product an_product : Option Addr} {sl_product : Array (Option Value)} {oc_product kV_product dc_product pm_product cd_product ct_product : Value}
    {od_parted an_parted : Option Addr} {sl_parted : Array (Option Value)} {oc_parted kV_parted dc_parted pm_parted cd_parted ct_parted : Value}
    {od_scaled an_scaled : Option Addr} {sl_scaled : Array (Option Value)} {oc_scaled kV_scaled dc_scaled pm_scaled cd_scaled ct_scaled : Value}
    {od_taken an_taken : Option Addr} {sl_taken : Array (Option Value)} {oc_taken kV_taken dc_taken pm_taken cd_taken ct_taken : Value}
    {od_lead_of an_lead_of : Option Addr} {sl_lead_of : Array (Option Value)} {oc_lead_of kV_lead_of dc_lead_of pm_lead_of cd_lead_of ct_lead_of : Value}
    {od_cleared an_cleared : Option Addr} {sl_cleared : Array (Option Value)} {oc_cleared kV_cleared dc_cleared pm_cleared cd_cleared ct_cleared : Value}
    {od_with_row an_with_row : Option Addr} {sl_with_row : Array (Option Value)} {oc_with_row kV_with_row dc_with_row pm_with_row cd_with_row ct_with_row : Value}
    {od_is_sound an_is_sound : Option Addr} {sl_is_sound : Array (Option Value)} {oc_is_sound kV_is_sound dc_is_sound pm_is_sound cd_is_sound ct_is_sound : Value}
    {od_need_sounds an_need_sounds : Option Addr} {sl_need_sounds : Array (Option Value)} {oc_need_sounds kV_need_sounds dc_need_sounds pm_need_sounds cd_need_sounds ct_need_sounds : Value}
    {od_Listener_init an_Listener_init : Option Addr} {sl_Listener_init : Array (Option Value)} {oc_Listener_init kV_Listener_init dc_Listener_init pm_Listener_init cd_Listener_init ct_Listener_init : Value}
    {od_Listener_next_row an_Listener_next_row : Option Addr} {sl_Listener_next_row : Array (Option Value)} {oc_Listener_next_row kV_Listener_next_row dc_Listener_next_row pm_Listener_next_row cd_Listener_next_row ct_Listener_next_row : Value}
    {od_Listener_hear an_Listener_hear : Option Addr} {sl_Listener_hear : Array (Option Value)} {oc_Listener_hear kV_Listener_hear dc_Listener_hear pm_Listener_hear cd_Listener_hear ct_Listener_hear : Value}
    {od_Listener_known an_Listener_known : Option Addr} {sl_Listener_known : Array (Option Value)} {oc_Listener_known kV_Listener_known dc_Listener_known pm_Listener_known cd_Listener_known ct_Listener_known : Value}
    {od_Listener_fits_none an_Listener_fits_none : Option Addr} {sl_Listener_fits_none : Array (Option Value)} {oc_Listener_fits_none kV_Listener_fits_none dc_Listener_fits_none pm_Listener_fits_none cd_Listener_fits_none ct_Listener_fits_none : Value}
    {od_Listener_word an_Listener_word : Option Addr} {sl_Listener_word : Array (Option Value)} {oc_Listener_word kV_Listener_word dc_Listener_word pm_Listener_word cd_Listener_word ct_Listener_word : Value}
    {od_Listener_path an_Listener_path : Option Addr} {sl_Listener_path : Array (Option Value)} {oc_Listener_path kV_Listener_path dc_Listener_path pm_Listener_path cd_Listener_path ct_Listener_path : Value}
    {od_Listener_left an_Listener_left : Option Addr} {sl_Listener_left : Array (Option Value)} {oc_Listener_left kV_Listener_left dc_Listener_left pm_Listener_left cd_Listener_left ct_Listener_left : Value}
    {od__law_caught an__law_caught : Option Addr} {sl__law_caught : Array (Option Value)} {oc__law_caught kV__law_caught dc__law_caught pm__law_caught cd__law_caught ct__law_caught : Value}
    {od__law_gcd an__law_gcd : Option Addr} {sl__law_gcd : Array (Option Value)} {oc__law_gcd kV__law_gcd dc__law_gcd pm__law_gcd cd__law_gcd ct__law_gcd : Value}
    {od__law_fr an__law_fr : Option Addr} {sl__law_fr : Array (Option Value)} {oc__law_fr kV__law_fr dc__law_fr pm__law_fr cd__law_fr ct__law_fr : Value}
    {od__law_plus an__law_plus : Option Addr} {sl__law_plus : Array (Option Value)} {oc__law_plus kV__law_plus dc__law_plus pm__law_plus cd__law_plus ct__law_plus : Value}
    {od__law_times an__law_times : Option Addr} {sl__law_times : Array (Option Value)} {oc__law_times kV__law_times dc__law_times pm__law_times cd__law_times ct__law_times : Value}
    {od__law_dotted an__law_dotted : Option Addr} {sl__law_dotted : Array (Option Value)} {oc__law_dotted kV__law_dotted dc__law_dotted pm__law_dotted cd__law_dotted ct__law_dotted : Value}
    {od__law_summed an__law_summed : Option Addr} {sl__law_summed : Array (Option Value)} {oc__law_summed kV__law_summed dc__law_summed pm__law_summed cd__law_summed ct__law_summed : Value}
    {od__law_lesser an__law_lesser : Option Addr} {sl__law_lesser : Array (Option Value)} {oc__law_lesser kV__law_lesser dc__law_lesser pm__law_lesser cd__law_lesser ct__law_lesser : Value}
    {od__law_reduced an__law_reduced : Option Addr} {sl__law_reduced : Array (Option Value)} {oc__law_reduced kV__law_reduced dc__law_reduced pm__law_reduced cd__law_reduced ct__law_reduced : Value}
    {od__law_fractions an__law_fractions : Option Addr} {sl__law_fractions : Array (Option Value)} {oc__law_fractions kV__law_fractions dc__law_fractions pm__law_fractions cd__law_fractions ct__law_fractions : Value}
    {od__law_begun an__law_begun : Option Addr} {sl__law_begun : Array (Option Value)} {oc__law_begun kV__law_begun dc__law_begun pm__law_begun cd__law_begun ct__law_begun : Value}
    {od__law_blend an__law_blend : Option Addr} {sl__law_blend : Array (Option Value)} {oc__law_blend kV__law_blend dc__law_blend pm__law_blend cd__law_blend ct__law_blend : Value}
    {od__law_draw an__law_draw : Option Addr} {sl__law_draw : Array (Option Value)} {oc__law_draw kV__law_draw dc__law_draw pm__law_draw cd__law_draw ct__law_draw : Value}
    {od__law_pick an__law_pick : Option Addr} {sl__law_pick : Array (Option Value)} {oc__law_pick kV__law_pick dc__law_pick pm__law_pick cd__law_pick ct__law_pick : Value}
    {od__law_shuffled an__law_shuffled : Option Addr} {sl__law_shuffled : Array (Option Value)} {oc__law_shuffled kV__law_shuffled dc__law_shuffled pm__law_shuffled cd__law_shuffled ct__law_shuffled : Value}
    {od__law_state an__law_state : Option Addr} {sl__law_state : Array (Option Value)} {oc__law_state kV__law_state dc__law_state pm__law_state cd__law_state ct__law_state : Value}
    {od__law_left an__law_left : Option Addr} {sl__law_left : Array (Option Value)} {oc__law_left kV__law_left dc__law_left pm__law_left cd__law_left ct__law_left : Value}
    {od__law_told_right an__law_told_right : Option Addr} {sl__law_told_right : Array (Option Value)} {oc__law_told_right kV__law_told_right dc__law_told_right pm__law_told_right cd__law_told_right ct__law_told_right : Value}
    {od__law_refused an__law_refused : Option Addr} {sl__law_refused : Array (Option Value)} {oc__law_refused kV__law_refused dc__law_refused pm__law_refused ct__law_refused : Value}
    {od__law_row an__law_row : Option Addr} {sl__law_row : Array (Option Value)} {oc__law_row kV__law_row dc__law_row pm__law_row cd__law_row ct__law_row : Value}
    {od__law_heard_right an__law_heard_right : Option Addr} {sl__law_heard_right : Array (Option Value)} {oc__law_heard_right kV__law_heard_right dc__law_heard_right pm__law_heard_right cd__law_heard_right ct__law_heard_right : Value}
    {od__law_turned_right an__law_turned_right : Option Addr} {sl__law_turned_right : Array (Option Value)} {oc__law_turned_right kV__law_turned_right dc__law_turned_right pm__law_turned_right cd__law_turned_right ct__law_turned_right : Value}
    {od_law an_law : Option Addr} {sl_law : Array (Option Value)} {oc_law kV_law dc_law pm_law cd_law ct_law : Value}
    (aC_Listener : PySem.W.nsIn K mainGlobals "Listener" = some (some (.ref C_Listener)))
    (pg_Listener : PySem.W.plainGet K C_Listener Str.empty = true)
    (hd_Listener : PySem.W.hasDictIn K C_Listener = true)
    (po_Listener : PySem.W.plainOver K C_Listener = true)
    (sa_Listener : PySem.W.findIn K (.ref C_Listener) "__setattr__" = some (some (.builtin "object.__setattr__")))
    (mk_Listener : PySem.W.makesIn K C_Listener = true)
    (kc_Listener : PySem.W.keepIn K (.ref C_Listener) = true)
    (n_Listener_taps : PySem.W.findIn K (.ref C_Listener) "taps" = some none)
    (n_Listener_before : PySem.W.findIn K (.ref C_Listener) "before" = some none)
    (n_Listener_rows : PySem.W.findIn K (.ref C_Listener) "rows" = some none)
    (a_is_number : PySem.W.nsIn K mainGlobals "is_number" = some (some (.ref f_is_number)))
    (l_is_number : K.lookup f_is_number = some ⟨oc_is_number, od_is_number, .func (PySem.W.fnOf "is_number" "is_number" (defArgs s_is_number) (defBody s_is_number) (defScope s_is_number) .none kV_is_number dc_is_number pm_is_number an_is_number cd_is_number ct_is_number), sl_is_number⟩)
    (c_is_number_ : PySem.W.codeIn K cd_is_number "is_number" = true)
    (k_is_number : PySem.W.keepIn K (.ref f_is_number) = true)
    (a_is_between : PySem.W.nsIn K mainGlobals "is_between" = some (some (.ref f_is_between)))
    (l_is_between : K.lookup f_is_between = some ⟨oc_is_between, od_is_between, .func (PySem.W.fnOf "is_between" "is_between" (defArgs s_is_between) (defBody s_is_between) (defScope s_is_between) .none kV_is_between dc_is_between pm_is_between an_is_between cd_is_between ct_is_between), sl_is_between⟩)
    (c_is_between_ : PySem.W.codeIn K cd_is_between "is_between" = true)
    (k_is_between : PySem.W.keepIn K (.ref f_is_between) = true)
    (a_divisor : PySem.W.nsIn K mainGlobals "divisor" = some (some (.ref f_divisor)))
    (l_divisor : K.lookup f_divisor = some ⟨oc_divisor, od_divisor, .func (PySem.W.fnOf "divisor" "divisor" (defArgs s_divisor) (defBody s_divisor) (defScope s_divisor) .none kV_divisor dc_divisor pm_divisor an_divisor cd_divisor ct_divisor), sl_divisor⟩)
    (c_divisor_ : PySem.W.codeIn K cd_divisor "divisor" = true)
    (k_divisor : PySem.W.keepIn K (.ref f_divisor) = true)
    (a_lowest : PySem.W.nsIn K mainGlobals "lowest" = some (some (.ref f_lowest)))
    (l_lowest : K.lookup f_lowest = some ⟨oc_lowest, od_lowest, .func (PySem.W.fnOf "lowest" "lowest" (defArgs s_lowest) (defBody s_lowest) (defScope s_lowest) .none kV_lowest dc_lowest pm_lowest an_lowest cd_lowest ct_lowest), sl_lowest⟩)
    (c_lowest_ : PySem.W.codeIn K cd_lowest "lowest" = true)
    (k_lowest : PySem.W.keepIn K (.ref f_lowest) = true)
    (a_less : PySem.W.nsIn K mainGlobals "less" = some (some (.ref f_less)))
    (l_less : K.lookup f_less = some ⟨oc_less, od_less, .func (PySem.W.fnOf "less" "less" (defArgs s_less) (defBody s_less) (defScope s_less) .none kV_less dc_less pm_less an_less cd_less ct_less), sl_less⟩)
    (c_less_ : PySem.W.codeIn K cd_less "less" = true)
    (k_less : PySem.W.keepIn K (.ref f_less) = true)
    (a_product : PySem.W.nsIn K mainGlobals "product" = some (some (.ref f_product)))
    (l_product : K.lookup f_product = some ⟨oc_product, od_product, .func (PySem.W.fnOf "product" "product" (defArgs s_product) (defBody s_product) (defScope s_product) .none kV_product dc_product pm_product an_product cd_product ct_product), sl_product⟩)
    (c_product_ : PySem.W.codeIn K cd_product "product" = true)
    (k_product : PySem.W.keepIn K (.ref f_product) = true)
    (a_parted : PySem.W.nsIn K mainGlobals "parted" = some (some (.ref f_parted)))
    (l_parted : K.lookup f_parted = some ⟨oc_parted, od_parted, .func (PySem.W.fnOf "parted" "parted" (defArgs s_parted) (defBody s_parted) (defScope s_parted) .none kV_parted dc_parted pm_parted an_parted cd_parted ct_parted), sl_parted⟩)
    (c_parted_ : PySem.W.codeIn K cd_parted "parted" = true)
    (k_parted : PySem.W.keepIn K (.ref f_parted) = true)
    (a_scaled : PySem.W.nsIn K mainGlobals "scaled" = some (some (.ref f_scaled)))
    (l_scaled : K.lookup f_scaled = some ⟨oc_scaled, od_scaled, .func (PySem.W.fnOf "scaled" "scaled" (defArgs s_scaled) (defBody s_scaled) (defScope s_scaled) .none kV_scaled dc_scaled pm_scaled an_scaled cd_scaled ct_scaled), sl_scaled⟩)
    (c_scaled_ : PySem.W.codeIn K cd_scaled "scaled" = true)
    (k_scaled : PySem.W.keepIn K (.ref f_scaled) = true)
    (a_taken : PySem.W.nsIn K mainGlobals "taken" = some (some (.ref f_taken)))
    (l_taken : K.lookup f_taken = some ⟨oc_taken, od_taken, .func (PySem.W.fnOf "taken" "taken" (defArgs s_taken) (defBody s_taken) (defScope s_taken) .none kV_taken dc_taken pm_taken an_taken cd_taken ct_taken), sl_taken⟩)
    (c_taken_ : PySem.W.codeIn K cd_taken "taken" = true)
    (k_taken : PySem.W.keepIn K (.ref f_taken) = true)
    (a_lead_of : PySem.W.nsIn K mainGlobals "lead_of" = some (some (.ref f_lead_of)))
    (l_lead_of : K.lookup f_lead_of = some ⟨oc_lead_of, od_lead_of, .func (PySem.W.fnOf "lead_of" "lead_of" (defArgs s_lead_of) (defBody s_lead_of) (defScope s_lead_of) .none kV_lead_of dc_lead_of pm_lead_of an_lead_of cd_lead_of ct_lead_of), sl_lead_of⟩)
    (c_lead_of_ : PySem.W.codeIn K cd_lead_of "lead_of" = true)
    (k_lead_of : PySem.W.keepIn K (.ref f_lead_of) = true)
    (a_cleared : PySem.W.nsIn K mainGlobals "cleared" = some (some (.ref f_cleared)))
    (l_cleared : K.lookup f_cleared = some ⟨oc_cleared, od_cleared, .func (PySem.W.fnOf "cleared" "cleared" (defArgs s_cleared) (defBody s_cleared) (defScope s_cleared) .none kV_cleared dc_cleared pm_cleared an_cleared cd_cleared ct_cleared), sl_cleared⟩)
    (c_cleared_ : PySem.W.codeIn K cd_cleared "cleared" = true)
    (k_cleared : PySem.W.keepIn K (.ref f_cleared) = true)
    (a_with_row : PySem.W.nsIn K mainGlobals "with_row" = some (some (.ref f_with_row)))
    (l_with_row : K.lookup f_with_row = some ⟨oc_with_row, od_with_row, .func (PySem.W.fnOf "with_row" "with_row" (defArgs s_with_row) (defBody s_with_row) (defScope s_with_row) .none kV_with_row dc_with_row pm_with_row an_with_row cd_with_row ct_with_row), sl_with_row⟩)
    (c_with_row_ : PySem.W.codeIn K cd_with_row "with_row" = true)
    (k_with_row : PySem.W.keepIn K (.ref f_with_row) = true)
    (a_is_sound : PySem.W.nsIn K mainGlobals "is_sound" = some (some (.ref f_is_sound)))
    (l_is_sound : K.lookup f_is_sound = some ⟨oc_is_sound, od_is_sound, .func (PySem.W.fnOf "is_sound" "is_sound" (defArgs s_is_sound) (defBody s_is_sound) (defScope s_is_sound) .none kV_is_sound dc_is_sound pm_is_sound an_is_sound cd_is_sound ct_is_sound), sl_is_sound⟩)
    (c_is_sound_ : PySem.W.codeIn K cd_is_sound "is_sound" = true)
    (k_is_sound : PySem.W.keepIn K (.ref f_is_sound) = true)
    (a_need_sounds : PySem.W.nsIn K mainGlobals "need_sounds" = some (some (.ref f_need_sounds)))
    (l_need_sounds : K.lookup f_need_sounds = some ⟨oc_need_sounds, od_need_sounds, .func (PySem.W.fnOf "need_sounds" "need_sounds" (defArgs s_need_sounds) (defBody s_need_sounds) (defScope s_need_sounds) .none kV_need_sounds dc_need_sounds pm_need_sounds an_need_sounds cd_need_sounds ct_need_sounds), sl_need_sounds⟩)
    (c_need_sounds_ : PySem.W.codeIn K cd_need_sounds "need_sounds" = true)
    (k_need_sounds : PySem.W.keepIn K (.ref f_need_sounds) = true)
    (a_Listener_init : PySem.W.findIn K (.ref C_Listener) "__init__" = some (some (.ref f_Listener_init)))
    (i_Listener_init : PySem.W.isFn K (.ref f_Listener_init) = true)
    (l_Listener_init : K.lookup f_Listener_init = some ⟨oc_Listener_init, od_Listener_init, .func (PySem.W.fnOf "__init__" "Listener.__init__" (defArgs s_Listener_init) (defBody s_Listener_init) (defScope s_Listener_init) .none kV_Listener_init dc_Listener_init pm_Listener_init an_Listener_init cd_Listener_init ct_Listener_init), sl_Listener_init⟩)
    (c_Listener_init_ : PySem.W.codeIn K cd_Listener_init "Listener.__init__" = true)
    (k_Listener_init : PySem.W.keepIn K (.ref f_Listener_init) = true)
    (a_Listener_next_row : PySem.W.findIn K (.ref C_Listener) "next_row" = some (some (.ref f_Listener_next_row)))
    (i_Listener_next_row : PySem.W.isFn K (.ref f_Listener_next_row) = true)
    (l_Listener_next_row : K.lookup f_Listener_next_row = some ⟨oc_Listener_next_row, od_Listener_next_row, .func (PySem.W.fnOf "next_row" "Listener.next_row" (defArgs s_Listener_next_row) (defBody s_Listener_next_row) (defScope s_Listener_next_row) .none kV_Listener_next_row dc_Listener_next_row pm_Listener_next_row an_Listener_next_row cd_Listener_next_row ct_Listener_next_row), sl_Listener_next_row⟩)
    (c_Listener_next_row_ : PySem.W.codeIn K cd_Listener_next_row "Listener.next_row" = true)
    (k_Listener_next_row : PySem.W.keepIn K (.ref f_Listener_next_row) = true)
    (a_Listener_hear : PySem.W.findIn K (.ref C_Listener) "hear" = some (some (.ref f_Listener_hear)))
    (i_Listener_hear : PySem.W.isFn K (.ref f_Listener_hear) = true)
    (l_Listener_hear : K.lookup f_Listener_hear = some ⟨oc_Listener_hear, od_Listener_hear, .func (PySem.W.fnOf "hear" "Listener.hear" (defArgs s_Listener_hear) (defBody s_Listener_hear) (defScope s_Listener_hear) .none kV_Listener_hear dc_Listener_hear pm_Listener_hear an_Listener_hear cd_Listener_hear ct_Listener_hear), sl_Listener_hear⟩)
    (c_Listener_hear_ : PySem.W.codeIn K cd_Listener_hear "Listener.hear" = true)
    (k_Listener_hear : PySem.W.keepIn K (.ref f_Listener_hear) = true)
    (a_Listener_known : PySem.W.findIn K (.ref C_Listener) "known" = some (some (.ref f_Listener_known)))
    (i_Listener_known : PySem.W.isFn K (.ref f_Listener_known) = true)
    (l_Listener_known : K.lookup f_Listener_known = some ⟨oc_Listener_known, od_Listener_known, .func (PySem.W.fnOf "known" "Listener.known" (defArgs s_Listener_known) (defBody s_Listener_known) (defScope s_Listener_known) .none kV_Listener_known dc_Listener_known pm_Listener_known an_Listener_known cd_Listener_known ct_Listener_known), sl_Listener_known⟩)
    (c_Listener_known_ : PySem.W.codeIn K cd_Listener_known "Listener.known" = true)
    (k_Listener_known : PySem.W.keepIn K (.ref f_Listener_known) = true)
    (a_Listener_fits_none : PySem.W.findIn K (.ref C_Listener) "fits_none" = some (some (.ref f_Listener_fits_none)))
    (i_Listener_fits_none : PySem.W.isFn K (.ref f_Listener_fits_none) = true)
    (l_Listener_fits_none : K.lookup f_Listener_fits_none = some ⟨oc_Listener_fits_none, od_Listener_fits_none, .func (PySem.W.fnOf "fits_none" "Listener.fits_none" (defArgs s_Listener_fits_none) (defBody s_Listener_fits_none) (defScope s_Listener_fits_none) .none kV_Listener_fits_none dc_Listener_fits_none pm_Listener_fits_none an_Listener_fits_none cd_Listener_fits_none ct_Listener_fits_none), sl_Listener_fits_none⟩)
    (c_Listener_fits_none_ : PySem.W.codeIn K cd_Listener_fits_none "Listener.fits_none" = true)
    (k_Listener_fits_none : PySem.W.keepIn K (.ref f_Listener_fits_none) = true)
    (a_Listener_word : PySem.W.findIn K (.ref C_Listener) "word" = some (some (.ref f_Listener_word)))
    (i_Listener_word : PySem.W.isFn K (.ref f_Listener_word) = true)
    (l_Listener_word : K.lookup f_Listener_word = some ⟨oc_Listener_word, od_Listener_word, .func (PySem.W.fnOf "word" "Listener.word" (defArgs s_Listener_word) (defBody s_Listener_word) (defScope s_Listener_word) .none kV_Listener_word dc_Listener_word pm_Listener_word an_Listener_word cd_Listener_word ct_Listener_word), sl_Listener_word⟩)
    (c_Listener_word_ : PySem.W.codeIn K cd_Listener_word "Listener.word" = true)
    (k_Listener_word : PySem.W.keepIn K (.ref f_Listener_word) = true)
    (a_Listener_path : PySem.W.findIn K (.ref C_Listener) "path" = some (some (.ref f_Listener_path)))
    (i_Listener_path : PySem.W.isFn K (.ref f_Listener_path) = true)
    (l_Listener_path : K.lookup f_Listener_path = some ⟨oc_Listener_path, od_Listener_path, .func (PySem.W.fnOf "path" "Listener.path" (defArgs s_Listener_path) (defBody s_Listener_path) (defScope s_Listener_path) .none kV_Listener_path dc_Listener_path pm_Listener_path an_Listener_path cd_Listener_path ct_Listener_path), sl_Listener_path⟩)
    (c_Listener_path_ : PySem.W.codeIn K cd_Listener_path "Listener.path" = true)
    (k_Listener_path : PySem.W.keepIn K (.ref f_Listener_path) = true)
    (a_Listener_left : PySem.W.findIn K (.ref C_Listener) "left" = some (some (.ref f_Listener_left)))
    (i_Listener_left : PySem.W.isFn K (.ref f_Listener_left) = true)
    (l_Listener_left : K.lookup f_Listener_left = some ⟨oc_Listener_left, od_Listener_left, .func (PySem.W.fnOf "left" "Listener.left" (defArgs s_Listener_left) (defBody s_Listener_left) (defScope s_Listener_left) .none kV_Listener_left dc_Listener_left pm_Listener_left an_Listener_left cd_Listener_left ct_Listener_left), sl_Listener_left⟩)
    (c_Listener_left_ : PySem.W.codeIn K cd_Listener_left "Listener.left" = true)
    (k_Listener_left : PySem.W.keepIn K (.ref f_Listener_left) = true)
    (a__law_caught : PySem.W.nsIn K mainGlobals "_law_caught" = some (some (.ref f__law_caught)))
    (l__law_caught : K.lookup f__law_caught = some ⟨oc__law_caught, od__law_caught, .func (PySem.W.fnOf "_law_caught" "_law_caught" (defArgs s__law_caught) (defBody s__law_caught) (defScope s__law_caught) .none kV__law_caught dc__law_caught pm__law_caught an__law_caught cd__law_caught ct__law_caught), sl__law_caught⟩)
    (c__law_caught_ : PySem.W.codeIn K cd__law_caught "_law_caught" = true)
    (k__law_caught : PySem.W.keepIn K (.ref f__law_caught) = true)
    (a__law_gcd : PySem.W.nsIn K mainGlobals "_law_gcd" = some (some (.ref f__law_gcd)))
    (l__law_gcd : K.lookup f__law_gcd = some ⟨oc__law_gcd, od__law_gcd, .func (PySem.W.fnOf "_law_gcd" "_law_gcd" (defArgs s__law_gcd) (defBody s__law_gcd) (defScope s__law_gcd) .none kV__law_gcd dc__law_gcd pm__law_gcd an__law_gcd cd__law_gcd ct__law_gcd), sl__law_gcd⟩)
    (c__law_gcd_ : PySem.W.codeIn K cd__law_gcd "_law_gcd" = true)
    (k__law_gcd : PySem.W.keepIn K (.ref f__law_gcd) = true)
    (a__law_fr : PySem.W.nsIn K mainGlobals "_law_fr" = some (some (.ref f__law_fr)))
    (l__law_fr : K.lookup f__law_fr = some ⟨oc__law_fr, od__law_fr, .func (PySem.W.fnOf "_law_fr" "_law_fr" (defArgs s__law_fr) (defBody s__law_fr) (defScope s__law_fr) .none kV__law_fr dc__law_fr pm__law_fr an__law_fr cd__law_fr ct__law_fr), sl__law_fr⟩)
    (c__law_fr_ : PySem.W.codeIn K cd__law_fr "_law_fr" = true)
    (k__law_fr : PySem.W.keepIn K (.ref f__law_fr) = true)
    (a__law_plus : PySem.W.nsIn K mainGlobals "_law_plus" = some (some (.ref f__law_plus)))
    (l__law_plus : K.lookup f__law_plus = some ⟨oc__law_plus, od__law_plus, .func (PySem.W.fnOf "_law_plus" "_law_plus" (defArgs s__law_plus) (defBody s__law_plus) (defScope s__law_plus) .none kV__law_plus dc__law_plus pm__law_plus an__law_plus cd__law_plus ct__law_plus), sl__law_plus⟩)
    (c__law_plus_ : PySem.W.codeIn K cd__law_plus "_law_plus" = true)
    (k__law_plus : PySem.W.keepIn K (.ref f__law_plus) = true)
    (a__law_times : PySem.W.nsIn K mainGlobals "_law_times" = some (some (.ref f__law_times)))
    (l__law_times : K.lookup f__law_times = some ⟨oc__law_times, od__law_times, .func (PySem.W.fnOf "_law_times" "_law_times" (defArgs s__law_times) (defBody s__law_times) (defScope s__law_times) .none kV__law_times dc__law_times pm__law_times an__law_times cd__law_times ct__law_times), sl__law_times⟩)
    (c__law_times_ : PySem.W.codeIn K cd__law_times "_law_times" = true)
    (k__law_times : PySem.W.keepIn K (.ref f__law_times) = true)
    (a__law_dotted : PySem.W.nsIn K mainGlobals "_law_dotted" = some (some (.ref f__law_dotted)))
    (l__law_dotted : K.lookup f__law_dotted = some ⟨oc__law_dotted, od__law_dotted, .func (PySem.W.fnOf "_law_dotted" "_law_dotted" (defArgs s__law_dotted) (defBody s__law_dotted) (defScope s__law_dotted) .none kV__law_dotted dc__law_dotted pm__law_dotted an__law_dotted cd__law_dotted ct__law_dotted), sl__law_dotted⟩)
    (c__law_dotted_ : PySem.W.codeIn K cd__law_dotted "_law_dotted" = true)
    (k__law_dotted : PySem.W.keepIn K (.ref f__law_dotted) = true)
    (a__law_summed : PySem.W.nsIn K mainGlobals "_law_summed" = some (some (.ref f__law_summed)))
    (l__law_summed : K.lookup f__law_summed = some ⟨oc__law_summed, od__law_summed, .func (PySem.W.fnOf "_law_summed" "_law_summed" (defArgs s__law_summed) (defBody s__law_summed) (defScope s__law_summed) .none kV__law_summed dc__law_summed pm__law_summed an__law_summed cd__law_summed ct__law_summed), sl__law_summed⟩)
    (c__law_summed_ : PySem.W.codeIn K cd__law_summed "_law_summed" = true)
    (k__law_summed : PySem.W.keepIn K (.ref f__law_summed) = true)
    (a__law_lesser : PySem.W.nsIn K mainGlobals "_law_lesser" = some (some (.ref f__law_lesser)))
    (l__law_lesser : K.lookup f__law_lesser = some ⟨oc__law_lesser, od__law_lesser, .func (PySem.W.fnOf "_law_lesser" "_law_lesser" (defArgs s__law_lesser) (defBody s__law_lesser) (defScope s__law_lesser) .none kV__law_lesser dc__law_lesser pm__law_lesser an__law_lesser cd__law_lesser ct__law_lesser), sl__law_lesser⟩)
    (c__law_lesser_ : PySem.W.codeIn K cd__law_lesser "_law_lesser" = true)
    (k__law_lesser : PySem.W.keepIn K (.ref f__law_lesser) = true)
    (a__law_reduced : PySem.W.nsIn K mainGlobals "_law_reduced" = some (some (.ref f__law_reduced)))
    (l__law_reduced : K.lookup f__law_reduced = some ⟨oc__law_reduced, od__law_reduced, .func (PySem.W.fnOf "_law_reduced" "_law_reduced" (defArgs s__law_reduced) (defBody s__law_reduced) (defScope s__law_reduced) .none kV__law_reduced dc__law_reduced pm__law_reduced an__law_reduced cd__law_reduced ct__law_reduced), sl__law_reduced⟩)
    (c__law_reduced_ : PySem.W.codeIn K cd__law_reduced "_law_reduced" = true)
    (k__law_reduced : PySem.W.keepIn K (.ref f__law_reduced) = true)
    (a__law_fractions : PySem.W.nsIn K mainGlobals "_law_fractions" = some (some (.ref f__law_fractions)))
    (l__law_fractions : K.lookup f__law_fractions = some ⟨oc__law_fractions, od__law_fractions, .func (PySem.W.fnOf "_law_fractions" "_law_fractions" (defArgs s__law_fractions) (defBody s__law_fractions) (defScope s__law_fractions) .none kV__law_fractions dc__law_fractions pm__law_fractions an__law_fractions cd__law_fractions ct__law_fractions), sl__law_fractions⟩)
    (c__law_fractions_ : PySem.W.codeIn K cd__law_fractions "_law_fractions" = true)
    (k__law_fractions : PySem.W.keepIn K (.ref f__law_fractions) = true)
    (a__law_begun : PySem.W.nsIn K mainGlobals "_law_begun" = some (some (.ref f__law_begun)))
    (l__law_begun : K.lookup f__law_begun = some ⟨oc__law_begun, od__law_begun, .func (PySem.W.fnOf "_law_begun" "_law_begun" (defArgs s__law_begun) (defBody s__law_begun) (defScope s__law_begun) .none kV__law_begun dc__law_begun pm__law_begun an__law_begun cd__law_begun ct__law_begun), sl__law_begun⟩)
    (c__law_begun_ : PySem.W.codeIn K cd__law_begun "_law_begun" = true)
    (k__law_begun : PySem.W.keepIn K (.ref f__law_begun) = true)
    (a__law_blend : PySem.W.nsIn K mainGlobals "_law_blend" = some (some (.ref f__law_blend)))
    (l__law_blend : K.lookup f__law_blend = some ⟨oc__law_blend, od__law_blend, .func (PySem.W.fnOf "_law_blend" "_law_blend" (defArgs s__law_blend) (defBody s__law_blend) (defScope s__law_blend) .none kV__law_blend dc__law_blend pm__law_blend an__law_blend cd__law_blend ct__law_blend), sl__law_blend⟩)
    (c__law_blend_ : PySem.W.codeIn K cd__law_blend "_law_blend" = true)
    (k__law_blend : PySem.W.keepIn K (.ref f__law_blend) = true)
    (a__law_draw : PySem.W.nsIn K mainGlobals "_law_draw" = some (some (.ref f__law_draw)))
    (l__law_draw : K.lookup f__law_draw = some ⟨oc__law_draw, od__law_draw, .func (PySem.W.fnOf "_law_draw" "_law_draw" (defArgs s__law_draw) (defBody s__law_draw) (defScope s__law_draw) .none kV__law_draw dc__law_draw pm__law_draw an__law_draw cd__law_draw ct__law_draw), sl__law_draw⟩)
    (c__law_draw_ : PySem.W.codeIn K cd__law_draw "_law_draw" = true)
    (k__law_draw : PySem.W.keepIn K (.ref f__law_draw) = true)
    (a__law_pick : PySem.W.nsIn K mainGlobals "_law_pick" = some (some (.ref f__law_pick)))
    (l__law_pick : K.lookup f__law_pick = some ⟨oc__law_pick, od__law_pick, .func (PySem.W.fnOf "_law_pick" "_law_pick" (defArgs s__law_pick) (defBody s__law_pick) (defScope s__law_pick) .none kV__law_pick dc__law_pick pm__law_pick an__law_pick cd__law_pick ct__law_pick), sl__law_pick⟩)
    (c__law_pick_ : PySem.W.codeIn K cd__law_pick "_law_pick" = true)
    (k__law_pick : PySem.W.keepIn K (.ref f__law_pick) = true)
    (a__law_shuffled : PySem.W.nsIn K mainGlobals "_law_shuffled" = some (some (.ref f__law_shuffled)))
    (l__law_shuffled : K.lookup f__law_shuffled = some ⟨oc__law_shuffled, od__law_shuffled, .func (PySem.W.fnOf "_law_shuffled" "_law_shuffled" (defArgs s__law_shuffled) (defBody s__law_shuffled) (defScope s__law_shuffled) .none kV__law_shuffled dc__law_shuffled pm__law_shuffled an__law_shuffled cd__law_shuffled ct__law_shuffled), sl__law_shuffled⟩)
    (c__law_shuffled_ : PySem.W.codeIn K cd__law_shuffled "_law_shuffled" = true)
    (k__law_shuffled : PySem.W.keepIn K (.ref f__law_shuffled) = true)
    (a__law_state : PySem.W.nsIn K mainGlobals "_law_state" = some (some (.ref f__law_state)))
    (l__law_state : K.lookup f__law_state = some ⟨oc__law_state, od__law_state, .func (PySem.W.fnOf "_law_state" "_law_state" (defArgs s__law_state) (defBody s__law_state) (defScope s__law_state) .none kV__law_state dc__law_state pm__law_state an__law_state cd__law_state ct__law_state), sl__law_state⟩)
    (c__law_state_ : PySem.W.codeIn K cd__law_state "_law_state" = true)
    (k__law_state : PySem.W.keepIn K (.ref f__law_state) = true)
    (a__law_left : PySem.W.nsIn K mainGlobals "_law_left" = some (some (.ref f__law_left)))
    (l__law_left : K.lookup f__law_left = some ⟨oc__law_left, od__law_left, .func (PySem.W.fnOf "_law_left" "_law_left" (defArgs s__law_left) (defBody s__law_left) (defScope s__law_left) .none kV__law_left dc__law_left pm__law_left an__law_left cd__law_left ct__law_left), sl__law_left⟩)
    (c__law_left_ : PySem.W.codeIn K cd__law_left "_law_left" = true)
    (k__law_left : PySem.W.keepIn K (.ref f__law_left) = true)
    (a__law_told_right : PySem.W.nsIn K mainGlobals "_law_told_right" = some (some (.ref f__law_told_right)))
    (l__law_told_right : K.lookup f__law_told_right = some ⟨oc__law_told_right, od__law_told_right, .func (PySem.W.fnOf "_law_told_right" "_law_told_right" (defArgs s__law_told_right) (defBody s__law_told_right) (defScope s__law_told_right) .none kV__law_told_right dc__law_told_right pm__law_told_right an__law_told_right cd__law_told_right ct__law_told_right), sl__law_told_right⟩)
    (c__law_told_right_ : PySem.W.codeIn K cd__law_told_right "_law_told_right" = true)
    (k__law_told_right : PySem.W.keepIn K (.ref f__law_told_right) = true)
    (a__law_refused : PySem.W.nsIn K mainGlobals "_law_refused" = some (some (.ref f__law_refused)))
    (l__law_refused : K.lookup f__law_refused = some ⟨oc__law_refused, od__law_refused, .func (PySem.W.fnOf "_law_refused" "_law_refused" (defArgs s__law_refused) (defBody s__law_refused) (defScope s__law_refused) .none kV__law_refused dc__law_refused pm__law_refused an__law_refused (.ref c__law_refused) ct__law_refused), sl__law_refused⟩)
    (c__law_refused_ : PySem.W.codeIn K (.ref c__law_refused) "_law_refused" = true)
    (k__law_refused : PySem.W.keepIn K (.ref f__law_refused) = true)
    (a__law_row : PySem.W.nsIn K mainGlobals "_law_row" = some (some (.ref f__law_row)))
    (l__law_row : K.lookup f__law_row = some ⟨oc__law_row, od__law_row, .func (PySem.W.fnOf "_law_row" "_law_row" (defArgs s__law_row) (defBody s__law_row) (defScope s__law_row) .none kV__law_row dc__law_row pm__law_row an__law_row cd__law_row ct__law_row), sl__law_row⟩)
    (c__law_row_ : PySem.W.codeIn K cd__law_row "_law_row" = true)
    (k__law_row : PySem.W.keepIn K (.ref f__law_row) = true)
    (a__law_heard_right : PySem.W.nsIn K mainGlobals "_law_heard_right" = some (some (.ref f__law_heard_right)))
    (l__law_heard_right : K.lookup f__law_heard_right = some ⟨oc__law_heard_right, od__law_heard_right, .func (PySem.W.fnOf "_law_heard_right" "_law_heard_right" (defArgs s__law_heard_right) (defBody s__law_heard_right) (defScope s__law_heard_right) .none kV__law_heard_right dc__law_heard_right pm__law_heard_right an__law_heard_right cd__law_heard_right ct__law_heard_right), sl__law_heard_right⟩)
    (c__law_heard_right_ : PySem.W.codeIn K cd__law_heard_right "_law_heard_right" = true)
    (k__law_heard_right : PySem.W.keepIn K (.ref f__law_heard_right) = true)
    (a__law_turned_right : PySem.W.nsIn K mainGlobals "_law_turned_right" = some (some (.ref f__law_turned_right)))
    (l__law_turned_right : K.lookup f__law_turned_right = some ⟨oc__law_turned_right, od__law_turned_right, .func (PySem.W.fnOf "_law_turned_right" "_law_turned_right" (defArgs s__law_turned_right) (defBody s__law_turned_right) (defScope s__law_turned_right) .none kV__law_turned_right dc__law_turned_right pm__law_turned_right an__law_turned_right cd__law_turned_right ct__law_turned_right), sl__law_turned_right⟩)
    (c__law_turned_right_ : PySem.W.codeIn K cd__law_turned_right "_law_turned_right" = true)
    (k__law_turned_right : PySem.W.keepIn K (.ref f__law_turned_right) = true)
    (a_law : PySem.W.nsIn K mainGlobals "law" = some (some (.ref f_law)))
    (l_law : K.lookup f_law = some ⟨oc_law, od_law, .func (PySem.W.fnOf "law" "law" (defArgs s_law) (defBody s_law) (defScope s_law) .none kV_law dc_law pm_law an_law cd_law ct_law), sl_law⟩)
    (c_law_ : PySem.W.codeIn K cd_law "law" = true)
    (k_law : PySem.W.keepIn K (.ref f_law) = true)
    (z_abs : PySem.W.nsIn K mainGlobals "abs" = some none)
    (z_any : PySem.W.nsIn K mainGlobals "any" = some none)
    (z_bool : PySem.W.nsIn K mainGlobals "bool" = some none)
    (z_dict : PySem.W.nsIn K mainGlobals "dict" = some none)
    (z_int : PySem.W.nsIn K mainGlobals "int" = some none)
    (z_isinstance : PySem.W.nsIn K mainGlobals "isinstance" = some none)
    (z_len : PySem.W.nsIn K mainGlobals "len" = some none)
    (z_list : PySem.W.nsIn K mainGlobals "list" = some none)
    (z_min : PySem.W.nsIn K mainGlobals "min" = some none)
    (z_range : PySem.W.nsIn K mainGlobals "range" = some none)
    (z_repr : PySem.W.nsIn K mainGlobals "repr" = some none)
    (z_sorted : PySem.W.nsIn K mainGlobals "sorted" = some none)
    (z_tuple : PySem.W.nsIn K mainGlobals "tuple" = some none)
    (z_zip : PySem.W.nsIn K mainGlobals "zip" = some none)
    (z_super : PySem.W.nsIn K mainGlobals "super" = some none)
    (aC_CallError : PySem.W.nsIn K mainGlobals "CallError" = some (some (.ref C_CallError)))
    (aC_PartError : PySem.W.nsIn K mainGlobals "PartError" = some (some (.ref C_PartError)))
    (fi_PartError : PySem.W.findIn K (.ref C_PartError) "__init__" = some (some (.ref f_PartError_init)))
    (aC_BadNumber : PySem.W.nsIn K mainGlobals "BadNumber" = some (some (.ref C_BadNumber)))
    (ec_BadNumber : ExcC K C_BadNumber)
    (xf_BadNumber : XfC K C_BadNumber)
    (te_BadNumber : PySem.W.exmOne K (.ref C_BadNumber) (.ref C_CallError) = some true)
    (ki_BadNumber : PySem.W.kitOne K (.ref C_BadNumber) (.ref C_BadNumber) = some true)
    (pt_BadNumber : (mg ("super" : Str) = none → KX.PartT l.prog K mg C_BadNumber C_PartError f_PartError_init))
    (aC_BadQuiet : PySem.W.nsIn K mainGlobals "BadQuiet" = some (some (.ref C_BadQuiet)))
    (ec_BadQuiet : ExcC K C_BadQuiet)
    (xf_BadQuiet : XfC K C_BadQuiet)
    (te_BadQuiet : PySem.W.exmOne K (.ref C_BadQuiet) (.ref C_CallError) = some true)
    (ki_BadQuiet : PySem.W.kitOne K (.ref C_BadQuiet) (.ref C_BadQuiet) = some true)
    (xq_BadQuiet : PySem.W.excIn K C_BadQuiet [.type "ValueError", .type "Exception", .type "BaseException", .type "object"] "ValueError.__new__" = true)
    (kq_BadQuiet : PySem.W.keepIn K (.ref C_BadQuiet) = true)
    (bq_BadQuiet : PySem.W.subIn K (.ref C_BadQuiet) (.type "BaseException") = some true)
    (tq_BadQuiet : PySem.W.typeIn K (.ref C_BadQuiet) = some (.type "type"))
    (aT_ZERO : PySem.W.nsIn K mainGlobals "ZERO" = some (some (.ref a_ZERO)))
    (v_ZERO : ∀ H, SqT K H a_ZERO [.int 0, .int 1])
    (aT_ONE : PySem.W.nsIn K mainGlobals "ONE" = some (some (.ref a_ONE)))
    (v_ONE : ∀ H, SqT K H a_ONE [.int 1, .int 1])
    (ti__law_refused : PySem.W.tabIn K "_law_refused" = some (c__law_refused, P__law_refused))
    (tk__law_refused : K.lookup P__law_refused = none)
    (x_MOST_TAPS : PySem.W.nsIn K mainGlobals "MOST_TAPS" = some (some (.int 8 t_MOST_TAPS)))
    (x_MOST_SOUND : PySem.W.nsIn K mainGlobals "MOST_SOUND" = some (some (.int 1000000 t_MOST_SOUND)))
    : ∃ (fd : FuncData) (cc Pt : Addr), PySem.W.tabIn K "_law_refused" = some (cc, Pt) ∧ K.lookup Pt = none ∧ (∀ (s : Shared) (v : Value), BindsTo s fd ⟨[v], []⟩ [("script", v)]) ∧ ∀ base : Heap, K.In base → base.Ns mainGlobals mg → LamX.TabB base mg cc Pt → KG.FnG l.prog w K mg base CX0 12 fa fd ["script"] (spL K Pt) := by
  have e := hfa.symm.trans (PySem.W.mg_of X G a_law)
  cases e
  have g_MOST_TAPS := PySem.W.mg_of X G x_MOST_TAPS
  have g_MOST_SOUND := PySem.W.mg_of X G x_MOST_SOUND
  have F_is_number := fun_mk (st := s_is_number) l_is_number c_is_number_ k_is_number
  have b_is_number := F_is_number.binds (ps := ["thing"]) fun _ _ _ _ _ _ us hl => match us, hl with | [_], _ => rfl
  have F_is_between := fun_mk (st := s_is_between) l_is_between c_is_between_ k_is_between
  have b_is_between := F_is_between.binds (ps := ["thing", "low", "high"]) fun _ _ _ _ _ _ us hl => match us, hl with | [_, _, _], _ => rfl
  have F_divisor := fun_mk (st := s_divisor) l_divisor c_divisor_ k_divisor
  have b_divisor := F_divisor.binds (ps := ["one", "other"]) fun _ _ _ _ _ _ us hl => match us, hl with | [_, _], _ => rfl
  have F_lowest := fun_mk (st := s_lowest) l_lowest c_lowest_ k_lowest
  have b_lowest := F_lowest.binds (ps := ["top", "bottom"]) fun _ _ _ _ _ _ us hl => match us, hl with | [_, _], _ => rfl
  have F_less := fun_mk (st := s_less) l_less c_less_ k_less
  have b_less := F_less.binds (ps := ["one", "other"]) fun _ _ _ _ _ _ us hl => match us, hl with | [_, _], _ => rfl
  have F_product := fun_mk (st := s_product) l_product c_product_ k_product
  have b_product := F_product.binds (ps := ["one", "other"]) fun _ _ _ _ _ _ us hl => match us, hl with | [_, _], _ => rfl
  have F_parted := fun_mk (st := s_parted) l_parted c_parted_ k_parted
  have b_parted := F_parted.binds (ps := ["one", "other"]) fun _ _ _ _ _ _ us hl => match us, hl with | [_, _], _ => rfl
  have F_scaled := fun_mk (st := s_scaled) l_scaled c_scaled_ k_scaled
  have b_scaled := F_scaled.binds (ps := ["row", "share"]) fun _ _ _ _ _ _ us hl => match us, hl with | [_, _], _ => rfl
  have F_taken := fun_mk (st := s_taken) l_taken c_taken_ k_taken
  have b_taken := F_taken.binds (ps := ["row", "other", "share"]) fun _ _ _ _ _ _ us hl => match us, hl with | [_, _, _], _ => rfl
  have F_lead_of := fun_mk (st := s_lead_of) l_lead_of c_lead_of_ k_lead_of
  have b_lead_of := F_lead_of.binds (ps := ["row", "wide"]) fun _ _ _ _ _ _ us hl => match us, hl with | [_, _], _ => rfl
  have F_cleared := fun_mk (st := s_cleared) l_cleared c_cleared_ k_cleared
  have b_cleared := F_cleared.binds (ps := ["row", "others", "leads"]) fun _ _ _ _ _ _ us hl => match us, hl with | [_, _, _], _ => rfl
  have F_with_row := fun_mk (st := s_with_row) l_with_row c_with_row_ k_with_row
  have b_with_row := F_with_row.binds (ps := ["kept", "row", "wide"]) fun _ _ _ _ _ _ us hl => match us, hl with | [_, _, _], _ => rfl
  have F_is_sound := fun_mk (st := s_is_sound) l_is_sound c_is_sound_ k_is_sound
  have b_is_sound := F_is_sound.binds (ps := ["thing"]) fun _ _ _ _ _ _ us hl => match us, hl with | [_], _ => rfl
  have F_need_sounds := fun_mk (st := s_need_sounds) l_need_sounds c_need_sounds_ k_need_sounds
  have b_need_sounds := F_need_sounds.binds (ps := ["sent", "heard"]) fun _ _ _ _ _ _ us hl => match us, hl with | [_, _], _ => rfl
  have F_Listener_init := fun_mk (st := s_Listener_init) l_Listener_init c_Listener_init_ k_Listener_init
  have b_Listener_init := F_Listener_init.binds (ps := ["self", "taps"]) fun _ _ _ _ _ _ us hl => match us, hl with | [_, _], _ => rfl
  have F_Listener_next_row := fun_mk (st := s_Listener_next_row) l_Listener_next_row c_Listener_next_row_ k_Listener_next_row
  have b_Listener_next_row := F_Listener_next_row.binds (ps := ["self", "sent", "heard"]) fun _ _ _ _ _ _ us hl => match us, hl with | [_, _, _], _ => rfl
  have F_Listener_hear := fun_mk (st := s_Listener_hear) l_Listener_hear c_Listener_hear_ k_Listener_hear
  have b_Listener_hear := F_Listener_hear.binds (ps := ["self", "sent", "heard", "quiet"]) fun _ _ _ _ _ _ us hl => match us, hl with | [_, _, _, _], _ => rfl
  have F_Listener_known := fun_mk (st := s_Listener_known) l_Listener_known c_Listener_known_ k_Listener_known
  have b_Listener_known := F_Listener_known.binds (ps := ["self"]) fun _ _ _ _ _ _ us hl => match us, hl with | [_], _ => rfl
  have F_Listener_fits_none := fun_mk (st := s_Listener_fits_none) l_Listener_fits_none c_Listener_fits_none_ k_Listener_fits_none
  have b_Listener_fits_none := F_Listener_fits_none.binds (ps := ["self"]) fun _ _ _ _ _ _ us hl => match us, hl with | [_], _ => rfl
  have F_Listener_word := fun_mk (st := s_Listener_word) l_Listener_word c_Listener_word_ k_Listener_word
  have b_Listener_word := F_Listener_word.binds (ps := ["self"]) fun _ _ _ _ _ _ us hl => match us, hl with | [_], _ => rfl
  have F_Listener_path := fun_mk (st := s_Listener_path) l_Listener_path c_Listener_path_ k_Listener_path
  have b_Listener_path := F_Listener_path.binds (ps := ["self"]) fun _ _ _ _ _ _ us hl => match us, hl with | [_], _ => rfl
  have F_Listener_left := fun_mk (st := s_Listener_left) l_Listener_left c_Listener_left_ k_Listener_left
  have b_Listener_left := F_Listener_left.binds (ps := ["self", "sent", "heard"]) fun _ _ _ _ _ _ us hl => match us, hl with | [_, _, _], _ => rfl
  have F__law_caught := fun_mk (st := s__law_caught) l__law_caught c__law_caught_ k__law_caught
  have b__law_caught := F__law_caught.binds (ps := ["work"]) fun _ _ _ _ _ _ us hl => match us, hl with | [_], _ => rfl
  have F__law_gcd := fun_mk (st := s__law_gcd) l__law_gcd c__law_gcd_ k__law_gcd
  have b__law_gcd := F__law_gcd.binds (ps := ["one", "other"]) fun _ _ _ _ _ _ us hl => match us, hl with | [_, _], _ => rfl
  have F__law_fr := fun_mk (st := s__law_fr) l__law_fr c__law_fr_ k__law_fr
  have b__law_fr := F__law_fr.binds (ps := ["top", "bottom"]) fun _ _ _ _ _ _ us hl => match us, hl with | [_, _], _ => rfl
  have F__law_plus := fun_mk (st := s__law_plus) l__law_plus c__law_plus_ k__law_plus
  have b__law_plus := F__law_plus.binds (ps := ["one", "other"]) fun _ _ _ _ _ _ us hl => match us, hl with | [_, _], _ => rfl
  have F__law_times := fun_mk (st := s__law_times) l__law_times c__law_times_ k__law_times
  have b__law_times := F__law_times.binds (ps := ["one", "other"]) fun _ _ _ _ _ _ us hl => match us, hl with | [_, _], _ => rfl
  have F__law_dotted := fun_mk (st := s__law_dotted) l__law_dotted c__law_dotted_ k__law_dotted
  have b__law_dotted := F__law_dotted.binds (ps := ["row", "other"]) fun _ _ _ _ _ _ us hl => match us, hl with | [_, _], _ => rfl
  have F__law_summed := fun_mk (st := s__law_summed) l__law_summed c__law_summed_ k__law_summed
  have b__law_summed := F__law_summed.binds (ps := ["wide", "rows", "shares"]) fun _ _ _ _ _ _ us hl => match us, hl with | [_, _, _], _ => rfl
  have F__law_lesser := fun_mk (st := s__law_lesser) l__law_lesser c__law_lesser_ k__law_lesser
  have b__law_lesser := F__law_lesser.binds (ps := ["rows", "row"]) fun _ _ _ _ _ _ us hl => match us, hl with | [_, _], _ => rfl
  have F__law_reduced := fun_mk (st := s__law_reduced) l__law_reduced c__law_reduced_ k__law_reduced
  have b__law_reduced := F__law_reduced.binds (ps := ["wide", "several"]) fun _ _ _ _ _ _ us hl => match us, hl with | [_, _], _ => rfl
  have F__law_fractions := fun_mk (st := s__law_fractions) l__law_fractions c__law_fractions_ k__law_fractions
  have b__law_fractions := F__law_fractions.binds (ps := ["numbers_here"]) fun _ _ _ _ _ _ us hl => match us, hl with | [_], _ => rfl
  have F__law_begun := fun_mk (st := s__law_begun) l__law_begun c__law_begun_ k__law_begun
  have b__law_begun := F__law_begun.binds (ps := ["script"]) fun _ _ _ _ _ _ us hl => match us, hl with | [_], _ => rfl
  have F__law_blend := fun_mk (st := s__law_blend) l__law_blend c__law_blend_ k__law_blend
  have b__law_blend := F__law_blend.binds (ps := ["tape"]) fun _ _ _ _ _ _ us hl => match us, hl with | [_], _ => rfl
  have F__law_draw := fun_mk (st := s__law_draw) l__law_draw c__law_draw_ k__law_draw
  have b__law_draw := F__law_draw.binds (ps := ["tape", "size"]) fun _ _ _ _ _ _ us hl => match us, hl with | [_, _], _ => rfl
  have F__law_pick := fun_mk (st := s__law_pick) l__law_pick c__law_pick_ k__law_pick
  have b__law_pick := F__law_pick.binds (ps := ["tape", "several"]) fun _ _ _ _ _ _ us hl => match us, hl with | [_, _], _ => rfl
  have F__law_shuffled := fun_mk (st := s__law_shuffled) l__law_shuffled c__law_shuffled_ k__law_shuffled
  have b__law_shuffled := F__law_shuffled.binds (ps := ["tape", "several"]) fun _ _ _ _ _ _ us hl => match us, hl with | [_, _], _ => rfl
  have F__law_state := fun_mk (st := s__law_state) l__law_state c__law_state_ k__law_state
  have b__law_state := F__law_state.binds (ps := ["rows", "taps"]) fun _ _ _ _ _ _ us hl => match us, hl with | [_, _], _ => rfl
  have F__law_left := fun_mk (st := s__law_left) l__law_left c__law_left_ k__law_left
  have b__law_left := F__law_left.binds (ps := ["known", "taps", "sent", "heard"]) fun _ _ _ _ _ _ us hl => match us, hl with | [_, _, _, _], _ => rfl
  have F__law_told_right := fun_mk (st := s__law_told_right) l__law_told_right c__law_told_right_ k__law_told_right
  have b__law_told_right := F__law_told_right.binds (ps := ["listener", "taps", "rows", "sent", "next_here"]) fun _ _ _ _ _ _ us hl => match us, hl with | [_, _, _, _, _], _ => rfl
  have F__law_refused := fun_mk (st := s__law_refused) l__law_refused c__law_refused_ k__law_refused
  have b__law_refused := F__law_refused.binds (ps := ["tape", "listener"]) fun _ _ _ _ _ _ us hl => match us, hl with | [_, _], _ => rfl
  have F__law_row := fun_mk (st := s__law_row) l__law_row c__law_row_ k__law_row
  have b__law_row := F__law_row.binds (ps := ["sent", "taps", "heard"]) fun _ _ _ _ _ _ us hl => match us, hl with | [_, _, _], _ => rfl
  have F__law_heard_right := fun_mk (st := s__law_heard_right) l__law_heard_right c__law_heard_right_ k__law_heard_right
  have b__law_heard_right := F__law_heard_right.binds (ps := ["tape", "taps", "ticks"]) fun _ _ _ _ _ _ us hl => match us, hl with | [_, _, _], _ => rfl
  have F__law_turned_right := fun_mk (st := s__law_turned_right) l__law_turned_right c__law_turned_right_ k__law_turned_right
  have b__law_turned_right := F__law_turned_right.binds (ps := ["tape", "taps"]) fun _ _ _ _ _ _ us hl => match us, hl with | [_, _], _ => rfl
  have F_law := fun_mk (st := s_law) l_law c_law_ k_law
  have b_law := F_law.binds (ps := ["script"]) fun _ _ _ _ _ _ us hl => match us, hl with | [_], _ => rfl
  let A : Adr := ⟨f_is_number, (PySem.W.fnOf "is_number" "is_number" (defArgs s_is_number) (defBody s_is_number) (defScope s_is_number) .none kV_is_number dc_is_number pm_is_number an_is_number cd_is_number ct_is_number), f_is_between, (PySem.W.fnOf "is_between" "is_between" (defArgs s_is_between) (defBody s_is_between) (defScope s_is_between) .none kV_is_between dc_is_between pm_is_between an_is_between cd_is_between ct_is_between), f_divisor, (PySem.W.fnOf "divisor" "divisor" (defArgs s_divisor) (defBody s_divisor) (defScope s_divisor) .none kV_divisor dc_divisor pm_divisor an_divisor cd_divisor ct_divisor), f_lowest, (PySem.W.fnOf "lowest" "lowest" (defArgs s_lowest) (defBody s_lowest) (defScope s_lowest) .none kV_lowest dc_lowest pm_lowest an_lowest cd_lowest ct_lowest), f_less, (PySem.W.fnOf "less" "less" (defArgs s_less) (defBody s_less) (defScope s_less) .none kV_less dc_less pm_less an_less cd_less ct_less), f_product, (PySem.W.fnOf "product" "product" (defArgs s_product) (defBody s_product) (defScope s_product) .none kV_product dc_product pm_product an_product cd_product ct_product), f_parted, (PySem.W.fnOf "parted" "parted" (defArgs s_parted) (defBody s_parted) (defScope s_parted) .none kV_parted dc_parted pm_parted an_parted cd_parted ct_parted), f_scaled, (PySem.W.fnOf "scaled" "scaled" (defArgs s_scaled) (defBody s_scaled) (defScope s_scaled) .none kV_scaled dc_scaled pm_scaled an_scaled cd_scaled ct_scaled), f_taken, (PySem.W.fnOf "taken" "taken" (defArgs s_taken) (defBody s_taken) (defScope s_taken) .none kV_taken dc_taken pm_taken an_taken cd_taken ct_taken), f_lead_of, (PySem.W.fnOf "lead_of" "lead_of" (defArgs s_lead_of) (defBody s_lead_of) (defScope s_lead_of) .none kV_lead_of dc_lead_of pm_lead_of an_lead_of cd_lead_of ct_lead_of), f_cleared, (PySem.W.fnOf "cleared" "cleared" (defArgs s_cleared) (defBody s_cleared) (defScope s_cleared) .none kV_cleared dc_cleared pm_cleared an_cleared cd_cleared ct_cleared), f_with_row, (PySem.W.fnOf "with_row" "with_row" (defArgs s_with_row) (defBody s_with_row) (defScope s_with_row) .none kV_with_row dc_with_row pm_with_row an_with_row cd_with_row ct_with_row), f_is_sound, (PySem.W.fnOf "is_sound" "is_sound" (defArgs s_is_sound) (defBody s_is_sound) (defScope s_is_sound) .none kV_is_sound dc_is_sound pm_is_sound an_is_sound cd_is_sound ct_is_sound), f_need_sounds, (PySem.W.fnOf "need_sounds" "need_sounds" (defArgs s_need_sounds) (defBody s_need_sounds) (defScope s_need_sounds) .none kV_need_sounds dc_need_sounds pm_need_sounds an_need_sounds cd_need_sounds ct_need_sounds), f_Listener_init, (PySem.W.fnOf "__init__" "Listener.__init__" (defArgs s_Listener_init) (defBody s_Listener_init) (defScope s_Listener_init) .none kV_Listener_init dc_Listener_init pm_Listener_init an_Listener_init cd_Listener_init ct_Listener_init), f_Listener_next_row, (PySem.W.fnOf "next_row" "Listener.next_row" (defArgs s_Listener_next_row) (defBody s_Listener_next_row) (defScope s_Listener_next_row) .none kV_Listener_next_row dc_Listener_next_row pm_Listener_next_row an_Listener_next_row cd_Listener_next_row ct_Listener_next_row), f_Listener_hear, (PySem.W.fnOf "hear" "Listener.hear" (defArgs s_Listener_hear) (defBody s_Listener_hear) (defScope s_Listener_hear) .none kV_Listener_hear dc_Listener_hear pm_Listener_hear an_Listener_hear cd_Listener_hear ct_Listener_hear), f_Listener_known, (PySem.W.fnOf "known" "Listener.known" (defArgs s_Listener_known) (defBody s_Listener_known) (defScope s_Listener_known) .none kV_Listener_known dc_Listener_known pm_Listener_known an_Listener_known cd_Listener_known ct_Listener_known), f_Listener_fits_none, (PySem.W.fnOf "fits_none" "Listener.fits_none" (defArgs s_Listener_fits_none) (defBody s_Listener_fits_none) (defScope s_Listener_fits_none) .none kV_Listener_fits_none dc_Listener_fits_none pm_Listener_fits_none an_Listener_fits_none cd_Listener_fits_none ct_Listener_fits_none), f_Listener_word, (PySem.W.fnOf "word" "Listener.word" (defArgs s_Listener_word) (defBody s_Listener_word) (defScope s_Listener_word) .none kV_Listener_word dc_Listener_word pm_Listener_word an_Listener_word cd_Listener_word ct_Listener_word), f_Listener_path, (PySem.W.fnOf "path" "Listener.path" (defArgs s_Listener_path) (defBody s_Listener_path) (defScope s_Listener_path) .none kV_Listener_path dc_Listener_path pm_Listener_path an_Listener_path cd_Listener_path ct_Listener_path), f_Listener_left, (PySem.W.fnOf "left" "Listener.left" (defArgs s_Listener_left) (defBody s_Listener_left) (defScope s_Listener_left) .none kV_Listener_left dc_Listener_left pm_Listener_left an_Listener_left cd_Listener_left ct_Listener_left), f__law_caught, (PySem.W.fnOf "_law_caught" "_law_caught" (defArgs s__law_caught) (defBody s__law_caught) (defScope s__law_caught) .none kV__law_caught dc__law_caught pm__law_caught an__law_caught cd__law_caught ct__law_caught), f__law_gcd, (PySem.W.fnOf "_law_gcd" "_law_gcd" (defArgs s__law_gcd) (defBody s__law_gcd) (defScope s__law_gcd) .none kV__law_gcd dc__law_gcd pm__law_gcd an__law_gcd cd__law_gcd ct__law_gcd), f__law_fr, (PySem.W.fnOf "_law_fr" "_law_fr" (defArgs s__law_fr) (defBody s__law_fr) (defScope s__law_fr) .none kV__law_fr dc__law_fr pm__law_fr an__law_fr cd__law_fr ct__law_fr), f__law_plus, (PySem.W.fnOf "_law_plus" "_law_plus" (defArgs s__law_plus) (defBody s__law_plus) (defScope s__law_plus) .none kV__law_plus dc__law_plus pm__law_plus an__law_plus cd__law_plus ct__law_plus), f__law_times, (PySem.W.fnOf "_law_times" "_law_times" (defArgs s__law_times) (defBody s__law_times) (defScope s__law_times) .none kV__law_times dc__law_times pm__law_times an__law_times cd__law_times ct__law_times), f__law_dotted, (PySem.W.fnOf "_law_dotted" "_law_dotted" (defArgs s__law_dotted) (defBody s__law_dotted) (defScope s__law_dotted) .none kV__law_dotted dc__law_dotted pm__law_dotted an__law_dotted cd__law_dotted ct__law_dotted), f__law_summed, (PySem.W.fnOf "_law_summed" "_law_summed" (defArgs s__law_summed) (defBody s__law_summed) (defScope s__law_summed) .none kV__law_summed dc__law_summed pm__law_summed an__law_summed cd__law_summed ct__law_summed), f__law_lesser, (PySem.W.fnOf "_law_lesser" "_law_lesser" (defArgs s__law_lesser) (defBody s__law_lesser) (defScope s__law_lesser) .none kV__law_lesser dc__law_lesser pm__law_lesser an__law_lesser cd__law_lesser ct__law_lesser), f__law_reduced, (PySem.W.fnOf "_law_reduced" "_law_reduced" (defArgs s__law_reduced) (defBody s__law_reduced) (defScope s__law_reduced) .none kV__law_reduced dc__law_reduced pm__law_reduced an__law_reduced cd__law_reduced ct__law_reduced), f__law_fractions, (PySem.W.fnOf "_law_fractions" "_law_fractions" (defArgs s__law_fractions) (defBody s__law_fractions) (defScope s__law_fractions) .none kV__law_fractions dc__law_fractions pm__law_fractions an__law_fractions cd__law_fractions ct__law_fractions), f__law_begun, (PySem.W.fnOf "_law_begun" "_law_begun" (defArgs s__law_begun) (defBody s__law_begun) (defScope s__law_begun) .none kV__law_begun dc__law_begun pm__law_begun an__law_begun cd__law_begun ct__law_begun), f__law_blend, (PySem.W.fnOf "_law_blend" "_law_blend" (defArgs s__law_blend) (defBody s__law_blend) (defScope s__law_blend) .none kV__law_blend dc__law_blend pm__law_blend an__law_blend cd__law_blend ct__law_blend), f__law_draw, (PySem.W.fnOf "_law_draw" "_law_draw" (defArgs s__law_draw) (defBody s__law_draw) (defScope s__law_draw) .none kV__law_draw dc__law_draw pm__law_draw an__law_draw cd__law_draw ct__law_draw), f__law_pick, (PySem.W.fnOf "_law_pick" "_law_pick" (defArgs s__law_pick) (defBody s__law_pick) (defScope s__law_pick) .none kV__law_pick dc__law_pick pm__law_pick an__law_pick cd__law_pick ct__law_pick), f__law_shuffled, (PySem.W.fnOf "_law_shuffled" "_law_shuffled" (defArgs s__law_shuffled) (defBody s__law_shuffled) (defScope s__law_shuffled) .none kV__law_shuffled dc__law_shuffled pm__law_shuffled an__law_shuffled cd__law_shuffled ct__law_shuffled), f__law_state, (PySem.W.fnOf "_law_state" "_law_state" (defArgs s__law_state) (defBody s__law_state) (defScope s__law_state) .none kV__law_state dc__law_state pm__law_state an__law_state cd__law_state ct__law_state), f__law_left, (PySem.W.fnOf "_law_left" "_law_left" (defArgs s__law_left) (defBody s__law_left) (defScope s__law_left) .none kV__law_left dc__law_left pm__law_left an__law_left cd__law_left ct__law_left), f__law_told_right, (PySem.W.fnOf "_law_told_right" "_law_told_right" (defArgs s__law_told_right) (defBody s__law_told_right) (defScope s__law_told_right) .none kV__law_told_right dc__law_told_right pm__law_told_right an__law_told_right cd__law_told_right ct__law_told_right), f__law_refused, (PySem.W.fnOf "_law_refused" "_law_refused" (defArgs s__law_refused) (defBody s__law_refused) (defScope s__law_refused) .none kV__law_refused dc__law_refused pm__law_refused an__law_refused (.ref c__law_refused) ct__law_refused), f__law_row, (PySem.W.fnOf "_law_row" "_law_row" (defArgs s__law_row) (defBody s__law_row) (defScope s__law_row) .none kV__law_row dc__law_row pm__law_row an__law_row cd__law_row ct__law_row), f__law_heard_right, (PySem.W.fnOf "_law_heard_right" "_law_heard_right" (defArgs s__law_heard_right) (defBody s__law_heard_right) (defScope s__law_heard_right) .none kV__law_heard_right dc__law_heard_right pm__law_heard_right an__law_heard_right cd__law_heard_right ct__law_heard_right), f__law_turned_right, (PySem.W.fnOf "_law_turned_right" "_law_turned_right" (defArgs s__law_turned_right) (defBody s__law_turned_right) (defScope s__law_turned_right) .none kV__law_turned_right dc__law_turned_right pm__law_turned_right an__law_turned_right cd__law_turned_right ct__law_turned_right), fa, (PySem.W.fnOf "law" "law" (defArgs s_law) (defBody s_law) (defScope s_law) .none kV_law dc_law pm_law an_law cd_law ct_law), C_Listener, t_MOST_TAPS, t_MOST_SOUND, a_ZERO, a_ONE, C_BadNumber, C_BadQuiet, C_CallError, C_PartError, f_PartError_init, c__law_refused, P__law_refused⟩
  have T : Txt l.prog K mg A := ⟨F_is_number, b_is_number, PySem.W.mg_of X G a_is_number, F_is_between, b_is_between, PySem.W.mg_of X G a_is_between, F_divisor, b_divisor, PySem.W.mg_of X G a_divisor, F_lowest, b_lowest, PySem.W.mg_of X G a_lowest, F_less, b_less, PySem.W.mg_of X G a_less, F_product, b_product, PySem.W.mg_of X G a_product, F_parted, b_parted, PySem.W.mg_of X G a_parted, F_scaled, b_scaled, PySem.W.mg_of X G a_scaled, F_taken, b_taken, PySem.W.mg_of X G a_taken, F_lead_of, b_lead_of, PySem.W.mg_of X G a_lead_of, F_cleared, b_cleared, PySem.W.mg_of X G a_cleared, F_with_row, b_with_row, PySem.W.mg_of X G a_with_row, F_is_sound, b_is_sound, PySem.W.mg_of X G a_is_sound, F_need_sounds, b_need_sounds, PySem.W.mg_of X G a_need_sounds, F_Listener_init, b_Listener_init, F_Listener_next_row, b_Listener_next_row, ⟨a_Listener_next_row, i_Listener_next_row, k_Listener_next_row⟩, F_Listener_hear, b_Listener_hear, ⟨a_Listener_hear, i_Listener_hear, k_Listener_hear⟩, F_Listener_known, b_Listener_known, ⟨a_Listener_known, i_Listener_known, k_Listener_known⟩, F_Listener_fits_none, b_Listener_fits_none, ⟨a_Listener_fits_none, i_Listener_fits_none, k_Listener_fits_none⟩, F_Listener_word, b_Listener_word, ⟨a_Listener_word, i_Listener_word, k_Listener_word⟩, F_Listener_path, b_Listener_path, ⟨a_Listener_path, i_Listener_path, k_Listener_path⟩, F_Listener_left, b_Listener_left, ⟨a_Listener_left, i_Listener_left, k_Listener_left⟩, F__law_caught, b__law_caught, PySem.W.mg_of X G a__law_caught, F__law_gcd, b__law_gcd, PySem.W.mg_of X G a__law_gcd, F__law_fr, b__law_fr, PySem.W.mg_of X G a__law_fr, F__law_plus, b__law_plus, PySem.W.mg_of X G a__law_plus, F__law_times, b__law_times, PySem.W.mg_of X G a__law_times, F__law_dotted, b__law_dotted, PySem.W.mg_of X G a__law_dotted, F__law_summed, b__law_summed, PySem.W.mg_of X G a__law_summed, F__law_lesser, b__law_lesser, PySem.W.mg_of X G a__law_lesser, F__law_reduced, b__law_reduced, PySem.W.mg_of X G a__law_reduced, F__law_fractions, b__law_fractions, PySem.W.mg_of X G a__law_fractions, F__law_begun, b__law_begun, PySem.W.mg_of X G a__law_begun, F__law_blend, b__law_blend, PySem.W.mg_of X G a__law_blend, F__law_draw, b__law_draw, PySem.W.mg_of X G a__law_draw, F__law_pick, b__law_pick, PySem.W.mg_of X G a__law_pick, F__law_shuffled, b__law_shuffled, PySem.W.mg_of X G a__law_shuffled, F__law_state, b__law_state, PySem.W.mg_of X G a__law_state, F__law_left, b__law_left, PySem.W.mg_of X G a__law_left, F__law_told_right, b__law_told_right, PySem.W.mg_of X G a__law_told_right, F__law_refused, b__law_refused, PySem.W.mg_of X G a__law_refused, F__law_row, b__law_row, PySem.W.mg_of X G a__law_row, F__law_heard_right, b__law_heard_right, PySem.W.mg_of X G a__law_heard_right, F__law_turned_right, b__law_turned_right, PySem.W.mg_of X G a__law_turned_right, F_law, b_law, PySem.W.mg_of X G a_law, PySem.W.mg_none_of X G z_abs, PySem.W.mg_none_of X G z_any, PySem.W.mg_none_of X G z_bool, PySem.W.mg_none_of X G z_dict, PySem.W.mg_none_of X G z_int, PySem.W.mg_none_of X G z_isinstance, PySem.W.mg_none_of X G z_len, PySem.W.mg_none_of X G z_list, PySem.W.mg_none_of X G z_min, PySem.W.mg_none_of X G z_range, PySem.W.mg_none_of X G z_repr, PySem.W.mg_none_of X G z_sorted, PySem.W.mg_none_of X G z_tuple, PySem.W.mg_none_of X G z_zip, ⟨pg_Listener, hd_Listener, po_Listener, sa_Listener⟩, PySem.W.mg_of X G aC_Listener, ⟨mk_Listener, a_Listener_init, i_Listener_init, kc_Listener⟩, n_Listener_taps, n_Listener_before, n_Listener_rows, g_MOST_TAPS, g_MOST_SOUND, PySem.W.mg_of X G aC_CallError, cau_ok, PySem.W.mg_of X G aC_BadNumber, ec_BadNumber, xf_BadNumber, te_BadNumber, ki_BadNumber, pt_BadNumber (PySem.W.mg_none_of X G z_super), PySem.W.mg_of X G aC_BadQuiet, ec_BadQuiet, xf_BadQuiet, te_BadQuiet, ki_BadQuiet, xq_BadQuiet, kq_BadQuiet, bq_BadQuiet, tq_BadQuiet, PySem.W.mg_of X G aT_ZERO, v_ZERO, PySem.W.mg_of X G aT_ONE, v_ONE, kb1 F_Listener_init, kb2 F_Listener_left, kb3 F_Listener_hear, rfl⟩
  exact ⟨(PySem.W.fnOf "law" "law" (defArgs s_law) (defBody s_law) (defScope s_law) .none kV_law dc_law pm_law an_law cd_law ct_law), c__law_refused, P__law_refused, ti__law_refused, tk__law_refused, fun s v => .of_eq rfl, fun base _ _ tb => ok_law T tb⟩
end K75
end
section
open PySem L2 Evl KX
open PySem PySem.W PyProof.Rows L2 in
set_option maxRecDepth 100000 in
set_option maxHeartbeats 0 in
theorem PySem.Challenge.cw_seenandheard_k75_whole_listeners_holds : PySem.Challenge.rw_seenandheard_k75_whole_listeners.Holds := by
  w_on; o_law; k_head; (case hw => w_witness2)
  k_fill
  refine KG.walk_XT (l := PySem.Challenge.rw_seenandheard_k75_whole_listeners) (n := 63) (k := 12) (x := "script") (rn := "_law_refused") (CX := CX0) (sp := K75.spL) rfl (by decide) rfl ⟨rfl, by decide, by decide⟩ (fun w h Y => PySem.W.km_in_of Y) rfl ?F (fun K H a Pt ns hl hP hS => ⟨a, ns, rfl, hS, hl, (fun p hp => by rw [List.mem_singleton.mp hp]; exact LamX.TabS.nil hP), fun _ => rfl⟩) (fun _ _ _ _ z => z)
  case F =>
    intro w mg fa h XL KX G hmg
    refine' K75.all_mk KX G hmg XL ?aC_Listener ?pg_Listener ?hd_Listener ?po_Listener ?sa_Listener ?mk_Listener ?kc_Listener ?n_Listener_taps ?n_Listener_before ?n_Listener_rows ?a_is_number ?l_is_number ?c_is_number_ ?k_is_number ?a_is_between ?l_is_between ?c_is_between_ ?k_is_between ?a_divisor ?l_divisor ?c_divisor_ ?k_divisor ?a_lowest ?l_lowest ?c_lowest_ ?k_lowest ?a_less ?l_less ?c_less_ ?k_less ?a_product ?l_product ?c_product_ ?k_product ?a_parted ?l_parted ?c_parted_ ?k_parted ?a_scaled ?l_scaled ?c_scaled_ ?k_scaled ?a_taken ?l_taken ?c_taken_ ?k_taken ?a_lead_of ?l_lead_of ?c_lead_of_ ?k_lead_of ?a_cleared ?l_cleared ?c_cleared_ ?k_cleared ?a_with_row ?l_with_row ?c_with_row_ ?k_with_row ?a_is_sound ?l_is_sound ?c_is_sound_ ?k_is_sound ?a_need_sounds ?l_need_sounds ?c_need_sounds_ ?k_need_sounds ?a_Listener_init ?i_Listener_init ?l_Listener_init ?c_Listener_init_ ?k_Listener_init ?a_Listener_next_row ?i_Listener_next_row ?l_Listener_next_row ?c_Listener_next_row_ ?k_Listener_next_row ?a_Listener_hear ?i_Listener_hear ?l_Listener_hear ?c_Listener_hear_ ?k_Listener_hear ?a_Listener_known ?i_Listener_known ?l_Listener_known ?c_Listener_known_ ?k_Listener_known ?a_Listener_fits_none ?i_Listener_fits_none ?l_Listener_fits_none ?c_Listener_fits_none_ ?k_Listener_fits_none ?a_Listener_word ?i_Listener_word ?l_Listener_word ?c_Listener_word_ ?k_Listener_word ?a_Listener_path ?i_Listener_path ?l_Listener_path ?c_Listener_path_ ?k_Listener_path ?a_Listener_left ?i_Listener_left ?l_Listener_left ?c_Listener_left_ ?k_Listener_left ?a__law_caught ?l__law_caught ?c__law_caught_ ?k__law_caught ?a__law_gcd ?l__law_gcd ?c__law_gcd_ ?k__law_gcd ?a__law_fr ?l__law_fr ?c__law_fr_ ?k__law_fr ?a__law_plus ?l__law_plus ?c__law_plus_ ?k__law_plus ?a__law_times ?l__law_times ?c__law_times_ ?k__law_times ?a__law_dotted ?l__law_dotted ?c__law_dotted_ ?k__law_dotted ?a__law_summed ?l__law_summed ?c__law_summed_ ?k__law_summed ?a__law_lesser ?l__law_lesser ?c__law_lesser_ ?k__law_lesser ?a__law_reduced ?l__law_reduced ?c__law_reduced_ ?k__law_reduced ?a__law_fractions ?l__law_fractions ?c__law_fractions_ ?k__law_fractions ?a__law_begun ?l__law_begun ?c__law_begun_ ?k__law_begun ?a__law_blend ?l__law_blend ?c__law_blend_ ?k__law_blend ?a__law_draw ?l__law_draw ?c__law_draw_ ?k__law_draw ?a__law_pick ?l__law_pick ?c__law_pick_ ?k__law_pick ?a__law_shuffled ?l__law_shuffled ?c__law_shuffled_ ?k__law_shuffled ?a__law_state ?l__law_state ?c__law_state_ ?k__law_state ?a__law_left ?l__law_left ?c__law_left_ ?k__law_left ?a__law_told_right ?l__law_told_right ?c__law_told_right_ ?k__law_told_right ?a__law_refused ?l__law_refused ?c__law_refused_ ?k__law_refused ?a__law_row ?l__law_row ?c__law_row_ ?k__law_row ?a__law_heard_right ?l__law_heard_right ?c__law_heard_right_ ?k__law_heard_right ?a__law_turned_right ?l__law_turned_right ?c__law_turned_right_ ?k__law_turned_right ?a_law ?l_law ?c_law_ ?k_law ?z_abs ?z_any ?z_bool ?z_dict ?z_int ?z_isinstance ?z_len ?z_list ?z_min ?z_range ?z_repr ?z_sorted ?z_tuple ?z_zip ?z_super ?aC_CallError ?aC_PartError ?fi_PartError ?aC_BadNumber ?ec_BadNumber ?xf_BadNumber ?te_BadNumber ?ki_BadNumber ?pt_BadNumber ?aC_BadQuiet ?ec_BadQuiet ?xf_BadQuiet ?te_BadQuiet ?ki_BadQuiet ?xq_BadQuiet ?kq_BadQuiet ?bq_BadQuiet ?tq_BadQuiet ?aT_ZERO ?v_ZERO ?aT_ONE ?v_ONE ?ti__law_refused ?tk__law_refused ?x_MOST_TAPS ?x_MOST_SOUND
    (case aC_Listener => k_is)
    (case pg_Listener => k_is)
    (case hd_Listener => k_is)
    (case po_Listener => k_is)
    (case sa_Listener => k_is)
    (case mk_Listener => k_is)
    (case kc_Listener => k_is)
    (case n_Listener_taps => k_is)
    (case n_Listener_before => k_is)
    (case n_Listener_rows => k_is)
    (case a_is_number => k_is)
    (case l_is_number => k_is)
    (case c_is_number_ => k_is)
    (case k_is_number => k_is)
    (case a_is_between => k_is)
    (case l_is_between => k_is)
    (case c_is_between_ => k_is)
    (case k_is_between => k_is)
    (case a_divisor => k_is)
    (case l_divisor => k_is)
    (case c_divisor_ => k_is)
    (case k_divisor => k_is)
    (case a_lowest => k_is)
    (case l_lowest => k_is)
    (case c_lowest_ => k_is)
    (case k_lowest => k_is)
    (case a_less => k_is)
    (case l_less => k_is)
    (case c_less_ => k_is)
    (case k_less => k_is)
    (case a_product => k_is)
    (case l_product => k_is)
    (case c_product_ => k_is)
    (case k_product => k_is)
    (case a_parted => k_is)
    (case l_parted => k_is)
    (case c_parted_ => k_is)
    (case k_parted => k_is)
    (case a_scaled => k_is)
    (case l_scaled => k_is)
    (case c_scaled_ => k_is)
    (case k_scaled => k_is)
    (case a_taken => k_is)
    (case l_taken => k_is)
    (case c_taken_ => k_is)
    (case k_taken => k_is)
    (case a_lead_of => k_is)
    (case l_lead_of => k_is)
    (case c_lead_of_ => k_is)
    (case k_lead_of => k_is)
    (case a_cleared => k_is)
    (case l_cleared => k_is)
    (case c_cleared_ => k_is)
    (case k_cleared => k_is)
    (case a_with_row => k_is)
    (case l_with_row => k_is)
    (case c_with_row_ => k_is)
    (case k_with_row => k_is)
    (case a_is_sound => k_is)
    (case l_is_sound => k_is)
    (case c_is_sound_ => k_is)
    (case k_is_sound => k_is)
    (case a_need_sounds => k_is)
    (case l_need_sounds => k_is)
    (case c_need_sounds_ => k_is)
    (case k_need_sounds => k_is)
    (case a_Listener_init => k_is)
    (case i_Listener_init => k_is)
    (case l_Listener_init => k_is)
    (case c_Listener_init_ => k_is)
    (case k_Listener_init => k_is)
    (case a_Listener_next_row => k_is)
    (case i_Listener_next_row => k_is)
    (case l_Listener_next_row => k_is)
    (case c_Listener_next_row_ => k_is)
    (case k_Listener_next_row => k_is)
    (case a_Listener_hear => k_is)
    (case i_Listener_hear => k_is)
    (case l_Listener_hear => k_is)
    (case c_Listener_hear_ => k_is)
    (case k_Listener_hear => k_is)
    (case a_Listener_known => k_is)
    (case i_Listener_known => k_is)
    (case l_Listener_known => k_is)
    (case c_Listener_known_ => k_is)
    (case k_Listener_known => k_is)
    (case a_Listener_fits_none => k_is)
    (case i_Listener_fits_none => k_is)
    (case l_Listener_fits_none => k_is)
    (case c_Listener_fits_none_ => k_is)
    (case k_Listener_fits_none => k_is)
    (case a_Listener_word => k_is)
    (case i_Listener_word => k_is)
    (case l_Listener_word => k_is)
    (case c_Listener_word_ => k_is)
    (case k_Listener_word => k_is)
    (case a_Listener_path => k_is)
    (case i_Listener_path => k_is)
    (case l_Listener_path => k_is)
    (case c_Listener_path_ => k_is)
    (case k_Listener_path => k_is)
    (case a_Listener_left => k_is)
    (case i_Listener_left => k_is)
    (case l_Listener_left => k_is)
    (case c_Listener_left_ => k_is)
    (case k_Listener_left => k_is)
    (case a__law_caught => k_is)
    (case l__law_caught => k_is)
    (case c__law_caught_ => k_is)
    (case k__law_caught => k_is)
    (case a__law_gcd => k_is)
    (case l__law_gcd => k_is)
    (case c__law_gcd_ => k_is)
    (case k__law_gcd => k_is)
    (case a__law_fr => k_is)
    (case l__law_fr => k_is)
    (case c__law_fr_ => k_is)
    (case k__law_fr => k_is)
    (case a__law_plus => k_is)
    (case l__law_plus => k_is)
    (case c__law_plus_ => k_is)
    (case k__law_plus => k_is)
    (case a__law_times => k_is)
    (case l__law_times => k_is)
    (case c__law_times_ => k_is)
    (case k__law_times => k_is)
    (case a__law_dotted => k_is)
    (case l__law_dotted => k_is)
    (case c__law_dotted_ => k_is)
    (case k__law_dotted => k_is)
    (case a__law_summed => k_is)
    (case l__law_summed => k_is)
    (case c__law_summed_ => k_is)
    (case k__law_summed => k_is)
    (case a__law_lesser => k_is)
    (case l__law_lesser => k_is)
    (case c__law_lesser_ => k_is)
    (case k__law_lesser => k_is)
    (case a__law_reduced => k_is)
    (case l__law_reduced => k_is)
    (case c__law_reduced_ => k_is)
    (case k__law_reduced => k_is)
    (case a__law_fractions => k_is)
    (case l__law_fractions => k_is)
    (case c__law_fractions_ => k_is)
    (case k__law_fractions => k_is)
    (case a__law_begun => k_is)
    (case l__law_begun => k_is)
    (case c__law_begun_ => k_is)
    (case k__law_begun => k_is)
    (case a__law_blend => k_is)
    (case l__law_blend => k_is)
    (case c__law_blend_ => k_is)
    (case k__law_blend => k_is)
    (case a__law_draw => k_is)
    (case l__law_draw => k_is)
    (case c__law_draw_ => k_is)
    (case k__law_draw => k_is)
    (case a__law_pick => k_is)
    (case l__law_pick => k_is)
    (case c__law_pick_ => k_is)
    (case k__law_pick => k_is)
    (case a__law_shuffled => k_is)
    (case l__law_shuffled => k_is)
    (case c__law_shuffled_ => k_is)
    (case k__law_shuffled => k_is)
    (case a__law_state => k_is)
    (case l__law_state => k_is)
    (case c__law_state_ => k_is)
    (case k__law_state => k_is)
    (case a__law_left => k_is)
    (case l__law_left => k_is)
    (case c__law_left_ => k_is)
    (case k__law_left => k_is)
    (case a__law_told_right => k_is)
    (case l__law_told_right => k_is)
    (case c__law_told_right_ => k_is)
    (case k__law_told_right => k_is)
    (case a__law_refused => k_is)
    (case l__law_refused => k_is)
    (case c__law_refused_ => k_is)
    (case k__law_refused => k_is)
    (case a__law_row => k_is)
    (case l__law_row => k_is)
    (case c__law_row_ => k_is)
    (case k__law_row => k_is)
    (case a__law_heard_right => k_is)
    (case l__law_heard_right => k_is)
    (case c__law_heard_right_ => k_is)
    (case k__law_heard_right => k_is)
    (case a__law_turned_right => k_is)
    (case l__law_turned_right => k_is)
    (case c__law_turned_right_ => k_is)
    (case k__law_turned_right => k_is)
    (case a_law => k_is)
    (case l_law => k_is)
    (case c_law_ => k_is)
    (case k_law => k_is)
    (case z_abs => k_is)
    (case z_any => k_is)
    (case z_bool => k_is)
    (case z_dict => k_is)
    (case z_int => k_is)
    (case z_isinstance => k_is)
    (case z_len => k_is)
    (case z_list => k_is)
    (case z_min => k_is)
    (case z_range => k_is)
    (case z_repr => k_is)
    (case z_sorted => k_is)
    (case z_tuple => k_is)
    (case z_zip => k_is)
    (case z_super => k_is)
    (case aC_CallError => k_is)
    (case aC_PartError => k_is)
    (case fi_PartError => k_is)
    (case aC_BadNumber => k_is)
    (case ec_BadNumber => exact ⟨by k_is, by k_is, by k_is, by k_is, by k_is, by k_is, by k_is, by k_is⟩)
    (case xf_BadNumber => exact ⟨by k_is, by k_is, by k_is, by k_is⟩)
    (case te_BadNumber => first | k_is | kernel_rfl)
    (case ki_BadNumber => exact if_pos (beq_self_eq_true _))
    (case pt_BadNumber => (refine' fun ns => K75.part_mk ?y_l1 ?y_e1 ?y_b1 ?y_l2 ?y_e2 ?y_l3 ?y_e3 ?y_l4 ?y_e4 ?y_e5 ?y_e6 ?y_e7 ?y_e8 ?y_sa ?y_noN ?y_iC ?y_tC ?y_kC ?y_exC ?y_veC ?y_tyC ?y_hD ?y_sub ?y_sup ?y_third ?y_top ns); (case y_l1 => k_is); (case y_e1 => exact rfl); (case y_b1 => rfl); (case y_l2 => k_is); (case y_e2 => exact rfl); (case y_l3 => k_is); (case y_e3 => exact rfl); (case y_l4 => k_is); (case y_e4 => exact rfl); (case y_e5 => exact rfl); (case y_e6 => first | rfl | decide); (case y_e7 => rfl); (case y_e8 => k_is); (case y_sa => k_is); (case y_noN => k_is); (case y_iC => k_is); (case y_tC => k_is); (case y_kC => k_is); (case y_exC => k_is); (case y_veC => k_is); (case y_tyC => k_is); (case y_hD => k_is); (case y_sub => k_is); (case y_sup => ks_is); (case y_third => k_is); (case y_top => rfl))
    (case aC_BadQuiet => k_is)
    (case ec_BadQuiet => exact ⟨by k_is, by k_is, by k_is, by k_is, by k_is, by k_is, by k_is, by k_is⟩)
    (case xf_BadQuiet => exact ⟨by k_is, by k_is, by k_is, by k_is⟩)
    (case te_BadQuiet => first | k_is | kernel_rfl)
    (case ki_BadQuiet => exact if_pos (beq_self_eq_true _))
    (case xq_BadQuiet => first | k_is | kernel_rfl)
    (case kq_BadQuiet => k_is)
    (case bq_BadQuiet => k_is)
    (case tq_BadQuiet => k_is)
    (case aT_ZERO => k_is)
    (case v_ZERO => exact fun H => .inr ⟨_, _, _, by k_is, rfl, rfl, by decide, .cons ⟨_, rfl⟩ (.cons ⟨_, rfl⟩ .nil)⟩)
    (case aT_ONE => k_is)
    (case v_ONE => exact fun H => .inr ⟨_, _, _, by k_is, rfl, rfl, by decide, .cons ⟨_, rfl⟩ (.cons ⟨_, rfl⟩ .nil)⟩)
    (case ti__law_refused => exact (show PySem.W.tabIn _ _ = some (_, (344 : Nat)) by kernel_rfl))
    (case tk__law_refused => first | k_is | kernel_rfl)
    (case x_MOST_TAPS => k_is)
    (case x_MOST_SOUND => k_is)
end
