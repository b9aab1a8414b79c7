import PyProof.Rows.All
import Wide.All
import OpenK.AllK
import Wide.FinOn
import PySem.Challenge.RW_quickharm_k05_row_paced
import HandS.ForMost
import HandS.Deep
import HandS.TupAny
import KE.KDictKeyed
import KE.KDictDisplayH
import HandS.Iter
import HandS.Zip
import KE.GoesMore
import KE.GoesEnum
import HandS.Codes
import HandS.TupLe
import HandS.Conv
import HandS.IsInst
import HandS.RaiseOp
import HandS.CallSlots
import HandS.ExcOwn
import HandS.ExcInit
import HandS.Nested
import KE.KExcSuper
import HandS.ClsMeth
import HandS.TryMany
import HandS.Property
import HandS.More
import HandS.ExcField
import KE.KExcIs
import KE.KIsAll
import HandS.Defaults
import HandS.Head2
import HandS.HeadEnd
import HandS.HeadHook2
import HandS.HeadHook3
import HandS.HeadNt
import HandS.HeadWalk
import PyProof.P3Eq
set_option Elab.async false
set_option linter.all false
set_option maxRecDepth 100000
set_option maxHeartbeats 2000000
/-! EnumZ: enumerate(x) and zip(x, y) walked, x a list, a tuple or a text. -/
namespace Mi
open PySem PySem.Spec PyProof.Rows L2
/-- what is walked -/
inductive Src where
  | lst (a : Addr) | tup (a : Addr) | str (x : Str) (t : Tok)
def Src.items (K : PySem.W.Frag) (H : Hp) : Src → List V → Prop
  | .lst a, xs => SqL K H a xs
  | .tup a, xs => SqT K H a xs
  | .str x _, xs => xs = x.cps.toList.map fun c => V.str ⟨#[c]⟩
def Src.tn : Src → Addr → Nat → Heap → Prop
  | .lst a, it, i, h => h.IsListIter it a i
  | .tup a, it, i, h => h.IsTupleIter it a i
  | .str x t, it, i, h => h.IsStrIter it (strIterType x) x t i
/-- the source itself does not lie at b -/
def Src.off (b : Addr) : Src → Prop
  | .lst a => a ≠ b
  | .tup a => a ≠ b
  | .str _ _ => True
theorem Src.tn_obj {S : Src} {it : Addr} {i : Nat} {h : Heap} (st : S.tn it i h) : ∃ o, h.get? it = some o ∧ ∀ v, o.data ≠ .cell v := by
  cases S with
  | lst a => obtain ⟨o, e, _, d⟩ := st; exact ⟨o, e, fun v z => by rw [d] at z; cases z⟩
  | tup a => obtain ⟨o, e, _, d⟩ := st; exact ⟨o, e, fun v z => by rw [d] at z; cases z⟩
  | str x t => obtain ⟨o, e, _, d⟩ := st; exact ⟨o, e, fun v z => by rw [d] at z; cases z⟩
theorem Src.tn_keep {S : Src} {it : Addr} {i : Nat} {h h' : Heap} (st : S.tn it i h) (k : ∀ o, h.get? it = some o → h'.get? it = some o) : S.tn it i h' := by
  cases S with
  | lst a => obtain ⟨o, e, r⟩ := st; exact ⟨o, k o e, r⟩
  | tup a => obtain ⟨o, e, r⟩ := st; exact ⟨o, k o e, r⟩
  | str x t => obtain ⟨o, e, r⟩ := st; exact ⟨o, k o e, r⟩
section
variable {X : Cx} {pins : List (Addr × Obj)} {σ : L2.St} {H : Hp} {s : Shared}
theorem Src.inj {S : Src} {xs ys : List V} (I : Inv X pins σ H s) (h : S.items X.K H xs) (h' : S.items X.K H ys) : xs = ys := by
  cases S with
  | lst a => exact I.list_inj h h'
  | tup a => exact I.tuple_inj h h'
  | str x t => exact (show xs = _ from h).trans (show ys = _ from h').symm
/-- at a turn it draws -/
theorem Src.draws {S : Src} {it : Addr} {i : Nat} {xs : List V} (hc : X.calm = true) (I : Inv X pins σ H s) (h : S.items X.K H xs) (ho : S.off it) (st : S.tn it i s.heap) :
    ∃ fp P St, Draws X.prog X.w X.A.in1 it fp xs.length P St ∧ St i s.heap ∧ (∀ j h', St j h' → S.tn it j h') ∧ (∀ j u, P j u → ∃ x, xs[j]? = some x ∧ RelV x u) ∧ it ∈ fp ∧ ∀ b ∈ fp, b = it ∨ ¬ S.off b := by
  have hh : X.A.in1.handled = none := I.ok.hd hc
  cases S with
  | lst a =>
    obtain ⟨its, rv, p, hz⟩ := I.list h
    have hl : xs.length = its.toArray.size := by rw [rv.length]; simp
    refine ⟨[it, a], fun i v => its.toArray[i]? = some v, fun i h => h.IsListIter it a i ∧ h.IsList a its.toArray, (by rw [hl]; exact Draws.list hh it a ho its.toArray), ⟨st, p.isList⟩, fun j h' z => z.1, fun j u z => ?_, by simp, fun b hb => ?_⟩
    · have z' : its[j]? = some u := by simpa using z
      have hj : j < xs.length := by rw [rv.length]; exact (List.getElem?_eq_some_iff.mp z').1
      obtain ⟨u', hu, ru⟩ := rv.get (List.getElem?_eq_getElem hj)
      rw [z'] at hu; cases hu
      exact ⟨_, List.getElem?_eq_getElem hj, ru⟩
    · have e : b = it ∨ b = a := by simpa using hb
      rcases e with e | e
      · exact .inl e
      · exact .inr fun z => z e.symm
  | tup a =>
    obtain ⟨its, rv, p, hz⟩ := I.tuple h
    have hl : xs.length = its.toArray.size := by rw [rv.length]; simp
    refine ⟨[it, a], fun i v => its.toArray[i]? = some v, fun i h => h.IsTupleIter it a i ∧ h.IsTuple a its.toArray, (by rw [hl]; exact Draws.tuple hh it a ho its.toArray), ⟨st, p⟩, fun j h' z => z.1, fun j u z => ?_, by simp, fun b hb => ?_⟩
    · have z' : its[j]? = some u := by simpa using z
      have hj : j < xs.length := by rw [rv.length]; exact (List.getElem?_eq_some_iff.mp z').1
      obtain ⟨u', hu, ru⟩ := rv.get (List.getElem?_eq_getElem hj)
      rw [z'] at hu; cases hu
      exact ⟨_, List.getElem?_eq_getElem hj, ru⟩
    · have e : b = it ∨ b = a := by simpa using hb
      rcases e with e | e
      · exact .inl e
      · exact .inr fun z => z e.symm
  | str x t =>
    have h : xs = x.cps.toList.map fun c => V.str ⟨#[c]⟩ := h
    have hl : xs.length = x.cps.size := by rw [h]; simp
    refine ⟨[it], fun i v => ∃ c u, x.cps[i]? = some c ∧ v = .str ⟨#[c]⟩ u, fun i h => h.IsStrIter it (strIterType x) x t i, (by rw [hl]; exact Draws.text hh it x t), st, fun j h' z => z, fun j u z => ?_, by simp, fun b hb => .inl (by simpa using hb)⟩
    obtain ⟨c, tk, e, rfl⟩ := z
    refine ⟨.str ⟨#[c]⟩, ?_, ⟨tk, rfl⟩⟩
    rw [h, List.getElem?_map, Array.getElem?_toList, e]
    rfl
end
/-! ### enumerate -/
def IteS (K : PySem.W.Frag) (S : Src) : L2.It :=
  ⟨fun i H => ∃ (xs : List V) (x : V), S.items K H xs ∧ xs[i]? = some x, fun i H v H' => ∃ T x, v = .ref T ∧ H T = none ∧ H' = upd H T (.tup [.int (i : Nat), x]) ∧ ∀ xs, S.items K H xs → xs[i]? = some x, fun i H => ∃ xs : List V, S.items K H xs ∧ xs.length = i⟩
theorem turn_enumS {P : Program} {w : World} {K : PySem.W.Frag} {elts : List Expr} {kk : Nat} {tpos : Pos} (S : Src) (e it : Addr) :
    Turn P w K (.Tuple elts kk tpos) (IteS K S) [e, it] e (fun i h => (∃ old, IsEnum h e it ((i : Nat) : Int) old) ∧ S.tn it i h ∧ e ≠ it ∧ S.off e ∧ S.off it) where
  mem := by simp
  obj := fun i h st b hb => by
    obtain ⟨⟨old, he⟩, hit, _⟩ := st
    have e' : b = e ∨ b = it := by simpa using hb
    rcases e' with z | z
    · rw [z]; exact ⟨_, he, fun v q => nomatch q⟩
    · rw [z]; exact Src.tn_obj hit
  keep := fun i h h' st k => let ⟨⟨old, he⟩, hi, hne⟩ := st; ⟨⟨old, k e (by simp) _ he⟩, Src.tn_keep hi fun o q => k it (by simp) o q, hne⟩
  item := by
    intro X hP hw hK hc i pins s σ H E I hf st hg
    subst hP hw hK
    obtain ⟨⟨old, he⟩, hit, hne, hoe, hoi⟩ := st
    obtain ⟨xs, x, hq, hx⟩ := hg
    obtain ⟨fp, Pp, St, D, st, tnd, pv, hm, hfp⟩ := Src.draws hc I hq hoi hit
    have hel : e < s.heap.objs.size := Heap.lt_size he
    have hil : it < s.heap.objs.size := by obtain ⟨_, q, _⟩ := Src.tn_obj hit; exact Heap.lt_size q
    refine wpAny_pyNext_enum_itemD D he st (List.getElem?_eq_some_iff.mp hx).1 hne (fun z => (hfp e z).elim (fun q => hne q) fun q => q hoe) fun u h' tk hu ho st' hT hsz hk => ?_
    obtain ⟨x', hx', ru⟩ := pv i u hu
    have : x' = x := by rw [hx] at hx'; exact (Option.some.inj hx').symm
    subst this
    refine ⟨_, rfl, wpAny_letOwnedTupleGo_enum (s := { s with heap := h', toks := tk + 1 }) ho fun h'' he' sb => ?_⟩
    have hT2 : h''.get? s.heap.objs.size = some { cls := .type "tuple", data := .seq #[.int i tk, u] } := (sb.2 _ (Nat.ne_of_gt hel)).trans hT
    have new : ObjOk X.prog X.w (upd H s.heap.objs.size (.tup [.int (i : Nat), x'])) h'' s.heap.objs.size (.tup [.int (i : Nat), x']) :=
      ⟨by show 2 ≤ sizeLine; decide, [.int i tk, u], .cons ⟨_, rfl⟩ (.cons ru .nil), ⟨_, hT2, rfl, _, rfl⟩⟩
    have I1 : Inv X pins σ (upd H s.heap.objs.size (.tup [.int (i : Nat), x'])) { s with heap := h'', toks := tk + 1 } :=
      I.turnedNew (ch := [e, it]) (fun b ob hb q => (sb.2 b (fun z => hb (by simp [z]))).trans (hk b ob (fun z => hb (by simp [z])) (fun z => hb (by simp [z])) q)) hf (Nat.le_refl _) new
    refine ⟨.ref s.heap.objs.size, _, I1, rfl, ⟨_, x', rfl, I.hok.fresh (Nat.le_refl _), rfl, fun ys hy => by rw [Src.inj I hy hq]; exact hx⟩, ⟨⟨u, ?_⟩, Src.tn_keep (tnd _ _ st') fun o q => (sb.2 it (Ne.symm hne)).trans q, hne, hoe, hoi⟩, fun b hb => ?_⟩
    · have e1 : ((i + 1 : Nat) : Int) = (i : Int) + 1 := by omega
      rw [e1]; exact he'
    · have hb' : b < s.heap.objs.size := by
        have e' : b = e ∨ b = it := by simpa using hb
        rcases e' with z | z
        · rw [z]; exact hel
        · rw [z]; exact hil
      rw [upd_ne (Nat.ne_of_lt hb')]
      exact (hf b hb).1
  done := by
    intro X hP hw hK hc i pins s σ H E I hf st hg
    subst hP hw hK
    obtain ⟨⟨old, he⟩, hit, hne, hoe, hoi⟩ := st
    obtain ⟨xs, hq, rfl⟩ := hg
    obtain ⟨fp, Pp, St, D, st, tnd, pv, hm, hfp⟩ := Src.draws hc I hq hoi hit
    obtain ⟨f0, f1, f2, f3, f4, f5⟩ := hf it (by simp)
    exact wpAny_pyNext_enum_endD D he st fun h' eb => ⟨rfl, I.turned (t' := s.toks) (fun b o hb q => eb b o hb q) f0 f1 f3 f4 f5⟩
  self := fun A i s Q E st h => let ⟨⟨_, he⟩, _⟩ := st; wpAny_pyIter_enum he h
/-! ### zip -/
def ItzS (K : PySem.W.Frag) (S1 S2 : Src) : L2.It :=
  ⟨fun i H => ∃ (xs ys : List V) (x y : V), S1.items K H xs ∧ S2.items K H ys ∧ xs[i]? = some x ∧ ys[i]? = some y,
    fun i H v H' => ∃ T x y, v = .ref T ∧ H T = none ∧ H' = upd H T (.tup [x, y]) ∧ (∀ xs, S1.items K H xs → xs[i]? = some x) ∧ ∀ ys, S2.items K H ys → ys[i]? = some y,
    fun i H => ∃ xs ys : List V, S1.items K H xs ∧ S2.items K H ys ∧ i ≤ xs.length ∧ i ≤ ys.length ∧ (i = xs.length ∨ i = ys.length)⟩
structure ZApt (z TI TO i1 i2 : Addr) (S1 S2 : Src) : Prop where
  nd : [z, TI, TO, i1, i2].Nodup
  o1 : ∀ b ∈ [z, TI, TO, i1, i2], S1.off b
  o2 : ∀ b ∈ [z, TI, TO, i1, i2], S2.off b
theorem ZApt.sep {z TI TO i1 i2 : Addr} {S1 S2 : Src} {fp1 fp2 : List Addr} (D : ZApt z TI TO i1 i2 S1 S2) (m1 : i1 ∈ fp1) (m2 : i2 ∈ fp2) (h1 : ∀ b ∈ fp1, b = i1 ∨ ¬ S1.off b) (h2 : ∀ b ∈ fp2, b = i2 ∨ ¬ S2.off b) : ZipSep2 z TI TO i1 i2 fp1 fp2 := by
  have nd := D.nd
  simp only [List.nodup_cons, List.mem_cons, not_or, List.not_mem_nil, not_false_eq_true, List.nodup_nil, and_true] at nd
  obtain ⟨⟨a1, a2, a3, a4⟩, ⟨b1, b2, b3⟩, ⟨c1, c2⟩, d1⟩ := nd
  exact ⟨Ne.symm a1, Ne.symm a2, b1, b2, m1, fun q => (h1 z q).elim (fun e => a3 e) fun e => e (D.o1 z (by simp)), fun q => (h1 TO q).elim (fun e => c1 e) fun e => e (D.o1 TO (by simp)), b3, m2,
    fun q => (h2 z q).elim (fun e => a4 e) fun e => e (D.o2 z (by simp)), fun q => (h2 TO q).elim (fun e => c2 e) fun e => e (D.o2 TO (by simp)),
    fun q => (h2 i1 q).elim (fun e => d1 e) fun e => e (D.o2 i1 (by simp)), fun q => (h1 i2 q).elim (fun e => d1 e.symm) fun e => e (D.o1 i2 (by simp))⟩
theorem turn_zipS {P : Program} {w : World} {K : PySem.W.Frag} {elts : List Expr} {kk : Nat} {tpos : Pos} {S1 S2 : Src} {z TI TO i1 i2 : Addr} (D : ZApt z TI TO i1 i2 S1 S2) :
    Turn P w K (.Tuple elts kk tpos) (ItzS K S1 S2) [z, TI, TO, i1, i2] z (fun i h => IsZip h z TI TO .none ∧ IsTupOf2 h TI (.ref i1) (.ref i2) ∧ (∃ x y, IsTupOf2 h TO x y) ∧ S1.tn i1 i h ∧ S2.tn i2 i h) where
  mem := by simp
  obj := fun i h st c hc => by
    obtain ⟨hz, hTI, ⟨x, y, hTO⟩, h1, h2⟩ := st
    have e' : c = z ∨ c = TI ∨ c = TO ∨ c = i1 ∨ c = i2 := by simpa using hc
    rcases e' with q | q | q | q | q
    · rw [q]; exact ⟨_, hz, fun v q => nomatch q⟩
    · rw [q]; exact ⟨_, hTI, fun v q => nomatch q⟩
    · rw [q]; exact ⟨_, hTO, fun v q => nomatch q⟩
    · rw [q]; exact Src.tn_obj h1
    · rw [q]; exact Src.tn_obj h2
  keep := fun i h h' st k => by
    obtain ⟨hz, hTI, ⟨x, y, hTO⟩, h1, h2⟩ := st
    exact ⟨k z (by simp) _ hz, k TI (by simp) _ hTI, ⟨x, y, k TO (by simp) _ hTO⟩, Src.tn_keep h1 fun o q => k i1 (by simp) o q, Src.tn_keep h2 fun o q => k i2 (by simp) o q⟩
  item := by
    intro X hP hw hK hc i pins s σ H E I hf st hg
    subst hP hw hK
    obtain ⟨hz, hTI, ⟨x0, y0, hTO⟩, h1, h2⟩ := st
    obtain ⟨xs, ys, x, y, hqx, hqy, hx, hy⟩ := hg
    obtain ⟨fp1, P1, St1, D1, s1, td1, pv1, m1, hf1⟩ := Src.draws hc I hqx (D.o1 i1 (by simp)) h1
    obtain ⟨fp2, P2, St2, D2, s2, td2, pv2, m2, hf2⟩ := Src.draws hc I hqy (D.o2 i2 (by simp)) h2
    have SP := D.sep m1 m2 hf1 hf2
    have hzl : z < s.heap.objs.size := Heap.lt_size hz
    refine wpAny_pyNext_zipD2_item SP D1 D2 hz hTI hTO s1 s2 (List.getElem?_eq_some_iff.mp hx).1 (List.getElem?_eq_some_iff.mp hy).1 fun u u2 h' tk hu hu2 z' TO' s1' s2' hT hsz hk => ?_
    obtain ⟨x', hx', ru⟩ := pv1 i u hu
    have : x' = x := by rw [hx] at hx'; exact (Option.some.inj hx').symm
    subst this
    obtain ⟨y', hy', ru2⟩ := pv2 i u2 hu2
    have : y' = y := by rw [hy] at hy'; exact (Option.some.inj hy').symm
    subst this
    refine ⟨_, rfl, wpAny_letOwnedTupleGo_zip (s := { s with heap := h', toks := tk }) z' fun h'' z'' sb => ?_⟩
    have hT2 : h''.get? s.heap.objs.size = some { cls := .type "tuple", data := .seq #[u, u2] } := (sb.2 _ (Nat.ne_of_gt hzl)).trans hT
    have new : ObjOk X.prog X.w (upd H s.heap.objs.size (.tup [x', y'])) h'' s.heap.objs.size (.tup [x', y']) :=
      ⟨by show 2 ≤ sizeLine; decide, [u, u2], .cons ru (.cons ru2 .nil), ⟨_, hT2, rfl, _, rfl⟩⟩
    have I1 : Inv X pins σ (upd H s.heap.objs.size (.tup [x', y'])) { s with heap := h'', toks := tk } :=
      I.turnedNew (t' := tk) (ch := [z, TI, TO, i1, i2]) (fun c o hb q => (sb.2 c (fun q' => hb (by simp [q']))).trans (hk c o (fun q' => hb (by simp [q'])) (fun q' => hb (by simp [q'])) (fun q' => hb (by simp [q'])) (fun q' => hb (by simp [q'])) q)) hf (Nat.le_refl _) new
    have nd := D.nd
    simp only [List.nodup_cons, List.mem_cons, not_or, List.not_mem_nil, not_false_eq_true, List.nodup_nil, and_true] at nd
    obtain ⟨⟨a1, a2, a3, a4⟩, ⟨b1, b2, b3⟩, ⟨c1, c2⟩, d1⟩ := nd
    refine ⟨.ref s.heap.objs.size, _, I1, rfl, ⟨_, x', y', rfl, I.hok.fresh (Nat.le_refl _), rfl, fun l hl => by rw [Src.inj I hl hqx]; exact hx, fun l hl => by rw [Src.inj I hl hqy]; exact hy⟩, ⟨z'', ?_, ⟨u, u2, ?_⟩, ?_, ?_⟩, fun c hcm => ?_⟩
    · exact (sb.2 _ (Ne.symm a1)).trans (hk _ _ (Ne.symm a1) b1 b2 b3 hTI)
    · exact (sb.2 _ (Ne.symm a2)).trans TO'
    · exact Src.tn_keep (td1 _ _ s1') fun o q => (sb.2 _ (Ne.symm a3)).trans q
    · exact Src.tn_keep (td2 _ _ s2') fun o q => (sb.2 _ (Ne.symm a4)).trans q
    · have hlt : c < s.heap.objs.size := by
        have e' : c = z ∨ c = TI ∨ c = TO ∨ c = i1 ∨ c = i2 := by simpa using hcm
        rcases e' with q | q | q | q | q
        · rw [q]; exact hzl
        · rw [q]; exact Heap.lt_size hTI
        · rw [q]; exact Heap.lt_size hTO
        · rw [q]; obtain ⟨_, e1, _⟩ := Src.tn_obj h1; exact Heap.lt_size e1
        · rw [q]; obtain ⟨_, e2, _⟩ := Src.tn_obj h2; exact Heap.lt_size e2
      rw [upd_ne (Nat.ne_of_lt hlt)]
      exact (hf c hcm).1
  done := by
    intro X hP hw hK hc i pins s σ H E I hf st hg
    subst hP hw hK
    obtain ⟨hz, hTI, ⟨x0, y0, hTO⟩, h1, h2⟩ := st
    obtain ⟨xs, ys, hqx, hqy, l1, l2, hend⟩ := hg
    obtain ⟨fp1, P1, St1, D1, s1, td1, pv1, m1, hf1⟩ := Src.draws hc I hqx (D.o1 i1 (by simp)) h1
    obtain ⟨fp2, P2, St2, D2, s2, td2, pv2, m2, hf2⟩ := Src.draws hc I hqy (D.o2 i2 (by simp)) h2
    exact wpAny_pyNext_zipD2_end (D.sep m1 m2 hf1 hf2) D1 D2 hz hTI hTO s1 s2 l1 l2 hend fun h' tk hk => ⟨rfl, I.turnedL (t' := tk) (ch := [z, TI, TO, i1, i2]) (fun c o hb q =>
      hk c o (fun q' => hb (by simp [q'])) (fun q' => hb (by simp [q'])) (fun q' => hb (by simp [q'])) (fun q' => hb (by simp [q'])) q) hf⟩
  self := fun A i s Q E st h => wpAny_pyIter_zip st.1 h
end Mi

set_option Elab.async false
set_option linter.all false
set_option maxRecDepth 100000
/-! Mini: a small interpreter of the programs' Python, in plain Lean: values, heap, expressions, statements. -/
namespace Mi
open PySem

inductive Ty where
  | noneT | bool | int | str | list | tuple | dict
  deriving DecidableEq
def Ty.nm : Ty → String
  | .noneT => "NoneType" | .bool => "bool" | .int => "int" | .str => "str" | .list => "list" | .tuple => "tuple" | .dict => "dict"

inductive MV where
  | non | bl (b : Bool) | int (i : Int) | str (x : Str) | tup (xs : List MV) | ref (n : Nat) | cls (c : Nat) | ty (t : Ty)
instance : Inhabited MV := ⟨.non⟩

inductive MO where
  | lst (xs : List MV)
  | rol (xs : List MV)
  | dic (kvs : List (MV × MV))
  | ins (c : Nat) (fs : List (Str × MV))

abbrev MH := List MO
abbrev Env := List (Option MV)

inductive Out (α : Type) where
  | ok (a : α) (h : MH)
  | exc (c : Nat) (fs : List (Str × MV)) (h : MH)
  | bad
@[inline] def Out.bind {α β : Type} (o : Out α) (f : α → MH → Out β) : Out β := match o with
  | .ok a h => f a h
  | .exc c fs h => .exc c fs h
  | .bad => .bad
def Out.of {α : Type} (h : MH) : Option α → Out α
  | some a => .ok a h
  | none => .bad

/-! ### values -/
mutual
def MV.beq : MV → MV → Bool
  | .non, .non => true
  | .bl a, .bl b => a == b
  | .int a, .int b => a == b
  | .str a, .str b => a == b
  | .tup a, .tup b => MV.beqs a b
  | .ref a, .ref b => a == b
  | .cls a, .cls b => a == b
  | .ty a, .ty b => a == b
  | _, _ => false
def MV.beqs : List MV → List MV → Bool
  | [], [] => true
  | x :: xs, y :: ys => MV.beq x y && MV.beqs xs ys
  | _, _ => false
end

def mapO {α β : Type} (f : α → Option β) : List α → Option (List β)
  | [] => some []
  | x :: xs => match f x with
    | some y => match mapO f xs with
      | some ys => some (y :: ys)
      | none => none
    | none => none

/-- a value as data, read off the heap -/
def toD (h : MH) : Nat → MV → Option PyData
  | _, .non => some .none
  | _, .bl b => some (.bool b)
  | _, .int i => some (.int i)
  | _, .str x => some (.str x)
  | n + 1, .tup xs => (mapO (toD h n) xs).map .tuple
  | n + 1, .ref r => match h[r]? with
    | some (.lst xs) => (mapO (toD h n) xs).map .list
    | some (.rol xs) => (mapO (toD h n) xs).map .list
    | _ => none
  | _, _ => none
def eqM (h : MH) (v w : MV) : Option Bool := match toD h 64 v with
  | some d => match toD h 64 w with
    | some e => if SeqAt.shaped d && SeqAt.shaped e then some (PyData.eqv d e) else none
    | none => none
  | none => none

mutual
/-- a tuple of ints, texts and None, as a key -/
def toK : MV → Option NestedKey
  | .non => some .none
  | .int i => some (.num i)
  | .str x => some (.text x)
  | .tup xs => (toKs xs).map .tup
  | _ => none
def toKs : List MV → Option (List NestedKey)
  | [] => some []
  | x :: xs => match toK x with
    | some k => (toKs xs).map (k :: ·)
    | none => none
end
/-- the kind of a key: 1 an int or a text, 2 a tuple of such (nested), 0 none of these -/
def kk : MV → Nat
  | .int _ => 1
  | .str _ => 1
  | .tup xs => match toK (.tup xs) with
    | some k => if k.depth ≤ 8 then 2 else 0
    | none => 0
  | _ => 0
def dk : List (MV × MV) → Nat
  | [] => 0
  | p :: _ => kk p.1
/-- may this key be asked of this dict -/
def kfit (kvs : List (MV × MV)) (k : MV) : Bool := kk k != 0 && (dk kvs == 0 || dk kvs == kk k)
def dget (kvs : List (MV × MV)) (x : MV) : Option MV := (kvs.find? fun p => MV.beq p.1 x).map (·.2)
def dput (kvs : List (MV × MV)) (x v : MV) : List (MV × MV) := if (kvs.any fun p => MV.beq p.1 x) then kvs.map fun p => if MV.beq p.1 x then (p.1, v) else p else kvs ++ [(x, v)]

def fget (fs : List (Str × MV)) (f : Str) : Option MV := fs.lookup f
def fput : List (Str × MV) → Str → MV → List (Str × MV)
  | [], f, v => [(f, v)]
  | (g, x) :: r, f, v => if g = f then (g, v) :: r else (g, x) :: fput r f v

abbrev line : Nat := 16777216
def truth (h : MH) : MV → Option Bool
  | .non => some false
  | .bl b => some b
  | .int i => some (i != 0)
  | .str x => if x.length ≤ line then some ((x.length : Int) != 0) else none
  | .tup xs => some (!xs.isEmpty)
  | .ref r => match h[r]? with
    | some (.lst xs) => some (!xs.isEmpty)
    | some (.rol xs) => some (!xs.isEmpty)
    | _ => none
  | _ => none
def lenM (h : MH) : MV → Option Nat
  | .str x => if x.length ≤ line then some x.length else none
  | .tup xs => some xs.length
  | .ref r => match h[r]? with
    | some (.lst xs) => some xs.length
    | some (.rol xs) => some xs.length
    | some (.dic kvs) => if dk kvs == 2 then none else some kvs.length
    | _ => none
  | _ => none
/-- the items of a list or a tuple -/
def seqM (h : MH) : MV → Option (List MV)
  | .tup xs => some xs
  | .ref r => match h[r]? with
    | some (.lst xs) => some xs
    | some (.rol xs) => some xs
    | _ => none
  | _ => none
def alloc (o : MO) (h : MH) : Out MV := .ok (.ref h.length) (h ++ [o])
/-- the signs of a text -/
def signs (x : Str) : List MV := x.cps.toList.map fun c => .str ⟨#[c]⟩
def strsM : List MV → Option (List Str)
  | [] => some []
  | .str x :: r => (strsM r).map (x :: ·)
  | _ => none
def strRep (x : Str) (k : Nat) : Str := ⟨(List.replicate k x.cps.toList).flatten.toArray⟩

/-! ### operators -/
def cmulB (i j : Int) : Bool := (decide (-(2 ^ 64) < i) && decide (i < 2 ^ 64)) || (decide (-(2 ^ 64) < j) && decide (j < 2 ^ 64))
def binM (op : Operator) (v w : MV) (h : MH) : Out MV := match op with
  | .Add => match v, w with
    | .int i, .int j => .ok (.int (i + j)) h
    | .str x, .str y => if x.length + y.length ≤ line then .ok (.str (x ++ y)) h else .bad
    | .tup xs, .tup ys => if xs.length + ys.length ≤ line then .ok (.tup (xs ++ ys)) h else .bad
    | .ref a, .ref b => match h[a]?, h[b]? with
      | some (.lst xs), some (.lst ys) => if xs.length + ys.length ≤ line then alloc (.lst (xs ++ ys)) h else .bad
      | _, _ => .bad
    | _, _ => .bad
  | .Sub => match v, w with
    | .int i, .int j => .ok (.int (i - j)) h
    | _, _ => .bad
  | .Mult => match v, w with
    | .int i, .int j => if cmulB i j then .ok (.int (i * j)) h else .bad
    | .ref a, .int k => match h[a]? with
      | some (.lst xs) => if -(2 ^ 63) ≤ k ∧ k < 2 ^ 63 ∧ xs.length * k.toNat ≤ line then alloc (.lst (List.replicate k.toNat xs).flatten) h else .bad
      | _ => .bad
    | .str x, .int k => if -(2 ^ 63) ≤ k ∧ k < 2 ^ 62 ∧ x.length * k.toNat ≤ line then .ok (.str (strRep x k.toNat)) h else .bad
    | _, _ => .bad
  | .FloorDiv => match v, w with
    | .int i, .int j => if j ≠ 0 ∧ j.natAbs < 1073741824 then .ok (.int (i.fdiv j)) h else .bad
    | _, _ => .bad
  | .Mod => match v, w with
    | .int i, .int j => if j ≠ 0 then .ok (.int (i.fmod j)) h else .bad
    | _, _ => .bad
  | .Pow => match v, w with
    | .int i, .int j => if 0 ≤ j ∧ j ≤ 1000000 ∧ i.natAbs < 2 ^ 64 then .ok (.int (i ^ j.toNat)) h else .bad
    | _, _ => .bad
  | _ => .bad
def inM (h : MH) (v w : MV) : Option Bool := match w with
  | .str y => match v with
    | .str x => some (!(Builtin.Str.occurrences y x 0 y.length 1).isEmpty)
    | _ => none
  | .tup _ => match toD h 64 v, toD h 64 w with
    | some d, some (.tuple ds) => if SeqAt.shaped d && SeqAt.shaped (.tuple ds) then some (ds.any fun z => PyData.eqv z d) else none
    | _, _ => none
  | .ref r => match h[r]? with
    | some (.dic kvs) => if kfit kvs v then some (dget kvs v).isSome else none
    | some (.lst _) => match toD h 64 v, toD h 64 w with
      | some d, some (.list ds) => if SeqAt.shaped d && SeqAt.shaped (.list ds) then some (ds.any fun z => PyData.eqv z d) else none
      | _, _ => none
    | _ => none
  | _ => none
def cmpM (op : CmpOp) (v w : MV) (h : MH) : Option Bool := match op with
  | .Eq => eqM h v w
  | .NotEq => (eqM h v w).map (!·)
  | .Lt => match v, w with
    | .int i, .int j => some (decide (i < j))
    | _, _ => none
  | .LtE => match v, w with
    | .int i, .int j => some (decide (i ≤ j))
    | _, _ => none
  | .Gt => match v, w with
    | .int i, .int j => some (decide (j < i))
    | _, _ => none
  | .GtE => match v, w with
    | .int i, .int j => some (decide (j ≤ i))
    | _, _ => none
  | .In => inM h v w
  | .NotIn => (inM h v w).map (!·)
  | .Is => match w with
    | .non => match v with
      | .non => some true
      | _ => some false
    | .bl b => match v with
      | .bl a => some (decide (a = b))
      | _ => none
    | _ => none
  | .IsNot => match w with
    | .non => match v with
      | .non => some false
      | _ => some true
    | .bl b => match v with
      | .bl a => some (!decide (a = b))
      | _ => none
    | _ => none
def subM (v w : MV) (h : MH) : Option MV := match v with
  | .tup xs => match w with
    | .int i => L2.atI xs i
    | _ => none
  | .str z => match w with
    | .int i => if z.length ≤ line then (L2.atI z.cps.toList i).map fun c => .str ⟨#[c]⟩ else none
    | _ => none
  | .ref r => match h[r]? with
    | some (.lst xs) => match w with
      | .int i => L2.atI xs i
      | _ => none
    | some (.rol xs) => match w with
      | .int i => L2.atI xs i
      | _ => none
    | some (.dic kvs) => if kfit kvs w then dget kvs w else none
    | _ => none
  | _ => none
def cutM (xs : List MV) (lo hi : Option Int) : List MV := (xs.drop (HT.sIx xs.length 0 lo)).take (HT.sIx xs.length xs.length hi - HT.sIx xs.length 0 lo)
def slcM (v : MV) (lo hi : Option Int) (h : MH) : Out MV := match v with
  | .tup xs => .ok (.tup (cutM xs lo hi)) h
  | .str z => if z.length ≤ line then .ok (.str (L2.cutS z lo hi)) h else .bad
  | .ref r => match h[r]? with
    | some (.lst xs) => alloc (.lst (cutM xs lo hi)) h
    | _ => .bad
  | _ => .bad
/-- o[i] = v -/
def setM (o i v : MV) (h : MH) : Option MH := match o with
  | .ref r => match h[r]? with
    | some (.lst xs) => match i with
      | .int k => match L2.ixN xs.length k with
        | some j => some (h.set r (.lst (xs.set j v)))
        | none => none
      | _ => none
    | some (.dic kvs) => if kfit kvs i && decide (kvs.length < 1000000) then some (h.set r (.dic (dput kvs i v))) else none
    | _ => none
  | _ => none

/-! ### builtins -/
inductive Blt where
  | len | int | isi | tuple | list | sum | all | any | max | min | abs
  deriving DecidableEq
def Blt.nm : Blt → Str
  | .len => "len" | .int => "int" | .isi => "isinstance" | .tuple => "tuple" | .list => "list" | .sum => "sum" | .all => "all" | .any => "any" | .max => "max" | .min => "min" | .abs => "abs"
/-- the builtin type of a value, or its class -/
def tyM (h : MH) : MV → Option (Ty ⊕ Nat)
  | .non => some (.inl .noneT)
  | .bl _ => some (.inl .bool)
  | .int _ => some (.inl .int)
  | .str _ => some (.inl .str)
  | .tup _ => some (.inl .tuple)
  | .ref r => match h[r]? with
    | some (.lst _) => some (.inl .list)
    | some (.rol _) => some (.inl .list)
    | some (.dic _) => some (.inl .dict)
    | some (.ins c _) => some (.inr c)
    | _ => none
  | _ => none
def tyLe (a b : Ty) : Bool := a == b || (a == .bool && b == .int)
def intsM : List MV → Option (List Int)
  | [] => some []
  | .int i :: r => (intsM r).map (i :: ·)
  | _ => none
def bolsM : List MV → Option (List Bool)
  | [] => some []
  | .bl b :: r => (bolsM r).map (b :: ·)
  | _ => none

structure Member where
  name : Str
  fn : Nat
  prop : Bool
structure Cls where
  name : Str
  init : Option Nat
  mems : List Member
  ups : List Nat
  atts : List Str
  cons : List (Str × MV) := []
  cmts : List (Str × Nat) := []
  exc : Option (Option Str) := none
/-- an ordinary class of the text -/
def icl (cs : List Cls) (c : Nat) : Option Cls := match cs[c]? with
  | some K => if K.exc = none then some K else none
  | none => none
structure Cfg where
  call : Nat → List MV → MH → Out MV
  cls : List Cls
  fuel : Nat

def isiM (C : Cfg) (h : MH) (v c : MV) : Option Bool := match tyM h v with
  | some (.inl t) => match c with
    | .ty s => some (tyLe t s)
    | .cls j => if j < C.cls.length then some false else none
    | _ => none
  | some (.inr k) => match icl C.cls k with
    | some K => match c with
      | .ty _ => some false
      | .cls j => if j < C.cls.length then some (k == j || K.ups.contains j) else none
      | _ => none
    | none => none
  | none => none
def bltM (C : Cfg) (b : Blt) (vs : List MV) (h : MH) : Out MV := match b with
  | .len => match vs with
    | [v] => match lenM h v with
      | some n => .ok (.int n) h
      | none => .bad
    | _ => .bad
  | .int => match vs with
    | [.int i] => .ok (.int i) h
    | [.bl k] => .ok (.int (if k then 1 else 0)) h
    | _ => .bad
  | .isi => match vs with
    | [v, c] => match isiM C h v c with
      | some r => .ok (.bl r) h
      | none => .bad
    | _ => .bad
  | .tuple => match vs with
    | [v] => match seqM h v with
      | some xs => .ok (.tup xs) h
      | none => .bad
    | _ => .bad
  | .list => match vs with
    | [v] => match seqM h v with
      | some xs => alloc (.lst xs) h
      | none => match v with
        | .str x => if x.length ≤ line then alloc (.lst (signs x)) h else .bad
        | _ => .bad
    | _ => .bad
  | .sum => match vs with
    | [.ref r] => match h[r]? with
      | some (.lst xs) => match intsM xs with
        | some ns => .ok (.int ns.sum) h
        | none => .bad
      | _ => .bad
    | _ => .bad
  | .all => match vs with
    | [.ref r] => match h[r]? with
      | some (.lst xs) => match bolsM xs with
        | some bs => .ok (.bl (bs.all id)) h
        | none => .bad
      | _ => .bad
    | _ => .bad
  | .any => match vs with
    | [.ref r] => match h[r]? with
      | some (.lst xs) => match bolsM xs with
        | some bs => .ok (.bl (bs.any id)) h
        | none => .bad
      | _ => .bad
    | _ => .bad
  | .max => match vs with
    | [.int i, .int j] => .ok (.int (if j > i then j else i)) h
    | _ => .bad
  | .min => match vs with
    | [.int i, .int j] => .ok (.int (if j < i then j else i)) h
    | _ => .bad
  | .abs => match vs with
    | [.int i] => .ok (.int (if i < 0 then -i else i)) h
    | _ => .bad

/-! ### instances -/
/-- e.f: an attribute of the instance, or a property -/
def fldM (C : Cfg) (f : Str) (v : MV) (h : MH) : Out MV := match v with
  | .ref r => match h[r]? with
    | some (.ins c fs) => match icl C.cls c with
      | some K => if K.atts.contains f then .of h (fget fs f) else match K.mems.find? fun m => m.prop && decide (m.name = f) with
        | some m => match C.call m.fn [v] h with
          | .ok w h1 => .ok w h1
          | _ => .bad
        | none => if (fget fs f).isNone then .of h (K.cons.lookup f) else .bad
      | none => .bad
    | _ => .bad
  | .cls c => match icl C.cls c with
    | some K => .of h (K.cons.lookup f)
    | none => .bad
  | _ => .bad
/-- the method of that name -/
def mthF (C : Cfg) (x : Str) (v : MV) (h : MH) : Option Nat := match v with
  | .ref r => match h[r]? with
    | some (.ins c fs) => if (fget fs x).isNone then match icl C.cls c with
        | some K => (K.mems.find? fun m => !m.prop && decide (m.name = x)).map (·.fn)
        | none => none
      else none
    | _ => none
  | _ => none
/-- a new instance -/
def mkM (C : Cfg) (c : Nat) (vs : List MV) (h : MH) : Out MV := match icl C.cls c with
  | some K => match K.init with
    | some f => match C.call f (.ref h.length :: vs) (h ++ [.ins c []]) with
      | .ok .non h1 => .ok (.ref h.length) h1
      | .ok _ _ => .bad
      | .exc k fs h1 => .exc k fs h1
      | .bad => .bad
    | none => .bad
  | none => .bad
/-- o.f = v -/
def setF (C : Cfg) (f : Str) (o v : MV) (h : MH) : Option MH := match o with
  | .ref r => match h[r]? with
    | some (.ins c fs) => match icl C.cls c with
      | some K => if K.atts.contains f && decide (fs.length < 1000) then some (h.set r (.ins c (fput fs f v))) else none
      | none => none
    | _ => none
  | _ => none

/-! ### methods of built-in types -/
inductive Mth where
  | append | pop | lower | upper | join | find
  deriving DecidableEq
def Mth.nm : Mth → Str
  | .append => "append" | .pop => "pop" | .lower => "lower" | .upper => "upper" | .join => "join" | .find => "find"
def Mth.ofList : Mth → Bool
  | .append => true | .pop => true | _ => false
/-- the receiver is of the method's type -/
def mthR (m : Mth) (v : MV) (h : MH) : Bool := match v with
  | .ref r => match h[r]? with
    | some (.lst _) => m.ofList
    | _ => false
  | .str _ => !m.ofList
  | _ => false
def mthM (m : Mth) (v : MV) (vs : List MV) (h : MH) : Out MV := match m with
  | .append => match v, vs with
    | .ref r, [x] => match h[r]? with
      | some (.lst xs) => if xs.length < line then .ok .non (h.set r (.lst (xs ++ [x]))) else .bad
      | _ => .bad
    | _, _ => .bad
  | .pop => match v, vs with
    | .ref r, [.int i] => match h[r]? with
      | some (.lst xs) => if -(2 ^ 63) ≤ i ∧ i < 2 ^ 63 then
          match L2.ixN xs.length i with
          | some k => match xs[k]? with
            | some y => .ok y (h.set r (.lst (xs.eraseIdx k)))
            | none => .bad
          | none => .bad
        else .bad
      | _ => .bad
    | _, _ => .bad
  | .lower => match v, vs with
    | .str x, [] => if x.length ≤ 5592405 then .ok (.str (PySem.Txt.lower x)) h else .bad
    | _, _ => .bad
  | .upper => match v, vs with
    | .str x, [] => if x.length ≤ 5592405 then .ok (.str (PySem.Txt.upper x)) h else .bad
    | _, _ => .bad
  | .find => match v, vs with
    | .str x, [.str y] => .ok (.int (PySem.Txt.find x y)) h
    | _, _ => .bad
  | .join => match v, vs with
    | .str x, [w] => match seqM h w with
      | some xs => match strsM xs with
        | some ys => if (ys.map (·.length)).sum + ys.length * x.length ≤ 16777216 then .ok (.str (PySem.Txt.join x ys)) h else .bad
        | none => .bad
      | none => .bad
    | _, _ => .bad

/-! ### what is walked -/
/-- a source of items -/
inductive Sr where
  | lst (r : Nat)
  | tup (xs : List MV)
  | str (x : Str)
def Sr.items : Sr → MH → Option (List MV)
  | .lst r, h => match h[r]? with
    | some (.lst xs) => some xs
    | some (.rol xs) => some xs
    | _ => none
  | .tup xs, _ => some xs
  | .str x, _ => some (signs x)
inductive It where
  | lst (r : Nat)
  | tup (xs : List MV)
  | rng (lo : Int) (n : Nat)
  | str (x : Str)
  | enm (s : Sr)
  | zip (s t : Sr)
/-- the i-th item: none where it is not told, some none at the end -/
def It.at_ : It → Nat → MH → Option (Option MV)
  | .enm s, i, h => match s.items h with
    | some xs => match xs[i]? with
      | some x => some (some (.tup [.int i, x]))
      | none => if i = xs.length then some none else none
    | none => none
  | .zip s t, i, h => match s.items h, t.items h with
    | some xs, some ys => match xs[i]?, ys[i]? with
      | some x, some y => some (some (.tup [x, y]))
      | _, _ => if i ≤ xs.length ∧ i ≤ ys.length ∧ (i = xs.length ∨ i = ys.length) then some none else none
    | _, _ => none
  | .lst r, i, h => match h[r]? with
    | some (.lst xs) => some xs[i]?
    | some (.rol xs) => some xs[i]?
    | _ => none
  | .tup xs, i, _ => some xs[i]?
  | .rng lo n, i, _ => some (if i < n then some (.int (lo + i)) else none)
  | .str x, i, _ => some (x.cps.toList[i]?.map fun c => .str ⟨#[c]⟩)
def itV (v : MV) (h : MH) : Option It := match v with
  | .tup xs => some (.tup xs)
  | .ref r => match h[r]? with
    | some (.lst _) => some (.lst r)
    | some (.rol _) => some (.lst r)
    | _ => none
  | .str x => some (.str x)
  | _ => none
/-- what enumerate and zip walk -/
def srV (v : MV) (h : MH) : Option Sr := match v with
  | .tup xs => some (.tup xs)
  | .ref r => match h[r]? with
    | some (.lst _) => some (.lst r)
    | some (.rol _) => some (.lst r)
    | _ => none
  | .str x => some (.str x)
  | _ => none
def enmM (h : MH) : List MV → Option It
  | [v] => match v with
    | .tup _ => none
    | _ => (srV v h).map .enm
  | _ => none
def zipM (h : MH) : List MV → Option It
  | [v, w] => match srV v h, srV w h with
    | some s, some t => some (.zip s t)
    | _, _ => none
  | _ => none
def rngM : List MV → Option It
  | [.int j] => if -(2 ^ 62) ≤ j ∧ j < 2 ^ 62 then some (.rng 0 j.toNat) else none
  | [.int i, .int j] => if -(2 ^ 62) ≤ i ∧ i < 2 ^ 62 ∧ -(2 ^ 62) ≤ j ∧ j < 2 ^ 62 then some (.rng i (j - i).toNat) else none
  | _ => none

/-! ### the text -/
/-- what an except suite hands back: e is the exception at hand -/
inductive XC where
  | own (c : Nat)
  | ve
mutual
inductive XE where
  | lit (v : MV)
  | var (i : Nat)
  | xf (f : Str)
  | xis (c : XC)
  | tup (es : XEs)
  | eq (neg : Bool) (a b : XE)
  | not (a : XE)
  | bop (op : BoolOp) (es : XEs)
  | mul (a b : XE)
  | intb (a : XE)
  | low (a : XE)
inductive XEs where
  | nil
  | cons (e : XE) (es : XEs)
end
mutual
inductive ME where
  | unk
  | var (i : Nat)
  | non | bl (b : Bool) | int (i : Int) | str (x : Str)
  | glb (x : Str) (v : MV)
  | bin (op : Operator) (a b : ME)
  | neg (a : ME)
  | cmp (op : CmpOp) (a b : ME)
  | chn (o1 o2 : CmpOp) (a b c : ME)
  | bop (op : BoolOp) (es : MEs)
  | not (a : ME)
  | ifx (c a b : ME)
  | tup (es : MEs)
  | lst (es : MEs)
  | dic0
  | dic1 (k v : ME)
  | sub (a i : ME)
  | slc (a : ME) (lo hi : MOp)
  | call (x : Str) (f : Nat) (es : MEs)
  | blt (b : Blt) (es : MEs)
  | mth (e : ME) (m : Mth) (es : MEs)
  | fld (e : ME) (f : Str)
  | mk (x : Str) (c : Nat) (es : MEs)
  | umth (e : ME) (f : Str) (es : MEs)
  | cmth (e : ME) (f : Str) (es : MEs)
  | callv (i : Nat) (es : MEs)
  | lc (e : ME) (t : MT) (it : MI) (ifs : MEs) (own : List (Str × Nat))
inductive MOp where
  | none
  | some (e : ME)
inductive MEs where
  | nil
  | cons (e : ME) (es : MEs)
inductive MI where
  | val (e : ME)
  | rng (es : MEs)
  | enm (es : MEs)
  | zip (es : MEs)
inductive MT where
  | name (i : Nat)
  | tup (ts : MTs)
  | sub (a i : ME)
inductive MTs where
  | nil
  | cons (t : MT) (ts : MTs)
end
/-- except .. as ..: return .. -/
structure Hd where
  name : Str
  cls : XC
  slot : Option Nat
  e : XE
mutual
inductive MS where
  | unk
  | raise (x : Str) (c : Nat) (e : ME)
  | try_ (b : MSs) (hs : List Hd)
  | exp (e : ME)
  | doc
  | ret (e : ME)
  | retN
  | pass | brk | cnt
  | asg (t : MT) (e : ME)
  | setf (o : ME) (f : Str) (e : ME)
  | aug (i : Nat) (op : Operator) (e : ME)
  | ifs (c : ME) (a b : MSs)
  | whl (c : ME) (b : MSs)
  | for_ (t : MT) (it : MI) (b : MSs)
inductive MSs where
  | nil
  | cons (s : MS) (ss : MSs)
end
inductive SOut where
  | next (ρ : Env) (h : MH)
  | ret (v : MV) (h : MH)
  | brk (ρ : Env) (h : MH)
  | cnt (ρ : Env) (h : MH)
  | exc (c : Nat) (fs : List (Str × MV)) (ρ : Env) (h : MH)
  | bad

/-! ### running -/
/-- a list comprehension's loop: what a turn makes (none: left out) -/
def lcM (turn : Nat → MH → Out (Option (Option MV))) : Nat → Nat → List MV → MH → Out (List MV)
  | 0, _, _, _ => .bad
  | n + 1, i, acc, h => match turn i h with
    | .ok none h1 => .ok acc h1
    | .ok (some none) h1 => lcM turn n (i + 1) acc h1
    | .ok (some (some v)) h1 => if acc.length < line then lcM turn n (i + 1) (acc ++ [v]) h1 else .bad
    | _ => .bad
def wipe (ρ : Env) : List Nat → Env
  | [] => ρ
  | v :: vs => (wipe ρ vs).set v none
def slotO (ρ : Env) (i : Nat) : Option MV := match ρ[i]? with
  | some (some v) => some v
  | _ => none
/-! ### except suites -/
/-- a value that stands by itself -/
def smp : MV → Bool
  | .non => true
  | .bl _ => true
  | .int _ => true
  | .str _ => true
  | _ => false
def isX (cs : List Cls) (c : Nat) : XC → Option Bool
  | .own j => match cs[c]? with
    | some K => if j < cs.length ∧ K.exc.isSome ∧ (cs[j]?.any (·.exc.isSome)) then some (c == j || K.ups.contains j) else none
    | none => none
  | .ve => match cs[c]? with
    | some K => if K.exc.isSome then some true else none
    | none => none
def xeq : MV → MV → Option Bool
  | .bl a, .bl b => some (a == b)
  | .int a, .int b => some (a == b)
  | .str a, .str b => some (a == b)
  | _, _ => none
mutual
def evX (cs : List Cls) (c : Nat) (fs : List (Str × MV)) (ρ : Env) : XE → Option MV
  | .lit v => if smp v then some v else none
  | .var i => slotO ρ i
  | .xf f => match cs[c]? with
    | some K => if K.exc = some (some f) then fget fs f else none
    | none => none
  | .xis k => (isX cs c k).map .bl
  | .tup es => (evXs cs c fs ρ es).map .tup
  | .eq neg a b => match evX cs c fs ρ a, evX cs c fs ρ b with
    | some v, some w => (xeq v w).map fun r => .bl (if neg then !r else r)
    | _, _ => none
  | .not a => match evX cs c fs ρ a with
    | some (.bl b) => some (.bl (!b))
    | _ => none
  | .bop op es => evXb cs c fs ρ op es
  | .mul a b => match evX cs c fs ρ a, evX cs c fs ρ b with
    | some (.int i), some (.int j) => if cmulB i j then some (.int (i * j)) else none
    | _, _ => none
  | .intb a => match evX cs c fs ρ a with
    | some (.bl b) => some (.int (if b then 1 else 0))
    | _ => none
  | .low a => match evX cs c fs ρ a with
    | some (.str x) => if x.length ≤ 5592405 then some (.str (PySem.Txt.lower x)) else none
    | _ => none
def evXs (cs : List Cls) (c : Nat) (fs : List (Str × MV)) (ρ : Env) : XEs → Option (List MV)
  | .nil => some []
  | .cons e es => match evX cs c fs ρ e, evXs cs c fs ρ es with
    | some v, some vs => some (v :: vs)
    | _, _ => none
def evXb (cs : List Cls) (c : Nat) (fs : List (Str × MV)) (ρ : Env) (op : BoolOp) : XEs → Option MV
  | .nil => none
  | .cons e .nil => match evX cs c fs ρ e with
    | some (.bl b) => some (.bl b)
    | _ => none
  | .cons e es => match evX cs c fs ρ e with
    | some (.bl b) => if (match op with | .And => b | .Or => !b) then evXb cs c fs ρ op es else some (.bl b)
    | _ => none
end
/-- the clause that takes an exception of class c -/
def hdX (cs : List Cls) (c : Nat) : List Hd → Option (Option Hd)
  | [] => some none
  | d :: r => match isX cs c d.cls with
    | some true => some (some d)
    | some false => hdX cs c r
    | none => none
mutual
def ev (C : Cfg) : ME → Env → MH → Out MV
  | .unk, _, _ => .bad
  | .cmth e f es, ρ, h => (ev C e ρ h).bind fun v h1 => match v with
    | .cls c => match icl C.cls c with
      | some K => match K.cmts.lookup f with
        | some g => (evs C es ρ h1).bind fun vs h2 => C.call g (v :: vs) h2
        | none => .bad
      | none => .bad
    | _ => .bad
  | .callv i es, ρ, h => match slotO ρ i with
    | some (.cls c) => if (icl C.cls c).any (·.init.isSome) then (evs C es ρ h).bind fun vs h1 => mkM C c vs h1 else .bad
    | _ => .bad
  | .var i, ρ, h => .of h (slotO ρ i)
  | .non, _, h => .ok .non h
  | .bl b, _, h => .ok (.bl b) h
  | .int i, _, h => .ok (.int i) h
  | .str x, _, h => .ok (.str x) h
  | .glb _ v, _, h => .ok v h
  | .bin op a b, ρ, h => (ev C a ρ h).bind fun v h1 => (ev C b ρ h1).bind fun w h2 => binM op v w h2
  | .neg a, ρ, h => (ev C a ρ h).bind fun v h1 => match v with
    | .int i => .ok (.int (-i)) h1
    | _ => .bad
  | .cmp op a b, ρ, h => (ev C a ρ h).bind fun v h1 => (ev C b ρ h1).bind fun w h2 => .of h2 ((cmpM op v w h2).map .bl)
  | .chn o1 o2 a b c, ρ, h => (ev C a ρ h).bind fun v h1 => (ev C b ρ h1).bind fun w h2 => match cmpM o1 v w h2 with
    | some true => (ev C c ρ h2).bind fun z h3 => .of h3 ((cmpM o2 w z h3).map .bl)
    | some false => .ok (.bl false) h2
    | none => .bad
  | .bop op es, ρ, h => evB C op es ρ h
  | .not a, ρ, h => (ev C a ρ h).bind fun v h1 => .of h1 ((truth h1 v).map fun b => .bl (!b))
  | .ifx c a b, ρ, h => (ev C c ρ h).bind fun v h1 => match truth h1 v with
    | some true => ev C a ρ h1
    | some false => ev C b ρ h1
    | none => .bad
  | .tup es, ρ, h => (evs C es ρ h).bind fun vs h1 => if vs.length ≤ line then .ok (.tup vs) h1 else .bad
  | .lst es, ρ, h => (evs C es ρ h).bind fun vs h1 => if vs.length ≤ line then alloc (.lst vs) h1 else .bad
  | .dic0, _, h => alloc (.dic []) h
  | .dic1 k v, ρ, h => (ev C k ρ h).bind fun x h1 => (ev C v ρ h1).bind fun y h2 => if kfit [] x then alloc (.dic [(x, y)]) h2 else .bad
  | .sub a i, ρ, h => (ev C a ρ h).bind fun v h1 => (ev C i ρ h1).bind fun w h2 => .of h2 (subM v w h2)
  | .slc a lo hi, ρ, h => (ev C a ρ h).bind fun v h1 => (evO C lo ρ h1).bind fun l h2 => (evO C hi ρ h2).bind fun u h3 => slcM v l u h3
  | .call _ f es, ρ, h => (evs C es ρ h).bind fun vs h1 => C.call f vs h1
  | .blt b es, ρ, h => (evs C es ρ h).bind fun vs h1 => bltM C b vs h1
  | .mth e m es, ρ, h => (ev C e ρ h).bind fun v h1 => if mthR m v h1 then (evs C es ρ h1).bind fun vs h2 => mthM m v vs h2 else .bad
  | .fld e f, ρ, h => (ev C e ρ h).bind fun v h1 => fldM C f v h1
  | .mk _ c es, ρ, h => (evs C es ρ h).bind fun vs h1 => mkM C c vs h1
  | .umth e f es, ρ, h => (ev C e ρ h).bind fun v h1 => match mthF C f v h1 with
    | some g => (evs C es ρ h1).bind fun vs h2 => C.call g (v :: vs) h2
    | none => .bad
  | .lc e t it ifs own, ρ, h => (evI C it ρ h).bind fun I h1 =>
      (lcM (fun i h2 => match I.at_ i h2 with
        | none => .bad
        | some none => .ok none h2
        | some (some v) => match asg C t v (wipe ρ (own.map (·.2))) h2 with
          | .next ρ3 h3 => (evA C ifs ρ3 h3).bind fun b h4 => if b then (ev C e ρ3 h4).bind fun x h5 => .ok (some (some x)) h5 else .ok (some none) h4
          | _ => .bad) C.fuel 0 [] h1).bind fun xs h2 => alloc (.lst xs) h2
/-- and, or: the values -/
def evB (C : Cfg) (op : BoolOp) : MEs → Env → MH → Out MV
  | .nil, _, _ => .bad
  | .cons e .nil, ρ, h => ev C e ρ h
  | .cons e es, ρ, h => (ev C e ρ h).bind fun v h1 => match op, truth h1 v with
    | _, none => .bad
    | .And, some false => .ok v h1
    | .Or, some true => .ok v h1
    | _, _ => evB C op es ρ h1
/-- all of these tests -/
def evA (C : Cfg) : MEs → Env → MH → Out Bool
  | .nil, _, h => .ok true h
  | .cons e es, ρ, h => (ev C e ρ h).bind fun v h1 => match truth h1 v with
    | some true => evA C es ρ h1
    | some false => .ok false h1
    | none => .bad
def evO (C : Cfg) : MOp → Env → MH → Out (Option Int)
  | .none, _, h => .ok none h
  | .some e, ρ, h => (ev C e ρ h).bind fun v h1 => match v with
    | .int i => .ok (some i) h1
    | _ => .bad
def evs (C : Cfg) : MEs → Env → MH → Out (List MV)
  | .nil, _, h => .ok [] h
  | .cons e es, ρ, h => (ev C e ρ h).bind fun v h1 => (evs C es ρ h1).bind fun vs h2 => .ok (v :: vs) h2
def evI (C : Cfg) : MI → Env → MH → Out It
  | .val e, ρ, h => (ev C e ρ h).bind fun v h1 => .of h1 (itV v h1)
  | .rng es, ρ, h => (evs C es ρ h).bind fun vs h1 => .of h1 (rngM vs)
  | .enm es, ρ, h => (evs C es ρ h).bind fun vs h1 => .of h1 (enmM h1 vs)
  | .zip es, ρ, h => (evs C es ρ h).bind fun vs h1 => .of h1 (zipM h1 vs)
/-- a value goes to a target -/
def asg (C : Cfg) : MT → MV → Env → MH → SOut
  | .name i, v, ρ, h => .next (ρ.set i (some v)) h
  | .tup ts, v, ρ, h => match v with
    | .tup xs => asgs C ts xs ρ h
    | _ => .bad
  | .sub a i, v, ρ, h => match ev C a ρ h with
    | .ok o h1 => match ev C i ρ h1 with
      | .ok k h2 => match setM o k v h2 with
        | some h3 => .next ρ h3
        | none => .bad
      | .exc c fs h2 => .exc c fs ρ h2
      | .bad => .bad
    | .exc c fs h1 => .exc c fs ρ h1
    | .bad => .bad
def asgs (C : Cfg) : MTs → List MV → Env → MH → SOut
  | .nil, [], ρ, h => .next ρ h
  | .cons t ts, v :: vs, ρ, h => match asg C t v ρ h with
    | .next ρ1 h1 => asgs C ts vs ρ1 h1
    | _ => .bad
  | _, _, _, _ => .bad
end
/-- a test -/
def evT (C : Cfg) (e : ME) (ρ : Env) (h : MH) : Out Bool := (ev C e ρ h).bind fun v h1 => .of h1 (truth h1 v)

def whileM (c : Env → MH → Out Bool) (b : Env → MH → SOut) : Nat → Env → MH → SOut
  | 0, _, _ => .bad
  | n + 1, ρ, h => match c ρ h with
    | .ok true h1 => match b ρ h1 with
      | .next ρ2 h2 => whileM c b n ρ2 h2
      | .cnt ρ2 h2 => whileM c b n ρ2 h2
      | .brk ρ2 h2 => .next ρ2 h2
      | o => o
    | .ok false h1 => .next ρ h1
    | .exc k fs h1 => .exc k fs ρ h1
    | .bad => .bad
def forM (I : It) (a : MV → Env → MH → SOut) (b : Env → MH → SOut) : Nat → Nat → Env → MH → SOut
  | 0, _, _, _ => .bad
  | n + 1, i, ρ, h => match I.at_ i h with
    | none => .bad
    | some none => .next ρ h
    | some (some v) => match a v ρ h with
      | .next ρ1 h1 => match b ρ1 h1 with
        | .next ρ2 h2 => forM I a b n (i + 1) ρ2 h2
        | .cnt ρ2 h2 => forM I a b n (i + 1) ρ2 h2
        | .brk ρ2 h2 => .next ρ2 h2
        | o => o
      | o => o
def augM (op : Operator) (v w : MV) (h : MH) : Out MV := match op with
  | .Add => match v, w with
    | .int i, .int j => .ok (.int (i + j)) h
    | .str x, .str y => if x.length + y.length ≤ line then .ok (.str (x ++ y)) h else .bad
    | _, _ => .bad
  | .Sub => match v, w with
    | .int i, .int j => .ok (.int (i - j)) h
    | _, _ => .bad
  | _ => .bad
/-- raise C(v) -/
def raiseM (C : Cfg) (c : Nat) (v : MV) (ρ : Env) (h : MH) : SOut := match C.cls[c]? with
  | some K => match K.exc with
    | some (some f) => if smp v then .exc c [(f, v)] ρ h else .bad
    | _ => .bad
  | none => .bad
/-- an exception meets the clauses -/
def catchM (C : Cfg) (hs : List Hd) (o : SOut) : SOut := match o with
  | .exc c fs ρ h => match hdX C.cls c hs with
    | some (some d) => match evX C.cls c fs (match d.slot with | some i => ρ.set i none | none => ρ) d.e with
      | some v => .ret v h
      | none => .bad
    | some none => .exc c fs ρ h
    | none => .bad
  | o => o
mutual
def ex (C : Cfg) : MS → Env → MH → SOut
  | .unk, _, _ => .bad
  | .raise _ c e, ρ, h => match ev C e ρ h with
    | .ok v h1 => raiseM C c v ρ h1
    | .exc k fs h1 => .exc k fs ρ h1
    | .bad => .bad
  | .try_ b hs, ρ, h => catchM C hs (exs C b ρ h)
  | .exp e, ρ, h => match ev C e ρ h with
    | .ok _ h1 => .next ρ h1
    | .exc c fs h1 => .exc c fs ρ h1
    | .bad => .bad
  | .doc, ρ, h => .next ρ h
  | .ret e, ρ, h => match ev C e ρ h with
    | .ok v h1 => .ret v h1
    | .exc c fs h1 => .exc c fs ρ h1
    | .bad => .bad
  | .retN, _, h => .ret .non h
  | .pass, ρ, h => .next ρ h
  | .brk, ρ, h => .brk ρ h
  | .cnt, ρ, h => .cnt ρ h
  | .asg t e, ρ, h => match ev C e ρ h with
    | .ok v h1 => asg C t v ρ h1
    | .exc c fs h1 => .exc c fs ρ h1
    | .bad => .bad
  | .setf o f e, ρ, h => match ev C e ρ h with
    | .ok v h1 => match ev C o ρ h1 with
      | .ok z h2 => match setF C f z v h2 with
        | some h3 => .next ρ h3
        | none => .bad
      | .exc c fs h2 => .exc c fs ρ h2
      | .bad => .bad
    | .exc c fs h1 => .exc c fs ρ h1
    | .bad => .bad
  | .aug i op e, ρ, h => match slotO ρ i with
    | some v => match ev C e ρ h with
      | .ok w h1 => match augM op v w h1 with
        | .ok z h2 => .next (ρ.set i (some z)) h2
        | .exc c fs h2 => .exc c fs ρ h2
        | .bad => .bad
      | .exc c fs h1 => .exc c fs ρ h1
      | .bad => .bad
    | none => .bad
  | .ifs c a b, ρ, h => match evT C c ρ h with
    | .ok true h1 => exs C a ρ h1
    | .ok false h1 => exs C b ρ h1
    | .exc k fs h1 => .exc k fs ρ h1
    | .bad => .bad
  | .whl c b, ρ, h => whileM (evT C c) (exs C b) C.fuel ρ h
  | .for_ t it b, ρ, h => match evI C it ρ h with
    | .ok I h1 => forM I (asg C t) (exs C b) C.fuel 0 ρ h1
    | .exc c fs h1 => .exc c fs ρ h1
    | .bad => .bad
def exs (C : Cfg) : MSs → Env → MH → SOut
  | .nil, ρ, h => .next ρ h
  | .cons s ss, ρ, h => match ex C s ρ h with
    | .next ρ1 h1 => exs C ss ρ1 h1
    | o => o
end

/-! ### programs -/
/-- where a def stands: a global; a class's method, property, classmethod -/
inductive Pl where
  | glo (x : Str)
  | mth (x m : Str)
  | prp (x m : Str)
  | cmt (x m : Str)
  deriving DecidableEq
structure Fn where
  name : Str
  qual : Str
  at_ : Pl
  params : List Str
  N : List Str
  body : MSs
  dfl : List MV := []
/-- what is not given is a default -/
def Fn.fill (F : Fn) (vs : List MV) : Option (List MV) :=
  if vs.length ≤ F.params.length ∧ F.params.length - vs.length ≤ F.dfl.length then some (vs ++ F.dfl.drop (F.dfl.length - (F.params.length - vs.length))) else none
structure Prog where
  fns : List Fn
  cls : List Cls
  fuel : Nat
  glb : List (Str × MV)
  free : List Str
def startM (n : Nat) (vs : List MV) : Env := vs.map some ++ List.replicate (n - vs.length) none
def Prog.cfg (P : Prog) (call : Nat → List MV → MH → Out MV) : Cfg := ⟨call, P.cls, P.fuel⟩
/-- a call with n levels of calls below it -/
def callM (P : Prog) : Nat → Nat → List MV → MH → Out MV
  | 0, _, _, _ => .bad
  | n + 1, f, vs, h => match P.fns[f]? with
    | some F => match F.fill vs with
      | some ws => match exs (P.cfg (callM P n)) F.body (startM F.N.length ws) h with
        | .next _ h1 => .ok .non h1
        | .ret v h1 => .ok v h1
        | .exc c fs _ h1 => .exc c fs h1
        | _ => .bad
      | none => .bad
    | none => .bad
end Mi

set_option Elab.async false
set_option linter.all false
set_option maxRecDepth 100000
/-! Snd1: how the small interpreter's values and heap lie in the hand layer's abstract heap. -/
namespace Mi
open PySem PySem.Spec PyProof.Rows L2
abbrev St := L2.St

/-- what a run leans on -/
structure Dm where
  P : Program
  w : World
  K : PySem.W.Frag
  ca : Nat → Addr
abbrev dm (X : Cx) (ca : Nat → Addr) : Dm := ⟨X.prog, X.w, X.K, ca⟩

/-! ### values -/
section
variable (D : Dm) (φ : List Addr) (H : Hp)
mutual
inductive VR : MV → V → Prop
  | non : VR .non .non
  | bl (b : Bool) : VR (.bl b) (.bl b)
  | int (i : Int) : VR (.int i) (.int i)
  | str (x : Str) : VR (.str x) (.str x)
  | tup {xs : List MV} {a : Addr} {ys : List V} : SqT D.K H a ys → VRs xs ys → VR (.tup xs) (.ref a)
  | ref {n : Nat} {a : Addr} : φ[n]? = some a → VR (.ref n) (.ref a)
  | cls (c : Nat) : VR (.cls c) (.ref (D.ca c))
  | ty (t : Ty) : VR (.ty t) (.ty t.nm)
inductive VRs : List MV → List V → Prop
  | nil : VRs [] []
  | cons {v : MV} {x : V} {vs : List MV} {xs : List V} : VR v x → VRs vs xs → VRs (v :: vs) (x :: xs)
end
end
/-- the tuples stand -/
def TK (K : PySem.W.Frag) (H H' : Hp) : Prop := ∀ a xs, SqT K H a xs → SqT K H' a xs
section
variable {D : Dm} {φ φ' : List Addr} {H H' H2 : Hp}
theorem TK.refl : TK D.K H H := fun _ _ h => h
theorem TK.trans (a : TK D.K H H') (b : TK D.K H' H2) : TK D.K H H2 := fun x xs h => b x xs (a x xs h)
theorem TK.of (t : ∀ b xs, H b = some (.tup xs) → H' b = some (.tup xs)) (f : ∀ b o u, H b = some (.frz o u) → H' b = some (.frz o u)) : TK D.K H H' := fun a xs h => by
  rcases h with (h | ⟨o, h⟩) | h
  · exact .inl (.inl (t _ _ h))
  · exact .inl (.inr ⟨o, f _ _ _ h⟩)
  · exact .inr h
theorem TK.new {p : Addr} {o : HO} (hp : H p = none) : TK D.K H (upd H p o) :=
  .of (fun b xs e => by rw [upd_ne (ne_of_none e hp)]; exact e) fun b q u e => by rw [upd_ne (ne_of_none e hp)]; exact e
theorem TK.mut {p : Addr} {o : HO} (hm : Mut (H p)) : TK D.K H (upd H p o) :=
  .of (fun b xs e => by rw [upd_ne (by rintro rfl; rw [e] at hm; exact hm)]; exact e) fun b q u e => by rw [upd_ne (by rintro rfl; rw [e] at hm; exact hm)]; exact e
theorem pre_get {n : Nat} {a : Addr} (p : φ <+: φ') (h : φ[n]? = some a) : φ'[n]? = some a := by
  obtain ⟨r, rfl⟩ := p
  rw [List.getElem?_append_left (List.getElem?_eq_some_iff.mp h).1]
  exact h
mutual
theorem VR.mono (p : φ <+: φ') (t : TK D.K H H') : ∀ {v : MV} {x : V}, VR D φ H v x → VR D φ' H' v x
  | _, _, .non => .non
  | _, _, .bl b => .bl b
  | _, _, .int i => .int i
  | _, _, .str x => .str x
  | _, _, .tup h r => .tup (t _ _ h) (VRs.mono p t r)
  | _, _, .ref h => .ref (pre_get p h)
  | _, _, .cls c => .cls c
  | _, _, .ty s => .ty s
theorem VRs.mono (p : φ <+: φ') (t : TK D.K H H') : ∀ {vs : List MV} {xs : List V}, VRs D φ H vs xs → VRs D φ' H' vs xs
  | _, _, .nil => .nil
  | _, _, .cons h r => .cons (VR.mono p t h) (VRs.mono p t r)
end
theorem VRs.length : ∀ {vs : List MV} {xs : List V}, VRs D φ H vs xs → vs.length = xs.length
  | _, _, .nil => rfl
  | _, _, .cons _ r => congrArg Nat.succ r.length
theorem VRs.append : ∀ {vs ws : List MV} {xs ys : List V}, VRs D φ H vs xs → VRs D φ H ws ys → VRs D φ H (vs ++ ws) (xs ++ ys)
  | _, _, _, _, .nil, s => s
  | _, _, _, _, .cons h r, s => .cons h (r.append s)
theorem VRs.take : ∀ {vs : List MV} {xs : List V} (n : Nat), VRs D φ H vs xs → VRs D φ H (vs.take n) (xs.take n)
  | _, _, 0, _ => .nil
  | _, _, _ + 1, .nil => .nil
  | _, _, n + 1, .cons h r => .cons h (r.take n)
theorem VRs.drop : ∀ {vs : List MV} {xs : List V} (n : Nat), VRs D φ H vs xs → VRs D φ H (vs.drop n) (xs.drop n)
  | _, _, 0, r => r
  | _, _, _ + 1, .nil => .nil
  | _, _, n + 1, .cons h r => r.drop n
theorem VRs.set {v : MV} {x : V} (h : VR D φ H v x) : ∀ {vs : List MV} {xs : List V} (i : Nat), VRs D φ H vs xs → VRs D φ H (vs.set i v) (xs.set i x)
  | _, _, _, .nil => .nil
  | _, _, 0, .cons _ r => .cons h r
  | _, _, i + 1, .cons q r => .cons q (r.set h i)
theorem VRs.eraseIdx : ∀ {vs : List MV} {xs : List V} (i : Nat), VRs D φ H vs xs → VRs D φ H (vs.eraseIdx i) (xs.eraseIdx i)
  | _, _, _, .nil => .nil
  | _, _, 0, .cons _ r => r
  | _, _, i + 1, .cons q r => .cons q (r.eraseIdx i)
theorem VRs.flat {vs : List MV} {xs : List V} (h : VRs D φ H vs xs) : ∀ k : Nat, VRs D φ H (List.replicate k vs).flatten (List.replicate k xs).flatten
  | 0 => .nil
  | k + 1 => by
    rw [List.replicate_succ, List.replicate_succ, List.flatten_cons, List.flatten_cons]
    exact h.append (h.flat k)
theorem VRs.get : ∀ {vs : List MV} {xs : List V} {i : Nat} {v : MV}, VRs D φ H vs xs → vs[i]? = some v → ∃ x, xs[i]? = some x ∧ VR D φ H v x
  | _, _, _, _, .nil, e => by simp at e
  | _, _, 0, _, .cons h _, e => by simp at e; subst e; exact ⟨_, rfl, h⟩
  | _, _, i + 1, _, .cons _ r, e => by
    obtain ⟨x, h1, h2⟩ := r.get (i := i) (by simpa using e)
    exact ⟨x, by simpa using h1, h2⟩
theorem VRs.none {vs : List MV} {xs : List V} {i : Nat} (h : VRs D φ H vs xs) (e : vs[i]? = none) : xs[i]? = none := by
  have := h.length
  rw [List.getElem?_eq_none_iff] at e ⊢
  omega
theorem VRs.atI {vs : List MV} {xs : List V} {i : Int} {v : MV} (h : VRs D φ H vs xs) (e : L2.atI vs i = some v) : ∃ x, L2.atI xs i = some x ∧ VR D φ H v x := by
  unfold L2.atI at e ⊢
  rw [← h.length]
  cases q : L2.ixN vs.length i with
  | none => rw [q] at e; cases e
  | some j =>
    rw [q] at e
    exact h.get e
theorem VRs.cut {vs : List MV} {xs : List V} (lo hi : Option Int) (h : VRs D φ H vs xs) : VRs D φ H (cutM vs lo hi) (cutV xs lo hi) := by
  unfold cutM cutV
  rw [h.length]
  exact (h.drop _).take _

/-! ### objects -/
def kM : Key → MV
  | .inl i => .int i
  | .inr x => .str x
/-- the raw dict with tuples as keys -/
def dX (D : Dm) (a : Addr) (xs : List (NestedKey × Addr × Value)) : Heap → Prop := fun h => ∃ o es ep, h.get? a = some o ∧ o.ExactDict ∧ o.data = .dict es ep ∧ es.toList = xs.map (entryOfKey (nestedKind D.P D.w))
/-- one entry of it -/
def NE (D : Dm) (φ : List Addr) (H : Hp) (p : MV × MV) (x : NestedKey × Addr × Value) : Prop :=
  ∃ y, toK p.1 = some x.1 ∧ (∃ ks, x.1 = .tup ks) ∧ x.1.depth ≤ 8 ∧ VR D φ H p.1 (.ref x.2.1) ∧ RelV y x.2.2 ∧ VR D φ H p.2 y
def KE1 (D : Dm) (φ : List Addr) (H : Hp) (p : MV × MV) (q : Key × V) : Prop := p.1 = kM q.1 ∧ VR D φ H p.2 q.2
def DR (D : Dm) (φ : List Addr) (H : Hp) (kvs : List (MV × MV)) (a : Addr) : Prop :=
  (∃ ks : List (Key × V), H a = some (.dK ks) ∧ Paired (KE1 D φ H) kvs ks) ∨
    ∃ xs, H a = some (.ext (dX D a xs)) ∧ (a == sysModules) = false ∧ (xs.map (·.1)).Nodup ∧ kvs ≠ [] ∧ kvs.length ≤ sizeLine ∧ Paired (NE D φ H) kvs xs
/-- one attribute of an instance -/
def FE (D : Dm) (φ : List Addr) (H : Hp) (p : Str × MV) (q : Str × V) : Prop := p.1 = q.1 ∧ VR D φ H p.2 q.2
/-- what stands at a for an object -/
def OR (D : Dm) (φ : List Addr) (H : Hp) : MO → Addr → Prop
  | .lst xs, a => ∃ ys, H a = some (.lst ys) ∧ VRs D φ H xs ys
  | .rol xs, a => ∃ o ys, H a = some (.frz o (.lst ys)) ∧ VRs D φ H xs ys
  | .dic kvs, a => DR D φ H kvs a
  | .ins c fs, a => ∃ dx ys, H a = some (.ins (D.ca c) dx ys) ∧ Paired (FE D φ H) fs ys
theorem OR.mono (p : φ <+: φ') (t : TK D.K H H') {o : MO} {a : Addr} (e : H' a = H a) (h : OR D φ H o a) : OR D φ' H' o a := by
  cases o with
  | lst xs => obtain ⟨ys, h1, h2⟩ := h; exact ⟨ys, by rw [e]; exact h1, h2.mono p t⟩
  | rol xs => obtain ⟨o, ys, h1, h2⟩ := h; exact ⟨o, ys, by rw [e]; exact h1, h2.mono p t⟩
  | dic kvs =>
    rcases h with ⟨ks, h1, h2⟩ | ⟨xs, h1, h2, h3, h4, h4', h5⟩
    · exact .inl ⟨ks, by rw [e]; exact h1, L2.Paired.mapP h2 fun _ _ z => ⟨z.1, z.2.mono p t⟩⟩
    · exact .inr ⟨xs, by rw [e]; exact h1, h2, h3, h4, h4', L2.Paired.mapP h5 fun _ _ ⟨y, z1, z2, z3, z4, z5, z6⟩ => ⟨y, z1, z2, z3, z4.mono p t, z5, z6.mono p t⟩⟩
  | ins c fs =>
    obtain ⟨dx, ys, h1, h2⟩ := h
    exact ⟨dx, ys, by rw [e]; exact h1, L2.Paired.mapP h2 fun _ _ z => ⟨z.1, z.2.mono p t⟩⟩
theorem OR.some {o : MO} {a : Addr} (h : OR D φ H o a) : ∃ u, H a = .some u := by
  cases o with
  | lst xs => obtain ⟨ys, h1, h2⟩ := h; exact ⟨_, h1⟩
  | rol xs => obtain ⟨o, ys, h1, h2⟩ := h; exact ⟨_, h1⟩
  | dic kvs => rcases h with ⟨ks, h1, h2⟩ | ⟨xs, h1, h2⟩ <;> exact ⟨_, h1⟩
  | ins c fs => obtain ⟨dx, ys, h1, h2⟩ := h; exact ⟨_, h1⟩

structure Rep (D : Dm) (φ : List Addr) (h : MH) (H : Hp) : Prop where
  len : φ.length = h.length
  nd : φ.Nodup
  at_ : ∀ (i : Nat) (o : MO), h[i]? = some o → ∃ a, φ[i]? = some a ∧ OR D φ H o a
variable {h h' : MH}
theorem Rep.get (r : Rep D φ h H) {i : Nat} {a : Addr} {o : MO} (e : φ[i]? = some a) (q : h[i]? = some o) : OR D φ H o a := by
  obtain ⟨b, e', w⟩ := r.at_ i o q
  rw [e] at e'; cases e'
  exact w
theorem Rep.there (r : Rep D φ h H) {i : Nat} {a : Addr} (e : φ[i]? = some a) : ∃ o, h[i]? = some o := by
  have h1 := (List.getElem?_eq_some_iff.mp e).1
  rw [r.len] at h1
  exact ⟨h[i], List.getElem?_eq_getElem h1⟩
/-- the heap grows by things that are not told -/
theorem Rep.grow (r : Rep D φ h H) (t : TK D.K H H') (e : ∀ a u, H a = some u → H' a = H a) : Rep D φ h H' :=
  ⟨r.len, r.nd, fun i o q => by
    obtain ⟨a, ea, w⟩ := r.at_ i o q
    obtain ⟨u, hu⟩ := w.some
    exact ⟨a, ea, w.mono (List.prefix_refl _) t (e a u hu)⟩⟩
theorem Rep.upd (r : Rep D φ h H) {p : Addr} {o : HO} (hp : H p = none) : Rep D φ h (upd H p o) :=
  r.grow (TK.new hp) fun a u e => upd_ne (ne_of_none e hp)
/-- a new object -/
theorem Rep.alloc (r : Rep D φ h H) {p : Addr} {o : MO} {u : HO} (hp : H p = none) (w : OR D (φ ++ [p]) (L2.upd H p u) o p) : Rep D (φ ++ [p]) (h ++ [o]) (L2.upd H p u) := by
  have np : p ∉ φ := fun hm => by
    obtain ⟨i, hi⟩ := List.mem_iff_getElem?.mp hm
    obtain ⟨o', q⟩ := r.there hi
    obtain ⟨v, hv⟩ := (r.get hi q).some
    rw [hp] at hv; cases hv
  refine ⟨by simp [r.len], ?_, fun i o' q => ?_⟩
  · rw [List.nodup_append]
    exact ⟨r.nd, by simp, fun a ha b hb => by simp at hb; subst hb; rintro rfl; exact np ha⟩
  · by_cases hi : i < h.length
    · rw [List.getElem?_append_left hi] at q
      obtain ⟨a, ea, w'⟩ := r.at_ i o' q
      obtain ⟨v, hv⟩ := w'.some
      exact ⟨a, pre_get ⟨[p], rfl⟩ ea, w'.mono ⟨[p], rfl⟩ (TK.new hp) (upd_ne (ne_of_none hv hp))⟩
    · have hlt : i < (h ++ [o]).length := (List.getElem?_eq_some_iff.mp q).1
      have e : i = h.length := by simp at hlt; omega
      subst e
      rw [List.getElem?_append_right (Nat.le_refl _)] at q
      simp at q
      subst q
      exact ⟨p, by rw [← r.len, List.getElem?_append_right (Nat.le_refl _)]; simp, w⟩
/-- an object is changed -/
theorem Rep.set (r : Rep D φ h H) {i : Nat} {a : Addr} {o : MO} {u : HO} (e : φ[i]? = some a) (hm : Mut (H a)) (w : OR D φ (L2.upd H a u) o a) : Rep D φ (h.set i o) (L2.upd H a u) := by
  refine ⟨by simp [r.len], r.nd, fun j o' q => ?_⟩
  by_cases hj : i = j
  · subst hj
    have hl : i < h.length := by rw [← r.len]; exact (List.getElem?_eq_some_iff.mp e).1
    rw [List.getElem?_set_self hl] at q
    cases q
    exact ⟨a, e, w⟩
  · rw [List.getElem?_set_ne hj] at q
    obtain ⟨b, eb, w'⟩ := r.at_ j o' q
    have ne : b ≠ a := by
      rintro rfl
      obtain ⟨h1, e1⟩ := List.getElem?_eq_some_iff.mp e
      obtain ⟨h2, e2⟩ := List.getElem?_eq_some_iff.mp eb
      exact hj ((List.getElem_inj r.nd).mp (e1.trans e2.symm))
    exact ⟨b, eb, w'.mono (List.prefix_refl _) (TK.mut hm) (upd_ne ne)⟩
theorem Rep.lst (r : Rep D φ h H) {i : Nat} {a : Addr} {xs : List MV} (e : φ[i]? = some a) (q : h[i]? = some (.lst xs)) : ∃ ys, H a = some (.lst ys) ∧ VRs D φ H xs ys := r.get e q
theorem Rep.rol (r : Rep D φ h H) {i : Nat} {a : Addr} {xs : List MV} (e : φ[i]? = some a) (q : h[i]? = some (.rol xs)) : ∃ o ys, H a = some (.frz o (.lst ys)) ∧ VRs D φ H xs ys := r.get e q
theorem Rep.ins (r : Rep D φ h H) {i : Nat} {a : Addr} {c : Nat} {fs : List (Str × MV)} (e : φ[i]? = some a) (q : h[i]? = some (.ins c fs)) : ∃ dx ys, H a = some (.ins (D.ca c) dx ys) ∧ Paired (FE D φ H) fs ys := r.get e q
theorem fe_get {fs : List (Str × MV)} {ys : List (Str × V)} {f : Str} (p : Paired (FE D φ H) fs ys) : (∀ v, fget fs f = some v → ∃ y, ys.lookup f = some y ∧ VR D φ H v y) ∧ (fget fs f = none → ys.lookup f = none) := by
  induction p with
  | nil => exact ⟨fun v e => (by cases e), fun _ => rfl⟩
  | @cons q z fs ys h r ih =>
    obtain ⟨g, x⟩ := q
    obtain ⟨g', y⟩ := z
    obtain ⟨h1, h2⟩ := h
    have h1 : g = g' := h1
    subst h1
    unfold fget at ih ⊢
    rw [List.lookup_cons, List.lookup_cons]
    cases e : (f == g) with
    | true => exact ⟨fun v e => (by cases e; exact ⟨y, rfl, h2⟩), fun e => (by cases e)⟩
    | false => exact ih
theorem fe_put {fs : List (Str × MV)} {ys : List (Str × V)} {f : Str} {v : MV} {y : V} (p : Paired (FE D φ H) fs ys) (w : VR D φ H v y) : Paired (FE D φ H) (fput fs f v) (L2.putF f y ys) := by
  induction p with
  | nil => exact .cons ⟨rfl, w⟩ .nil
  | @cons q z fs ys h r ih =>
    obtain ⟨g, x⟩ := q
    obtain ⟨g', y'⟩ := z
    obtain ⟨h1, h2⟩ := h
    have h1 : g = g' := h1
    subst h1
    unfold fput L2.putF
    by_cases e : g = f
    · rw [if_pos e, if_pos e]; exact .cons ⟨rfl, w⟩ r
    · rw [if_neg e, if_neg e]; exact .cons ⟨rfl, h2⟩ ih
/-- either kind of list, read -/
theorem Rep.sql (r : Rep D φ h H) {i : Nat} {a : Addr} {xs : List MV} (e : φ[i]? = some a) (q : h[i]? = some (.lst xs) ∨ h[i]? = some (.rol xs)) : ∃ ys, SqL D.K H a ys ∧ VRs D φ H xs ys := by
  rcases q with q | q
  · obtain ⟨ys, h1, h2⟩ := r.lst e q; exact ⟨ys, SqL.of h1, h2⟩
  · obtain ⟨o, ys, h1, h2⟩ := r.rol e q; exact ⟨ys, .inl (.inr ⟨o, h1⟩), h2⟩

/-! ### the frame -/
structure ER (D : Dm) (φ : List Addr) (H : Hp) (ρ : Env) (σ : St) : Prop where
  len : ρ.length = σ.length
  at_ : ∀ (i : Nat) (v : MV), ρ[i]? = some (some v) → ∃ x, σ[i]? = some (some x) ∧ VR D φ H v x
variable {ρ : Env} {σ : St}
theorem ER.mono (e : ER D φ H ρ σ) (p : φ <+: φ') (t : TK D.K H H') : ER D φ' H' ρ σ :=
  ⟨e.len, fun i v q => let ⟨x, h1, h2⟩ := e.at_ i v q; ⟨x, h1, h2.mono p t⟩⟩
theorem ER.set (e : ER D φ H ρ σ) {v : MV} {x : V} (i : Nat) (w : VR D φ H v x) : ER D φ H (ρ.set i (some v)) (σ.set i (some x)) := by
  refine ⟨by simp [e.len], fun j u q => ?_⟩
  by_cases hj : i = j
  · subst hj
    have hl : i < ρ.length := by
      have := (List.getElem?_eq_some_iff.mp q).1
      simpa using this
    rw [List.getElem?_set_self hl] at q
    cases q
    exact ⟨x, List.getElem?_set_self (by rw [← e.len]; exact hl), w⟩
  · rw [List.getElem?_set_ne hj] at q
    rw [List.getElem?_set_ne hj]
    exact e.at_ j u q
theorem wipe_get (σ : St) (j : Nat) : ∀ vs : List Nat, (L2.wipe σ vs)[j]? = if j ∈ vs ∧ j < σ.length then some none else σ[j]?
  | [] => by simp [L2.wipe]
  | v :: vs => by
    have ih := wipe_get σ j vs
    unfold L2.wipe
    by_cases hv : v = j
    · subst hv
      by_cases hl : v < σ.length
      · rw [List.getElem?_set_self (by rw [L2.wipe_length]; exact hl)]
        simp [hl]
      · rw [List.getElem?_eq_none (by rw [List.length_set, L2.wipe_length]; omega), if_neg (by omega), List.getElem?_eq_none (by omega)]
    · rw [List.getElem?_set_ne hv, ih]
      have : (j ∈ v :: vs) ↔ j ∈ vs := by simp [Ne.symm hv]
      simp only [this]
theorem ER.wipe (e : ER D φ H ρ σ) : ∀ vs : List Nat, ER D φ H (Mi.wipe ρ vs) (L2.wipe σ vs)
  | [] => e
  | v :: vs => by
    have ih := e.wipe vs
    refine ⟨by unfold Mi.wipe L2.wipe; simp [ih.len], fun i u q => ?_⟩
    unfold Mi.wipe at q
    unfold L2.wipe
    by_cases hv : v = i
    · subst hv
      by_cases hl : v < (Mi.wipe ρ vs).length
      · rw [List.getElem?_set_self hl] at q; cases q
      · rw [List.getElem?_eq_none (by simpa using hl)] at q; cases q
    · rw [List.getElem?_set_ne hv] at q
      rw [List.getElem?_set_ne hv]
      exact ih.at_ i u q
/-- the frames agree off these slots -/
def Off (ss : List Nat) (σ σ' : St) : Prop := σ'.length = σ.length ∧ ∀ j, j ∉ ss → σ'[j]? = σ[j]?
theorem Off.refl (ss : List Nat) (σ : St) : Off ss σ σ := ⟨rfl, fun _ _ => rfl⟩
theorem Off.trans {ss ss' : List Nat} {σ σ' σ2 : St} (a : Off ss σ σ') (b : Off ss' σ' σ2) : Off (ss ++ ss') σ σ2 :=
  ⟨b.1.trans a.1, fun j hj => by
    rw [List.mem_append, not_or] at hj
    rw [b.2 j hj.2, a.2 j hj.1]⟩
theorem Off.wipe {ss vs : List Nat} {σ σ2 : St} (o : Off ss (L2.wipe σ vs) σ2) (hs : ∀ j ∈ ss, j ∈ vs) : L2.wipe σ2 vs = L2.wipe σ vs := by
  apply List.ext_getElem?
  intro j
  have hl : σ2.length = σ.length := o.1.trans (L2.wipe_length _ _)
  rw [wipe_get, wipe_get, hl]
  by_cases hj : j ∈ vs
  · by_cases hl' : j < σ.length
    · rw [if_pos ⟨hj, hl'⟩, if_pos ⟨hj, hl'⟩]
    · rw [if_neg (by omega), if_neg (by omega), List.getElem?_eq_none (by omega), List.getElem?_eq_none (by omega)]
  · rw [if_neg (fun z => hj z.1), if_neg (fun z => hj z.1)]
    have := o.2 j (fun z => hj (hs j z))
    rw [this, wipe_get, if_neg (fun z => hj z.1)]

/-- a later state: what is not ours stands, what is new to us was free -/
structure Ext (D : Dm) (φ φ' : List Addr) (H H' : Hp) : Prop where
  pre : φ <+: φ'
  tk : TK D.K H H'
  fresh : ∀ a ∈ φ', a ∈ φ ∨ H a = none
  fr : ∀ a u, H a = some u → a ∉ φ → H' a = some u
theorem Ext.refl {φ : List Addr} {H : Hp} : Ext D φ φ H H := ⟨List.prefix_refl _, TK.refl, fun _ h => .inl h, fun _ _ e _ => e⟩
theorem Ext.trans {φ φ1 φ2 : List Addr} {H H1 H2 : Hp} (a : Ext D φ φ1 H H1) (b : Ext D φ1 φ2 H1 H2) : Ext D φ φ2 H H2 where
  pre := a.pre.trans b.pre
  tk := a.tk.trans b.tk
  fresh := fun x hx => by
    rcases b.fresh x hx with h | h
    · exact a.fresh x h
    · cases q : H x with
      | none => exact .inr rfl
      | some u =>
        by_cases hm : x ∈ φ
        · exact .inl hm
        · have := a.fr x u q hm
          rw [h] at this; cases this
  fr := fun x u e hm => by
    refine b.fr x u (a.fr x u e hm) fun hm1 => ?_
    rcases a.fresh x hm1 with h | h
    · exact hm h
    · rw [e] at h; cases h
/-- a free address is taken, for a thing of ours -/
theorem Ext.alloc {φ : List Addr} {H : Hp} {p : Addr} {o : HO} (hp : H p = none) : Ext D φ (φ ++ [p]) H (upd H p o) :=
  ⟨⟨[p], rfl⟩, TK.new hp, fun a ha => (List.mem_append.mp ha).elim .inl fun h => .inr (by rw [List.mem_singleton.mp h]; exact hp), fun a u e _ => by rw [upd_ne (ne_of_none e hp)]; exact e⟩
/-- a free address is taken, for a thing that is not told -/
theorem Ext.lay {φ : List Addr} {H : Hp} {p : Addr} {o : HO} (hp : H p = none) : Ext D φ φ H (upd H p o) :=
  ⟨List.prefix_refl _, TK.new hp, fun _ h => .inl h, fun a u e _ => by rw [upd_ne (ne_of_none e hp)]; exact e⟩
/-- an object of ours is changed -/
theorem Ext.mut {φ : List Addr} {H : Hp} {i : Nat} {p : Addr} {o : HO} (hi : φ[i]? = some p) (hm : Mut (H p)) : Ext D φ φ H (upd H p o) :=
  ⟨List.prefix_refl _, TK.mut hm, fun _ h => .inl h, fun a u e hn => by
    rw [upd_ne (by rintro rfl; exact hn (List.mem_of_getElem? hi))]; exact e⟩
theorem VR.ext {φ φ' : List Addr} {H H' : Hp} {v : MV} {x : V} (h : VR D φ H v x) (e : Ext D φ φ' H H') : VR D φ' H' v x := h.mono e.pre e.tk
theorem VRs.ext {φ φ' : List Addr} {H H' : Hp} {v : List MV} {x : List V} (h : VRs D φ H v x) (e : Ext D φ φ' H H') : VRs D φ' H' v x := h.mono e.pre e.tk
theorem ER.ext {φ φ' : List Addr} {H H' : Hp} {ρ : Env} {σ : St} (h : ER D φ H ρ σ) (e : Ext D φ φ' H H') : ER D φ' H' ρ σ := h.mono e.pre e.tk

/-! ### what is wanted of a run -/
/-- an exception of ours, in the air -/
def XR (φ : List Addr) (H : Hp) (fs : List (Str × MV)) (d : Option Addr) : Prop := ∃ f v y dd, fs = [(f, v)] ∧ d = .some dd ∧ dd ∉ φ ∧ H dd = .some (.xd [(f, y)]) ∧ smp v = true ∧ ∀ D φ H, VR D φ H v y
theorem XR.ext {φ φ' : List Addr} {H H' : Hp} {fs : List (Str × MV)} {d : Option Addr} (x : XR φ H fs d) (e : Ext D φ φ' H H') : XR φ' H' fs d := by
  obtain ⟨f, v, y, dd, h1, h2, h3, h4, h5, h6⟩ := x
  exact ⟨f, v, y, dd, h1, h2, (fun z => (e.fresh dd z).elim h3 fun q => by rw [h4] at q; cases q), e.fr dd _ h4 h3, h5, h6⟩
/-- the end of a run that hands back a thing -/
def Fin {α β : Type} (D : Dm) (W : WX) (R : List Addr → Hp → α → β → Prop) (σ : St) (φ : List Addr) (H : Hp) (Q : β → Hp → Prop) : Out α → Prop
  | .ok v h' => ∀ φ' H' x, Ext D φ φ' H H' → Rep D φ' h' H' → R φ' H' v x → Q x H'
  | .exc c fs h' => ∀ φ' H' d, Ext D φ φ' H H' → Rep D φ' h' H' → XR φ' H' fs d → W (.ref (D.ca c)) d σ H'
  | .bad => False
section
variable {α β γ δ : Type} {W : WX} {R : List Addr → Hp → α → β → Prop} {S : List Addr → Hp → γ → δ → Prop} {Q : β → Hp → Prop}
theorem Fin.mono {o : Out α} (f : Fin D W R σ φ H Q o) (p : Ext D φ φ' H H') : Fin D W R σ φ' H' Q o := by
  cases o with
  | ok v h' => exact fun φ2 H2 x p2 => f φ2 H2 x (p.trans p2)
  | exc c fs h' => exact fun φ2 H2 d p2 => f φ2 H2 d (p.trans p2)
  | bad => exact f
theorem Fin.imp {o : Out α} {Q' : β → Hp → Prop} (f : Fin D W R σ φ H Q o) (q : ∀ x H', Q x H' → Q' x H') : Fin D W R σ φ H Q' o := by
  cases o with
  | ok v h' => exact fun φ2 H2 x p r w => q _ _ (f φ2 H2 x p r w)
  | exc c fs h' => exact f
  | bad => exact f
/-- the state behind a first run, and what is still wanted -/
def Aft (D : Dm) (S : List Addr → Hp → γ → δ → Prop) (φ : List Addr) (H : Hp) (k : γ → MH → List Addr → Hp → Prop) (x : δ) (H1 : Hp) : Prop :=
  ∃ φ1 h1 a, Ext D φ φ1 H H1 ∧ Rep D φ1 h1 H1 ∧ S φ1 H1 a x ∧ k a h1 φ1 H1
theorem Fin.bind {o : Out γ} {k : γ → MH → Out α} (f : Fin D W R σ φ H Q (o.bind k)) :
    Fin D W S σ φ H (Aft D S φ H fun a h1 φ1 H1 => Fin D W R σ φ1 H1 Q (k a h1)) o := by
  cases o with
  | ok v h1 => exact fun φ1 H1 x p r s => ⟨φ1, h1, v, p, r, s, Fin.mono (show Fin D W R σ φ H Q (k v h1) from f) p⟩
  | exc c fs h1 => exact f
  | bad => exact f
end
/-- a reading: from a state that a heap and a frame of ours lie in -/
def tM {α β : Type} (D : Dm) (W : WX) (R : List Addr → Hp → α → β → Prop) (m : Env → MH → Out α) : St → Hp → (β → Hp → Prop) → Prop := fun σ H Q =>
  ∃ φ h ρ, Rep D φ h H ∧ ER D φ H ρ σ ∧ Fin D W R σ φ H Q (m ρ h)
abbrev tE (D : Dm) (W : WX) (m : Env → MH → Out MV) : TE := tM D W (VR D) m
abbrev tT (D : Dm) (W : WX) (m : Env → MH → Out Bool) : TT := tM D W (fun _ _ (a b : Bool) => a = b) m
abbrev tA (D : Dm) (W : WX) (m : Env → MH → Out (List MV)) : TA := tM D W (VRs D) m
abbrev tO (D : Dm) (W : WX) (m : Env → MH → Out (Option Int)) : TO := tM D W (fun _ _ (a b : Option Int) => a = b) m
/-- what is walked -/
def SR (D : Dm) (φ : List Addr) (H : Hp) (I : Sr) (S : Src) : Prop := match I with
  | .lst r => ∃ a, φ[r]? = some a ∧ S = .lst a
  | .tup xs => ∃ a ys, SqT D.K H a ys ∧ VRs D φ H xs ys ∧ S = .tup a
  | .str x => ∃ t, S = .str x t
theorem vrs_signs (x : Str) : VRs D φ H (signs x) (x.cps.toList.map fun c => V.str ⟨#[c]⟩) := by
  unfold signs
  induction x.cps.toList with
  | nil => exact .nil
  | cons c r ih => exact .cons (.str _) ih
theorem SR.items {I : Sr} {S : Src} {h' : MH} {xs : List MV} (sr : SR D φ H I S) (ee : Ext D φ φ' H H') (r : Rep D φ' h' H') (e : I.items h' = some xs) : ∃ ys, S.items D.K H' ys ∧ VRs D φ' H' xs ys := by
  cases I with
  | lst n =>
    obtain ⟨a, ea, rfl⟩ := sr
    have ea' := pre_get ee.pre ea
    unfold Sr.items at e
    dsimp only at e
    split at e
    · rename_i q; cases e; exact r.sql ea' (.inl q)
    · rename_i q; cases e; exact r.sql ea' (.inr q)
    · cases e
  | tup zs =>
    obtain ⟨a, ys, h1, h2, rfl⟩ := sr
    cases e
    exact ⟨ys, ee.tk _ _ h1, h2.ext ee⟩
  | str x =>
    obtain ⟨t, rfl⟩ := sr
    cases e
    exact ⟨_, rfl, vrs_signs x⟩
def IR (D : Dm) (φ : List Addr) (H : Hp) (I : Mi.It) (J : L2.It) : Prop := match I with
  | .enm s => ∃ S, SR D φ H s S ∧ J = IteS D.K S
  | .zip s t => ∃ S T, SR D φ H s S ∧ SR D φ H t T ∧ J = ItzS D.K S T
  | .lst r => ∃ a, φ[r]? = some a ∧ J = Itl D.K a
  | .tup xs => ∃ a ys, SqT D.K H a ys ∧ VRs D φ H xs ys ∧ J = Itt D.K a
  | .rng lo n => J = Itr lo n
  | .str x => J = Its x
abbrev tI (D : Dm) (W : WX) (m : Env → MH → Out Mi.It) : TI := tM D W (IR D) m
/-- a turn: it goes on as ours does -/
theorem IR.turn {I : Mi.It} {J : L2.It} {h' : MH} (ir : IR D φ H I J) (ee : Ext D φ φ' H H') (r : Rep D φ' h' H') (i : Nat) :
    (I.at_ i h' = some none → J.stop i H') ∧ ∀ v, I.at_ i h' = some (some v) → J.go i H' ∧ (∀ x H2, J.yld i H' x H2 → ∃ φ2, Ext D φ' φ2 H' H2 ∧ Rep D φ2 h' H2 ∧ VR D φ2 H2 v x) := by
  cases I with
  | lst n =>
    obtain ⟨a, ea, rfl⟩ := ir
    have ea' := pre_get ee.pre ea
    have key : ∀ xs, (h'[n]? = some (.lst xs) ∨ h'[n]? = some (.rol xs)) → (some xs[i]? = some none → (Itl D.K a).stop i H') ∧ ∀ v, some xs[i]? = some (some v) → (Itl D.K a).go i H' ∧ (∀ x H2, (Itl D.K a).yld i H' x H2 → ∃ φ2, Ext D φ' φ2 H' H2 ∧ Rep D φ2 h' H2 ∧ VR D φ2 H2 v x) := fun xs q => by
      obtain ⟨ys, h1, h2⟩ := r.sql ea' q
      refine ⟨fun e => ?_, fun v e => ?_⟩
      · have e' : xs[i]? = none := by simpa using e
        exact ⟨ys, h1, by have := h2.none e'; rw [List.getElem?_eq_none_iff] at this; exact this⟩
      · have e' : xs[i]? = some v := by simpa using e
        obtain ⟨x, hx, vx⟩ := h2.get e'
        refine ⟨⟨ys, x, h1, hx⟩, fun x' H2 ⟨eH, y⟩ => ?_⟩
        subst eH
        have := y ys h1
        rw [hx] at this
        cases this
        exact ⟨φ', Ext.refl, r, vx⟩
    cases q : h'[n]? with
    | none => simp only [Mi.It.at_, q]; exact ⟨fun e => (by cases e), fun v e => (by cases e)⟩
    | some o =>
      cases o with
      | lst xs => simp only [Mi.It.at_, q]; exact key xs (.inl q)
      | rol xs => simp only [Mi.It.at_, q]; exact key xs (.inr q)
      | dic kvs => simp only [Mi.It.at_, q]; exact ⟨fun e => (by cases e), fun v e => (by cases e)⟩
      | ins c fs => simp only [Mi.It.at_, q]; exact ⟨fun e => (by cases e), fun v e => (by cases e)⟩
  | tup xs =>
    obtain ⟨a, ys, h1, h2, rfl⟩ := ir
    have h1 := ee.tk _ _ h1
    have h2 := h2.ext ee
    simp only [Mi.It.at_]
    refine ⟨fun e => ?_, fun v e => ?_⟩
    · have e' : xs[i]? = none := by simpa using e
      exact ⟨ys, h1, by have := h2.none e'; rw [List.getElem?_eq_none_iff] at this; exact this⟩
    · have e' : xs[i]? = some v := by simpa using e
      obtain ⟨x, hx, vx⟩ := h2.get e'
      refine ⟨⟨ys, x, h1, hx⟩, fun x' H2 ⟨eH, y⟩ => ?_⟩
      subst eH
      have := y ys h1
      rw [hx] at this
      cases this
      exact ⟨φ', Ext.refl, r, vx⟩
  | enm s =>
    obtain ⟨S, sr, rfl⟩ := ir
    simp only [Mi.It.at_]
    cases q : s.items h' with
    | none => exact ⟨fun e => (by cases e), fun v e => (by cases e)⟩
    | some xs =>
      obtain ⟨ys, y1, y2⟩ := sr.items ee r q
      dsimp only
      cases q2 : xs[i]? with
      | none =>
        dsimp only
        refine ⟨fun e => ?_, fun v e => ?_⟩
        · split at e
          · rename_i hi; exact ⟨ys, y1, by rw [← y2.length]; exact hi.symm⟩
          · cases e
        · split at e <;> cases e
      | some x =>
        dsimp only
        refine ⟨fun e => (by cases e), fun v e => ?_⟩
        cases e
        obtain ⟨y, hy, vy⟩ := y2.get q2
        refine ⟨⟨ys, y, y1, hy⟩, fun x' H2 ⟨T, z, e1, e2, e3, e4⟩ => ?_⟩
        subst e1 e3
        have := e4 ys y1
        rw [hy] at this
        cases this
        have ex : Ext D φ' φ' H' (L2.upd H' T (.tup [.int (i : Nat), y])) := Ext.lay e2
        exact ⟨φ', ex, r.upd e2, .tup (.inl (.inl upd_same)) (.cons (.int _) (.cons (vy.ext ex) .nil))⟩
  | zip s t =>
    obtain ⟨S, T0, sr, tr, rfl⟩ := ir
    simp only [Mi.It.at_]
    cases q : s.items h' with
    | none => exact ⟨fun e => (by cases e), fun v e => (by cases e)⟩
    | some xs =>
      cases qt : t.items h' with
      | none => exact ⟨fun e => (by cases e), fun v e => (by cases e)⟩
      | some zs =>
        obtain ⟨ys, y1, y2⟩ := sr.items ee r q
        obtain ⟨ws, w1, w2⟩ := tr.items ee r qt
        dsimp only
        have stop : ∀ {c : Prop} [Decidable c], c = (i ≤ xs.length ∧ i ≤ zs.length ∧ (i = xs.length ∨ i = zs.length)) → ((if c then some none else none : Option (Option MV)) = some none → (ItzS D.K S T0).stop i H') ∧ ∀ v, (if c then some none else none : Option (Option MV)) = some (some v) → (ItzS D.K S T0).go i H' ∧ (∀ x H2, (ItzS D.K S T0).yld i H' x H2 → ∃ φ2, Ext D φ' φ2 H' H2 ∧ Rep D φ2 h' H2 ∧ VR D φ2 H2 v x) := fun hc => by
          refine ⟨fun e => ?_, fun v e => ?_⟩
          · split at e
            · rename_i hi
              rw [hc] at hi
              exact ⟨ys, ws, y1, w1, by rw [← y2.length]; exact hi.1, by rw [← w2.length]; exact hi.2.1, by rw [← y2.length, ← w2.length]; exact hi.2.2⟩
            · cases e
          · split at e <;> cases e
        cases q2 : xs[i]? with
        | none => exact stop rfl
        | some x =>
          cases q3 : zs[i]? with
          | none => exact stop rfl
          | some z =>
            dsimp only
            refine ⟨fun e => (by cases e), fun v e => ?_⟩
            cases e
            obtain ⟨y, hy, vy⟩ := y2.get q2
            obtain ⟨w, hw, vw⟩ := w2.get q3
            refine ⟨⟨ys, ws, y, w, y1, w1, hy, hw⟩, fun x' H2 ⟨T, a, b, e1, e2, e3, e4, e5⟩ => ?_⟩
            subst e1 e3
            have := e4 ys y1
            rw [hy] at this
            cases this
            have := e5 ws w1
            rw [hw] at this
            cases this
            have ex : Ext D φ' φ' H' (L2.upd H' T (.tup [y, w])) := Ext.lay e2
            exact ⟨φ', ex, r.upd e2, .tup (.inl (.inl upd_same)) (.cons (vy.ext ex) (.cons (vw.ext ex) .nil))⟩
  | rng lo n =>
    have ir : J = Itr lo n := ir
    subst ir
    simp only [Mi.It.at_]
    refine ⟨fun e => ?_, fun v e => ?_⟩
    · have e' : ¬ i < n := by
        intro hlt
        rw [if_pos hlt] at e
        simp at e
      show n ≤ i
      omega
    · by_cases hlt : i < n
      · rw [if_pos hlt] at e
        cases e
        refine ⟨hlt, fun x H2 ⟨eH, ex⟩ => ?_⟩
        subst eH ex
        exact ⟨φ', Ext.refl, r, .int _⟩
      · rw [if_neg hlt] at e; cases e
  | str x =>
    have ir : J = Its x := ir
    subst ir
    simp only [Mi.It.at_]
    refine ⟨fun e => ?_, fun v e => ?_⟩
    · have e' : x.cps.toList[i]? = none := by
        cases q : x.cps.toList[i]? with
        | none => rfl
        | some c => rw [q] at e; simp at e
      show x.cps.size ≤ i
      rw [List.getElem?_eq_none_iff, Array.length_toList] at e'
      exact e'
    · cases q : x.cps.toList[i]? with
      | none => rw [q] at e; simp at e
      | some c =>
        rw [q] at e
        simp at e
        subst e
        have hl : i < x.cps.size := by
          have := (List.getElem?_eq_some_iff.mp q).1
          simpa using this
        refine ⟨hl, fun y H2 ⟨eH, c', hc, ey⟩ => ?_⟩
        subst eH ey
        have : c' = c := by
          rw [Array.getElem?_toList] at q
          rw [q] at hc
          exact (Option.some.inj hc).symm
        subst this
        exact ⟨φ', Ext.refl, r, .str _⟩
end
end Mi

set_option Elab.async false
set_option linter.all false
set_option maxRecDepth 100000
set_option maxHeartbeats 2000000
/-! SupE: an exception's __init__ that says super().__init__('..') and sets one attribute. -/
namespace Mi
open PySem PySem.Spec PyProof.Rows L2 NdefX

/-- the body of such an __init__ -/
def supBody (f par : Str) : List Stmt → Bool
  | [.Expr (.Call (.Attribute (.Call (.Name s _) [] [] _) i ap) [.Constant (.str _) _ _] [] pos) _, .Assign [.Attribute (.Name o _) g _] (.Name q _) _] => decide (s = "super") && (decide (i = "__init__") && (decide (o = "self") && (decide (g = f) && (decide (q = par) && (ap.endLine == pos.line)))))
  | _ => false
/-- what the text's K says of the class at C, its __init__ at fI -/
structure SupK (P : Program) (K : PySem.W.Frag) (C fI : Addr) (f par : Str) (fd : FuncData) : Prop where
  oex : OexC K C
  hno : PySem.W.findIn K (.ref C) f = some none
  ex : ∃ (F : NF) (oc : Value) (od : Option Addr) (osl : Array (Option Value)) (dV kV doc pm : Value) (an : Option Addr) (ct : Value) (cc : Addr), fd = PySem.W.fnX F.name F.qual F.params F.body F.scope F.cl dV kV doc pm an (.ref F.c) ct ∧
    K.lookup fI = some ⟨oc, od, .func fd, osl⟩ ∧ F.cl = [(("__class__" : Str), cc)] ∧ PySem.W.codeIn K (.ref F.c) F.qual = true ∧ supBody f par F.body = true ∧ NScope ["self", par, "__class__"] ["self", par] ["__class__"] F.scope ∧
    (∃ ar : Arg, (F.params.posonlyargs ++ F.params.args).head? = some ar ∧ ar.arg = "self") ∧ F.scope.names.lookup ("super" : Str) = some .globalImplicit ∧
    (∃ ccl cdd vs ccs file tf, K.lookup F.c = some ⟨ccl, cdd, .fields vs, ccs⟩ ∧ vs[2]? = some (.str file tf) ∧ ((P.main.file : Str) == file) = true) ∧
    (∃ cl cld csl, K.lookup cc = some ⟨cl, cld, .cell (some (.ref C)), csl⟩)
  sup : PySem.W.subIn K (.ref C) (.type "ValueError") = some true
  along : ∃ cd, PySem.W.clsIn K C = some cd ∧ PySem.W.alongIn K "__init__" ((cd.mro.dropWhile (· != .ref C)).drop 1) = some (some (.builtin "ValueError.__init__"))
  self : PySem.W.mroIn K C (.ref C) = some true
  nosup : PySem.W.nsIn K mainGlobals "super" = some none
  noop : PySem.W.nsIn K cStatics "thirdparty.any" = some none
  pd : (par == ("__debug__" : Str)) = false ∧ (par == ("__classdict__" : Str)) = false
  top : (P.main.scope.names.lookup ("super" : Str)).isSome = false
/-- what it promises -/
def spSup (K : PySem.W.Frag) (C : Addr) (f : Str) : Sp := fun vs H Q _ => ∃ a v, vs = [.ref a, v] ∧ H a = some (exo a C none) ∧ ∀ dx, H dx = none → dx ≠ a → Q .non (upd (upd H dx (exd dx [(f, v)])) a (exo a C (some dx)))

section
variable {P : Program} {w : World} {K : PySem.W.Frag} {mg : Str → Option Value} {base : Heap} {C fI : Addr} {f par : Str} {fd : FuncData} {CX : CXT}
theorem boot_super : bootBuiltins "super" = some (.type "super") := by first | boot_by_name | rfl | kernel_rfl
/-- ValueError.__init__, bound to the exception, is called -/
theorem bound_init {X : Cx} {pins : List (Addr × Obj)} {σ : L2.St} {H : Hp} {s : Shared} {a u : Addr} {us : List Value} {A : Around} {E : Value → Shared → Prop} {Q : Value → Shared → Prop} (T : OexC X.K C) (I : Inv X pins σ H s) (e : H a = some (exo a C none)) (hl : us.length ≤ sizeLine)
    (hu : s.heap.get? u = some (PySem.W.kxs_mw "ValueError.__init__" a)) (h : ∀ s', Inv X pins σ H s' → Q .none s') : wpAny (model X.prog X.w) A (call (.ref u) us) Q E s := by
  obtain ⟨nm, q, N, bs, bm, sn, sub, ab, col, dd, k0, k1, k2, k3, k5, hC, hbm⟩ := T.cls
  obtain ⟨t1, ho⟩ := exo_at I.hok e
  have kin := I.kIn
  obtain ⟨hp, g, d, t, os⟩ := s
  refine wpAny_call (codeAny_of_tree ?_)
  show wpAny _ A.in1 (callAny (.ref u) ⟨us, []⟩) _ _ _
  simp only [callAny]
  refine wpAny_bind (wpAny_load hu ?_)
  simp only [PySem.W.kxs_mw, show (Value.type "method-wrapper" == Value.type "method" || Value.type "method-wrapper" == Value.type "builtin_function_or_method" || Value.type "method-wrapper" == Value.type "method-wrapper") = true by decide, if_true]
  refine PySem.W.KFB.if_so (by decide) ?_
  refine wpAny_bind (PySem.W.check_bound_init PySem.F.excBase_ValueError.toExcCallFacts (kin _ _ hC) ho rfl ?_)
  refine wpAny_bind (wpAny_pure (wpAny_pure ?_))
  refine ⟨plainId_quiet PySem.F.excBase_ValueError.init.plain _, codeAny_builtin PySem.F.excBase_ValueError.initEntry ?_⟩
  refine PySem.W.exc_init_tree (cls := .ref C) (t0 := t1) (dv := none) (c2 := .none) (c3 := .none) (b4 := .bool false) ho hl fun h' k hx _ => ?_
  have J := I.write (t' := t) (x := a) (e := a) (o := exo a C none) (by rw [e]; exact True.intro) (.inl rfl) k ⟨_, hx⟩ (exo_ok hx)
  have eu : upd H a (exo a C none) = H := by
    funext b
    by_cases hb : b = a
    · rw [hb, upd_same, e]
    · rw [upd_ne hb]
  rw [eu] at J
  exact h _ J

theorem drop_self (C : Addr) (l : List Value) : ((Value.ref C :: l).dropWhile (· != .ref C)).drop 1 = l := by
  simp [List.dropWhile_cons]
/-- the __init__ keeps its promise -/
theorem sup_ok (S : SupK P K C fI f par fd) : FnOk P w K mg base CX 1 fI fd ["self", par] (spSup K C f) := by
  obtain ⟨T, hno, ⟨F, oc, od, osl, dV, kV, doc, pm, an, ct, cc, rfl, lk, hcl, hcd, hbd, NS, ⟨ar, har, hars⟩, hsu, ⟨ccl, cdd, vs0, ccs, file, tf, hcode, hvs, hfile⟩, ⟨cl0, cld, csl, hcell⟩⟩, hsub, ⟨cd, hcd2, hal⟩, hself, hnosup, hnoop, hpd, htop⟩ := S
  refine ⟨fun vs H Q E ⟨a, v, e, _⟩ => by rw [e]; rfl, fun A outer s H args us vs Q E hr e0 hb r hsp => ?_⟩
  obtain ⟨a, v, rfl, ha, hq⟩ := hsp
  have KX : K.In s.heap := e0.mod.kin.keeps fun b o e => (e0.bs b o e).1
  have lim : s.heap.NoLimit := e0.mod.nolimit.keeps fun b o e => (e0.bs b o e).1
  have cn : ∀ b o, K.lookup b = some o → H b = none := fun b o e => (e0.bs b o (e0.mod.kin _ _ e)).2
  refine ks_codeAny_call_defAt (fd := PySem.W.fnX F.name F.qual F.params F.body F.scope F.cl dV kV doc pm an (.ref F.c) ct) (body := F.body) (binds := (["self", par] : List Str).zip us) hr.depth (KX _ _ lk) rfl lim (PySem.W.codeRec_of KX hcd) rfl hb NS.nocell (fun x hx => NS.par x.1 (List.of_mem_zip hx).1) (fun h₁ hns kp => ?_) NS.co NS.gen NS.kind
  obtain ⟨nm, q, N, bs, bm, sn, sub, ab, col, dd, k0, k1, k2, k3, k5, hC, hbm⟩ := T.cls
  have hcl2 : PySem.W.clsIn K C = some { name := nm, bases := bs, mro := .ref C :: bm, ns := N, qualname := q, hasDict := true, slotNames := sn, subclasses := sub, abstract := ab, collection := col, hasDel := false } := by unfold PySem.W.clsIn; rw [hC] <;> rfl
  rw [hcd2] at hcl2
  cases hcl2
  have I : Inv (ncx CX P w K mg base ["self", par, "__class__"] F fI A outer s H E) [] (startF ["self", par, "__class__"] [.ref a, v] [none]) H { s with heap := h₁, toks := s.toks + ((["self", par] : List Str).zip us).length } := by
    refine inv_startN (fr := ["__class__"]) NS hr.hd e0 rfl r ⟨rfl, fun y c e => ?_, fun x y c h1 h2 => ?_, fun i y e => ?_⟩ hns kp
    · rw [hcl] at e
      have e2 : c = cc := by
        rw [List.lookup_cons] at e
        split at e
        · exact (Option.some.inj e).symm
        · cases e
      subst e2
      exact ⟨cn _ _ hcell, _, _, KX _ _ hcell, rfl⟩
    · rw [hcl] at h1 h2
      rw [List.lookup_cons] at h1 h2
      split at h1
      · split at h2
        · rename_i g1 _ g2 _
          first
            | exact (eq_of_beq (by assumption)).trans (eq_of_beq (by assumption)).symm
            | (simp_all)
        · cases h2
      · cases h1
    · cases i with
      | zero =>
        simp at e
        subst e
        exact ⟨cc, by rw [hcl]; simp [List.lookup], fun v hv => by simp at hv⟩
      | succ i => simp at e
  unfold supBody at hbd
  split at hbd
  · rename_i body sN p0 p1 i ap z1 z2 z3 pos p5 o q1 g q2 qn q3 q4 hbody
    simp only [Bool.and_eq_true, decide_eq_true_eq] at hbd
    obtain ⟨rfl, rfl, rfl, rfl, rfl, hline⟩ := hbd
    have rsem := r
    cases rsem with
    | @cons _ ua _ us' ra r' =>
    obtain rfl : ua = Value.ref a := ra
    have X2 : K.In h₁ := KX.keeps kp
    have hro : ((["self", qn] : List Str).zip (Value.ref a :: us')).reverse.lookup ("self" : Str) = some (Value.ref a) := zip_look (i := 0) (by
      have := NS.nd
      simp only [List.nodup_cons, List.mem_cons, not_or] at this ⊢
      exact ⟨⟨this.1.1, by simp⟩, by simp, List.nodup_nil⟩) rfl rfl
    obtain ⟨t1, ho⟩ := exo_at I.hok ha
    have IA : PySem.W.InstAt h₁ a { cls := .ref C, dict := none, data := .fields #[.ref t1, .none, .none, .none, .bool false, .none] } C none := ⟨ho, rfl, rfl, trivial⟩
    show _root_.PySem.wpAt (model P w) (A.deeper (envF F fI s.heap.objs.size)) (.func F.body (envF F fI s.heap.objs.size)) (execs F.body (envF F fI s.heap.objs.size)) _ _ _
    rw [hbody]
    refine ks_wpAt_execs_cons (ks_wpAt_Expr_any ?_ I.quiet (by rfl))
    rw [arm_eval_Call]
    refine _root_.PySem.wpAt_bind (ks_wpAt_super_base (fd := PySem.W.fnX F.name F.qual F.params F.body F.scope F.cl dV kV doc pm an (.ref F.c) ct) hsu (NS.frk "__class__" (by simp)) (by decide) rfl (X2 _ _ lk) rfl har rfl (X2 _ _ hcode) rfl hvs hfile htop ?_)
    obtain ⟨mb, hb1, hb2⟩ := I.mod.blt
    refine PySem.W.ks_loadName_global NS.kind hsu (PySem.Calls.loadGlobal_builtin (I.mod.glob.keeps I.bk) (PySem.W.mg_none_of e0.mod.kin e0.mod.glob hnosup) (hb1.keeps I.bk) ((hb2 _ (by decide)).trans boot_super) ⟨rfl, ?_⟩)
    refine wpAny_loadName_free NS.kind (NS.frk "__class__" (by simp)) (show F.cl.lookup ("__class__" : Str) = some cc by rw [hcl]; simp [List.lookup]) ⟨_, X2 _ _ hcell, rfl⟩ ?_
    rw [hars]
    refine wpAny_loadName_local NS.kind (NS.par "self" (by simp)) hns hro ?_
    refine ks_wpAny_isType_cls (X2 _ _ hC) rfl ⟨rfl, ?_⟩
    refine ks_wpAny_call_super (X2 _ _ hC) rfl ho rfl (fun c e => by cases e) (PySem.W.looks_mroIn X2 hself) (fun h2 hso k2 => ?_)
    refine _root_.PySem.wpAt_of_wpAny (wpAny_bind (wpAny_standAt ?_))
    have X3 : K.In h2 := X2.keeps k2
    have IA2 : PySem.W.InstAt h2 a { cls := .ref C, dict := none, data := .fields #[.ref t1, .none, .none, .none, .bool false, .none] } C none := ⟨k2 _ _ ho, rfl, rfl, trivial⟩
    have hpos : methodCallPos true (.Call (.Name "super" p0) [] [] p1) (envF F fI s.heap.objs.size) ap pos = pure pos := by unfold methodCallPos; simp [hline]
    have hform : methodCallForm ([Expr.Constant (Const.str z1) z2 z3].length + ([] : List Keyword).length) (backTo pos (starEach [Expr.Constant (Const.str z1) z2 z3] (envF F fI s.heap.objs.size))) (backToKw pos (keywordEach [] (envF F fI s.heap.objs.size))) = true := rfl
    unfold methodCall
    rw [hform]
    have LC : PySem.W.Looks (model P w) h2 (mroOf (.ref C)) (.ref C :: bm) := fun A Q E s k q => wpAny_bind ((PySem.W.looks_clsIn X3 hcd2) A _ E s k (wpAny_pure q))
    have LI : PySem.W.Looks (model P w) h2 (isInstance (.ref a) (.type "ValueError")) true := IA2.type.andThen (PySem.W.looks_subIn X3 hsub)
    rw [drop_self] at hal
    refine wpAny_bind (wpAny_holding (PySem.W.kxs_getMethod PySem.W.kxs_ValueError hso (PySem.W.looks_opaque X3 hnoop) LC (drop_self C bm) X3 hal LI (PySem.W.ks_ne X3 IA2 hcd2) (by decide) ?_))
    refine wpAny_bind (wpAny_of_eq hpos ?_)
    have I2 := ClX.pin_new (t' := s.toks + ((["self", qn] : List Str).zip (Value.ref a :: us')).length + 1) I (a := h2.objs.size) (o := PySem.W.kxs_mw "ValueError.__init__" a) (h' := h2.push (PySem.W.kxs_mw "ValueError.__init__" a)) (fun b o e => Heap.get?_push_of_some _ (k2 b o e)) (Nat.le_of_lt (Heap.lt_size hso)) (Heap.get?_push_size _ rfl) (fun v z => nomatch z)
    refine PySem.W.kxs_callWith (i := "ValueError.__init__") (x := a) rfl (PySem.Calls.evalArgs_plain ?_)
    refine wpAny_mono ((pa_cons pe_str pa_nil).run pos _ _ _ H (fun vs H' => vs = [.str z1] ∧ H' = H) I2 ⟨rfl, rfl⟩) (fun ws s3 hh => ?_) fun _ _ z => ?_
    · obtain ⟨vs3, H3, I3, rv3, rfl, rfl⟩ := hh
      refine ⟨ClX.pin_at I3, ?_⟩
      refine bound_init T (ClX.unpin I3) ha (by show ws.length ≤ sizeLine; rw [← rv3.length]; exact (by decide : 1 ≤ sizeLine)) (ClX.pin_at I3) fun s4 I4 => ?_
      show _root_.PySem.wpAt _ _ _ (execs _ _) _ _ s4
      refine _root_.PySem.wpAt_of_wpAny (wpAny_mono ((pss_one (ps_ost (pe_var (i := 0) rfl (.inl (NS.par "self" (by simp)))) (pe_var (i := 1) rfl (.inl (NS.par qn (by simp))) ?d1 ?d2))).run [] s4 _ _ { nx := fun _ H' => Q .non H', rt := Q } I4 ⟨v, rfl, .ref a, rfl, a, C, rfl, T, hno, .inl ⟨ha, fun dx n ne => hq dx n ne⟩⟩) (fun fl s5 hs => ?_) fun e s5 hs => hs)
      case d1 => exact hpd.1
      case d2 => exact hpd.2
      cases fl with
      | ret u =>
        obtain ⟨v', σ', H', J, rv', q'⟩ := hs
        exact ⟨v', H', J.os, J.bare, J.base, J.hok, rv', q'⟩
      | next =>
        obtain ⟨σ', H', J, q'⟩ := hs
        exact ⟨V.non, H', J.os, J.bare, J.base, J.hok, rfl, q'⟩
      | brk =>
        obtain ⟨_, _, _, q'⟩ := hs
        exact False.elim q'
      | cont =>
        obtain ⟨_, _, _, q'⟩ := hs
        exact False.elim q'
    · exact z
  · cases hbd
end
end Mi

set_option Elab.async false
set_option linter.all false
set_option maxRecDepth 100000
set_option maxHeartbeats 2000000
/-! TryA: several except clauses, with names or without. -/
namespace Mi
open PySem PySem.Spec PyProof.Rows L2
abbrev SuiteT := Addr → Value → Option Addr → TS
def endsA (i : Nat) (D : Ends) : Ends := { nx := fun σ' H' => D.nx (σ'.set i none) H', rt := D.rt, bk := fun σ' H' => D.bk (σ'.set i none) H', ct := fun σ' H' => D.ct (σ'.set i none) H' }
/-- what the clauses wish of an exception of the body, one after the other -/
def wManyA (K : PySem.W.Frag) (Wout : WX) (D : Ends) : List (Value × Option Nat × SuiteT) → WX
  | [] => Wout
  | (c, o, ts) :: r => fun cls d σ H => ∃ b, PySem.W.exmOne K cls c = some b ∧ (b = true → ∀ a, H a = none → match o with
      | none => ts a cls d D σ H
      | some i => ts a cls d (endsA i D) (σ.set i (some (.ref a))) H) ∧ (b = false → wManyA K Wout D r cls d σ H)
inductive HdsA (X : Cx) : List ExceptHandler → List (Value × Option Nat × SuiteT) → Prop
  | nil : HdsA X [] []
  | cons {x : Str} {c : Value} {ts : SuiteT} {b₀ : Stmt} {suite : List Stmt} {np pos' : Pos} {hds : List ExceptHandler} {l : List (Value × Option Nat × SuiteT)} (hc : Names X x c)
      (hsu : ∀ (a : Addr) (oe : Obj) (cls : Value) (d : Option Addr) (pn : List (Addr × Obj)), Zc cls d oe → (∃ vs, oe.data = .fields vs) → PSs (X.suite a ((a, oe) :: pn)) (b₀ :: suite) (ts a cls d)) (r : HdsA X hds l) :
      HdsA X (.ExceptHandler (some (.Name x np)) none (b₀ :: suite) pos' :: hds) ((c, none, ts) :: l)
  | consA {x n : Str} {i : Nat} {c : Value} {ts : SuiteT} {b₀ : Stmt} {suite : List Stmt} {np pos' : Pos} {hds : List ExceptHandler} {l : List (Value × Option Nat × SuiteT)} (hc : Names X x c) (hi : X.N[i]? = some n) (hln : X.env.kindOf n = some .local)
      (hsu : ∀ (a : Addr) (oe : Obj) (cls : Value) (d : Option Addr) (pn : List (Addr × Obj)), Zc cls d oe → (∃ vs, oe.data = .fields vs) → PSs (X.suite a ((a, oe) :: pn)) (b₀ :: suite) (ts a cls d)) (r : HdsA X hds l) :
      HdsA X (.ExceptHandler (some (.Name x np)) (some n) (b₀ :: suite) pos' :: hds) ((c, some i, ts) :: l)
section
variable {X : Cx} {body : List Stmt} {h₀ : ExceptHandler} {hds : List ExceptHandler} {l : List (Value × Option Nat × SuiteT)} {pos : Pos} {tb : WX → TS} {Wout : WX}
theorem ps_try_manyA (hs : X.stack = X.env :: X.outer) (hf : X.env.frame = some X.env.locals) (hN : X.N.Nodup) (tk : Takes X Wout)
    (hb : ∀ (W : WX) (pn : List (Addr × Obj)) (xe : Value → Shared → Prop), Takes (X.tr pn xe) W → PassesOwn (model X.prog X.w) X.A X.env xe → PSs (X.tr pn xe) body (tb W))
    (hh : HdsA X (h₀ :: hds) l) : PS X (.Try body (h₀ :: hds) [] [] pos) (fun D σ H => tb (wManyA X.K Wout D l) D σ H) := by
  refine ⟨fun pins s σ H D I h => ?_⟩
  have ok := I.ok
  have hfr : X.A.frames = some (X.env :: X.outer) := by rw [ok.frames, hs]
  refine wpAny_Try_except ?_
  refine wpAny_mono ((hb (wManyA X.K Wout D l) (X.pn ++ pins) (fun e s₁ => wpAny (model X.prog X.w) X.A (noteFrame e X.env) (fun _ s₂ => wpAny (model X.prog X.w) X.A (setFlight e none) (fun _ s₃ =>
    wpAny (model X.prog X.w) X.A (handleBy e X.env (h₀ :: hds)) (SP X pins D) X.xe s₃) X.xe s₂) X.xe s₁) (fun u s' xx => ?_) PassesOwn.looking).run [] s σ H D (I.toTry _) h) (fun f s1 hsp => ?_) (fun e s1 he => he)
  · -- the catch
    obtain ⟨a, B, sI, pins', σ', H', cls, d, rfl, J', nb, up, sky, na, os, ag, w⟩ := xx
    have J : Inv X pins σ' H' sI := J'.ofTry ok
    have sky' : Sky B (X.env :: X.outer) a (Zc cls d) X.env.locals s'.heap := by rw [← hs]; exact sky
    show wpAny (model X.prog X.w) X.A (noteFrame (.ref a) X.env) _ _ _
    refine Sky.land Zc.steady hfr hf sky' fun h3 fl3 up3 => ?_
    have J3 : Inv X pins σ' H' { s' with heap := h3 } := J.landed nb fl3.1 (up.trans up3) os ag
    obtain ⟨oe3, vs3, he3, hz3, hd3⟩ := fl3.there
    have notFr : ∀ {h : Heap} {o : Obj} {vs : Array Value}, h.FunFrames B (X.env :: X.outer) → h.get? a = some o → o.data = .fields vs → a ∉ frs (X.env :: X.outer) := fun {h o vs} ff e dd hm => by
      obtain ⟨_, o', e', hnf⟩ := ff.mem hm
      rw [e] at e'; cases e'
      exact hnf _ dd
    have nfr := notFr fl3.2.2.1 he3 hd3
    have nL : a ≠ X.env.locals := fun z => nfr (List.mem_filterMap.mpr ⟨X.env, List.mem_cons_self, by rw [hf, z]⟩)
    have nF : a ∉ X.fs := fun hm => by
      obtain ⟨e, he, q⟩ := List.mem_filterMap.mp hm
      exact nfr (List.mem_filterMap.mpr ⟨e, List.mem_cons_of_mem _ he, q⟩)
    have S3 := J3.suite he3 hd3 na nL nF
    have tst : ∀ {x : Str} {c : Value} {np : Pos} (hc : Names X x c) {Q : Value → Shared → Prop} {E : Value → Shared → Prop}, Q c { s' with heap := h3 } → wpAny (model X.prog X.w) (X.A.mark (some (.ref a))) (eval (.Name x np) X.env) Q E { s' with heap := h3 } := fun {x c np} hc {Q E} q => by
      obtain ⟨hg, hdbg, hm | ⟨hm, hv, hnn⟩⟩ := hc
      · exact ld_glob (X := X.suite a ((a, oe3) :: (X.pn ++ pins))) S3 hg hm q hdbg
      · exact ld_blt (X := X.suite a ((a, oe3) :: (X.pn ++ pins))) S3 hg hm hv q hnn hdbg
    have go : ∀ {hds' : List ExceptHandler} {l' : List (Value × Option Nat × SuiteT)}, HdsA X hds' l' → wManyA X.K Wout D l' cls d σ' H' →
        wpAny (model X.prog X.w) X.A (handleBy (.ref a) X.env hds') (SP X pins D) X.xe { s' with heap := h3 } := by
      intro hds' l' hk
      induction hk with
      | nil =>
        intro w
        refine wpAny_handleBy_nil ?_
        obtain ⟨k1, k2, k3, oe, vs, T, oT, ts', he, hz, hd, h1, hr⟩ := id fl3
        unfold PySem.passOn
        refine wpAny_bind (wpAny_field he hd h1 ?_)
        rw [if_neg (show ¬ ((Value.ref T == Value.none) = true) from by simp)]
        have fin : wpAny (model X.prog X.w) X.A (setFlight (.ref a) X.env.frame) (fun _ s4 => wpAny (model X.prog X.w) X.A (throw (.ref a) : Sem Flow) (SP X pins D) X.xe s4) X.xe { s' with heap := h3 } := by
          rw [hf]
          refine HandSPX.setFlight_upZ fl3 fun h4 hh4 up4 => wpAny_throw (tk _ _ ?_)
          exact ⟨a, B, sI, pins, σ', H', cls, d, rfl, J, nb, (up.trans up3).trans up4, .inr (.inr (by rw [hs]; exact hh4)), na, os, ag, w⟩
        first
          | exact wpAny_bind (wpAny_pure (wpAny_bind fin))
          | exact wpAny_bind fin
      | @cons x c ts b₀ suite np pos' hds2 l2 hc hsu r ih =>
        intro w
        obtain ⟨b, hb1, hyes, hno⟩ := w
        refine wpAny_handleBy_cons (codeAny_handlers_test ?_) (by intro q; cases q)
        have LT : PySem.W.Looks (model X.prog X.w) h3 (typeOf (.ref a)) cls := fun A Q E s k q => wpAny_typeOf_ref (k _ _ he3) (by rw [hz3.1]; exact q)
        have LM := PySem.W.exm_one (M := model X.prog X.w) (J3.kIn) LT hb1
        refine tst hc (LM.here ?_)
        cases b with
        | true =>
          refine codeAny_handlers_suite ?_
          refine HandSPX.lands_againZ fl3 fun h4 fl4 up4 => ?_
          have J4 : Inv X pins σ' H' { s' with heap := h4 } := J.landed nb fl4.1 ((up.trans up3).trans up4) os ag
          obtain ⟨oe4, vs4, he4, hz4, hd4⟩ := fl4.there
          have S4 := J4.suite he4 hd4 na nL nF
          refine wpAny_mono ((hsu a oe4 cls d (X.pn ++ pins) hz4 ⟨_, hd4⟩).run [] _ _ H' _ S4 (hyes rfl a na)) (fun f s6 hsp => ?_) (fun _ _ z => False.elim z)
          cases f with
          | next =>
            obtain ⟨σ6, H6, S6, q6⟩ := hsp
            exact ⟨_, _, S6.unsuite ok, q6⟩
          | brk =>
            obtain ⟨σ6, H6, S6, q6⟩ := hsp
            exact ⟨_, _, S6.unsuite ok, q6⟩
          | cont =>
            obtain ⟨σ6, H6, S6, q6⟩ := hsp
            exact ⟨_, _, S6.unsuite ok, q6⟩
          | ret u =>
            obtain ⟨v6, σ6, H6, S6, r6, q6⟩ := hsp
            exact ⟨_, _, _, S6.unsuite ok, r6, q6⟩
        | false =>
          show wpAny _ X.A (handleBy (.ref a) X.env hds2) _ _ _
          exact ih (hno rfl)
      | @consA x n i c ts b₀ suite np pos' hds2 l2 hc hi hln hsu r ih =>
        intro w
        have hloc : L2.Loc X.env.scope n := .inl hln
        obtain ⟨b, hb1, hyes, hno⟩ := w
        refine wpAny_handleBy_cons (codeAny_handlers_test ?_) (by intro q; cases q)
        have LT : PySem.W.Looks (model X.prog X.w) h3 (typeOf (.ref a)) cls := fun A Q E s k q => wpAny_typeOf_ref (k _ _ he3) (by rw [hz3.1]; exact q)
        have LM := PySem.W.exm_one (M := model X.prog X.w) (J3.kIn) LT hb1
        refine tst hc (LM.here ?_)
        cases b with
        | true =>
          refine codeAny_handlers_suite_as ?_
          refine HandSPX.lands_againZ fl3 fun h4 fl4 up4 => ?_
          have J4 : Inv X pins σ' H' { s' with heap := h4 } := J.landed nb fl4.1 ((up.trans up3).trans up4) os ag
          obtain ⟨oe4, vs4, he4, hz4, hd4⟩ := fl4.there
          have S4 := J4.suite he4 hd4 na nL nF
          refine store_ok (X := X.suite a ((a, oe4) :: (X.pn ++ pins))) (v := .ref a) S4 hN hi hloc rfl (fun s5 S5 => ?_) (.inr hln)
          refine wpAny_mono ((hsu a oe4 cls d (X.pn ++ pins) hz4 ⟨_, hd4⟩).run [] s5 _ H' _ S5 (hyes rfl a na)) (fun f s6 hsp => ?_) (fun _ _ z => False.elim z)
          have end_ : ∀ {σ6 : L2.St} {H6 : Hp} {Q : Shared → Prop}, Inv (X.suite a ((a, oe4) :: (X.pn ++ pins))) [] σ6 H6 s6 → (∀ s7, Inv X pins (σ6.set i none) H6 s7 → Q s7) →
              wpAny (model X.prog X.w) X.A (do bindName X.env n .none; unbindBehindTheSuite X.env n pos') (fun _ s7 => Q s7) X.xe s6 := fun {σ6 H6 Q} S6 hq => gone_ok (S6.unsuite ok) hN hi hln hq
          cases f with
          | next =>
            obtain ⟨σ6, H6, S6, q6⟩ := hsp
            exact end_ S6 fun s7 J7 => ⟨_, _, J7, q6⟩
          | brk =>
            obtain ⟨σ6, H6, S6, q6⟩ := hsp
            exact end_ S6 fun s7 J7 => ⟨_, _, J7, q6⟩
          | cont =>
            obtain ⟨σ6, H6, S6, q6⟩ := hsp
            exact end_ S6 fun s7 J7 => ⟨_, _, J7, q6⟩
          | ret u =>
            obtain ⟨v6, σ6, H6, S6, r6, q6⟩ := hsp
            exact end_ S6 fun s7 J7 => ⟨_, _, _, J7, r6, q6⟩
        | false =>
          show wpAny _ X.A (handleBy (.ref a) X.env hds2) _ _ _
          exact ih (hno rfl)
    exact go hh w
  · cases f with
    | next =>
      obtain ⟨σ', H', J', q⟩ := hsp
      exact wpAny_execs_nil ⟨σ', H', J'.ofTry ok, q⟩
    | brk =>
      obtain ⟨σ', H', J', q⟩ := hsp
      exact ⟨σ', H', J'.ofTry ok, q⟩
    | cont =>
      obtain ⟨σ', H', J', q⟩ := hsp
      exact ⟨σ', H', J'.ofTry ok, q⟩
    | ret u =>
      obtain ⟨v, σ', H', J', r, q⟩ := hsp
      exact ⟨v, σ', H', J'.ofTry ok, r, q⟩
end
end Mi

set_option Elab.async false
set_option linter.all false
set_option maxRecDepth 100000
set_option maxHeartbeats 2000000
/-! Snd2: the operators, builtins and methods of the small interpreter are the model's. -/
namespace Mi
open PySem PySem.Spec PyProof.Rows L2

section
variable {X : Cx} {ca : Nat → Addr} {W : WX} {pins : List (Addr × Obj)} {s : Shared} {σ : St} {H : Hp} {φ : List Addr} {h : MH} {Q : VK}
theorem Fin.ok0 {α β : Type} {R : List Addr → Hp → α → β → Prop} {D : Dm} {Q : β → Hp → Prop} {v : α} {x : β} (f : Fin D W R σ φ H Q (.ok v h)) (r : Rep D φ h H) (w : R φ H v x) : Q x H :=
  f φ H x Ext.refl r w
/-- a new object is handed back -/
theorem Fin.new {D : Dm} {o : MO} {p : Addr} {u : HO} (f : Fin D W (VR D) σ φ H Q (alloc o h)) (r : Rep D φ h H) (hp : H p = none) (w : OR D (φ ++ [p]) (upd H p u) o p) : Q (.ref p) (upd H p u) :=
  f (φ ++ [p]) _ _ (Ext.alloc hp) (r.alloc hp w) (.ref (by rw [← r.len, List.getElem?_append_right (Nat.le_refl _)]; simp))
theorem Fin.newL {D : Dm} {xs : List MV} {ys : List V} {p : Addr} (f : Fin D W (VR D) σ φ H Q (alloc (.lst xs) h)) (r : Rep D φ h H) (hp : H p = none) (w : VRs D φ H xs ys) : Q (.ref p) (upd H p (.lst ys)) :=
  f.new r hp ⟨ys, upd_same, w.mono ⟨[p], rfl⟩ (TK.new hp)⟩
/-- a new tuple is handed back -/
theorem Fin.newT {D : Dm} {xs : List MV} {ys : List V} {p : Addr} (f : Fin D W (VR D) σ φ H Q (.ok (.tup xs) h)) (r : Rep D φ h H) (hp : H p = none) (w : VRs D φ H xs ys) : Q (.ref p) (upd H p (.tup ys)) :=
  f φ _ _ (Ext.lay hp) (r.upd hp) (.tup (SqT.of upd_same) (w.mono (List.prefix_refl _) (TK.new hp)))
theorem line_eq : line = sizeLine := by rw [sizeLine_eq]

theorem foldl_repN (its : List Nat) : ∀ (k : Nat) (acc : List Nat), List.foldl (fun x1 x2 => x1 ++ x2) acc.toArray (List.replicate k its.toArray) = (acc ++ (List.replicate k its).flatten).toArray
  | 0, acc => by simp
  | k + 1, acc => by
    have e : acc.toArray ++ its.toArray = (acc ++ its).toArray := by simp
    have e2 : (acc ++ its) ++ (List.replicate k its).flatten = acc ++ (List.replicate (k + 1) its).flatten := by
      rw [List.replicate_succ, List.flatten_cons, List.append_assoc]
    rw [← e2, ← foldl_repN its k (acc ++ its), ← e, List.replicate_succ, List.foldl_cons]
theorem strRep_fold (z : Str) (k : Nat) : (⟨(List.replicate k z.cps).foldl (· ++ ·) #[]⟩ : Str) = strRep z k := by
  have e := foldl_repN z.cps.toList k []
  rw [List.nil_append] at e
  unfold strRep
  rw [← e]
theorem strRep_zero (z : Str) : strRep z 0 = Str.empty := rfl
theorem strRep_one (z : Str) : strRep z 1 = z := by
  unfold strRep
  simp
theorem strRep_nil {z : Str} (h : z.cps.size = 0) (k : Nat) : strRep z k = z := by
  have e : z.cps = #[] := Array.eq_empty_of_size_eq_zero h
  unfold strRep
  cases z
  simp only at e
  subst e
  congr 1
  induction k with
  | zero => rfl
  | succ k ih => simp [List.replicate_succ]
/-- a text, so many times -/
theorem op_mul_str : OpR X (binaryOp .Mult) (fun x y H Q => ∃ z k, x = .str z ∧ y = .int k ∧ -(2 ^ 63) ≤ k ∧ k < 2 ^ 62 ∧ z.length * k.toNat ≤ sizeLine ∧ Q (.str (strRep z k.toNat)) H) := by
  intro pins s σ H x y v u Q I rx ry h
  obtain ⟨z, k, rfl, rfl, h1, h2, h3, q⟩ := h
  obtain ⟨t, rfl⟩ := rx
  obtain ⟨t', rfl⟩ := ry
  have hz := sizeLine_eq
  refine P.mul_str ?_ (fun n1 n2 => ?_) (fun n1 n2 => ?_) ?_
  · have a1 : ¬ k < -(2 ^ 63 : Int) := by omega
    have a2 : ¬ k ≥ 2 ^ 63 := by omega
    rw [decide_eq_false a1, decide_eq_false a2]; rfl
  · have hk : 0 < k := by omega
    have : (z.length : Int) ≤ (2 ^ 63 - 1) / k := by
      refine Int.le_ediv_of_mul_le hk ?_
      have e : k = (k.toNat : Int) := by omega
      rw [e]
      rw [hz] at h3
      have h4 := Int.ofNat_le.mpr h3
      rw [Int.natCast_mul] at h4
      have h5 : ((16777216 : Nat) : Int) ≤ 2 ^ 63 - 1 := by decide
      exact Int.le_trans h4 h5
    omega
  · unfold Builtin.Str.tooLong
    exact decide_eq_false (by omega)
  · by_cases n1 : k < 1
    · rw [if_pos n1]
      have e : k.toNat = 0 := by omega
      rw [e] at q
      exact ⟨by decide, .str _, H, I.tok _, ⟨_, rfl⟩, q⟩
    · rw [if_neg n1]
      by_cases n2 : (k == 1 || z.length == 0) = true
      · rw [if_pos n2]
        have e : strRep z k.toNat = z := by
          rcases Bool.or_eq_true_iff.mp n2 with m | m
          · have m : k = 1 := by simpa using m
            subst m
            exact strRep_one z
          · exact strRep_nil (eq_of_beq m) _
        rw [e] at q
        exact ⟨.str _, H, I, ⟨_, rfl⟩, q⟩
      · rw [if_neg n2, strRep_fold]
        refine ⟨?_, .str _, H, I.tok _, ⟨_, rfl⟩, q⟩
        have e : (strRep z k.toNat).length = z.length * k.toNat := by
          show (strRep z k.toNat).cps.size = _
          unfold strRep
          simp [Str.length, Nat.mul_comm]
        first
          | (rw [e]; exact h3)
          | (show (strRep z k.toNat).length ≤ _; rw [e]; exact h3)
          | exact (by rw [e]; exact h3)
/-- binary operators -/
theorem bin_ok {op : Operator} {a b : MV} {x y : V} {v u : Value} (I : Inv X pins σ H s) (rv : RelV x v) (ru : RelV y u) (r : Rep (dm X ca) φ h H) (va : VR (dm X ca) φ H a x) (vb : VR (dm X ca) φ H b y)
    (f : Fin (dm X ca) W (VR (dm X ca)) σ φ H Q (binM op a b h)) : wpAny (model X.prog X.w) X.A (binaryOp op v u) (EP X pins σ Q) X.xe s := by
  have hl := line_eq
  cases op with
  | Add =>
    cases va with
    | int i => cases vb with
      | int j => exact op_add pins s σ H _ _ v u Q I rv ru ⟨i, j, rfl, rfl, f.ok0 r (.int _)⟩
      | _ => exact f.elim
    | str i => cases vb with
      | str j =>
        unfold binM at f
        dsimp only at f
        split at f
        · rename_i hz
          exact op_add_str pins s σ H _ _ v u Q I rv ru ⟨i, j, rfl, rfl, hl ▸ hz, f.ok0 r (.str _)⟩
        · exact f.elim
      | _ => exact f.elim
    | @tup xs c zs h1 h2 => cases vb with
      | @tup ys d ws h3 h4 =>
        unfold binM at f
        dsimp only at f
        split at f
        · rename_i hz
          have e1 := h2.length
          have e2 := h4.length
          refine op_catA pins s σ H _ _ v u Q I rv ru ⟨c, d, zs, ws, rfl, rfl, h1, h3, by rw [← e1, ← e2, ← hl]; exact hz, fun e => ?_, fun _ e => ?_, fun _ _ p hp => ?_⟩
          · subst e
            cases h2
            exact f.ok0 r (.tup h3 h4)
          · subst e
            cases h4
            rw [List.append_nil] at f
            exact f.ok0 r (.tup h1 h2)
          · exact f.newT r hp (h2.append h4)
        · exact f.elim
      | _ => exact f.elim
    | @ref n c hc => cases vb with
      | @ref m d hd =>
        unfold binM at f
        dsimp only at f
        split at f
        · rename_i xs ys q1 q2
          split at f
          · rename_i hz
            obtain ⟨zs, g1, g2⟩ := r.lst hc q1
            obtain ⟨ws, g3, g4⟩ := r.lst hd q2
            exact op_cat pins s σ H _ _ v u Q I rv ru ⟨c, d, zs, ws, rfl, rfl, g1, g3, by rw [← g2.length, ← g4.length, ← hl]; exact hz, fun p hp => f.newL r hp (g2.append g4)⟩
          · exact f.elim
        · exact f.elim
      | _ => exact f.elim
    | _ => cases vb <;> exact f.elim
  | Sub =>
    cases va with
    | int i => cases vb with
      | int j => exact op_sub pins s σ H _ _ v u Q I rv ru ⟨i, j, rfl, rfl, f.ok0 r (.int _)⟩
      | _ => exact f.elim
    | _ => exact f.elim
  | Mult =>
    cases va with
    | int i => cases vb with
      | int j =>
        unfold binM at f
        dsimp only at f
        split at f
        · rename_i hz
          have hc : CMul i j := by
            unfold cmulB at hz
            simp only [Bool.or_eq_true, Bool.and_eq_true, decide_eq_true_eq] at hz
            exact hz
          exact op_mul pins s σ H _ _ v u Q I rv ru ⟨i, j, rfl, rfl, hc, f.ok0 r (.int _)⟩
        · exact f.elim
      | _ => exact f.elim
    | @ref n c hc => cases vb with
      | int k =>
        unfold binM at f
        dsimp only at f
        split at f
        · rename_i xs q1
          split at f
          · rename_i hz
            obtain ⟨zs, g1, g2⟩ := r.lst hc q1
            exact op_rep pins s σ H _ _ v u Q I rv ru ⟨c, k, zs, rfl, rfl, g1, hz.1, hz.2.1, by rw [← g2.length, ← hl]; exact hz.2.2, fun p hp => f.newL r hp (g2.flat _)⟩
          · exact f.elim
        · exact f.elim
      | _ => exact f.elim
    | str z => cases vb with
      | int k =>
        unfold binM at f
        dsimp only at f
        split at f
        · rename_i hz
          exact op_mul_str pins s σ H _ _ v u Q I rv ru ⟨z, k, rfl, rfl, hz.1, hz.2.1, by rw [← hl]; exact hz.2.2, f.ok0 r (.str _)⟩
        · exact f.elim
      | _ => exact f.elim
    | _ => exact f.elim
  | FloorDiv =>
    cases va with
    | int i => cases vb with
      | int j =>
        unfold binM at f
        dsimp only at f
        split at f
        · rename_i hz
          exact op_fdivN pins s σ H _ _ v u Q I rv ru ⟨i, j, rfl, rfl, hz, f.ok0 r (.int _)⟩
        · exact f.elim
      | _ => exact f.elim
    | _ => exact f.elim
  | Mod =>
    cases va with
    | int i => cases vb with
      | int j =>
        unfold binM at f
        dsimp only at f
        split at f
        · rename_i hz
          exact op_modN pins s σ H _ _ v u Q I rv ru ⟨i, j, rfl, rfl, hz, f.ok0 r (.int _)⟩
        · exact f.elim
      | _ => exact f.elim
    | _ => exact f.elim
  | Pow =>
    cases va with
    | int i => cases vb with
      | int j =>
        unfold binM at f
        dsimp only at f
        split at f
        · rename_i hz
          exact op_pow pins s σ H _ _ v u Q I rv ru ⟨i, j, rfl, rfl, hz, f.ok0 r (.int _)⟩
        · exact f.elim
      | _ => exact f.elim
    | _ => exact f.elim
  | _ => exact f.elim

/-! ### equality, by data -/
mutual
theorem toD_ok {D : Dm} (r : Rep D φ h H) : ∀ (n : Nat) (v : MV) (x : V) (d : PyData), VR D φ H v x → toD h n v = some d → Dp D.K H x d
  | n, .non, _, _, w, e => by cases w; cases n <;> (simp [toD] at e; subst e; exact .non)
  | n, .bl b, _, _, w, e => by cases w; cases n <;> (simp [toD] at e; subst e; exact .bl _)
  | n, .int i, _, _, w, e => by cases w; cases n <;> (simp [toD] at e; subst e; exact .int _)
  | n, .str z, _, _, w, e => by cases w; cases n <;> (simp [toD] at e; subst e; exact .str _)
  | n + 1, .tup xs, _, _, w, e => by
    cases w with
    | tup h1 h2 =>
      simp only [toD, Option.map_eq_some_iff] at e
      obtain ⟨ds, e1, e2⟩ := e
      subst e2
      exact .tup h1 (toDs_ok r n _ _ _ h2 e1)
  | n + 1, .ref m, _, _, w, e => by
    cases w with
    | ref hm =>
      simp only [toD] at e
      split at e
      · rename_i xs q
        obtain ⟨ds, e1, e2⟩ := Option.map_eq_some_iff.mp e
        subst e2
        obtain ⟨ys, g1, g2⟩ := r.sql hm (.inl q)
        exact .lst g1 (toDs_ok r n _ _ _ g2 e1)
      · rename_i xs q
        obtain ⟨ds, e1, e2⟩ := Option.map_eq_some_iff.mp e
        subst e2
        obtain ⟨ys, g1, g2⟩ := r.sql hm (.inr q)
        exact .lst g1 (toDs_ok r n _ _ _ g2 e1)
      · cases e
  | 0, .tup _, _, _, _, e => by simp [toD] at e
  | 0, .ref _, _, _, _, e => by simp [toD] at e
  | 0, .cls _, _, _, _, e => by simp [toD] at e
  | _ + 1, .cls _, _, _, _, e => by simp [toD] at e
  | 0, .ty _, _, _, _, e => by simp [toD] at e
  | _ + 1, .ty _, _, _, _, e => by simp [toD] at e
termination_by n v => (n, 0)
theorem toDs_ok {D : Dm} (r : Rep D φ h H) : ∀ (n : Nat) (vs : List MV) (xs : List V) (ds : List PyData), VRs D φ H vs xs → mapO (toD h n) vs = some ds → DpAll D.K H xs ds
  | _, [], _, _, w, e => by cases w; simp [mapO] at e; subst e; exact .nil
  | n, v :: vs, _, _, w, e => by
    cases w with
    | cons w1 w2 =>
      simp only [mapO] at e
      split at e
      · rename_i d e1
        split at e
        · rename_i ds e2
          cases e
          exact .cons (toD_ok r n _ _ _ w1 e1) (toDs_ok r n _ _ _ w2 e2)
        · cases e
      · cases e
termination_by n vs => (n, vs.length + 1)
end
theorem room64 {k : Nat} (hr : Room k X.A) : X.A.units + 65 < cLine := by have := hr.un; omega
theorem eq_ok {k : Nat} (hr : Room k X.A) {a b : MV} {x y : V} {v u : Value} {c : Bool} (I : Inv X pins σ H s) (rv : RelV x v) (ru : RelV y u) (r : Rep (dm X ca) φ h H) (va : VR (dm X ca) φ H a x) (vb : VR (dm X ca) φ H b y)
    (e : eqM h a b = some c) (q : Q (.bl c) H) : wpAny (model X.prog X.w) X.A (compareOp .Eq v u) (EP X pins σ Q) X.xe s := by
  unfold eqM at e
  split at e
  · rename_i d e1
    split at e
    · rename_i d' e2
      split at e
      · rename_i hs
        cases e
        obtain ⟨s1, s2⟩ := Bool.and_eq_true_iff.mp hs
        exact op_eqD (by have := room64 hr; omega) pins s σ H _ _ v u Q I rv ru ⟨d, d', toD_ok r _ _ _ _ va e1, toD_ok r _ _ _ _ vb e2, s1, s2, q⟩
      · cases e
    · cases e
  · cases e
theorem ne_ok {k : Nat} (hr : Room k X.A) {a b : MV} {x y : V} {v u : Value} {c : Bool} (I : Inv X pins σ H s) (rv : RelV x v) (ru : RelV y u) (r : Rep (dm X ca) φ h H) (va : VR (dm X ca) φ H a x) (vb : VR (dm X ca) φ H b y)
    (e : eqM h a b = some c) (q : Q (.bl (!c)) H) : wpAny (model X.prog X.w) X.A (compareOp .NotEq v u) (EP X pins σ Q) X.xe s := by
  unfold eqM at e
  split at e
  · rename_i d e1
    split at e
    · rename_i d' e2
      split at e
      · rename_i hs
        cases e
        obtain ⟨s1, s2⟩ := Bool.and_eq_true_iff.mp hs
        exact op_neD (by have := room64 hr; omega) pins s σ H _ _ v u Q I rv ru ⟨d, d', toD_ok r _ _ _ _ va e1, toD_ok r _ _ _ _ vb e2, s1, s2, q⟩
      · cases e
    · cases e
  · cases e
end
end Mi

set_option Elab.async false
set_option linter.all false
set_option maxRecDepth 100000
set_option maxHeartbeats 2000000
/-! Snd3: dicts. -/
namespace Mi
open PySem PySem.Spec PyProof.Rows L2

/-! ### keys -/
theorem beq_kM (a b : Key) : MV.beq (kM a) (kM b) = decide (a = b) := by
  cases a with
  | inl i => cases b with
    | inl j =>
      rw [key_ll]
      rfl
    | inr y => rw [key_lr]; rfl
  | inr x => cases b with
    | inl j => rw [key_rl]; rfl
    | inr y =>
      rw [key_rr]
      show (x == y) = _
      by_cases e : x = y
      · subst e; simp
      · rw [decide_eq_false e]; exact beq_eq_false_iff_ne.mpr e
mutual
theorem beq_toK : ∀ (v w : MV) (k l : NestedKey), toK v = some k → toK w = some l → MV.beq v w = NestedKey.beq k l
  | .non, w, k, l, e, e' => by
    simp [toK] at e; subst e
    cases w with
    | non => simp [toK] at e'; subst e'; rfl
    | int j => simp [toK] at e'; subst e'; rfl
    | str j => simp [toK] at e'; subst e'; rfl
    | tup ys => simp only [toK, Option.map_eq_some_iff] at e'; obtain ⟨ls, _, rfl⟩ := e'; rfl
    | _ => simp [toK] at e'
  | .int i, w, k, l, e, e' => by
    simp [toK] at e; subst e
    cases w with
    | non => simp [toK] at e'; subst e'; rfl
    | int j =>
      simp [toK] at e'; subst e'
      show (i == j) = decide (i = j)
      rw [Bool.beq_eq_decide_eq]
    | str j => simp [toK] at e'; subst e'; rfl
    | tup ys => simp only [toK, Option.map_eq_some_iff] at e'; obtain ⟨ls, _, rfl⟩ := e'; rfl
    | _ => simp [toK] at e'
  | .str x, w, k, l, e, e' => by
    simp [toK] at e; subst e
    cases w with
    | non => simp [toK] at e'; subst e'; rfl
    | int j => simp [toK] at e'; subst e'; rfl
    | str y =>
      simp [toK] at e'; subst e'
      show (x == y) = decide (x = y)
      by_cases q : x = y
      · subst q; simp
      · rw [decide_eq_false q]; exact beq_eq_false_iff_ne.mpr q
    | tup ys => simp only [toK, Option.map_eq_some_iff] at e'; obtain ⟨ls, _, rfl⟩ := e'; rfl
    | _ => simp [toK] at e'
  | .tup xs, w, k, l, e, e' => by
    simp only [toK, Option.map_eq_some_iff] at e
    obtain ⟨ks, e1, rfl⟩ := e
    cases w with
    | non => simp [toK] at e'; subst e'; rfl
    | int j => simp [toK] at e'; subst e'; rfl
    | str y => simp [toK] at e'; subst e'; rfl
    | tup ys =>
      simp only [toK, Option.map_eq_some_iff] at e'
      obtain ⟨ls, e2, rfl⟩ := e'
      rw [MV.beq, NestedKey.beq]
      exact beqs_toK xs ys ks ls e1 e2
    | _ => simp [toK] at e'
  | .bl _, _, _, _, e, _ => by simp [toK] at e
  | .ref _, _, _, _, e, _ => by simp [toK] at e
  | .cls _, _, _, _, e, _ => by simp [toK] at e
  | .ty _, _, _, _, e, _ => by simp [toK] at e
theorem beqs_toK : ∀ (vs ws : List MV) (ks ls : List NestedKey), toKs vs = some ks → toKs ws = some ls → MV.beqs vs ws = NestedKey.beqAll ks ls
  | [], [], _, _, e, e' => by simp [toKs] at e e'; subst e e'; rfl
  | [], w :: ws, _, _, e, e' => by
    simp [toKs] at e; subst e
    simp only [toKs] at e'
    split at e'
    · obtain ⟨l, _, rfl⟩ := Option.map_eq_some_iff.mp e'
      rfl
    · cases e'
  | v :: vs, [], _, _, e, e' => by
    simp [toKs] at e'; subst e'
    simp only [toKs] at e
    split at e
    · obtain ⟨l, _, rfl⟩ := Option.map_eq_some_iff.mp e
      rfl
    · cases e
  | v :: vs, w :: ws, _, _, e, e' => by
    simp only [toKs] at e e'
    split at e
    · rename_i k e1
      split at e'
      · rename_i l e1'
        obtain ⟨ks, e2, rfl⟩ := Option.map_eq_some_iff.mp e
        obtain ⟨ls, e2', rfl⟩ := Option.map_eq_some_iff.mp e'
        rw [MV.beqs, NestedKey.beqAll, beq_toK v w k l e1 e1', beqs_toK vs ws ks ls e2 e2']
      · cases e'
    · cases e
end
theorem kk1 {k : MV} (e : kk k = 1) : ∃ q : Key, k = kM q := by
  cases k with
  | int i => exact ⟨.inl i, rfl⟩
  | str x => exact ⟨.inr x, rfl⟩
  | tup xs =>
    simp only [kk] at e
    split at e
    · split at e <;> cases e
    · cases e
  | _ => cases e
theorem kk2 {k : MV} (e : kk k = 2) : ∃ ks, toK k = some (.tup ks) ∧ (NestedKey.tup ks).depth ≤ 8 := by
  cases k with
  | tup xs =>
    simp only [kk] at e
    split at e
    · rename_i k q
      split at e
      · rename_i hd
        have q0 := q
        simp only [toK, Option.map_eq_some_iff] at q
        obtain ⟨ks, _, rfl⟩ := q
        exact ⟨ks, q0, hd⟩
      · cases e
    · cases e
  | _ => cases e
theorem kk_kM (q : Key) : kk (kM q) = 1 := by cases q <;> rfl
theorem kk_toK {v : MV} {ks : List NestedKey} (e : toK v = some (.tup ks)) (hd : (NestedKey.tup ks).depth ≤ 8) : kk v = 2 := by
  cases v with
  | tup xs => simp only [kk, e, if_pos hd]
  | non => simp [toK] at e
  | int => simp [toK] at e
  | str => simp [toK] at e
  | _ => simp [toK] at e
theorem kk_le (v : MV) : kk v = 0 ∨ kk v = 1 ∨ kk v = 2 := by
  cases v with
  | tup xs =>
    simp only [kk]
    split
    · split <;> simp
    · simp
  | int => exact .inr (.inl rfl)
  | str => exact .inr (.inl rfl)
  | _ => exact .inl rfl

section
variable {X : Cx} {ca : Nat → Addr} {W : WX} {pins : List (Addr × Obj)} {s : Shared} {σ : St} {H : Hp} {φ : List Addr} {h : MH} {D : Dm} {A : Around} {E : Value → Shared → Prop}
/-- a dict by its kind -/
theorem DR.cases {kvs : List (MV × MV)} {a : Addr} {k : MV} (d : DR D φ H kvs a) (f : kfit kvs k = true) :
    (∃ q ks, k = kM q ∧ H a = some (.dK ks) ∧ Paired (KE1 D φ H) kvs ks) ∨
    (∃ ks, toK k = some (.tup ks) ∧ (NestedKey.tup ks).depth ≤ 8 ∧ ((kvs = [] ∧ H a = some (.dK [])) ∨
      ∃ xs, H a = some (.ext (dX D a xs)) ∧ (a == sysModules) = false ∧ (xs.map (·.1)).Nodup ∧ kvs ≠ [] ∧ kvs.length ≤ sizeLine ∧ Paired (NE D φ H) kvs xs)) := by
  unfold kfit at f
  simp only [Bool.and_eq_true, Bool.or_eq_true, bne_iff_ne, beq_iff_eq] at f
  obtain ⟨f0, f1⟩ := f
  rcases kk_le k with e | e | e
  · exact absurd e f0
  · obtain ⟨q, rfl⟩ := kk1 e
    refine .inl ?_
    rcases d with ⟨ks, h1, h2⟩ | ⟨xs, h1, h2, h3, h4, h4', h5⟩
    · exact ⟨q, ks, rfl, h1, h2⟩
    · exfalso
      cases h5 with
      | nil => exact h4 rfl
      | @cons p x ps xs' z zs =>
        obtain ⟨y, z1, ⟨ks, z2⟩, z3, _⟩ := z
        rw [z2] at z1 z3
        have := kk_toK z1 z3
        rcases f1 with g | g
        · simp [dk, this] at g
        · simp [dk, this, kk_kM] at g
  · obtain ⟨ks, h1, h2⟩ := kk2 e
    refine .inr ⟨ks, h1, h2, ?_⟩
    rcases d with ⟨ks', g1, g2⟩ | d
    · cases g2 with
      | nil => exact .inl ⟨rfl, g1⟩
      | @cons p q ps qs z zs =>
        exfalso
        have z1 : p.1 = kM q.1 := z.1
        rcases f1 with g | g
        · simp [dk, z1, kk_kM] at g
        · simp [dk, z1, kk_kM, e] at g
    · exact .inr d

/-! ### plain keys -/
theorem KE1.any {kvs : List (MV × MV)} {ks : List (Key × V)} (r : Paired (KE1 D φ H) kvs ks) (q : Key) : (kvs.any fun p => MV.beq p.1 (kM q)) = ks.any fun p => decide (p.1 = q) := by
  induction r with
  | nil => rfl
  | @cons p x ps xs z _ ih =>
    rw [List.any_cons, List.any_cons, ih, z.1, beq_kM]
theorem KE1.get {kvs : List (MV × MV)} {ks : List (Key × V)} (r : Paired (KE1 D φ H) kvs ks) (q : Key) :
    (dget kvs (kM q) = none ∧ valV ks q = none) ∨ ∃ v y, dget kvs (kM q) = some v ∧ valV ks q = some y ∧ VR D φ H v y := by
  induction r with
  | nil => exact .inl ⟨rfl, rfl⟩
  | @cons p x ps xs z _ ih =>
    by_cases e : x.1 = q
    · refine .inr ⟨p.2, x.2, ?_, valV_pos e, z.2⟩
      unfold dget
      rw [List.find?_cons, z.1, beq_kM, e]
      simp
    · have e2 : dget (p :: ps) (kM q) = dget ps (kM q) := by
        unfold dget
        rw [List.find?_cons, z.1, beq_kM, decide_eq_false e]
      rw [e2, valV_neg e]
      exact ih
theorem KE1.put {kvs : List (MV × MV)} {ks : List (Key × V)} (r : Paired (KE1 D φ H) kvs ks) (q : Key) {v : MV} {y : V} (w : VR D φ H v y) : Paired (KE1 D φ H) (dput kvs (kM q) v) (putK ks q y) := by
  unfold dput putK
  rw [KE1.any r q]
  by_cases e : (ks.any fun p => decide (p.1 = q)) = true
  · rw [if_pos e, if_pos e]
    clear e
    induction r with
    | nil => exact .nil
    | @cons p x ps xs z _ ih =>
      refine .cons ?_ ih
      show KE1 D φ H (if MV.beq p.1 (kM q) then (p.1, v) else p) (if x.1 = q then (x.1, y) else x)
      rw [z.1, beq_kM]
      by_cases e : x.1 = q
      · rw [if_pos (by simpa using e), if_pos e]
        exact ⟨rfl, w⟩
      · rw [if_neg (by simpa using e), if_neg e]
        exact z
  · rw [if_neg e, if_neg e]
    clear e
    induction r with
    | nil => exact .cons ⟨rfl, w⟩ .nil
    | cons z _ ih => exact .cons z ih

/-! ### tuples as keys -/
mutual
theorem nest_ok (I : Inv X pins σ H s) : ∀ (v : MV) (x : V) (u : Value) (k : NestedKey), VR (dm X ca) φ H v x → RelV x u → toK v = some k → NestedIs s.heap k u
  | .non, _, _, _, w, r, e => by
    cases w
    cases r
    simp [toK] at e; subst e
    exact .none
  | .int i, _, _, _, w, r, e => by
    cases w
    obtain ⟨t, rfl⟩ := r
    simp [toK] at e; subst e
    exact .int _ _
  | .str x, _, _, _, w, r, e => by
    cases w
    obtain ⟨t, rfl⟩ := r
    simp [toK] at e; subst e
    exact .text _ _
  | .tup xs, _, _, _, w, r, e => by
    cases w with
    | tup h1 h2 =>
      cases r
      simp only [toK, Option.map_eq_some_iff] at e
      obtain ⟨ks, e1, rfl⟩ := e
      obtain ⟨its, rv, ⟨o, ho, hc, n, hd⟩, _⟩ := I.tuple h1
      exact .tup ho hc hd (by simpa using nests_ok I xs _ _ _ h2 rv e1)
  | .bl _, _, _, _, _, _, e => by simp [toK] at e
  | .ref _, _, _, _, _, _, e => by simp [toK] at e
  | .cls _, _, _, _, _, _, e => by simp [toK] at e
  | .ty _, _, _, _, _, _, e => by simp [toK] at e
theorem nests_ok (I : Inv X pins σ H s) : ∀ (vs : List MV) (xs : List V) (us : List Value) (ks : List NestedKey), VRs (dm X ca) φ H vs xs → Vals xs us → toKs vs = some ks → NestedAll s.heap ks us
  | [], _, _, _, w, r, e => by
    cases w
    cases r
    simp [toKs] at e; subst e
    exact .nil
  | v :: vs, _, _, _, w, r, e => by
    cases w with
    | cons w1 w2 =>
      cases r with
      | cons r1 r2 =>
        simp only [toKs] at e
        split at e
        · rename_i k e1
          obtain ⟨ks, e2, rfl⟩ := Option.map_eq_some_iff.mp e
          exact .cons (nest_ok I v _ _ _ w1 r1 e1) (nests_ok I vs _ _ _ w2 r2 e2)
        · cases e
end
theorem NE.any {kvs : List (MV × MV)} {xs : List (NestedKey × Addr × Value)} (r : Paired (NE D φ H) kvs xs) {v : MV} {k : NestedKey} (e : toK v = some k) : (kvs.any fun p => MV.beq p.1 v) = (atKey xs k).isSome := by
  induction r with
  | nil => rfl
  | @cons p x ps xs z _ ih =>
    obtain ⟨y, z1, _⟩ := z
    rw [List.any_cons, ih, beq_toK _ _ _ _ z1 e, ← NestedKey.decide_eq]
    unfold atKey
    rw [List.find?_cons]
    by_cases q : x.1 = k
    · simp [q]
    · simp [q]
theorem NE.get {kvs : List (MV × MV)} {xs : List (NestedKey × Addr × Value)} (r : Paired (NE D φ H) kvs xs) {v : MV} {k : NestedKey} (e : toK v = some k) :
    (dget kvs v = none ∧ atKey xs k = none) ∨ ∃ w y p, dget kvs v = some w ∧ atKey xs k = some p ∧ RelV y p.2 ∧ VR D φ H w y := by
  induction r with
  | nil => exact .inl ⟨rfl, rfl⟩
  | @cons p x ps xs z _ ih =>
    obtain ⟨y, z1, _, _, _, z5, z6⟩ := z
    by_cases q : x.1 = k
    · refine .inr ⟨p.2, y, x.2, ?_, ?_, z5, z6⟩
      · unfold dget
        rw [List.find?_cons, beq_toK _ _ _ _ z1 e, ← NestedKey.decide_eq]
        simp [q]
      · unfold atKey
        rw [List.find?_cons]
        simp [q]
    · have e2 : dget (p :: ps) v = dget ps v := by
        unfold dget
        rw [List.find?_cons, beq_toK _ _ _ _ z1 e, ← NestedKey.decide_eq, decide_eq_false q]
      have e3 : atKey (x :: xs) k = atKey xs k := by
        unfold atKey
        rw [List.find?_cons, decide_eq_false q]
      rw [e2, e3]
      exact ih
theorem NE.put {kvs : List (MV × MV)} {xs : List (NestedKey × Addr × Value)} (r : Paired (NE D φ H) kvs xs) {v w : MV} {ks : List NestedKey} {b : Addr} {y : V} {u : Value} (e : toK v = some (.tup ks)) (hd : (NestedKey.tup ks).depth ≤ 8)
    (vb : VR D φ H v (.ref b)) (ry : RelV y u) (wy : VR D φ H w y) : Paired (NE D φ H) (dput kvs v w) (storedH xs (.tup ks) b u) := by
  unfold dput storedH
  rw [NE.any r e]
  by_cases q : (atKey xs (.tup ks)).isSome = true
  · rw [if_pos q, if_pos q]
    clear q
    induction r with
    | nil => exact .nil
    | @cons p x ps xs z _ ih =>
      refine .cons ?_ ih
      obtain ⟨y', z1, z2, z3, z4, z5, z6⟩ := z
      show NE D φ H (if MV.beq p.1 v then (p.1, w) else p) (putAt (.tup ks) u x)
      unfold putAt
      rw [beq_toK _ _ _ _ z1 e, ← NestedKey.decide_eq]
      by_cases q : x.1 = .tup ks
      · rw [if_pos (by simpa using q), if_pos q]
        exact ⟨y, z1, z2, z3, z4, ry, wy⟩
      · rw [if_neg (by simpa using q), if_neg q]
        exact ⟨y', z1, z2, z3, z4, z5, z6⟩
  · rw [if_neg q, if_neg q]
    clear q
    induction r with
    | nil => exact .cons ⟨y, e, ⟨ks, rfl⟩, hd, vb, ry, wy⟩ .nil
    | cons z _ ih => exact .cons z ih
theorem dput_length (kvs : List (MV × MV)) (k v : MV) : (dput kvs k v).length ≤ kvs.length + 1 := by
  unfold dput
  split <;> simp
theorem dput_ne (kvs : List (MV × MV)) (k v : MV) : dput kvs k v ≠ [] := by
  unfold dput
  split
  · rename_i e
    intro q
    rw [List.map_eq_nil_iff] at q
    subst q
    simp at e
  · simp
/-- the raw dict at its address -/
theorem dX_of (I : Inv X pins σ H s) {kvs : List (MV × MV)} {xs : List (NestedKey × Addr × Value)} {a : Addr} (e : H a = some (.ext (dX (dm X ca) a xs))) (nd : (xs.map (·.1)).Nodup) (r : Paired (NE (dm X ca) φ H) kvs xs) :
    s.heap.DictOfH (nestedKind X.prog X.w) a xs := by
  obtain ⟨⟨o, es, ep, h1, h2, h3, h4⟩, _⟩ := (show ObjOk X.prog X.w H s.heap a (.ext (dX (dm X ca) a xs)) from I.hok a _ e)
  refine ⟨o, es, ep, h1, h2, h3, h4, ?_, nd⟩
  clear h4 nd e
  rename_i hst
  clear hst
  induction r with
  | nil => intro x hx; cases hx
  | @cons p x ps xs z _ ih =>
    intro x' hx
    rcases List.mem_cons.mp hx with rfl | hx
    · obtain ⟨y, z1, _, z3, z4, _⟩ := z
      exact ⟨nest_ok I _ _ _ _ z4 rfl z1, z3⟩
    · exact ih x' hx
theorem dE_of (I : Inv X pins σ H s) {a : Addr} (e : H a = some (.dK [])) : (a == sysModules) = false ∧ s.heap.DictOfH (nestedKind X.prog X.w) a [] := by
  obtain ⟨_, hd, vs, rel, o, es, ep, h1, h2, h3, h4, h5, h6⟩ := dk_of I.hok e
  cases rel
  refine ⟨hd, o, es, ep, h1, h2, h3, ?_, fun x hx => (by cases hx), List.nodup_nil⟩
  cases q : es.toList with
  | nil => rfl
  | cons x xs =>
    rw [q] at h5
    cases h5
theorem room_n {n : Nat} {A : Around} (hr : Room n A) : (nestedKind X.prog X.w).room A.in1 := by
  show A.units + 1 + 8 < cLine
  have := hr.un
  omega
/-- an entry is stored -/
theorem dX_write (I : Inv X pins σ H s) {a : Addr} {kvs : List (MV × MV)} {xs : List (NestedKey × Addr × Value)} {h' : Heap} {t' : Nat} (mu : Mut (H a)) (hs : Heap.SameBut a s.heap h') (d : h'.DictOfH (nestedKind X.prog X.w) a xs) :
    Inv X pins σ (upd H a (.ext (dX (dm X ca) a xs))) { s with heap := h', toks := t' } := by
  obtain ⟨o, es, ep, h1, h2, h3, h4, h5, h6⟩ := d
  refine d_write I mu hs ⟨o, h1⟩ ⟨⟨o, es, ep, h1, h2, h3, h4⟩, ⟨o, h1⟩, fun g1 g2 ⟨o', es', ep', k1, k2, k3, k4⟩ k => ⟨o', es', ep', k _ k1, k2, k3, k4⟩⟩

/-! ### the four doors -/
theorem din_ok {n : Nat} (hr : Room n X.A) {r : Nat} {k : MV} {x y : V} {v u : Value} {kvs : List (MV × MV)} {neg : Bool} {Q : VK} (I : Inv X pins σ H s) (rp : Rep (dm X ca) φ h H) (q : h[r]? = some (.dic kvs)) (rv : RelV y v) (ru : RelV x u) (vk : VR (dm X ca) φ H k y)
    (vr : VR (dm X ca) φ H (.ref r) x) (f : kfit kvs k = true) (hQ : Q (.bl (if neg then !(dget kvs k).isSome else (dget kvs k).isSome)) H) : wpAny (model X.prog X.w) X.A (compareOp (if neg then .NotIn else .In) v u) (EP X pins σ Q) X.xe s := by
  cases vr with
  | @ref _ a ha =>
    cases ru
    have hu : X.A.units + 1 < cLine := by have := hr.un; omega
    rcases DR.cases (rp.get ha q) f with ⟨q', ks, rfl, e, pr⟩ | ⟨ks, tk, hd, e⟩
    · have ry : y = kV q' := by cases q' <;> (cases vk; rfl)
      subst ry
      have iso : (dget kvs (kM q')).isSome = (valV ks q').isSome := by
        rcases KE1.get pr q' with ⟨a1, a2⟩ | ⟨v1, y1, a1, a2, _⟩ <;> (rw [a1, a2]; rfl)
      rw [iso] at hQ
      cases neg with
      | false => exact d_in hu I (DGet.k e) rv fun s' I' => ⟨.bl _, H, I', rfl, hQ⟩
      | true => exact d_notIn hu I (DGet.k e) rv fun s' I' => ⟨.bl _, H, I', rfl, hQ⟩
    · obtain ⟨b, rfl⟩ : ∃ b, y = .ref b := by
        cases k with
        | tup zs => cases vk; exact ⟨_, rfl⟩
        | _ => simp [toK] at tk
      cases rv
      have hk : (nestedKind X.prog X.w).is s.heap (.tup ks) b := ⟨nest_ok I _ _ _ _ vk rfl tk, hd⟩
      obtain ⟨hs, xs, dd, iso⟩ : (a == sysModules) = false ∧ ∃ xs, s.heap.DictOfH (nestedKind X.prog X.w) a xs ∧ (dget kvs k).isSome = (atKey xs (.tup ks)).isSome := by
        rcases e with ⟨rfl, e⟩ | ⟨xs, e, e2, e3, e4, e5, pr⟩
        · obtain ⟨g1, g2⟩ := dE_of I e
          exact ⟨g1, [], g2, rfl⟩
        · refine ⟨e2, xs, dX_of I e e3 pr, ?_⟩
          rcases NE.get pr tk with ⟨a1, a2⟩ | ⟨v1, y1, p1, a1, a2, _⟩ <;> (rw [a1, a2]; rfl)
      rw [iso] at hQ
      cases neg with
      | false => exact wpAny_in_heap (room_n hr) hk hs dd ⟨.bl _, H, I.tok _, rfl, hQ⟩
      | true =>
        show wpAny _ _ (do return Value.bool (!(← contains (.ref a) (.ref b)))) _ _ s
        exact wpAny_bind (wpAny_contains_heap (room_n hr) hk hs dd (wpAny_pure ⟨.bl _, H, I.tok _, rfl, hQ⟩))
theorem dgetI_ok {n : Nat} (hr : Room n X.A) {r : Nat} {k w : MV} {x y : V} {v u : Value} {kvs : List (MV × MV)} {Q : VK} (I : Inv X pins σ H s) (rp : Rep (dm X ca) φ h H) (q : h[r]? = some (.dic kvs)) (ru : RelV x u) (rv : RelV y v) (vr : VR (dm X ca) φ H (.ref r) x)
    (vk : VR (dm X ca) φ H k y) (f : kfit kvs k = true) (g : dget kvs k = some w) (hQ : ∀ z, VR (dm X ca) φ H w z → Q z H) : ∃ a, u = .ref a ∧ s.TypeIs (.ref a) "dict" ∧ wpAny (model X.prog X.w) X.A (getItem u v) (EP X pins σ Q) X.xe s := by
  cases vr with
  | @ref _ a ha =>
    cases ru
    have hu : X.A.units + 1 < cLine := by have := hr.un; omega
    refine ⟨a, rfl, ?_⟩
    rcases DR.cases (rp.get ha q) f with ⟨q', ks, rfl, e, pr⟩ | ⟨ks, tk, hd, e⟩
    · have ry : y = kV q' := by cases q' <;> (cases vk; rfl)
      subst ry
      obtain ⟨y1, a2, w1⟩ : ∃ y1, valV ks q' = some y1 ∧ VR (dm X ca) φ H w y1 := by
        rcases KE1.get pr q' with ⟨a1, a2⟩ | ⟨v1, y1, a1, a2, w1⟩
        · rw [a1] at g; cases g
        · rw [a1] at g; cases g; exact ⟨y1, a2, w1⟩
      have dg : DGet H a (kV q') (some y1) := a2 ▸ DGet.k e
      exact ⟨dict_typeIs I dg, d_getItem hu I dg rv fun w' s' I' r' => ⟨y1, H, I', r', hQ y1 w1⟩⟩
    · obtain ⟨b, rfl⟩ : ∃ b, y = .ref b := by
        cases k with
        | tup zs => cases vk; exact ⟨_, rfl⟩
        | _ => simp [toK] at tk
      cases rv
      have hk : (nestedKind X.prog X.w).is s.heap (.tup ks) b := ⟨nest_ok I _ _ _ _ vk rfl tk, hd⟩
      rcases e with ⟨rfl, e⟩ | ⟨xs, e, e2, e3, e4, e5, pr⟩
      · cases g
      · rcases NE.get pr tk with ⟨a1, a2⟩ | ⟨v1, y1, p1, a1, a2, r1, w1⟩
        · rw [a1] at g; cases g
        · rw [a1] at g; cases g
          have dd := dX_of I e e3 pr
          exact ⟨dd.typeIs, wpAny_getItem_heap (room_n hr) hk dd a2 ⟨y1, H, I.tok _, r1, hQ y1 w1⟩⟩
theorem dset_ok {n : Nat} (hr : Room n X.A) {r : Nat} {k w : MV} {x y z : V} {v u t : Value} {kvs : List (MV × MV)} {Q : Hp → Prop} (I : Inv X pins σ H s) (rp : Rep (dm X ca) φ h H) (q : h[r]? = some (.dic kvs)) (ru : RelV x u) (rv : RelV y v) (rt : RelV z t) (vr : VR (dm X ca) φ H (.ref r) x)
    (vk : VR (dm X ca) φ H k y) (vw : VR (dm X ca) φ H w z) (f : kfit kvs k = true) (hl : kvs.length < 1000000)
    (hQ : ∀ H', Ext (dm X ca) φ φ H H' → Rep (dm X ca) φ (h.set r (.dic (dput kvs k w))) H' → Q H') : wpAny (model X.prog X.w) X.A (setItem u v t) (fun _ s' => ∃ H', Inv X pins σ H' s' ∧ Q H') X.xe s := by
  cases vr with
  | @ref _ a ha =>
    cases ru
    have hu : X.A.units + 1 < cLine := by have := hr.un; omega
    have hz := sizeLine_eq
    rcases DR.cases (rp.get ha q) f with ⟨q', ks, rfl, e, pr⟩ | ⟨ks, tk, hd, e⟩
    · have ry : y = kV q' := by cases q' <;> (cases vk; rfl)
      subst ry
      have mu : Mut (H a) := by rw [e]; exact True.intro
      refine d_setItem hu I (DPut.k e (by rw [← Paired.length pr]; omega)) rv rt fun s' I' => ⟨_, I', hQ _ (Ext.mut ha mu) (rp.set ha mu (.inl ⟨_, upd_same, ?_⟩))⟩
      exact L2.Paired.mapP (KE1.put pr q' vw) fun _ _ z => ⟨z.1, z.2.mono (List.prefix_refl _) (TK.mut mu)⟩
    · obtain ⟨b, rfl⟩ : ∃ b, y = .ref b := by
        cases k with
        | tup zs => cases vk; exact ⟨_, rfl⟩
        | _ => simp [toK] at tk
      cases rv
      have hk : (nestedKind X.prog X.w).is s.heap (.tup ks) b := ⟨nest_ok I _ _ _ _ vk rfl tk, hd⟩
      obtain ⟨mu, hs, xs, dd, pr⟩ : Mut (H a) ∧ (a == sysModules) = false ∧ ∃ xs, s.heap.DictOfH (nestedKind X.prog X.w) a xs ∧ Paired (NE (dm X ca) φ H) kvs xs := by
        rcases e with ⟨rfl, e⟩ | ⟨xs, e, e2, e3, e4, e5, pr⟩
        · obtain ⟨g1, g2⟩ := dE_of I e
          exact ⟨by rw [e]; exact True.intro, g1, [], g2, .nil⟩
        · exact ⟨by rw [e]; exact True.intro, e2, xs, dX_of I e e3 pr, pr⟩
      refine wpAny_setItem_heap (hsz := by rw [← Paired.length pr]; omega) (room_n hr) hk dd fun h' dd' sb => ?_
      have I' := dX_write (ca := ca) (kvs := kvs) (t' := s.toks + (nestedKind X.prog X.w).draws (.tup ks)) I mu sb dd'
      refine ⟨_, I', hQ _ (Ext.mut ha mu) (rp.set ha mu (.inr ⟨_, upd_same, hs, ?_, dput_ne _ _ _, ?_, ?_⟩))⟩
      · obtain ⟨_, _, _, _, _, _, _, _, h6⟩ := dd'; exact h6
      · have := dput_length kvs k w; omega
      · exact L2.Paired.mapP (NE.put pr tk hd vk rt vw) fun _ _ ⟨y, z1, z2, z3, z4, z5, z6⟩ => ⟨y, z1, z2, z3, z4.mono (List.prefix_refl _) (TK.mut mu), z5, z6.mono (List.prefix_refl _) (TK.mut mu)⟩
end
end Mi

set_option Elab.async false
set_option linter.all false
set_option maxRecDepth 100000
set_option maxHeartbeats 2000000
/-! Snd4: truth, comparisons, places, slices, builtins, methods, what is walked. -/
namespace Mi
open PySem PySem.Spec PyProof.Rows L2
section
variable {X : Cx} {ca : Nat → Addr} {W : WX} {pins : List (Addr × Obj)} {s : Shared} {σ : St} {H : Hp} {φ : List Addr} {h : MH} {n : Nat}
theorem VRs.isEmpty {D : Dm} {xs : List MV} {ys : List V} (r : VRs D φ H xs ys) : xs.isEmpty = ys.isEmpty := by cases r <;> rfl
/-- an object at a place of the heap, by what is told of it -/
theorem obj_cases {r : Nat} {o : Option MO} (e : h[r]? = o) : h[r]? = o := e
theorem truth_ok {a : MV} {x : V} {v : Value} {b : Bool} {Q : Bool → Hp → Prop} (I : Inv X pins σ H s) (rv : RelV x v) (r : Rep (dm X ca) φ h H) (va : VR (dm X ca) φ H a x) (e : truth h a = some b) (q : Q b H) :
    wpAny (model X.prog X.w) X.A (truthy v) (TP X pins σ Q) X.xe s := by
  refine tru_ok pins s σ H x v Q I rv ⟨b, ?_, q⟩
  cases va with
  | non => exact (Option.some.inj e).symm
  | bl c => exact (Option.some.inj e).symm
  | int i => exact (Option.some.inj e).symm
  | str z =>
    unfold truth at e
    dsimp only at e
    split at e
    · rename_i hz
      exact ⟨line_eq ▸ hz, (Option.some.inj e).symm⟩
    · cases e
  | tup h1 h2 => exact .inr (.inl ⟨_, h1, by rw [← h2.isEmpty]; exact (Option.some.inj e).symm⟩)
  | ref hn =>
    unfold truth at e
    dsimp only at e
    split at e
    · rename_i xs q1
      obtain ⟨ys, g1, g2⟩ := r.sql hn (.inl q1)
      exact .inl ⟨ys, g1, by rw [← g2.isEmpty]; exact (Option.some.inj e).symm⟩
    · rename_i xs q1
      obtain ⟨ys, g1, g2⟩ := r.sql hn (.inr q1)
      exact .inl ⟨ys, g1, by rw [← g2.isEmpty]; exact (Option.some.inj e).symm⟩
    · cases e
  | cls c => cases e
  | ty t => cases e
theorem in_ok (hr : Room n X.A) {a b : MV} {x y : V} {v u : Value} {c neg : Bool} {Q : VK} (I : Inv X pins σ H s) (rv : RelV x v) (ru : RelV y u) (r : Rep (dm X ca) φ h H) (va : VR (dm X ca) φ H a x) (vb : VR (dm X ca) φ H b y)
    (e : inM h a b = some c) (q : Q (.bl (if neg then !c else c)) H) : wpAny (model X.prog X.w) X.A (compareOp (if neg then .NotIn else .In) v u) (EP X pins σ Q) X.xe s := by
  have hu := room64 hr
  cases b with
  | str z =>
    cases a with
    | str w =>
      cases va
      cases vb
      cases e
      cases neg with
      | false => exact op_in_str pins s σ H _ _ v u Q I rv ru ⟨w, z, rfl, rfl, q⟩
      | true => exact op_notin_str pins s σ H _ _ v u Q I rv ru ⟨w, z, rfl, rfl, q⟩
    | _ => cases e
  | tup zs =>
    unfold inM at e
    dsimp only at e
    split at e
    · rename_i d ds e1 e2
      split at e
      · rename_i hs
        cases e
        obtain ⟨s1, s2⟩ := Bool.and_eq_true_iff.mp hs
        obtain ⟨as, r1⟩ := Dp.reads I d x v (toD_ok r _ _ _ _ va e1) rv
        obtain ⟨bs, r2⟩ := Dp.reads I (.tuple ds) y u (toD_ok r _ _ _ _ vb e2) ru
        cases neg with
        | false => exact SeqAt.in_tuple_reads r2 r1 (SeqAt.canLay_of_shaped s2) (SeqAt.canLay_of_shaped s1) (room_in_shaped s1 hu) ⟨.bl _, H, I, rfl, q⟩
        | true => exact SeqAt.notIn_tuple_reads r2 r1 (SeqAt.canLay_of_shaped s2) (SeqAt.canLay_of_shaped s1) (room_in_shaped s1 hu) ⟨.bl _, H, I, rfl, q⟩
      · cases e
    · cases e
  | ref m =>
    unfold inM at e
    dsimp only at e
    split at e
    · rename_i kvs q1
      split at e
      · rename_i hf
        cases e
        exact din_ok hr I r q1 rv ru va vb hf q
      · cases e
    · rename_i xs q1
      split at e
      · rename_i d ds e1 e2
        split at e
        · rename_i hs
          cases e
          obtain ⟨s1, s2⟩ := Bool.and_eq_true_iff.mp hs
          cases neg with
          | false => exact op_inD hu pins s σ H _ _ v u Q I rv ru ⟨d, ds, toD_ok r _ _ _ _ va e1, toD_ok r _ _ _ _ vb e2, s1, s2, q⟩
          | true => exact op_notInD hu pins s σ H _ _ v u Q I rv ru ⟨d, ds, toD_ok r _ _ _ _ va e1, toD_ok r _ _ _ _ vb e2, s1, s2, q⟩
        · cases e
      · cases e
    · cases e
  | _ => cases e
theorem cmp_ok (hr : Room n X.A) {op : CmpOp} {a b : MV} {x y : V} {v u : Value} {c : Bool} {Q : VK} (I : Inv X pins σ H s) (rv : RelV x v) (ru : RelV y u) (r : Rep (dm X ca) φ h H) (va : VR (dm X ca) φ H a x) (vb : VR (dm X ca) φ H b y)
    (e : cmpM op a b h = some c) (q : Q (.bl c) H) : wpAny (model X.prog X.w) X.A (compareOp op v u) (EP X pins σ Q) X.xe s := by
  cases op with
  | Eq => exact eq_ok hr I rv ru r va vb e q
  | NotEq =>
    obtain ⟨d, e1, e2⟩ := Option.map_eq_some_iff.mp (show (eqM h a b).map (!·) = some c from e)
    subst e2
    exact ne_ok hr I rv ru r va vb e1 q
  | Lt =>
    cases va with
    | int i => cases vb with
      | int j => cases e; exact op_lt pins s σ H _ _ v u Q I rv ru ⟨i, j, rfl, rfl, q⟩
      | _ => cases e
    | _ => cases e
  | LtE =>
    cases va with
    | int i => cases vb with
      | int j => cases e; exact op_le pins s σ H _ _ v u Q I rv ru ⟨i, j, rfl, rfl, q⟩
      | _ => cases e
    | _ => cases e
  | Gt =>
    cases va with
    | int i => cases vb with
      | int j => cases e; exact op_gt pins s σ H _ _ v u Q I rv ru ⟨i, j, rfl, rfl, q⟩
      | _ => cases e
    | _ => cases e
  | GtE =>
    cases va with
    | int i => cases vb with
      | int j => cases e; exact op_ge pins s σ H _ _ v u Q I rv ru ⟨i, j, rfl, rfl, q⟩
      | _ => cases e
    | _ => cases e
  | In => exact in_ok (neg := false) hr I rv ru r va vb e q
  | NotIn =>
    obtain ⟨d, e1, e2⟩ := Option.map_eq_some_iff.mp (show (inM h a b).map (!·) = some c from e)
    subst e2
    exact in_ok (neg := true) hr I rv ru r va vb e1 q
  | Is =>
    cases vb with
    | non =>
      refine op_isN pins s σ H x .non v u Q I rv ru ⟨rfl, ?_⟩
      have : decide (x = .non) = c := by
        cases va <;> (cases e; rfl)
      rw [this]; exact q
    | bl b' => cases va with
      | bl a' => cases e; exact op_is_bl pins s σ H _ _ v u Q I rv ru ⟨a', b', rfl, rfl, q⟩
      | _ => cases e
    | _ => cases va <;> cases e
  | IsNot =>
    cases vb with
    | non =>
      refine op_notN pins s σ H x .non v u Q I rv ru ⟨rfl, ?_⟩
      have : (!decide (x = .non)) = c := by
        cases va <;> (cases e; rfl)
      rw [this]; exact q
    | bl b' => cases va with
      | bl a' => cases e; exact op_isnot_bl pins s σ H _ _ v u Q I rv ru ⟨a', b', rfl, rfl, q⟩
      | _ => cases e
    | _ => cases va <;> cases e

/-! ### places -/
theorem sub_ok (hr : Room n X.A) {value slice : Expr} {a b w : MV} {x y : V} {v u : Value} {Q : VK} (I : Inv X pins σ H s) (rv : RelV x v) (ru : RelV y u) (r : Rep (dm X ca) φ h H) (va : VR (dm X ca) φ H a x) (vb : VR (dm X ca) φ H b y)
    (e : subM a b h = some w) (q : ∀ z, VR (dm X ca) φ H w z → Q z H) (hs : subscripted slice false v u = operate [v, u] (getItem v u)) : wpAny (model X.prog X.w) X.A (subscriptTail value slice v u) (EP X pins σ Q) X.xe s := by
  cases a with
  | tup xs =>
    cases va with
    | tup h1 h2 => cases b with
      | int i =>
        cases vb
        obtain ⟨z, e1, e2⟩ := h2.atI (show L2.atI xs i = some w from e)
        exact ix_tup value slice pins s σ H _ _ v u Q I rv ru ⟨_, _, i, z, rfl, rfl, h1, e1, q z e2⟩ hs
      | _ => cases e
  | str z =>
    cases va
    cases b with
    | int i =>
      cases vb
      unfold subM at e
      dsimp only at e
      split at e
      · rename_i hz
        obtain ⟨c, e1, e2⟩ := Option.map_eq_some_iff.mp e
        subst e2
        exact ix_str value slice pins s σ H _ _ v u Q I rv ru ⟨z, i, c, rfl, rfl, line_eq ▸ hz, e1, q _ (.str _)⟩ hs
      · cases e
    | _ => cases e
  | ref m =>
    unfold subM at e
    dsimp only at e
    split at e
    · rename_i xs q1
      cases b with
      | int i =>
        cases vb
        cases va with
        | ref hm =>
          obtain ⟨ys, g1, g2⟩ := r.sql hm (.inl q1)
          obtain ⟨z, e1, e2⟩ := g2.atI e
          exact ix_list value slice pins s σ H _ _ v u Q I rv ru ⟨_, _, i, z, rfl, rfl, g1, e1, q z e2⟩ hs
      | _ => cases e
    · rename_i xs q1
      cases b with
      | int i =>
        cases vb
        cases va with
        | ref hm =>
          obtain ⟨ys, g1, g2⟩ := r.sql hm (.inr q1)
          obtain ⟨z, e1, e2⟩ := g2.atI e
          exact ix_list value slice pins s σ H _ _ v u Q I rv ru ⟨_, _, i, z, rfl, rfl, g1, e1, q z e2⟩ hs
      | _ => cases e
    · rename_i kvs q1
      split at e
      · rename_i hf
        obtain ⟨d, rfl, hT, hg⟩ := dgetI_ok hr I r q1 rv ru va vb hf e q
        unfold subscriptTail
        refine wpAny_bind ?_
        rw [getitemInPython_of_ne hT.not_modules]
        refine wpAny_bind (wpAny_specialOf hT PySem.F.slot_dict_getitem.lookup ?_)
        have fin : wpAny (model X.prog X.w) X.A (subscripted slice false (.ref d) u) (fun r s₃ => wpAny (model X.prog X.w) X.A (letTemporaryGo value (.ref d) r >>= fun _ => pure r) (EP X pins σ Q) X.xe s₃) X.xe s := by
          rw [hs]
          exact wpAny_operating (wpAny_mono hg (fun r s₃ h₃ => wpAny_bind (wpAny_letTemporaryGo (wpAny_pure h₃))) fun _ _ x => x)
        first
          | exact wpAny_pure (wpAny_bind fin)
          | exact wpAny_bind (wpAny_pure (wpAny_bind fin))
          | exact wpAny_bind fin
      · cases e
    · cases e
  | _ => cases e
/-- what a slice is -/
def rSl (K : PySem.W.Frag) : V → Option Int → Option Int → Hp → VK → Prop := fun x lo hi H Q => rSlL K x lo hi H Q ∨ (rSlA K x lo hi H Q ∨ rSlS x lo hi H Q)
theorem sl_all : SlR X (rSl X.K) := SlR.or sl_list (SlR.or sl_tupA sl_str)
theorem slc_rd {a : MV} {x : V} {lo hi : Option Int} {Q : VK} (r : Rep (dm X ca) φ h H) (va : VR (dm X ca) φ H a x) (f : Fin (dm X ca) W (VR (dm X ca)) σ φ H Q (slcM a lo hi h)) : rSl X.K x lo hi H Q := by
  cases va with
  | tup h1 h2 =>
    have e := h2.length
    refine .inr (.inl ⟨_, _, rfl, h1, fun ⟨w1, w2⟩ => ?_, fun _ p hp => f.newT r hp (h2.cut lo hi)⟩)
    refine f.ok0 r (.tup h1 ?_)
    unfold cutM
    rw [e, w1, w2, List.drop_zero, Nat.sub_zero, ← e, List.take_length]
    exact h2
  | str z =>
    unfold slcM at f
    dsimp only at f
    split at f
    · rename_i hz
      exact .inr (.inr ⟨z, rfl, line_eq ▸ hz, f.ok0 r (.str _)⟩)
    · exact f.elim
  | ref hm =>
    unfold slcM at f
    dsimp only at f
    split at f
    · rename_i xs q1
      obtain ⟨ys, g1, g2⟩ := r.lst hm q1
      exact .inl ⟨_, _, rfl, SqL.of g1, fun p hp => f.newL r hp (g2.cut lo hi)⟩
    · exact f.elim
  | _ => exact f.elim

/-! ### builtins -/
def Blt.val : Blt → Value
  | .len => .builtin "len" | .int => .type "int" | .isi => .builtin "isinstance" | .tuple => .type "tuple" | .list => .type "list" | .sum => .builtin "sum" | .all => .builtin "all" | .any => .builtin "any" | .max => .builtin "max" | .min => .builtin "min" | .abs => .builtin "abs"
theorem intsM_ok {D : Dm} : ∀ {vs : List MV} {xs : List V} {ns : List Int}, VRs D φ H vs xs → intsM vs = some ns → xs = ns.map V.int
  | [], _, _, r, e => by cases r; cases e; rfl
  | .int i :: vs, _, _, r, e => by
    cases r with
    | cons r1 r2 =>
      cases r1
      obtain ⟨ms, e1, e2⟩ := Option.map_eq_some_iff.mp (show (intsM vs).map (i :: ·) = _ from e)
      subst e2
      rw [intsM_ok r2 e1]
      rfl
  | .non :: _, _, _, _, e => by cases e
  | .bl _ :: _, _, _, _, e => by cases e
  | .str _ :: _, _, _, _, e => by cases e
  | .tup _ :: _, _, _, _, e => by cases e
  | .ref _ :: _, _, _, _, e => by cases e
  | .cls _ :: _, _, _, _, e => by cases e
  | .ty _ :: _, _, _, _, e => by cases e
theorem bolsM_ok {D : Dm} : ∀ {vs : List MV} {xs : List V} {ns : List Bool}, VRs D φ H vs xs → bolsM vs = some ns → xs = ns.map V.bl
  | [], _, _, r, e => by cases r; cases e; rfl
  | .bl i :: vs, _, _, r, e => by
    cases r with
    | cons r1 r2 =>
      cases r1
      obtain ⟨ms, e1, e2⟩ := Option.map_eq_some_iff.mp (show (bolsM vs).map (i :: ·) = _ from e)
      subst e2
      rw [bolsM_ok r2 e1]
      rfl
  | .non :: _, _, _, _, e => by cases e
  | .int _ :: _, _, _, _, e => by cases e
  | .str _ :: _, _, _, _, e => by cases e
  | .tup _ :: _, _, _, _, e => by cases e
  | .ref _ :: _, _, _, _, e => by cases e
  | .cls _ :: _, _, _, _, e => by cases e
  | .ty _ :: _, _, _, _, e => by cases e
theorem kit_tab (a b : Ty) : kitB a.nm b.nm = some (tyLe a b) := by
  cases a <;> cases b <;> decide +kernel
/-- what isinstance asks of a value of a built-in type -/
theorem kit_ok {a : MV} {x : V} {u : Value} {t : Ty} (I : Inv X pins σ H s) (rx : RelV x u) (r : Rep (dm X ca) φ h H) (va : VR (dm X ca) φ H a x) (e : tyM h a = some (.inl t)) :
    ∃ P : Heap → Prop, PySem.W.KitX X.K u (.type t.nm) P ∧ P s.heap ∧ u ≠ .builtin "__main__.__loader__#opaque" := by
  cases va with
  | non => cases e; exact kit_of I rx (.base .non)
  | bl b => cases e; exact kit_of I rx (.base (.bl b))
  | int i => cases e; exact kit_of I rx (.base (.int i))
  | str z => cases e; exact kit_of I rx (.base (.str z))
  | tup h1 h2 =>
    cases e
    cases (show u = Value.ref _ from rx)
    obtain ⟨_, _, ⟨o, g1, g2, _⟩, _⟩ := I.tuple h1
    exact ⟨_, PySem.W.kitx_tuple, ⟨o, g1, g2⟩, fun z => nomatch z⟩
  | ref hm =>
    unfold tyM at e
    dsimp only at e
    split at e
    · rename_i xs q1
      cases e
      obtain ⟨ys, g1, g2⟩ := r.lst hm q1
      exact kit_of I rx (.base (.lst g1))
    · rename_i xs q1
      cases e
      obtain ⟨o, ys, g1, g2⟩ := r.rol hm q1
      exact kit_of I rx (.base (.frz g1))
    · rename_i kvs q1
      cases e
      rcases r.get hm q1 with ⟨ks, g1, g2⟩ | ⟨xs, g1, _⟩
      · exact kit_of I rx (.base (.dK g1))
      · cases (show u = Value.ref _ from rx)
        obtain ⟨⟨o, es, ep, k1, k2, _⟩, _⟩ := (show ObjOk X.prog X.w H s.heap _ (.ext _) from I.hok _ _ g1)
        exact ⟨_, PySem.W.kitx_dict, ⟨o, k1, k2.1⟩, fun z => nomatch z⟩
    · cases e
    · cases e
  | cls c => cases e
  | ty c => cases e
theorem len_ok {a : MV} {x : V} {u : Value} {k : Nat} {Q : VK} (I : Inv X pins σ H s) (rx : RelV x u) (r : Rep (dm X ca) φ h H) (va : VR (dm X ca) φ H a x) (e : lenM h a = some k) (q : Q (.int k) H) :
    wpAny (model X.prog X.w) X.A (call (.builtin "len") [u]) (EP X pins σ Q) X.xe s := by
  cases va with
  | tup h1 h2 => cases e; exact call_len_seq pins s σ H _ _ Q I (.cons rx .nil) ⟨_, _, rfl, .inr h1, by rw [← h2.length]; exact q⟩
  | str z =>
    unfold lenM at e
    dsimp only at e
    split at e
    · rename_i hz
      cases e
      exact call_len_str pins s σ H _ _ Q I (.cons rx .nil) ⟨z, rfl, line_eq ▸ hz, q⟩
    · cases e
  | ref hm =>
    unfold lenM at e
    dsimp only at e
    split at e
    · rename_i xs q1
      cases e
      obtain ⟨ys, g1, g2⟩ := r.sql hm (.inl q1)
      exact call_len_seq pins s σ H _ _ Q I (.cons rx .nil) ⟨_, _, rfl, .inl g1, by rw [← g2.length]; exact q⟩
    · rename_i xs q1
      cases e
      obtain ⟨ys, g1, g2⟩ := r.sql hm (.inr q1)
      exact call_len_seq pins s σ H _ _ Q I (.cons rx .nil) ⟨_, _, rfl, .inl g1, by rw [← g2.length]; exact q⟩
    · rename_i kvs q1
      split at e
      · cases e
      · rename_i hk
        cases e
        cases (show u = Value.ref _ from rx)
        rcases r.get hm q1 with ⟨ks, g1, g2⟩ | ⟨xs, g1, g2, g3, g4, g5, g6⟩
        · exact d_len I (.inl g1) fun t s' I' => ⟨.int _, H, I', ⟨t, by rw [Paired.length g2]⟩, q⟩
        · exfalso
          cases g6 with
          | nil => exact g4 rfl
          | cons z zs =>
            obtain ⟨y, z1, ⟨ks, z2⟩, z3, _⟩ := z
            rw [z2] at z1 z3
            exact hk (by simp [dk, kk_toK z1 z3])
    · cases e
  | _ => cases e
theorem seq_ok {a : MV} {x : V} {xs : List MV} (r : Rep (dm X ca) φ h H) (va : VR (dm X ca) φ H a x) (e : seqM h a = some xs) : ∃ p ys, x = .ref p ∧ VRs (dm X ca) φ H xs ys ∧ (SqL X.K H p ys ∨ SqT X.K H p ys) := by
  cases va with
  | tup h1 h2 => cases e; exact ⟨_, _, rfl, h2, .inr h1⟩
  | ref hm =>
    unfold seqM at e
    dsimp only at e
    split at e
    · rename_i zs q1
      cases e
      obtain ⟨ys, g1, g2⟩ := r.sql hm (.inl q1)
      exact ⟨_, ys, rfl, g2, .inl g1⟩
    · rename_i zs q1
      cases e
      obtain ⟨ys, g1, g2⟩ := r.sql hm (.inr q1)
      exact ⟨_, ys, rfl, g2, .inl g1⟩
    · cases e
  | _ => cases e
/-- what a class of the text must have -/
structure ClsI (K : PySem.W.Frag) (C : Addr) : Prop where
  cls : L2.Cls K C
  ha : PySem.W.findIn K (.ref C) "__class__" = some (some (.builtin "object.__class__"))
  hn : PySem.W.specialIn K (.builtin "object.__class__") "__get__" = some (some (.builtin "getset_descriptor.__get__"))
  htk : PySem.W.takesIn K (.builtin "object.__class__") = some true
  hm : PySem.W.mroIn K C (.type "object") = some true
theorem icl_of {cs : List Mi.Cls} {c : Nat} {K : Mi.Cls} (h : icl cs c = some K) : cs[c]? = some K ∧ K.exc = none := by
  unfold icl at h
  split at h
  · split at h
    · cases h; exact ⟨by assumption, by assumption⟩
    · cases h
  · cases h
/-- the list of a text's signs -/
theorem signs_vals (x : Str) : ∀ (acc : List Value) (i : Nat), i + acc.length = x.cps.size → (∀ (j : Nat) v, acc[j]? = some v → SignAt x (i + j) v) → Vals ((x.cps.toList.drop i).map fun c => V.str ⟨#[c]⟩) acc
  | [], i, hl, _ => by
    rw [List.drop_eq_nil_of_le (by rw [Array.length_toList]; simp at hl; omega)]
    exact .nil
  | v :: acc, i, hl, h => by
    obtain ⟨c, u, e, rfl⟩ := h 0 v rfl
    rw [List.length_cons] at hl
    have hi : i < x.cps.toList.length := by rw [Array.length_toList]; omega
    rw [List.drop_eq_getElem_cons hi, List.map_cons]
    refine .cons ⟨u, ?_⟩ (signs_vals x acc (i + 1) (by omega) fun j w e => ?_)
    · have : x.cps.toList[i] = c := by
        have e' : x.cps[i]? = some c := e
        rw [← Array.getElem?_toList] at e'
        rw [List.getElem?_eq_getElem hi] at e'
        exact Option.some.inj e'
      rw [this]
    · have := h (j + 1) w (by simpa using e)
      rwa [show i + 1 + j = i + (j + 1) by omega]
theorem call_list_signs (hc : X.calm = true) : CallR X (.type "list") (fun xs H Q => ∃ x, xs = [.str x] ∧ x.length ≤ sizeLine ∧ ∀ l, H l = none → Q (.ref l) (upd H l (.lst (x.cps.toList.map fun c => V.str ⟨#[c]⟩)))) := by
  intro pins s σ H xs us Q I r h
  obtain ⟨x, rfl, hz, q⟩ := h
  cases r with
  | cons rx rr =>
    cases rr
    obtain ⟨t, rfl⟩ := rx
    refine call_list_str (I.ok.hd hc) x t (hn := hz) fun h' tk acc' c' kp e it => ?_
    have hv := signs_vals x acc'.toList 0 (by rw [Nat.zero_add, Array.length_toList]; exact it.1) fun j v hj => by
      rw [Nat.zero_add]
      exact it.2 j v (by rw [← Array.getElem?_toList]; exact hj)
    rw [List.drop_zero] at hv
    exact ⟨.ref s.heap.objs.size, _, I.laid (t' := tk) kp (Nat.le_refl _) (show ObjOk X.prog X.w _ h' _ (.lst _) from ⟨by rw [List.length_map, Array.length_toList]; exact hz, acc'.toList, c', hv, by rw [Array.toArray_toList]; exact e⟩), rfl, q _ (I.hok.fresh (Nat.le_refl _))⟩
def ClsK (K : PySem.W.Frag) (ca : Nat → Addr) (cs : List Mi.Cls) : Prop := ∀ k K', cs[k]? = some K' → K'.exc = none → ClsI K (ca k) ∧ (∀ t : Ty, PySem.W.kitOne K (.ref (ca k)) (.type t.nm) = some false) ∧ ∀ j, j < cs.length → PySem.W.kitOne K (.ref (ca k)) (.ref (ca j)) = some (k == j || K'.ups.contains j)
theorem blt_ok {C : Cfg} (hc : X.calm = true) (hi : ClsK X.K ca C.cls) (hk : ∀ (t : Ty) j, j < C.cls.length → PySem.W.kitOne X.K (.type t.nm) (.ref (ca j)) = some false) {b : Blt} {as : List MV} {xs : List V} {us : List Value} {Q : VK} (I : Inv X pins σ H s) (rx : Vals xs us) (r : Rep (dm X ca) φ h H)
    (va : VRs (dm X ca) φ H as xs) (f : Fin (dm X ca) W (VR (dm X ca)) σ φ H Q (bltM C b as h)) : wpAny (model X.prog X.w) X.A (call b.val us) (EP X pins σ Q) X.xe s := by
  cases b with
  | len =>
    unfold bltM at f
    dsimp only at f
    split at f
    · rename_i a
      split at f
      · rename_i k e
        cases va with
        | cons v1 v2 =>
          cases v2
          cases rx with
          | cons r1 r2 =>
            cases r2
            exact len_ok I r1 r v1 e (f.ok0 r (.int _))
      · exact f.elim
    · exact f.elim
  | int =>
    unfold bltM at f
    dsimp only at f
    split at f
    · cases va with
      | cons v1 v2 =>
        cases v2
        cases v1
        exact call_int1 pins s σ H _ _ Q I rx (.inl ⟨_, rfl, f.ok0 r (.int _)⟩)
    · cases va with
      | cons v1 v2 =>
        cases v2
        cases v1
        exact call_int1 pins s σ H _ _ Q I rx (.inr ⟨_, rfl, f.ok0 r (.int _)⟩)
    · exact f.elim
  | isi =>
    unfold bltM at f
    dsimp only at f
    split at f
    · rename_i a c
      split at f
      · rename_i res e
        cases va with
        | cons v1 v2 => cases v2 with
          | cons v2 v3 =>
            cases v3
            cases rx with
            | cons r1 r2 => cases r2 with
              | cons r2 r3 =>
                cases r3
                unfold isiM at e
                split at e
                · rename_i t et
                  obtain ⟨P, Z, p, hx⟩ := kit_ok I r1 r v1 et
                  cases v2 with
                  | ty t2 =>
                    cases e
                    cases r2
                    exact PySem.W.kia_one Z I.kIn p (kit_ty (kit_tab t t2)) hx fun tk => ⟨.bl _, H, I.tok tk, rfl, f.ok0 r (.bl _)⟩
                  | cls j =>
                    dsimp only at e
                    split at e
                    · rename_i hj
                      cases e
                      cases r2
                      exact PySem.W.kia_one Z I.kIn p (hk t j hj) hx fun tk => ⟨.bl _, H, I.tok tk, rfl, f.ok0 r (.bl _)⟩
                    · cases e
                  | _ => cases e
                · rename_i k et
                  cases v1 with
                  | @ref _ p hm =>
                    unfold tyM at et
                    dsimp only at et
                    split at et
                    · cases et
                    · cases et
                    · cases et
                    · rename_i c fs q1
                      cases et
                      obtain ⟨dx, ys, g1, g2⟩ := r.ins hm q1
                      split at e
                      · rename_i K' hK'
                        have hK2 := icl_of hK'
                        obtain ⟨i1, i2, i3⟩ := hi _ _ hK2.1 hK2.2
                        have ty : TyOf X.K H (.ref p) (.ref (ca k)) := .ins g1 i1.cls i1.ha i1.hn i1.htk i1.hm
                        cases v2 with
                        | ty t2 =>
                          cases e
                          cases r2
                          exact isinst_ok I r1 ty (i2 t2) fun tk => ⟨.bl _, H, I.tok tk, rfl, f.ok0 r (.bl _)⟩
                        | cls j =>
                          dsimp only at e
                          split at e
                          · rename_i hj
                            cases e
                            cases r2
                            exact isinst_ok I r1 ty (i3 j hj) fun tk => ⟨.bl _, H, I.tok tk, rfl, f.ok0 r (.bl _)⟩
                          · cases e
                        | _ => cases e
                      · cases e
                    · cases et
                  | _ => cases et
                · cases e
      · exact f.elim
    · exact f.elim
  | tuple =>
    unfold bltM at f
    dsimp only at f
    split at f
    · rename_i a
      split at f
      · rename_i zs e
        cases va with
        | cons v1 v2 =>
          cases v2
          obtain ⟨p, ys, rfl, w, hs⟩ := seq_ok r v1 e
          refine call_tuple_of pins s σ H _ _ Q I rx ⟨p, ys, rfl, ?_⟩
          rcases hs with hs | hs
          · exact .inl ⟨hs, fun l hl => f.newT r hl w⟩
          · exact .inr ⟨hs, f.ok0 r (.tup hs w)⟩
      · exact f.elim
    · exact f.elim
  | list =>
    unfold bltM at f
    dsimp only at f
    split at f
    · rename_i a
      split at f
      · rename_i zs e
        cases va with
        | cons v1 v2 =>
          cases v2
          obtain ⟨p, ys, rfl, w, hs⟩ := seq_ok r v1 e
          exact call_list_of pins s σ H _ _ Q I rx ⟨p, ys, rfl, hs, fun l hl => f.newL r hl w⟩
      · split at f
        · rename_i x _
          split at f
          · rename_i hz
            cases va with
            | cons v1 v2 =>
              cases v2
              cases v1
              exact call_list_signs hc pins s σ H _ _ Q I rx ⟨x, rfl, by rw [← line_eq]; exact hz, fun l hl => f.newL r hl (vrs_signs x)⟩
          · exact f.elim
        · exact f.elim
    · exact f.elim
  | sum =>
    unfold bltM at f
    dsimp only at f
    split at f
    · split at f
      · rename_i zs q1
        split at f
        · rename_i ns e
          cases va with
          | cons v1 v2 =>
            cases v2
            cases v1 with
            | ref hm =>
              obtain ⟨ys, g1, g2⟩ := r.lst hm q1
              have := intsM_ok g2 e
              subst this
              exact cr_sum hc pins s σ H _ _ Q I rx ⟨_, ns, rfl, SqL.of g1, f.ok0 r (.int _)⟩
        · exact f.elim
      · exact f.elim
    · exact f.elim
  | all =>
    unfold bltM at f
    dsimp only at f
    split at f
    · split at f
      · rename_i zs q1
        split at f
        · rename_i ns e
          cases va with
          | cons v1 v2 =>
            cases v2
            cases v1 with
            | ref hm =>
              obtain ⟨ys, g1, g2⟩ := r.lst hm q1
              have := bolsM_ok g2 e
              subst this
              exact cr_all hc pins s σ H _ _ Q I rx ⟨_, ns, rfl, SqL.of g1, f.ok0 r (.bl _)⟩
        · exact f.elim
      · exact f.elim
    · exact f.elim
  | any =>
    unfold bltM at f
    dsimp only at f
    split at f
    · split at f
      · rename_i zs q1
        split at f
        · rename_i ns e
          cases va with
          | cons v1 v2 =>
            cases v2
            cases v1 with
            | ref hm =>
              obtain ⟨ys, g1, g2⟩ := r.lst hm q1
              have := bolsM_ok g2 e
              subst this
              exact cr_any hc pins s σ H _ _ Q I rx ⟨_, ns, rfl, SqL.of g1, f.ok0 r (.bl _)⟩
        · exact f.elim
      · exact f.elim
    · exact f.elim
  | max =>
    unfold bltM at f
    dsimp only at f
    split at f
    · cases va with
      | cons v1 v2 => cases v2 with
        | cons v2 v3 =>
          cases v3
          cases v1
          cases v2
          exact call_max2 hc pins s σ H _ _ Q I rx ⟨_, _, rfl, f.ok0 r (.int _)⟩
    · exact f.elim
  | min =>
    unfold bltM at f
    dsimp only at f
    split at f
    · cases va with
      | cons v1 v2 => cases v2 with
        | cons v2 v3 =>
          cases v3
          cases v1
          cases v2
          exact call_min2 hc pins s σ H _ _ Q I rx ⟨_, _, rfl, f.ok0 r (.int _)⟩
    · exact f.elim
  | abs =>
    unfold bltM at f
    dsimp only at f
    split at f
    · cases va with
      | cons v1 v2 =>
        cases v2
        cases v1
        exact call_abs pins s σ H _ _ Q I rx ⟨_, rfl, f.ok0 r (.int _)⟩
    · exact f.elim

/-! ### what is walked -/
theorem iter_ok {tg : Expr} {a : MV} {x : V} {v : Value} {J0 : Mi.It} {R : L2.It → Hp → Prop} (I1 : Inv X pins σ H s) (rv : RelV x v) (r : Rep (dm X ca) φ h H) (va : VR (dm X ca) φ H a x) (e : itV a h = some J0)
    (q : ∀ J, IR (dm X ca) φ H J0 J → R J H) : wpAny (model X.prog X.w) X.A (pyIter v) (PIE X pins σ tg R) X.xe s := by
  have lst : ∀ {p : Addr} {ys : List V}, SqL X.K H p ys → R (Itl X.K p) H → wpAny (model X.prog X.w) X.A (pyIter (.ref p)) (PIE X pins σ tg R) X.xe s := fun {p ys} hq q => by
    obtain ⟨its, rv, pl, hz⟩ := I1.list hq
    refine wpAny_pyIter_list pl.isList ?_
    refine ⟨s.heap.objs.size, [s.heap.objs.size], _, _, H, rfl, I1.kept (t' := s.toks) fun b o e => Heap.get?_push_of_some _ e, turn_list p _, ⟨_, Heap.get?_push_size _ rfl, rfl, rfl⟩, fun b hb => ?_, q⟩
    have e : b = s.heap.objs.size := by simpa using hb
    subst e
    exact I1.fpOk (Nat.le_refl _) (I1.hok.fresh (Nat.le_refl _))
  cases va with
  | @tup xs p ys h1 h2 =>
    cases e
    cases rv
    obtain ⟨its, rv, pl, hz⟩ := I1.tuple h1
    refine wpAny_pyIter_tuple (show s.heap.IsTuple p its.toArray from pl) ?_
    refine ⟨s.heap.objs.size, [s.heap.objs.size], _, _, H, rfl, I1.kept (t' := s.toks) fun b o e => Heap.get?_push_of_some _ e, turn_tuple p _, ⟨_, Heap.get?_push_size _ rfl, rfl, rfl⟩, fun b hb => ?_, q _ ⟨p, ys, h1, h2, rfl⟩⟩
    have e : b = s.heap.objs.size := by simpa using hb
    subst e
    exact I1.fpOk (Nat.le_refl _) (I1.hok.fresh (Nat.le_refl _))
  | ref hm =>
    cases rv
    unfold itV at e
    dsimp only at e
    split at e
    · rename_i xs q1
      cases e
      obtain ⟨ys, g1, g2⟩ := r.sql hm (.inl q1)
      exact lst g1 (q _ ⟨_, hm, rfl⟩)
    · rename_i xs q1
      cases e
      obtain ⟨ys, g1, g2⟩ := r.sql hm (.inr q1)
      exact lst g1 (q _ ⟨_, hm, rfl⟩)
    · cases e
  | str x =>
    cases e
    obtain ⟨t, rfl⟩ := rv
    have q := q _ rfl
    cases ha : x.cps.all (· < 128)
    · exact wpAny_pyIter_wide ha (pi_one (tk := s.toks) I1 _ (turn_str _ x t "str_iterator" (.inr rfl)) ⟨_, Heap.get?_push_size _ rfl, rfl, rfl⟩ q)
    · exact wpAny_pyIter_ascii ha (pi_one (tk := s.toks) I1 _ (turn_str _ x t "str_ascii_iterator" (.inl rfl)) ⟨_, Heap.get?_push_size _ rfl, rfl, rfl⟩ q)
  | _ => cases e
end
end Mi

set_option Elab.async false
set_option linter.all false
set_option maxRecDepth 100000
set_option maxHeartbeats 2000000
/-! Snd5: the text is looked at; expressions run as ours do. -/
namespace Mi
open PySem PySem.Spec PyProof.Rows L2

/-! ### the text's forms -/
def nostar : Expr → Bool
  | .Starred .. => false
  | _ => true
def nosup : Expr → Bool
  | .Call (.Name _ _) [] [] _ => false
  | _ => true
def noset : Expr → Bool
  | .Set .. => false
  | _ => true
def noslice : Expr → Bool
  | .Slice .. => false
  | _ => true
def nocomp : Expr → Bool
  | .ListComp .. => false
  | .SetComp .. => false
  | .DictComp .. => false
  | _ => true
def notup : Expr → Bool
  | .Tuple .. => false
  | .List .. => false
  | _ => true
theorem star_cons {e : Expr} {es : List Expr} {env : PySem.Env} (h : nostar e = true) : starEach (e :: es) env = (false, eval e env) :: starEach es env := by
  cases e <;> first | rfl | cases h
theorem plain_back {pos : Pos} {env : PySem.Env} : ∀ {es : List Expr}, es.all nostar = true → (backTo pos (starEach es env)).any (·.1) = false
  | [], _ => rfl
  | e :: es, h => by
    rw [List.all_cons, Bool.and_eq_true] at h
    rw [star_cons h.1]
    show (false || (backTo pos (starEach es env)).any (·.1)) = false
    rw [plain_back h.2]
    rfl
theorem plain_all {pos : Pos} {env : PySem.Env} : ∀ {es : List Expr}, es.all nostar = true → (backTo pos (starEach es env)).all (fun x => !x.1) = true
  | [], _ => rfl
  | e :: es, h => by
    rw [List.all_cons, Bool.and_eq_true] at h
    rw [star_cons h.1]
    show (true && (backTo pos (starEach es env)).all (fun x => !x.1)) = true
    rw [plain_all h.2]
    rfl
theorem base_of {o : Expr} {m : Str} {env : PySem.Env} (h : nosup o = true) : attributeBase o m env (eval o env) = eval o env := by
  cases o with
  | Call f args kws pos =>
    cases f with
    | Name id p =>
      cases args with
      | nil => cases kws with
        | nil => cases h
        | cons _ _ => rfl
      | cons _ _ => rfl
    | _ => rfl
  | _ => rfl
theorem set_of {e : Expr} {env : PySem.Env} {x : Value} (h : noset e = true) : foldedSetIterable e env x = pure x := by
  cases e <;> first | rfl | cases h
theorem ix_of {e : Expr} (h : noslice e = true) : PlainIx e := by
  intro o i
  cases e <;> first | rfl | cases h

structure Sc where
  N : List Str
  sc : Scope
  blk : Option Scope
def Sc.vis (G : Sc) (i : Nat) (x : Str) : Bool := decide (G.N[i]? = some x) && ((match G.sc.names.lookup x with
  | some .local => true
  | some .cell => true
  | some .free => true
  | _ => false) && (!(x == ("__debug__" : Str)) && !(x == ("__classdict__" : Str))))
def Sc.loc (G : Sc) (i : Nat) (x : Str) : Bool := decide (G.N[i]? = some x) && (match G.sc.names.lookup x with
  | some .local => true
  | some .cell => (match G.blk with
    | none => true
    | some b => b.names.lookup x == some .cell)
  | _ => false)
def Sc.gl (G : Sc) (x : Str) : Bool := decide (G.sc.names.lookup x = some .globalImplicit) && (!(x == ("__debug__" : Str)) && !(x == ("__name__" : Str)))
def MT.slots : MT → List Nat
  | .name i => [i]
  | .tup ts => go ts
  | .sub _ _ => []
where go : MTs → List Nat
  | .nil => []
  | .cons t ts => MT.slots t ++ go ts
/-! ### the look at the text -/
mutual
theorem MV.eq_of : ∀ {v w : MV}, MV.beq v w = true → v = w
  | .non, .non, _ => rfl
  | .bl _, .bl _, h => by rw [eq_of_beq (show (_ == _) = true from h)]
  | .int _, .int _, h => by rw [eq_of_beq (show (_ == _) = true from h)]
  | .str _, .str _, h => by rw [eq_of_beq (show (_ == _) = true from h)]
  | .tup _, .tup _, h => by rw [MV.eqs_of (show MV.beqs _ _ = true from h)]
  | .ref _, .ref _, h => by rw [eq_of_beq (show (_ == _) = true from h)]
  | .cls _, .cls _, h => by rw [eq_of_beq (show (_ == _) = true from h)]
  | .ty _, .ty _, h => by rw [eq_of_beq (show (_ == _) = true from h)]
theorem MV.eqs_of : ∀ {v w : List MV}, MV.beqs v w = true → v = w
  | [], [], _ => rfl
  | _ :: _, _ :: _, h => by
    obtain ⟨h1, h2⟩ := Bool.and_eq_true_iff.mp (show (MV.beq _ _ && MV.beqs _ _) = true from h)
    rw [MV.eq_of h1, MV.eqs_of h2]
end
def Prog.isGlb (P : Prog) (x : Str) (v : MV) : Bool := P.glb.any fun p => decide (p.1 = x) && MV.beq p.2 v
/-- the name is that of the class -/
def Prog.isCls (P : Prog) (c : Nat) (x : Str) : Bool := match icl P.cls c with
  | some K' => decide (K'.name = x) && K'.init.isSome
  | none => false
def Prog.isFn (P : Prog) (f : Nat) (x : Str) : Bool := match P.fns[f]? with
  | some F => decide (F.at_ = .glo x)
  | none => false
def XC.ok (P : Prog) (x : Str) : XC → Bool
  | .own c => match P.cls[c]? with
    | some K => decide (K.name = x) && K.exc.isSome
    | none => false
  | .ve => decide (x = "ValueError") && P.free.contains x
mutual
/-- the look at what an except suite hands back; e: the exception's name -/
def chkX (P : Prog) (G : Sc) (n : Option Str) : XE → Expr → Bool
  | .lit v, e => match v, e with
    | .non, .Constant .none _ _ => true
    | .bl b, .Constant (.bool c) _ _ => decide (b = c)
    | .int i, .Constant (.int j) _ _ => decide (i = j)
    | .str x, .Constant (.str y) _ _ => decide (x = y)
    | _, _ => false
  | .var i, e => match e with
    | .Name x _ => G.vis i x && !(decide (n = some x))
    | _ => false
  | .xf f, e => match e with
    | .Attribute (.Name x _) g _ => decide (n = some x) && decide (f = g)
    | _ => false
  | .xis c, e => match e with
    | .Call (.Name b _) [.Name x _, .Name y _] [] _ => decide (b = "isinstance") && (G.gl b && (P.free.contains b && (decide (n = some x) && (G.gl y && c.ok P y))))
    | _ => false
  | .tup es, e => match e with
    | .Tuple xs _ _ => chkXs P G n es xs && decide (xs.length ≤ line)
    | _ => false
  | .eq neg a b, e => match e with
    | .Compare l [o] [r] _ => decide (o = (if neg then CmpOp.NotEq else CmpOp.Eq)) && (chkX P G n a l && (chkX P G n b r && noset r))
    | _ => false
  | .not a, e => match e with
    | .UnaryOp .Not x _ => chkX P G n a x
    | _ => false
  | .bop op es, e => match e with
    | .BoolOp o xs _ => decide (op = o) && chkXs P G n es xs
    | _ => false
  | .mul a b, e => match e with
    | .BinOp l .Mult r _ => chkX P G n a l && chkX P G n b r
    | _ => false
  | .intb a, e => match e with
    | .Call (.Name y _) [x] [] _ => decide (y = "int") && (G.gl y && (P.free.contains y && (chkX P G n a x && nostar x)))
    | _ => false
  | .low a, e => match e with
    | .Call (.Attribute o y ap) [] [] pos => decide (y = "lower") && (chkX P G n a o && (nosup o && (ap.endLine == pos.line)))
    | _ => false
def chkXs (P : Prog) (G : Sc) (n : Option Str) : XEs → List Expr → Bool
  | .nil, xs => match xs with
    | [] => true
    | _ => false
  | .cons a as, xs => match xs with
    | x :: xs => nostar x && (chkX P G n a x && chkXs P G n as xs)
    | _ => false
end
def tupT : Expr → Bool
  | .Tuple .. => true
  | _ => false
mutual
def chkE (P : Prog) (G : Sc) : ME → Expr → Bool
  | .unk, _ => true
  | .cmth a m es, e => match e with
    | .Call (.Attribute o y ap) xs [] pos => decide (m = y) && (chkE P G a o && (chkEs P G es xs && (!xs.isEmpty && (nosup o && ((ap.endLine == pos.line) && decide (xs.length < 29))))))
    | _ => false
  | .callv i es, e => match e with
    | .Call (.Name y _) xs [] _ => G.vis i y && (chkEs P G es xs && !xs.isEmpty)
    | _ => false
  | .var i, e => match e with
    | .Name x _ => G.vis i x
    | _ => false
  | .non, e => match e with
    | .Constant .none _ _ => true
    | _ => false
  | .bl b, e => match e with
    | .Constant (.bool c) _ _ => decide (b = c)
    | _ => false
  | .int i, e => match e with
    | .Constant (.int j) _ _ => decide (i = j)
    | _ => false
  | .str x, e => match e with
    | .Constant (.str y) _ _ => decide (x = y)
    | _ => false
  | .glb x v, e => match e with
    | .Name y _ => decide (x = y) && (G.gl y && P.isGlb y v)
    | _ => false
  | .bin op a b, e => match e with
    | .BinOp l o r _ => decide (op = o) && (chkE P G a l && chkE P G b r)
    | _ => false
  | .neg a, e => match e with
    | .UnaryOp .USub x _ => chkE P G a x
    | _ => false
  | .cmp op a b, e => match e with
    | .Compare l [o] [r] _ => decide (op = o) && (chkE P G a l && (chkE P G b r && noset r))
    | _ => false
  | .chn o1 o2 a b c, e => match e with
    | .Compare l [p1, p2] [m, r] _ => decide (o1 = p1) && (decide (o2 = p2) && (chkE P G a l && (chkE P G b m && (chkE P G c r && (noset m && noset r)))))
    | _ => false
  | .bop op es, e => match e with
    | .BoolOp o xs _ => decide (op = o) && chkEs P G es xs
    | _ => false
  | .not a, e => match e with
    | .UnaryOp .Not x _ => chkE P G a x
    | _ => false
  | .ifx c a b, e => match e with
    | .IfExp t x y _ => chkE P G c t && (chkE P G a x && chkE P G b y)
    | _ => false
  | .tup es, e => match e with
    | .Tuple xs _ _ => chkEs P G es xs
    | _ => false
  | .lst es, e => match e with
    | .List xs _ => chkEs P G es xs
    | _ => false
  | .dic0, e => match e with
    | .Dict [] [] _ => true
    | _ => false
  | .dic1 k v, e => match e with
    | .Dict [some x] [y] _ => chkE P G k x && chkE P G v y
    | _ => false
  | .sub a i, e => match e with
    | .Subscript x y _ => chkE P G a x && (chkE P G i y && noslice y)
    | _ => false
  | .slc a lo hi, e => match e with
    | .Subscript x (.Slice l u none _) _ => chkE P G a x && (chkO P G lo l && chkO P G hi u)
    | _ => false
  | .call x f es, e => match e with
    | .Call (.Name y _) xs [] _ => decide (x = y) && (G.gl y && (P.isFn f y && chkEs P G es xs))
    | _ => false
  | .blt b es, e => match e with
    | .Call (.Name y _) xs [] _ => decide (b.nm = y) && (G.gl y && (P.free.contains y && (chkEs P G es xs && !xs.isEmpty)))
    | _ => false
  | .mth a m es, e => match e with
    | .Call (.Attribute o y ap) xs [] pos => decide (m.nm = y) && (chkE P G a o && (chkEs P G es xs && (nosup o && ((ap.endLine == pos.line) && decide (xs.length < 29)))))
    | _ => false
  | .fld a f, e => match e with
    | .Attribute o y _ => decide (f = y) && (chkE P G a o && nosup o)
    | _ => false
  | .mk x c es, e => match e with
    | .Call (.Name y _) xs [] _ => decide (x = y) && (G.gl y && (P.isCls c y && chkEs P G es xs))
    | _ => false
  | .umth a m es, e => match e with
    | .Call (.Attribute o y ap) xs [] pos => decide (m = y) && (chkE P G a o && (chkEs P G es xs && (nosup o && ((ap.endLine == pos.line) && decide (xs.length < 29)))))
    | _ => false
  | .lc a t it ifs own, e => match e with
    | .ListComp x [⟨tg, iter, cs, k⟩] scope _ => decide (k = 0) && (blkC G.N G.sc scope own && (chkI P G it tg iter && (noset iter &&
        (chkT P ⟨G.N, relS scope G.sc, some scope⟩ t tg && ((t.slots.all fun j => (own.map (·.2)).contains j) && (chkEs P ⟨G.N, relS scope G.sc, some scope⟩ ifs cs && (decide (cs.length ≤ 1) && chkE P ⟨G.N, relS scope G.sc, some scope⟩ a x)))))))
    | _ => false
def chkO (P : Prog) (G : Sc) : MOp → Option Expr → Bool
  | .none, e => match e with
    | none => true
    | _ => false
  | .some a, e => match e with
    | some x => chkE P G a x
    | _ => false
def chkEs (P : Prog) (G : Sc) : MEs → List Expr → Bool
  | .nil, xs => match xs with
    | [] => true
    | _ => false
  | .cons a as, xs => match xs with
    | x :: xs => nostar x && (chkE P G a x && chkEs P G as xs)
    | _ => false
def chkI (P : Prog) (G : Sc) : MI → Expr → Expr → Bool
  | .val a, _, e => chkE P G a e
  | .enm es, tg, e => match e with
    | .Call (.Name y _) xs [] _ => decide (y = ("enumerate" : Str)) && (G.gl y && (P.free.contains y && (chkEs P G es xs && (decide (xs.length = 1) && tupT tg))))
    | _ => false
  | .zip es, tg, e => match e with
    | .Call (.Name y _) xs [] _ => decide (y = ("zip" : Str)) && (G.gl y && (P.free.contains y && (chkEs P G es xs && (decide (xs.length = 2) && tupT tg))))
    | _ => false
  | .rng es, _, e => match e with
    | .Call (.Name y _) xs [] _ => decide (y = ("range" : Str)) && (G.gl y && (P.free.contains y && (chkEs P G es xs && (decide (1 ≤ xs.length) && decide (xs.length ≤ 2)))))
    | _ => false
def chkT (P : Prog) (G : Sc) : MT → Expr → Bool
  | .name i, e => match e with
    | .Name x _ => G.loc i x
    | _ => false
  | .tup ts, e => match e with
    | .Tuple xs _ _ => chkTs P G ts xs
    | _ => false
  | .sub a i, e => match e with
    | .Subscript x y _ => chkE P G a x && (chkE P G i y && noslice y)
    | _ => false
def chkTs (P : Prog) (G : Sc) : MTs → List Expr → Bool
  | .nil, xs => match xs with
    | [] => true
    | _ => false
  | .cons t ts, xs => match xs with
    | x :: xs => nostar x && (chkT P G t x && chkTs P G ts xs)
    | _ => false
end
def isTupE : Expr → Bool
  | .Tuple .. => true
  | .List .. => true
  | _ => false
/-- the look at the except clauses -/
def chkHd (P : Prog) (G : Sc) (d : Hd) (h : ExceptHandler) : Bool := match h with
  | .ExceptHandler (some (.Name x _)) nm [.Return (some e) _] _ => decide (d.name = x) && (G.gl x && (d.cls.ok P x && (chkX P G nm d.e e && (match nm, d.slot with
    | none, none => true
    | some n, some i => G.vis i n && decide (G.sc.names.lookup n = some .local)
    | _, _ => false))))
  | _ => false
def chkHds (P : Prog) (G : Sc) : List Hd → List ExceptHandler → Bool
  | [], hs => hs.isEmpty
  | d :: ds, hs => match hs with
    | h :: hs => chkHd P G d h && chkHds P G ds hs
    | [] => false
mutual
def chkS (P : Prog) (G : Sc) : MS → Stmt → Bool
  | .unk, _ => true
  | .raise x c a, s => match s with
    | .Raise (some (.Call (.Name y _) [e] [] _)) none _ => decide (x = y) && (G.gl x && ((match P.cls[c]? with
      | some K => decide (K.name = x) && (K.exc.bind id).isSome
      | none => false) && (chkE P G a e && nostar e)))
    | _ => false
  | .try_ b hs, s => match s with
    | .Try xs hds [] [] _ => chkSs P G b xs && (chkHds P G hs hds && !hds.isEmpty)
    | _ => false
  | .exp a, s => match s with
    | .Expr e _ => chkE P G a e && nocomp e
    | _ => false
  | .doc, s => match s with
    | .Expr (.Constant (.str _) _ _) _ => true
    | _ => false
  | .ret a, s => match s with
    | .Return (some e) _ => chkE P G a e
    | _ => false
  | .retN, s => match s with
    | .Return none _ => true
    | _ => false
  | .pass, s => match s with
    | .Pass _ => true
    | _ => false
  | .brk, s => match s with
    | .Break _ => true
    | _ => false
  | .cnt, s => match s with
    | .Continue _ => true
    | _ => false
  | .asg t a, s => match s with
    | .Assign [tg] e _ => chkT P G t tg && (chkE P G a e && (nostar tg && (notup tg || notup e)))
    | _ => false
  | .setf o f a, s => match s with
    | .Assign [.Attribute x y _] e _ => decide (f = y) && (chkE P G o x && (chkE P G a e && nocomp e))
    | _ => false
  | .aug i op a, s => match s with
    | .AugAssign (.Name x _) o e _ => decide (op = o) && (G.loc i x && chkE P G a e)
    | _ => false
  | .ifs c a b, s => match s with
    | .If t xs ys _ => chkE P G c t && (chkSs P G a xs && chkSs P G b ys)
    | _ => false
  | .whl c b, s => match s with
    | .While t xs [] _ => chkE P G c t && chkSs P G b xs
    | _ => false
  | .for_ t it b, s => match s with
    | .For tg iter xs [] _ => chkT P G t tg && (chkI P G it tg iter && (noset iter && chkSs P G b xs))
    | _ => false
def chkSs (P : Prog) (G : Sc) : MSs → List Stmt → Bool
  | .nil, ss => match ss with
    | [] => true
    | _ => false
  | .cons a as, ss => match ss with
    | s :: ss => chkS P G a s && chkSs P G as ss
    | _ => false
end

/-! ### where the text runs -/
structure Lk where
  P : Program
  w : World
  K : PySem.W.Frag
  mg : Str → Option Value
  base : Heap
  ca : Nat → Addr
  fa : Nat → Addr
  fd : Nat → FuncData
abbrev Lk.dm (L : Lk) : Dm := ⟨L.P, L.w, L.K, L.ca⟩
/-- what a call promises -/
def spM (L : Lk) (P : Prog) (n f : Nat) : Sp := fun vs H Q E => ∃ φ h args, Rep L.dm φ h H ∧ VRs L.dm φ H args vs ∧ Fin L.dm (fun c d _ H' => E c d H') (VR L.dm) [] φ H Q (callM P n f args h)
def GlbOk (L : Lk) (x : Str) (v : MV) : Prop := (∃ t, v = .ty t ∧ L.mg x = none ∧ bootBuiltins x = some (.type t.nm)) ∨ ∃ u y, L.mg x = some u ∧ RelV y u ∧ ∀ (D : Dm) φ H, D.ca = L.ca → D.K = L.K → VR D φ H v y
/-- what a class of the text holds: its instances' attributes, methods and properties, its __init__, constants, classmethods -/
structure MemK (L : Lk) (K' : Mi.Cls) (C : Addr) : Prop where
  att : ∀ f ∈ K'.atts, NoAttr L.K C f
  mth : ∀ m ∈ K'.mems, m.prop = false → Meth L.K C m.name (L.fa m.fn)
  prp : ∀ m ∈ K'.mems, m.prop = true → ∃ p, PropOf L.K C m.name p (L.fa m.fn)
  mkr : ∀ f, K'.init = some f → Mk L.K C (L.fa f)
  con : ∀ f v, K'.cons.lookup f = some v → ∃ y, (∀ D φ H, VR D φ H v y) ∧ (∃ u, L2.Con L.K C f y u) ∧ ∃ mc u, ClX.CRead L.K C mc ∧ ClX.CVal L.K C mc f y u
  cmt : ∀ f g, K'.cmts.lookup f = some g → ∃ mc p, ClX.CRead L.K C mc ∧ ClX.CMet L.K C mc f p (L.fa g)
/-- what an exception class of the text holds -/
structure ExK (L : Lk) (P : Prog) (c : Nat) (K' : Mi.Cls) : Prop where
  xf : XfC L.K (L.ca c)
  kit : ∀ x ox od, PySem.W.KitX L.K (.ref x) (.ref (L.ca c)) (fun h => PySem.W.InstAt h x ox (L.ca c) od)
  exm : ∀ j Kj, P.cls[j]? = some Kj → Kj.exc.isSome = true → PySem.W.exmOne L.K (.ref (L.ca c)) (.ref (L.ca j)) = some (c == j || K'.ups.contains j)
  exv : PySem.W.exmOne L.K (.ref (L.ca c)) (.type "ValueError") = some true
  kto : ∀ j Kj, P.cls[j]? = some Kj → Kj.exc.isSome = true → PySem.W.kitOne L.K (.ref (L.ca c)) (.ref (L.ca j)) = some (c == j || K'.ups.contains j)
  ktv : PySem.W.kitOne L.K (.ref (L.ca c)) (.type "ValueError") = some true
  mkx : ∀ f, K'.exc = some (some f) → ∃ fI fd par, PySem.W.findIn L.K (.ref (L.ca c)) "__init__" = some (some (.ref fI)) ∧ PySem.W.typeIn L.K (.ref fI) = some (.type "function") ∧ SupK L.P L.K (L.ca c) fI f par fd ∧ Binds L.K fd ["self", par] []
  att : ∀ f, K'.exc = some (some f) → PySem.W.findIn L.K (.ref (L.ca c)) f = some none
structure LkOk (L : Lk) (P : Prog) (n : Nat) : Prop where
  glb : ∀ p ∈ P.glb, GlbOk L p.1 p.2
  free : ∀ x ∈ P.free, L.mg x = none
  fn : ∀ f F, P.fns[f]? = some F → FnR L.P L.w L.K L.mg L.base (L2.CX L.P L.w) (2 * n + 1) (L.fa f) (spM L P n f) ∧ PySem.W.keepIn L.K (.ref (L.fa f)) = true ∧ (∀ x, F.at_ = .glo x → L.mg x = some (.ref (L.fa f)))
  kit : ∀ (t : Ty) j, j < P.cls.length → PySem.W.kitOne L.K (.type t.nm) (.ref (L.ca j)) = some false
  cls : ClsK L.K L.ca P.cls
  mem : ∀ k K', P.cls[k]? = some K' → K'.exc = none → MemK L K' (L.ca k)
  at_ : ∀ k K', P.cls[k]? = some K' → L.mg K'.name = some (.ref (L.ca k))
  exc : ∀ k K', P.cls[k]? = some K' → K'.exc.isSome = true → ExK L P k K'
structure XOk (L : Lk) (P : Prog) (G : Sc) (n : Nat) (X : Cx) : Prop where
  prog : X.prog = L.P
  w : X.w = L.w
  K : X.K = L.K
  mg : X.mg = L.mg
  base : X.base = L.base
  N : X.N = G.N
  nd : X.N.Nodup
  sc : X.env.scope = G.sc
  room : Room (2 * n + 2) X.A
  calm : X.calm = true
  fn : ∀ x, X.fn x = (match G.blk with
    | none => true
    | some b => b.names.lookup x == some .cell)
  ok : LkOk L P n
section
variable {L : Lk} {P : Prog} {G : Sc} {n : Nat} {X : Cx}
theorem XOk.dm (k : XOk L P G n X) : dm X L.ca = L.dm := by
  unfold Mi.dm Lk.dm
  rw [k.prog, k.w, k.K]
theorem XOk.vis (k : XOk L P G n X) {i : Nat} {x : Str} (h : G.vis i x = true) : X.N[i]? = some x ∧ Vis X.env.scope x ∧ (x == ("__debug__" : Str)) = false ∧ (x == ("__classdict__" : Str)) = false := by
  unfold Sc.vis at h
  simp only [Bool.and_eq_true, decide_eq_true_eq, Bool.not_eq_true'] at h
  obtain ⟨h1, h2, h3, h4⟩ := h
  refine ⟨by rw [k.N]; exact h1, ?_, h3, h4⟩
  rw [k.sc]
  split at h2
  · rename_i e; exact .inl e
  · rename_i e; exact .inr (.inl e)
  · rename_i e; exact .inr (.inr e)
  · cases h2
theorem XOk.loc (k : XOk L P G n X) {i : Nat} {x : Str} (h : G.loc i x = true) : X.N[i]? = some x ∧ L2.Loc X.env.scope x ∧ (X.fn x = true ∨ X.env.scope.names.lookup x = some .local) := by
  unfold Sc.loc at h
  simp only [Bool.and_eq_true, decide_eq_true_eq] at h
  obtain ⟨h1, h2⟩ := h
  refine ⟨by rw [k.N]; exact h1, ?_⟩
  unfold L2.Loc
  rw [k.sc, k.fn]
  split at h2
  · rename_i e; exact ⟨.inl e, .inr e⟩
  · rename_i e; exact ⟨.inr e, .inl h2⟩
  · cases h2
theorem XOk.gl (k : XOk L P G n X) {x : Str} (h : G.gl x = true) : Gl X x ∧ (x == ("__debug__" : Str)) = false ∧ x ≠ "__name__" := by
  unfold Sc.gl at h
  simp only [Bool.and_eq_true, decide_eq_true_eq, Bool.not_eq_true'] at h
  obtain ⟨h1, h2, h3⟩ := h
  refine ⟨?_, h2, fun e => by rw [e] at h3; simp at h3⟩
  show X.env.scope.names.lookup x = _
  rw [k.sc]
  exact h1
end
end Mi

set_option Elab.async false
set_option linter.all false
set_option maxRecDepth 100000
set_option maxHeartbeats 2000000
/-! Snd6: each kind of expression, from its parts. -/
namespace Mi
open PySem PySem.Spec PyProof.Rows L2

def SE (L : Lk) (P : Prog) (G : Sc) (n : Nat) (ex : Expr) (m : Env → MH → Out MV) : Prop := ∀ (X : Cx) (W : WX), XOk L P G n X → Takes X W → PE X ex (tE (dm X L.ca) W m)
def ST (L : Lk) (P : Prog) (G : Sc) (n : Nat) (ex : Expr) (m : Env → MH → Out Bool) : Prop := ∀ (X : Cx) (W : WX), XOk L P G n X → Takes X W → PT X ex (tT (dm X L.ca) W m)
def SA (L : Lk) (P : Prog) (G : Sc) (n : Nat) (es : List Expr) (m : Env → MH → Out (List MV)) : Prop := ∀ (X : Cx) (W : WX), XOk L P G n X → Takes X W → PA X es (tA (dm X L.ca) W m)
def SO (L : Lk) (P : Prog) (G : Sc) (n : Nat) (e : Option Expr) (m : Env → MH → Out (Option Int)) : Prop := ∀ (X : Cx) (W : WX), XOk L P G n X → Takes X W → PO X e (tO (dm X L.ca) W m)
def SI (L : Lk) (P : Prog) (G : Sc) (n : Nat) (tg e : Expr) (m : Env → MH → Out Mi.It) : Prop := ∀ (X : Cx) (W : WX), XOk L P G n X → Takes X W → PI X tg e (tI (dm X L.ca) W m)
def testM (m : Env → MH → Out MV) : Env → MH → Out Bool := fun ρ h => (m ρ h).bind fun v h1 => .of h1 (truth h1 v)

section
variable {L : Lk} {P : Prog} {G : Sc} {n : Nat} {ex l r : Expr} {pos : Pos} {m ma mb mc : Env → MH → Out MV}
theorem se_var {i : Nat} {x : Str} (hv : G.vis i x = true) : SE L P G n (.Name x pos) (fun ρ h => .of h (slotO ρ i)) := fun X W k tk => ⟨fun pins s σ H Q I ⟨φ, h0, ρ, rp, er, f⟩ => by
  obtain ⟨h1, h2, h3, h4⟩ := k.vis hv
  cases e : slotO ρ i with
  | none =>
    have f : Fin (dm X L.ca) W (VR (dm X L.ca)) σ φ H Q (.of h0 (slotO ρ i)) := f
    rw [e] at f; exact f.elim
  | some v =>
    have f : Fin (dm X L.ca) W (VR (dm X L.ca)) σ φ H Q (.of h0 (slotO ρ i)) := f
    rw [e] at f
    have e' : ρ[i]? = some (some v) := by
      unfold slotO at e
      split at e
      · rename_i q; cases e; exact q
      · cases e
    obtain ⟨y, hy, w⟩ := er.at_ i v e'
    exact (pe_var h1 h2 h3 h4).run pins s σ H Q I ⟨y, hy, f.ok0 rp w⟩⟩
theorem se_cst {c : Const} {j : Nat} {v : MV} (hp : ∀ X, ∃ y, PE X (.Constant c j pos) (tC y) ∧ ∀ D φ H, VR D φ H v y) : SE L P G n (.Constant c j pos) (fun _ h => .ok v h) := fun X W k tk => ⟨fun pins s σ H Q I ⟨φ, h0, ρ, rp, er, f⟩ => by
  obtain ⟨y, h1, h2⟩ := hp X
  exact h1.run pins s σ H Q I (f.ok0 rp (h2 _ _ _))⟩
theorem se_glb {x : Str} {v : MV} (hg : G.gl x = true) (hv : P.isGlb x v = true) : SE L P G n (.Name x pos) (fun _ h => .ok v h) := fun X W k tk => ⟨fun pins s σ H Q I ⟨φ, h0, ρ, rp, er, f⟩ => by
  obtain ⟨h1, h2, h3⟩ := k.gl hg
  obtain ⟨p, hp, e⟩ := List.any_eq_true.mp hv
  obtain ⟨e1, e2⟩ := Bool.and_eq_true_iff.mp e
  have e1 : p.1 = x := of_decide_eq_true e1
  have e2 : p.2 = v := MV.eq_of e2
  have g := k.ok.glb p hp
  rw [e1, e2] at g
  rcases g with ⟨t, rfl, g1, g2⟩ | ⟨u, y, g1, g2, g3⟩
  · exact (pe_bltn (v := .ty t.nm) h1 (by rw [k.mg]; exact g1) g2 rfl h3 h2).run pins s σ H Q I (f.ok0 rp (.ty t))
  · exact (pe_glob h1 (by rw [k.mg]; exact g1) g2 h2).run pins s σ H Q I (f.ok0 rp (g3 _ _ _ rfl k.K))⟩
theorem se_bin {op : Operator} (ha : SE L P G n l ma) (hb : SE L P G n r mb) : SE L P G n (.BinOp l op r pos) (fun ρ h => (ma ρ h).bind fun v h1 => (mb ρ h1).bind fun w h2 => binM op v w h2) := fun X W k tk => ⟨fun pins s σ H Q I ⟨φ, h0, ρ, rp, er, f⟩ => by
  refine wpAny_BinOp (thn ((ha X W k tk).run pins s σ H _ I ⟨φ, h0, ρ, rp, er, f.bind⟩) fun v s1 ⟨x, H1, I1, r1, φ1, h1, a, p1, rp1, w1, f1⟩ => ?_)
  refine thn ((hb X W k tk).run pins s1 σ H1 _ I1 ⟨φ1, h1, ρ, rp1, er.ext p1, f1.bind⟩) fun u s2 ⟨y, H2, I2, r2, φ2, h2, b, p2, rp2, w2, f2⟩ => ?_
  exact bin_ok I2 r1 r2 rp2 (w1.ext p2) w2 f2⟩
theorem se_neg (ha : SE L P G n l ma) : SE L P G n (.UnaryOp .USub l pos) (fun ρ h => (ma ρ h).bind fun v h1 => match v with
    | .int i => .ok (.int (-i)) h1
    | _ => .bad) := fun X W k tk => ⟨fun pins s σ H Q I ⟨φ, h0, ρ, rp, er, f⟩ => by
  refine UnaryOp_ (thn ((ha X W k tk).run pins s σ H _ I ⟨φ, h0, ρ, rp, er, f.bind⟩) fun v s1 ⟨x, H1, I1, r1, φ1, h1, a, p1, rp1, w1, f1⟩ => ?_)
  cases w1 with
  | int i => exact un_neg pins s1 σ H1 _ v Q I1 r1 ⟨i, rfl, f1.ok0 rp1 (.int _)⟩
  | _ => exact f1.elim⟩
theorem mark_of {op : CmpOp} {r : Expr} (h : noset r = true) : behindInMarks op r = false := by
  cases r <;> first | rfl | cases h
theorem of_fin {X : Cx} {W : WX} {α β : Type} {R : List Addr → Hp → α → β → Prop} {D : Dm} {σ : St} {φ : List Addr} {h : MH} {H : Hp} {Q : β → Hp → Prop} {o : Option α} (f : Fin D W R σ φ H Q (Out.of h o)) : ∃ v, o = some v ∧ Fin D W R σ φ H Q (.ok v h) := by
  cases o with
  | none => exact f.elim
  | some v => exact ⟨v, rfl, f⟩
theorem se_cmp {op : CmpOp} (hs : noset r = true) (ha : SE L P G n l ma) (hb : SE L P G n r mb) : SE L P G n (.Compare l [op] [r] pos) (fun ρ h => (ma ρ h).bind fun v h1 => (mb ρ h1).bind fun w h2 => .of h2 ((cmpM op v w h2).map .bl)) := fun X W k tk => ⟨fun pins s σ H Q I ⟨φ, h0, ρ, rp, er, f⟩ => by
  refine wpAny_Compare1 (thn ((ha X W k tk).run pins s σ H _ I ⟨φ, h0, ρ, rp, er, f.bind⟩) fun v s1 ⟨x, H1, I1, r1, φ1, h1, a, p1, rp1, w1, f1⟩ => ?_) (mark_of hs)
  refine thn ((hb X W k tk).run pins s1 σ H1 _ I1 ⟨φ1, h1, ρ, rp1, er.ext p1, f1.bind⟩) fun u s2 ⟨y, H2, I2, r2, φ2, h2, b, p2, rp2, w2, f2⟩ => ?_
  obtain ⟨z, e, f3⟩ := of_fin (X := X) f2
  obtain ⟨c, e1, rfl⟩ := Option.map_eq_some_iff.mp e
  exact cmp_ok k.room I2 r1 r2 rp2 (w1.ext p2) w2 e1 (f3.ok0 rp2 (.bl _))⟩
theorem st_cmp {op : CmpOp} (hs : noset r = true) (ha : SE L P G n l ma) (hb : SE L P G n r mb) : ST L P G n (.Compare l [op] [r] pos) (testM fun ρ h => (ma ρ h).bind fun v h1 => (mb ρ h1).bind fun w h2 => .of h2 ((cmpM op v w h2).map .bl)) := fun X W k tk => ⟨fun pins s σ H Q I ⟨φ, h0, ρ, rp, er, f⟩ => by
  have f := Fin.bind (S := VR (dm X L.ca)) (show Fin (dm X L.ca) W _ σ φ H Q (Out.bind (Out.bind _ _) _) from f)
  refine wpAny_isTrue_Compare1 (thn ((ha X W k tk).run pins s σ H _ I ⟨φ, h0, ρ, rp, er, f.bind⟩) fun v s1 ⟨x, H1, I1, r1, φ1, h1, a, p1, rp1, w1, f1⟩ => ?_) (mark_of hs)
  refine thn ((hb X W k tk).run pins s1 σ H1 _ I1 ⟨φ1, h1, ρ, rp1, er.ext p1, f1.bind⟩) fun u s2 ⟨y, H2, I2, r2, φ2, h2, b, p2, rp2, w2, f2⟩ => ?_
  obtain ⟨z, e, f3⟩ := of_fin (X := X) f2
  obtain ⟨c, e1, rfl⟩ := Option.map_eq_some_iff.mp e
  obtain ⟨φ3, h3, a3, p3, rp3, w3, f4⟩ := f3.ok0 rp2 (.bl c)
  cases w3
  refine thn (cmp_ok (Q := fun z H' => z = .bl c ∧ H' = H2) k.room I2 r1 r2 rp2 (w1.ext p2) w2 e1 ⟨rfl, rfl⟩) fun cv s3 ⟨z, H3, I3, r3, ez, eH⟩ => ?_
  subst ez eH
  obtain rfl : cv = Value.bool c := r3
  exact wpAny_truthy_bool ⟨_, I3, f4.ok0 rp3 rfl⟩⟩
/-- a test that is a value's truth -/
theorem st_plain (he : ∀ env whole, isTrue ex env whole = (do let v ← whole; standAt ex.pos; holding [v] (truthy v))) (ha : SE L P G n ex m) : ST L P G n ex (testM m) := fun X W k tk => ⟨fun pins s σ H Q I ⟨φ, h0, ρ, rp, er, f⟩ => by
  have f := Fin.bind (S := VR (dm X L.ca)) (show Fin (dm X L.ca) W _ σ φ H Q (Out.bind _ _) from f)
  refine isTrue_plain (thn ((ha X W k tk).run pins s σ H _ I ⟨φ, h0, ρ, rp, er, f⟩) fun v s1 ⟨x, H1, I1, r1, φ1, h1, a, p1, rp1, w1, f1⟩ => ?_) (he _ _)
  obtain ⟨c, e, f3⟩ := of_fin (X := X) f1
  exact truth_ok I1 r1 rp1 w1 e (f3.ok0 rp1 rfl)⟩
theorem se_not (ha : SE L P G n l ma) : SE L P G n (.UnaryOp .Not l pos) (fun ρ h => (ma ρ h).bind fun v h1 => .of h1 ((truth h1 v).map fun b => .bl (!b))) := fun X W k tk => ⟨fun pins s σ H Q I ⟨φ, h0, ρ, rp, er, f⟩ => by
  refine UnaryOp_ (thn ((ha X W k tk).run pins s σ H _ I ⟨φ, h0, ρ, rp, er, f.bind⟩) fun v s1 ⟨x, H1, I1, r1, φ1, h1, a, p1, rp1, w1, f1⟩ => ?_)
  obtain ⟨z, e, f3⟩ := of_fin (X := X) f1
  obtain ⟨c, e1, rfl⟩ := Option.map_eq_some_iff.mp e
  exact not_of (thn (truth_ok (Q := fun c H2 => Q (.bl (!c)) H2) I1 r1 rp1 w1 e1 (f3.ok0 rp1 (.bl _))) fun c s2 ⟨H2, I2, q2⟩ => ⟨.bl (!c), H2, I2, rfl, q2⟩)⟩
theorem Out.bind_bind {α β γ : Type} (o : Out α) (f : α → MH → Out β) (g : β → MH → Out γ) : (o.bind f).bind g = o.bind fun a h => (f a h).bind g := by
  cases o <;> rfl
theorem st_not (ha : ST L P G n l (testM ma)) : ST L P G n (.UnaryOp .Not l pos) (testM fun ρ h => (ma ρ h).bind fun v h1 => .of h1 ((truth h1 v).map fun b => .bl (!b))) := fun X W k tk => ⟨fun pins s σ H Q I ⟨φ, h0, ρ, rp, er, f⟩ => by
  have e : (testM fun ρ h => (ma ρ h).bind fun v h1 => .of h1 ((truth h1 v).map fun b => .bl (!b))) ρ h0 = (testM ma ρ h0).bind fun b h1 => .ok (!b) h1 := by
    unfold testM
    dsimp only
    rw [Out.bind_bind, Out.bind_bind]
    congr 1
    funext v h1
    cases truth h1 v <;> rfl
  have f : Fin (dm X L.ca) W _ σ φ H Q ((testM fun ρ h => (ma ρ h).bind fun v h1 => .of h1 ((truth h1 v).map fun b => .bl (!b))) ρ h0) := f
  rw [e] at f
  refine isTrue_not (thn ((ha X W k tk).run pins s σ H _ I ⟨φ, h0, ρ, rp, er, f.bind⟩) fun c s1 ⟨H1, I1, φ1, h1, a, p1, rp1, w1, f1⟩ => ?_)
  have w1 : a = c := w1
  subst w1
  exact ⟨H1, I1, f1.ok0 rp1 rfl⟩⟩
theorem se_ifx {t a b : Expr} (hc : ST L P G n t (testM mc)) (ha : SE L P G n a ma) (hb : SE L P G n b mb) : SE L P G n (.IfExp t a b pos) (fun ρ h => (mc ρ h).bind fun v h1 => match truth h1 v with
    | some true => ma ρ h1
    | some false => mb ρ h1
    | none => .bad) := fun X W k tk => ⟨fun pins s σ H Q I ⟨φ, h0, ρ, rp, er, f⟩ => by
  have e : ((mc ρ h0).bind fun v h1 => match truth h1 v with
    | some true => ma ρ h1
    | some false => mb ρ h1
    | none => .bad) = (testM mc ρ h0).bind fun c h1 => if c then ma ρ h1 else mb ρ h1 := by
    unfold testM
    rw [Out.bind_bind]
    congr 1
    funext v h1
    cases truth h1 v with
    | none => rfl
    | some c => cases c <;> rfl
  have f : Fin (dm X L.ca) W _ σ φ H Q ((mc ρ h0).bind fun v h1 => match truth h1 v with
    | some true => ma ρ h1
    | some false => mb ρ h1
    | none => .bad) := f
  rw [e] at f
  refine wpAny_IfExp (thn ((hc X W k tk).run pins s σ H _ I ⟨φ, h0, ρ, rp, er, f.bind⟩) fun c s1 ⟨H1, I1, φ1, h1, a, p1, rp1, w1, f1⟩ => ?_)
  have w1 : a = c := w1
  subst w1
  cases a with
  | true => exact (ha X W k tk).run pins s1 σ H1 Q I1 ⟨φ1, h1, ρ, rp1, er.ext p1, f1⟩
  | false => exact (hb X W k tk).run pins s1 σ H1 Q I1 ⟨φ1, h1, ρ, rp1, er.ext p1, f1⟩⟩
theorem st_ifx {t a b : Expr} (hc : ST L P G n t (testM mc)) (ha : ST L P G n a (testM ma)) (hb : ST L P G n b (testM mb)) : ST L P G n (.IfExp t a b pos) (testM fun ρ h => (mc ρ h).bind fun v h1 => match truth h1 v with
    | some true => ma ρ h1
    | some false => mb ρ h1
    | none => .bad) := fun X W k tk => ⟨fun pins s σ H Q I ⟨φ, h0, ρ, rp, er, f⟩ => by
  have e : (testM (fun ρ h => (mc ρ h).bind fun v h1 => match truth h1 v with
    | some true => ma ρ h1
    | some false => mb ρ h1
    | none => .bad)) ρ h0 = (testM mc ρ h0).bind fun c h1 => if c then testM ma ρ h1 else testM mb ρ h1 := by
    unfold testM
    dsimp only
    rw [Out.bind_bind, Out.bind_bind]
    congr 1
    funext v h1
    cases truth h1 v with
    | none => rfl
    | some c => cases c <;> rfl
  have f : Fin (dm X L.ca) W _ σ φ H Q ((testM (fun ρ h => (mc ρ h).bind fun v h1 => match truth h1 v with
    | some true => ma ρ h1
    | some false => mb ρ h1
    | none => .bad)) ρ h0) := f
  rw [e] at f
  refine isTrue_IfExp (thn ((hc X W k tk).run pins s σ H _ I ⟨φ, h0, ρ, rp, er, f.bind⟩) fun c s1 ⟨H1, I1, φ1, h1, a, p1, rp1, w1, f1⟩ => ?_)
  have w1 : a = c := w1
  subst w1
  cases a with
  | true => exact (ha X W k tk).run pins s1 σ H1 Q I1 ⟨φ1, h1, ρ, rp1, er.ext p1, f1⟩
  | false => exact (hb X W k tk).run pins s1 σ H1 Q I1 ⟨φ1, h1, ρ, rp1, er.ext p1, f1⟩⟩
end
end Mi

set_option Elab.async false
set_option linter.all false
set_option maxRecDepth 100000
set_option maxHeartbeats 2000000
/-! Snd7: chains, and and or, displays, places, slices, calls, methods. -/
namespace Mi
open PySem PySem.Spec PyProof.Rows L2
section
variable {L : Lk} {P : Prog} {G : Sc} {n : Nat} {ex l r : Expr} {pos : Pos} {m ma mb mc : Env → MH → Out MV}
def chnM (o1 o2 : CmpOp) (ma mb mc : Env → MH → Out MV) : Env → MH → Out MV := fun ρ h => (ma ρ h).bind fun v h1 => (mb ρ h1).bind fun w h2 => match cmpM o1 v w h2 with
    | some true => (mc ρ h2).bind fun z h3 => .of h3 ((cmpM o2 w z h3).map .bl)
    | some false => .ok (.bl false) h2
    | none => .bad
theorem se_chn {o1 o2 : CmpOp} {c : Expr} (h1 : noset r = true) (h2 : noset c = true) (ha : SE L P G n l ma) (hb : SE L P G n r mb) (hc : SE L P G n c mc) : SE L P G n (.Compare l [o1, o2] [r, c] pos) (chnM o1 o2 ma mb mc) := fun X W k tk => ⟨fun pins s σ H Q I ⟨φ, h0, ρ, rp, er, f⟩ => by
  have f : Fin (dm X L.ca) W (VR (dm X L.ca)) σ φ H Q (Out.bind _ _) := f
  refine Compare_chain (thn ((ha X W k tk).run pins s σ H _ I ⟨φ, h0, ρ, rp, er, f.bind⟩) fun v s1 ⟨x, H1, I1, r1, φ1, h1, a, p1, rp1, w1, f1⟩ => chain_link (thn ((hb X W k tk).run pins s1 σ H1 _ I1 ⟨φ1, h1, ρ, rp1, er.ext p1, f1.bind⟩) fun u s2 ⟨y, H2, I2, r2, φ2, h2, b, p2, rp2, w2, f2⟩ => ?_)) (mark_of h2)
  dsimp only at f2
  cases e : cmpM o1 a b h2 with
  | none => rw [e] at f2; exact f2.elim
  | some d =>
    rw [e] at f2
    refine thn (cmp_ok (Q := fun z H' => z = .bl d ∧ H' = H2) k.room I2 r1 r2 rp2 (w1.ext p2) w2 e ⟨rfl, rfl⟩) fun cv s3 ⟨z, H3, I3, r3, ez, eH⟩ => ?_
    subst ez eH
    obtain rfl : cv = Value.bool d := r3
    refine wpAny_truthy_bool ?_
    cases d with
    | false => exact ite_ff ⟨.bl false, _, I3, rfl, f2.ok0 rp2 (.bl _)⟩
    | true =>
      refine ite_tt (chain_last (thn ((hc X W k tk).run pins s3 σ _ _ I3 ⟨φ2, h2, ρ, rp2, (er.ext p1).ext p2, Fin.bind f2⟩) fun w' s4 ⟨z', H4, I4, r4, φ3, h3, c', p3, rp3, w3, f3⟩ => ?_))
      obtain ⟨z, e, f4⟩ := of_fin (X := X) f3
      obtain ⟨c, e1, rfl⟩ := Option.map_eq_some_iff.mp e
      exact cmp_ok k.room I4 r2 r4 rp3 (w2.ext p3) w3 e1 (f4.ok0 rp3 (.bl _))⟩
theorem st_chn {o1 o2 : CmpOp} {c : Expr} (h1 : noset r = true) (h2 : noset c = true) (ha : SE L P G n l ma) (hb : SE L P G n r mb) (hc : SE L P G n c mc) : ST L P G n (.Compare l [o1, o2] [r, c] pos) (testM (chnM o1 o2 ma mb mc)) := fun X W k tk => ⟨fun pins s σ H Q I ⟨φ, h0, ρ, rp, er, f⟩ => by
  have f := Fin.bind (S := VR (dm X L.ca)) (show Fin (dm X L.ca) W _ σ φ H Q (Out.bind (Out.bind _ _) _) from f)
  refine isTrue_chain (thn ((ha X W k tk).run pins s σ H _ I ⟨φ, h0, ρ, rp, er, f.bind⟩) fun v s1 ⟨x, H1, I1, r1, φ1, h1, a, p1, rp1, w1, f1⟩ => test_link (thn ((hb X W k tk).run pins s1 σ H1 _ I1 ⟨φ1, h1, ρ, rp1, er.ext p1, f1.bind⟩) fun u s2 ⟨y, H2, I2, r2, φ2, h2, b, p2, rp2, w2, f2⟩ => ?_)) (mark_of h2)
  dsimp only at f2
  cases e : cmpM o1 a b h2 with
  | none => rw [e] at f2; exact f2.elim
  | some d =>
    rw [e] at f2
    refine thn (cmp_ok (Q := fun z H' => z = .bl d ∧ H' = H2) k.room I2 r1 r2 rp2 (w1.ext p2) w2 e ⟨rfl, rfl⟩) fun cv s3 ⟨z, H3, I3, r3, ez, eH⟩ => ?_
    subst ez eH
    obtain rfl : cv = Value.bool d := r3
    refine wpAny_truthy_bool ?_
    cases d with
    | false =>
      obtain ⟨φ3, h3, a3, p3, rp3, w3, f4⟩ := f2.ok0 rp2 (.bl false)
      cases w3
      exact ite_ff ⟨_, I3, f4.ok0 rp3 rfl⟩
    | true =>
      refine ite_tt (test_last (thn ((hc X W k tk).run pins s3 σ _ _ I3 ⟨φ2, h2, ρ, rp2, (er.ext p1).ext p2, Fin.bind f2⟩) fun w' s4 ⟨z', H4, I4, r4, φ3, h3, c', p3, rp3, w3, f3⟩ => ?_))
      obtain ⟨z, e, f4⟩ := of_fin (X := X) f3
      obtain ⟨c, e1, rfl⟩ := Option.map_eq_some_iff.mp e
      obtain ⟨φ5, h5, a5, p5, rp5, w5, f5⟩ := f4.ok0 rp3 (.bl c)
      cases w5
      refine thn (cmp_ok (Q := fun z H' => z = .bl c ∧ H' = H4) k.room I4 r2 r4 rp3 (w2.ext p3) w3 e1 ⟨rfl, rfl⟩) fun cv s3 ⟨z, H3, I3, r3, ez, eH⟩ => ?_
      subst ez eH
      obtain rfl : cv = Value.bool c := r3
      exact wpAny_truthy_bool ⟨_, I3, f5.ok0 rp5 rfl⟩⟩

/-! ### and, or -/
def bopM (op : BoolOp) (ma mb : Env → MH → Out MV) : Env → MH → Out MV := fun ρ h => (ma ρ h).bind fun v h1 => match op, truth h1 v with
    | _, none => .bad
    | .And, some false => .ok v h1
    | .Or, some true => .ok v h1
    | _, _ => mb ρ h1
theorem se_b1 {op : BoolOp} (ha : SE L P G n l ma) : SE L P G n (.BoolOp op [l] pos) ma := fun X W k tk => ⟨fun pins s σ H Q I h => BoolOp_one ((ha X W k tk).run pins s σ H Q I h)⟩
theorem se_bop {op : BoolOp} {b : Expr} {rest : List Expr} (ha : SE L P G n l ma) (hb : SE L P G n (.BoolOp op (b :: rest) pos) mb) : SE L P G n (.BoolOp op (l :: b :: rest) pos) (bopM op ma mb) := fun X W k tk => ⟨fun pins s σ H Q I ⟨φ, h0, ρ, rp, er, f⟩ => by
  have f : Fin (dm X L.ca) W (VR (dm X L.ca)) σ φ H Q (Out.bind _ _) := f
  cases op with
  | And =>
    refine BoolOp_and (thn ((ha X W k tk).run pins s σ H _ I ⟨φ, h0, ρ, rp, er, f.bind⟩) fun v s1 ⟨x, H1, I1, r1, φ1, h1, a, p1, rp1, w1, f1⟩ => ?_)
    dsimp only at f1
    cases e : truth h1 a with
    | none => rw [e] at f1; exact f1.elim
    | some c =>
      rw [e] at f1
      refine thn (truth_ok (Q := fun c' H2 => c' = c ∧ H2 = H1) I1 r1 rp1 w1 e ⟨rfl, rfl⟩) fun c' s2 ⟨H2, I2, e1, e2⟩ => ?_
      subst e1 e2
      cases c' with
      | true => exact (hb X W k tk).run pins s2 σ _ Q I2 ⟨φ1, h1, ρ, rp1, er.ext p1, f1⟩
      | false => exact ⟨x, _, I2, r1, f1.ok0 rp1 w1⟩
  | Or =>
    refine BoolOp_or (thn ((ha X W k tk).run pins s σ H _ I ⟨φ, h0, ρ, rp, er, f.bind⟩) fun v s1 ⟨x, H1, I1, r1, φ1, h1, a, p1, rp1, w1, f1⟩ => ?_)
    dsimp only at f1
    cases e : truth h1 a with
    | none => rw [e] at f1; exact f1.elim
    | some c =>
      rw [e] at f1
      refine thn (truth_ok (Q := fun c' H2 => c' = c ∧ H2 = H1) I1 r1 rp1 w1 e ⟨rfl, rfl⟩) fun c' s2 ⟨H2, I2, e1, e2⟩ => ?_
      subst e1 e2
      cases c' with
      | true => exact ⟨x, _, I2, r1, f1.ok0 rp1 w1⟩
      | false => exact (hb X W k tk).run pins s2 σ _ Q I2 ⟨φ1, h1, ρ, rp1, er.ext p1, f1⟩⟩
def SW (L : Lk) (P : Prog) (G : Sc) (n : Nat) (ex : Expr) (m : Env → MH → Out Bool) : Prop := ∀ (X : Cx) (W : WX), XOk L P G n X → Takes X W → PW X ex (tT (dm X L.ca) W m)
theorem sw_b1 {op : BoolOp} (ha : ST L P G n l (testM ma)) : SW L P G n (.BoolOp op [l] pos) (testM ma) := fun X W k tk => by
  cases op with
  | And => exact pw_and1 (ha X W k tk)
  | Or => exact pw_or1 (ha X W k tk)
theorem sw_bop {op : BoolOp} {b : Expr} {rest : List Expr} (ha : ST L P G n l (testM ma)) (hb : SW L P G n (.BoolOp op (b :: rest) pos) (testM mb)) : SW L P G n (.BoolOp op (l :: b :: rest) pos) (testM (bopM op ma mb)) := fun X W k tk => ⟨fun wh pins s σ H Q I ⟨φ, h0, ρ, rp, er, f⟩ => by
  have e : testM (bopM op ma mb) ρ h0 = (testM ma ρ h0).bind fun c h1 => match op, c with
    | .And, false => .ok false h1
    | .Or, true => .ok true h1
    | _, _ => testM mb ρ h1 := by
    unfold testM bopM
    rw [Out.bind_bind, Out.bind_bind]
    congr 1
    funext v h1
    cases q : truth h1 v with
    | none => cases op <;> rfl
    | some c => cases op <;> cases c <;> first | rfl | (show Out.of h1 (truth h1 v) = _; rw [q]; rfl)
  have f : Fin (dm X L.ca) W _ σ φ H Q (testM (bopM op ma mb) ρ h0) := f
  rw [e] at f
  cases op with
  | And =>
    refine isTrue_and (thn ((ha X W k tk).run pins s σ H _ I ⟨φ, h0, ρ, rp, er, f.bind⟩) fun c s1 ⟨H1, I1, φ1, h1, a, p1, rp1, w1, f1⟩ => ?_)
    have w1 : a = c := w1
    subst w1
    cases a with
    | true => exact (hb X W k tk).run wh pins s1 σ H1 Q I1 ⟨φ1, h1, ρ, rp1, er.ext p1, f1⟩
    | false => exact ⟨H1, I1, f1.ok0 rp1 rfl⟩
  | Or =>
    refine isTrue_or (thn ((ha X W k tk).run pins s σ H _ I ⟨φ, h0, ρ, rp, er, f.bind⟩) fun c s1 ⟨H1, I1, φ1, h1, a, p1, rp1, w1, f1⟩ => ?_)
    have w1 : a = c := w1
    subst w1
    cases a with
    | true => exact ⟨H1, I1, f1.ok0 rp1 rfl⟩
    | false => exact (hb X W k tk).run wh pins s1 σ H1 Q I1 ⟨φ1, h1, ρ, rp1, er.ext p1, f1⟩⟩
theorem sw_st (h : SW L P G n ex (testM m)) : ST L P G n ex (testM m) := fun X W k tk => (h X W k tk).pt
theorem se_bad (h : ∀ ρ h0, m ρ h0 = .bad) : SE L P G n ex m := fun X W k tk => ⟨fun pins s σ H Q I ⟨φ, h0, ρ, rp, er, f⟩ => by
  rw [h] at f; exact f.elim⟩
theorem sw_bad (h : ∀ ρ h0, m ρ h0 = .bad) : SW L P G n ex (testM m) := fun X W k tk => ⟨fun wh pins s σ H Q I ⟨φ, h0, ρ, rp, er, f⟩ => by
  unfold testM at f
  rw [h] at f; exact f.elim⟩

/-! ### arguments, displays -/
variable {es : List Expr} {mm : Env → MH → Out (List MV)}
theorem sa_nil : SA L P G n [] (fun _ h => .ok [] h) := fun X W k tk => ⟨fun ps pins s σ H Q I ⟨φ, h0, ρ, rp, er, f⟩ => pa_nil.run ps pins s σ H Q I (f.ok0 rp .nil)⟩
theorem sa_cons (hs : nostar l = true) (ha : SE L P G n l ma) (hr : SA L P G n es mm) : SA L P G n (l :: es) (fun ρ h => (ma ρ h).bind fun v h1 => (mm ρ h1).bind fun vs h2 => .ok (v :: vs) h2) := fun X W k tk => ⟨fun ps pins s σ H Q I ⟨φ, h0, ρ, rp, er, f⟩ => by
  refine (pa_cons (ha X W k tk) (hr X W k tk) (star_cons hs)).run ps pins s σ H Q I ⟨φ, h0, ρ, rp, er, (Fin.bind f).imp fun x H1 ⟨φ1, h1, a, p1, rp1, w1, f1⟩ => ⟨φ1, h1, ρ, rp1, er.ext p1, (Fin.bind f1).imp fun xs H2 ⟨φ2, h2, as, p2, rp2, w2, f2⟩ => ?_⟩⟩
  exact f2.ok0 rp2 (.cons (w1.ext p2) w2)⟩
theorem se_tup {k1 : Nat} (ha : SA L P G n es mm) : SE L P G n (.Tuple es k1 pos) (fun ρ h => (mm ρ h).bind fun vs h1 => if vs.length ≤ line then .ok (.tup vs) h1 else .bad) := fun X W k tk => ⟨fun pins s σ H Q I ⟨φ, h0, ρ, rp, er, f⟩ => by
  refine (pe_tup (ha X W k tk)).run pins s σ H Q I ⟨φ, h0, ρ, rp, er, (Fin.bind f).imp fun xs H1 ⟨φ1, h1, as, p1, rp1, w1, f1⟩ => ?_⟩
  dsimp only at f1
  by_cases hz : as.length ≤ line
  · rw [if_pos hz] at f1
    exact ⟨by rw [← w1.length, ← line_eq]; exact hz, fun p hp => f1.newT rp1 hp w1⟩
  · rw [if_neg hz] at f1; exact f1.elim⟩
theorem se_lst (ha : SA L P G n es mm) : SE L P G n (.List es pos) (fun ρ h => (mm ρ h).bind fun vs h1 => if vs.length ≤ line then alloc (.lst vs) h1 else .bad) := fun X W k tk => ⟨fun pins s σ H Q I ⟨φ, h0, ρ, rp, er, f⟩ => by
  refine (pe_lst (ha X W k tk)).run pins s σ H Q I ⟨φ, h0, ρ, rp, er, (Fin.bind f).imp fun xs H1 ⟨φ1, h1, as, p1, rp1, w1, f1⟩ => ?_⟩
  dsimp only at f1
  by_cases hz : as.length ≤ line
  · rw [if_pos hz] at f1
    exact ⟨by rw [← w1.length, ← line_eq]; exact hz, fun p hp => f1.newL rp1 hp w1⟩
  · rw [if_neg hz] at f1; exact f1.elim⟩
/-! ### places -/
theorem se_sub (hs : noslice r = true) (ha : SE L P G n l ma) (hb : SE L P G n r mb) : SE L P G n (.Subscript l r pos) (fun ρ h => (ma ρ h).bind fun v h1 => (mb ρ h1).bind fun w h2 => .of h2 (subM v w h2)) := fun X W k tk => ⟨fun pins s σ H Q I ⟨φ, h0, ρ, rp, er, f⟩ => by
  refine Subscript_ (thn ((ha X W k tk).run pins s σ H _ I ⟨φ, h0, ρ, rp, er, f.bind⟩) fun v s1 ⟨x, H1, I1, r1, φ1, h1, a, p1, rp1, w1, f1⟩ => ?_)
  refine thn ((hb X W k tk).run pins s1 σ H1 _ I1 ⟨φ1, h1, ρ, rp1, er.ext p1, f1.bind⟩) fun u s2 ⟨y, H2, I2, r2, φ2, h2, b, p2, rp2, w2, f2⟩ => ?_
  obtain ⟨z, e, f3⟩ := of_fin (X := X) f2
  exact sub_ok k.room I2 r1 r2 rp2 (w1.ext p2) w2 e (fun y w => f3.ok0 rp2 w) (ix_of hs _ _)⟩
theorem so_none : SO L P G n none (fun _ h => .ok none h) := fun X W k tk => ⟨fun pins s σ H Q I ⟨φ, h0, ρ, rp, er, f⟩ => po_none.run pins s σ H Q I (f.ok0 rp rfl)⟩
theorem so_some (ha : SE L P G n l ma) : SO L P G n (some l) (fun ρ h => (ma ρ h).bind fun v h1 => match v with
    | .int i => .ok (some i) h1
    | _ => .bad) := fun X W k tk => ⟨fun pins s σ H Q I ⟨φ, h0, ρ, rp, er, f⟩ => by
  refine (po_some (ha X W k tk)).run pins s σ H Q I ⟨φ, h0, ρ, rp, er, (Fin.bind f).imp fun x H1 ⟨φ1, h1, a, p1, rp1, w1, f1⟩ => ?_⟩
  cases w1 with
  | int i => exact ⟨i, rfl, f1.ok0 rp1 rfl⟩
  | _ => exact f1.elim⟩
theorem se_slc {lo hi : Option Expr} {ml mh : Env → MH → Out (Option Int)} {p2 : Pos} (ha : SE L P G n l ma) (hl : SO L P G n lo ml) (hh : SO L P G n hi mh) : SE L P G n (.Subscript l (.Slice lo hi none p2) pos) (fun ρ h => (ma ρ h).bind fun v h1 => (ml ρ h1).bind fun l h2 => (mh ρ h2).bind fun u h3 => slcM v l u h3) := fun X W k tk => ⟨fun pins s σ H Q I ⟨φ, h0, ρ, rp, er, f⟩ => by
  refine (pe_slice sl_all (ha X W k tk) (hl X W k tk) (hh X W k tk)).run pins s σ H Q I ⟨φ, h0, ρ, rp, er, (Fin.bind f).imp fun x H1 ⟨φ1, h1, a, p1, rp1, w1, f1⟩ => ⟨φ1, h1, ρ, rp1, er.ext p1, (Fin.bind f1).imp fun lv H2 ⟨φ2, h2, b, p2, rp2, w2, f2⟩ =>
    ⟨φ2, h2, ρ, rp2, (er.ext p1).ext p2, (Fin.bind f2).imp fun uv H3 ⟨φ3, h3, c, p3, rp3, w3, f3⟩ => ?_⟩⟩⟩
  have w2 : b = lv := w2
  have w3 : c = uv := w3
  subst w2 w3
  exact slc_rd rp3 ((w1.ext p2).ext p3) f3⟩

/-! ### calls -/
theorem Fin.call {D : Dm} {W : WX} {σ : St} {φ : List Addr} {H : Hp} {Q : VK} {o : Out MV} (f : Fin D W (VR D) σ φ H Q o) : Fin D (fun c d _ H' => WE W σ c d H') (VR D) [] φ H Q o := by
  cases o with
  | ok v h => exact f
  | exc c fs h => exact f
  | bad => exact f
theorem callM_fn {f : Nat} {vs : List MV} {h : MH} (e : callM P n f vs h ≠ .bad) : ∃ F, P.fns[f]? = some F := by
  cases n with
  | zero => exact absurd rfl e
  | succ n =>
    unfold callM at e
    cases q : P.fns[f]? with
    | none => rw [q] at e; exact absurd rfl e
    | some F => exact ⟨F, rfl⟩
/-- a call by its positional promise, what is raised wished for at the caller's slots -/
theorem run_R {X : Cx} {CX : CXT} {k : Nat} {f : Addr} {sp : Sp} {E : XK} {pins : List (Addr × Obj)} {σ : St} {H : Hp} {s : Shared} {Q : VK} {us : List Value} {vs : List V} (F : FnR X.prog X.w X.K X.mg X.base CX k f sp) (hr : Room k X.A) (hx : PassesAt CX X σ E)
    (I : Inv X pins σ H s) (r : Vals vs us) (h : sp vs H Q E) : codeAny (model X.prog X.w) X.A (.call (.ref f) ⟨us, []⟩) (fun r s' => match r with | .ok (.ret v) => EP X pins σ Q v s' | .ok _ => False | .error e => X.xe e s') s := by
  refine codeAny_mono (F X.A X.stack s H us vs Q E hr I.env0 r h) fun r s' hq => ?_
  cases r with
  | error e => exact hx pins H s e s' I hq
  | ok fl =>
    cases fl with
    | ret u => exact I.after hq
    | next => exact False.elim hq
    | brk => exact False.elim hq
    | cont => exact False.elim hq
/-- the callee's promise is kept at this state -/
theorem spM_at {X : Cx} {W : WX} {f : Nat} {σ : St} {H : Hp} {Q : VK} {vs : List V} {as : List MV} {φ : List Addr} {h : MH} (k : XOk L P G n X) (rp : Rep (dm X L.ca) φ h H) (w : VRs (dm X L.ca) φ H as vs)
    (f0 : Fin (dm X L.ca) W (VR (dm X L.ca)) σ φ H Q (callM P n f as h)) : ∃ F, P.fns[f]? = some F ∧ FnR X.prog X.w X.K X.mg X.base (L2.CX X.prog X.w) (2 * n + 1) (L.fa f) (spM L P n f) ∧ PySem.W.keepIn X.K (.ref (L.fa f)) = true ∧ spM L P n f vs H Q (WE W σ) := by
  obtain ⟨F, hF⟩ := callM_fn (fun e => by rw [e] at f0; exact f0.elim)
  obtain ⟨G1, G2, G4⟩ := k.ok.fn f F hF
  rw [← k.prog, ← k.w, ← k.K, ← k.mg, ← k.base] at G1
  rw [← k.K] at G2
  refine ⟨F, hF, G1, G2, φ, h, as, ?_, ?_, ?_⟩
  · rw [← k.dm]; exact rp
  · rw [← k.dm]; exact w
  · rw [← k.dm]; exact f0.call
/-- the callee runs -/
theorem run_own {X : Cx} {W : WX} {f : Nat} {pins : List (Addr × Obj)} {s : Shared} {σ : St} {H : Hp} {Q : VK} {us : List Value} {vs : List V} {as : List MV} {φ : List Addr} {h : MH} (k : XOk L P G n X) (tk : Takes X W) (I : Inv X pins σ H s) (r : Vals vs us) (rp : Rep (dm X L.ca) φ h H) (w : VRs (dm X L.ca) φ H as vs)
    (f0 : Fin (dm X L.ca) W (VR (dm X L.ca)) σ φ H Q (callM P n f as h)) : wpAny (model X.prog X.w) X.A (call (.ref (L.fa f)) us) (EP X pins σ Q) X.xe s := by
  obtain ⟨F, hF, G1, G2, sp⟩ := spM_at k rp w f0
  exact wpAny_call (run_R G1 (k.room.mono (by omega)) (passAt tk σ) I r sp)
theorem fn_at {f : Nat} {x : Str} (h : P.isFn f x = true) : ∃ F, P.fns[f]? = some F ∧ F.at_ = .glo x := by
  unfold Prog.isFn at h
  cases q : P.fns[f]? with
  | none => rw [q] at h; cases h
  | some F => rw [q] at h; exact ⟨F, rfl, of_decide_eq_true h⟩
theorem se_call0 {f : Nat} {x : Str} {p : Pos} (hg : G.gl x = true) (hf : P.isFn f x = true) : SE L P G n (.Call (.Name x p) [] [] pos) (fun ρ h => callM P n f [] h) := fun X W k tk => ⟨fun pins s σ H Q I ⟨φ, h0, ρ, rp, er, fi⟩ => by
  obtain ⟨g1, g2, g3⟩ := k.gl hg
  obtain ⟨F, hF, hat⟩ := fn_at hf
  obtain ⟨G1, G2, G4⟩ := k.ok.fn f F hF
  have hm : X.mg x = some (.ref (L.fa f)) := by rw [k.mg]; exact G4 x hat
  have hk : PySem.W.keepIn X.K (.ref (L.fa f)) = true := by rw [k.K]; exact G2
  refine wpAny_Call_Name_kw (ld_glob I g1 hm ?_ g2)
  exact PySem.W.callWith_K0 I.kIn hk (run_own (us := []) k tk I .nil rp .nil fi)⟩
theorem se_call {f : Nat} {x : Str} {p : Pos} {e : Expr} (hg : G.gl x = true) (hf : P.isFn f x = true) (he : nostar e = true) (hs : es.all nostar = true) (ha : SA L P G n (e :: es) mm) : SE L P G n (.Call (.Name x p) (e :: es) [] pos) (fun ρ h => (mm ρ h).bind fun vs h1 => callM P n f vs h1) := fun X W k tk => ⟨fun pins s σ H Q I ⟨φ, h0, ρ, rp, er, fi⟩ => by
  obtain ⟨g1, g2, g3⟩ := k.gl hg
  obtain ⟨F, hF, hat⟩ := fn_at hf
  obtain ⟨G1, G2, G4⟩ := k.ok.fn f F hF
  have hm : X.mg x = some (.ref (L.fa f)) := by rw [k.mg]; exact G4 x hat
  have hk : PySem.W.keepIn X.K (.ref (L.fa f)) = true := by rw [k.K]; exact G2
  refine wpAny_Call_Name_kw (ld_glob I g1 hm ?_ g2)
  refine PySem.W.callWith_K (h₀ := X.base) I.ok.mod.kin hk (thn ((ha X W k tk).run pos pins s σ H _ I ⟨φ, h0, ρ, rp, er, Fin.bind fi⟩) fun us s1 ⟨vs, H1, I1, r, φ1, h1, as, p1, rp1, w1, f1⟩ => ⟨I1.kIn, ?_⟩) (star_cons he) (plain_back hs)
  exact run_own k tk I1 r rp1 w1 f1⟩
theorem boot_blt (b : Blt) : bootBuiltins b.nm = some b.val := by
  cases b <;> decide +kernel
theorem se_blt {b : Blt} {p : Pos} {e : Expr} (hg : G.gl b.nm = true) (hf : P.free.contains b.nm = true) (he : nostar e = true) (hs : es.all nostar = true) (ha : SA L P G n (e :: es) mm) : SE L P G n (.Call (.Name b.nm p) (e :: es) [] pos) (fun ρ h => (mm ρ h).bind fun vs h1 => bltM (P.cfg (callM P n)) b vs h1) := fun X W k tk => ⟨fun pins s σ H Q I ⟨φ, h0, ρ, rp, er, fi⟩ => by
  obtain ⟨g1, g2, g3⟩ := k.gl hg
  have hm : X.mg b.nm = none := by rw [k.mg]; exact k.ok.free _ (by simpa using hf)
  have fin : ∀ us s1, AP X pins σ (Aft (dm X L.ca) (VRs (dm X L.ca)) φ H fun vs h1 φ1 H1 => Fin (dm X L.ca) W (VR (dm X L.ca)) σ φ1 H1 Q (bltM (P.cfg (callM P n)) b vs h1)) us s1 → wpAny (model X.prog X.w) X.A (call b.val us) (EP X pins σ Q) X.xe s1 := fun us s1 ⟨vs, H1, I1, r, φ1, h1, as, p1, rp1, w1, f1⟩ =>
    blt_ok k.calm (by rw [k.K]; exact k.ok.cls) (fun t j hj => by rw [k.K]; exact k.ok.kit t j hj) I1 r rp1 w1 f1
  have run := (ha X W k tk).run pos pins s σ H _ I ⟨φ, h0, ρ, rp, er, Fin.bind fi⟩
  have hv := boot_blt b
  refine wpAny_Call_Name_kw (ld_blt I g1 hm hv ?_ g3 g2)
  cases b with
  | int => exact PyProof.Rows.callWith_type1 (thn run fin) (star_cons he) (plain_back hs)
  | tuple => exact PyProof.Rows.callWith_type1 (thn run fin) (star_cons he) (plain_back hs)
  | list => exact PyProof.Rows.callWith_type1 (thn run fin) (star_cons he) (plain_back hs)
  | len => exact PyProof.Rows.callWith_builtin1 (thn run fin) (star_cons he) (plain_back hs)
  | isi => exact PyProof.Rows.callWith_builtin1 (thn run fin) (star_cons he) (plain_back hs)
  | sum => exact PyProof.Rows.callWith_builtin1 (thn run fin) (star_cons he) (plain_back hs)
  | all => exact PyProof.Rows.callWith_builtin1 (thn run fin) (star_cons he) (plain_back hs)
  | any => exact PyProof.Rows.callWith_builtin1 (thn run fin) (star_cons he) (plain_back hs)
  | max => exact PyProof.Rows.callWith_builtin1 (thn run fin) (star_cons he) (plain_back hs)
  | min => exact PyProof.Rows.callWith_builtin1 (thn run fin) (star_cons he) (plain_back hs)
  | abs => exact PyProof.Rows.callWith_builtin1 (thn run fin) (star_cons he) (plain_back hs)⟩

/-! ### methods of lists and texts -/
def Mth.ty (m : Mth) : String := if m.ofList then "list" else "str"
def Mth.id : Mth → String
  | .append => "list.append" | .pop => "list.pop" | .lower => "str.lower" | .upper => "str.upper" | .join => "str.join" | .find => "str.find"
theorem mth_slot (m : Mth) : PlainAttrs m.ty ∧ Slot m.ty m.nm m.id ∧ typeOf (.builtin m.id) = pure (.type "method_descriptor") := by
  cases m with
  | append => exact ⟨PySem.F.plainAttrs_list, PySem.F.slot_list_append, PySem.F.type_list_append⟩
  | pop => exact ⟨PySem.F.plainAttrs_list, PySem.F.slot_list_pop, PySem.F.type_list_pop⟩
  | lower => exact ⟨PySem.F.plainAttrs_str, PySem.F.slot_str_lower, PySem.F.type_str_lower⟩
  | upper => exact ⟨PySem.F.plainAttrs_str, PySem.F.slot_str_upper, PySem.F.type_str_upper⟩
  | join => exact ⟨PySem.F.plainAttrs_str, PySem.F.slot_str_join, PySem.F.type_str_join⟩
  | find => exact ⟨PySem.F.plainAttrs_str, PySem.F.slot_str_find, PySem.F.type_str_find⟩
theorem strsM_ok {D : Dm} {φ : List Addr} {H : Hp} : ∀ {xs : List MV} {ys : List Str} {vs : List V}, strsM xs = some ys → VRs D φ H xs vs → vs = ys.map V.str
  | [], ys, _, e, .nil => by cases e; rfl
  | .str x :: xs, ys, _, e, .cons h r => by
    unfold strsM at e
    obtain ⟨zs, e1, rfl⟩ := Option.map_eq_some_iff.mp e
    cases h
    rw [strsM_ok e1 r]
    rfl
theorem mth_ok {X : Cx} {W : WX} {m : Mth} {pins : List (Addr × Obj)} {s : Shared} {σ : St} {H : Hp} {Q : VK} {ca : Nat → Addr} {a : MV} {x : V} {v : Value} {us : List Value} {vs : List V} {as : List MV} {φ : List Addr} {h : MH} (I : Inv X pins σ H s) (rv : RelV x v) (r : Vals vs us) (rp : Rep (dm X ca) φ h H) (wa : VR (dm X ca) φ H a x) (w : VRs (dm X ca) φ H as vs)
    (f : Fin (dm X ca) W (VR (dm X ca)) σ φ H Q (mthM m a as h)) : wpAny (model X.prog X.w) X.A (call (.builtin m.id) (v :: us)) (EP X pins σ Q) X.xe s := by
  cases m with
  | append =>
    unfold mthM at f
    dsimp only at f
    split at f
    · rename_i c y
      split at f
      · rename_i xs q1
        split at f
        · rename_i hz
          cases wa with
          | @ref _ dd hm => cases w with
            | cons w1 w2 =>
              cases w2
              obtain ⟨ys, g1, g2⟩ := rp.lst hm q1
              have mu : Mut (H dd) := by rw [g1]; exact True.intro
              exact mt_append pins s σ H _ _ v us Q I rv r ⟨_, ys, _, rfl, rfl, g1, by rw [← g2.length, ← line_eq]; exact hz, f _ _ _ (Ext.mut hm mu) (rp.set hm mu ⟨_, upd_same, (g2.append (.cons w1 .nil)).ext (Ext.mut hm mu)⟩) .non⟩
        · exact f.elim
      · exact f.elim
    · exact f.elim
  | pop =>
    unfold mthM at f
    dsimp only at f
    split at f
    · rename_i c i
      split at f
      · rename_i xs q1
        split at f
        · rename_i hz
          split at f
          · rename_i j q2
            split at f
            · rename_i y q3
              cases wa with
              | @ref _ dd hm => cases w with
                | cons w1 w2 =>
                  cases w2
                  cases w1
                  obtain ⟨ys, g1, g2⟩ := rp.lst hm q1
                  have mu : Mut (H dd) := by rw [g1]; exact True.intro
                  obtain ⟨z, g3, g4⟩ := g2.get q3
                  refine mt_popAt pins s σ H _ _ v us Q I rv r ⟨_, ys, i, j, z, rfl, rfl, g1, hz.1, hz.2, by rw [← g2.length]; exact (ixN_seq q2).1, g3, f _ _ _ (Ext.mut hm mu) (rp.set hm mu ⟨_, upd_same, (g2.eraseIdx j).ext (Ext.mut hm mu)⟩) (g4.ext (Ext.mut hm mu))⟩
            · exact f.elim
          · exact f.elim
        · exact f.elim
      · exact f.elim
    · exact f.elim
  | lower =>
    unfold mthM at f
    dsimp only at f
    split at f
    · split at f
      · rename_i hz
        cases wa; cases w
        exact mt_lower pins s σ H _ _ v us Q I rv r ⟨_, rfl, rfl, hz, f.ok0 rp (.str _)⟩
      · exact f.elim
    · exact f.elim
  | upper =>
    unfold mthM at f
    dsimp only at f
    split at f
    · split at f
      · rename_i hz
        cases wa; cases w
        exact mt_upper pins s σ H _ _ v us Q I rv r ⟨_, rfl, rfl, hz, f.ok0 rp (.str _)⟩
      · exact f.elim
    · exact f.elim
  | find =>
    unfold mthM at f
    dsimp only at f
    split at f
    · cases wa
      cases w with
      | cons w1 w2 =>
        cases w2
        cases w1
        exact mt_find pins s σ H _ _ v us Q I rv r ⟨_, _, rfl, rfl, f.ok0 rp (.int _)⟩
    · exact f.elim
  | join =>
    unfold mthM at f
    dsimp only at f
    split at f
    · split at f
      · rename_i xs q1
        split at f
        · rename_i ys q2
          split at f
          · rename_i hz
            cases wa
            cases w with
            | cons w1 w2 =>
              cases w2
              obtain ⟨p, zs, rfl, wz, hs⟩ := seq_ok rp w1 q1
              have e := strsM_ok q2 wz
              subst e
              exact mt_join pins s σ H _ _ v us Q I rv r ⟨_, p, ys, rfl, rfl, hs, hz, f.ok0 rp (.str _)⟩
          · exact f.elim
        · exact f.elim
      · exact f.elim
    · exact f.elim
theorem mth_recv {X : Cx} {m : Mth} {ca : Nat → Addr} {a : MV} {x : V} {v : Value} {φ : List Addr} {h : MH} {H : Hp} {pins : List (Addr × Obj)} {σ : St} {s : Shared} (I : Inv X pins σ H s) (rv : RelV x v) (rp : Rep (dm X ca) φ h H) (wa : VR (dm X ca) φ H a x) (q : mthR m a h = true) :
    s.TypeIs v m.ty ∧ ∀ a, v = .ref a → ∃ ob, s.heap.get? a = some ob ∧ ob.dict = none := by
  unfold mthR at q
  split at q
  · split at q
    · rename_i xs q1
      cases wa with
      | ref hm =>
        obtain ⟨ys, g1, g2⟩ := rp.lst hm q1
        have e : m.ty = "list" := by unfold Mth.ty; rw [q]; rfl
        rw [e]
        exact tyV_is I rv (show tyV X.K "list" (.ref _) H from .inl ⟨rfl, ys, SqL.of g1⟩)
    · cases q
  · cases wa
    have e : m.ty = "str" := by
      unfold Mth.ty
      rw [if_neg (by simpa using q)]
    rw [e]
    exact tyV_is I rv (show tyV X.K "str" (.str _) H from rfl)
  · cases q
theorem se_mth0 {m : Mth} {ap : Pos} (hb : nosup l = true) (hl : (ap.endLine == pos.line) = true) (ho : SE L P G n l ma) :
    SE L P G n (.Call (.Attribute l m.nm ap) [] [] pos) (fun ρ h => (ma ρ h).bind fun v h1 => if mthR m v h1 then mthM m v [] h1 else .bad) := fun X W k tk => ⟨fun pins s σ H Q I ⟨φ, h0, ρ, rp, er, fi⟩ => by
  refine wpAny_Call_method0_late (base_of hb) hl (thn ((ho X W k tk).run pins s σ H _ I ⟨φ, h0, ρ, rp, er, Fin.bind fi⟩) fun v s1 ⟨x, H1, I1, r1, φ1, h1, a, p1, rp1, w1, f1⟩ => ?_)
  dsimp only at f1
  cases q : mthR m a h1 with
  | false => rw [q] at f1; exact f1.elim
  | true =>
    rw [q] at f1
    have f1 : Fin (dm X L.ca) W (VR (dm X L.ca)) σ φ1 H1 Q (mthM m a [] h1) := f1
    have ty := mth_recv I1 r1 rp1 w1 q
    exact ⟨m.ty, m.id, (mth_slot m).1, (mth_slot m).2.1, (mth_slot m).2.2, ty.1, ty.2, Calls.callWith_builtin rfl (PySem.evalArgs_none (mth_ok I1 r1 .nil rp1 w1 .nil f1))⟩⟩
theorem se_mth {m : Mth} {ap : Pos} {e : Expr} (hb : nosup l = true) (hl : (ap.endLine == pos.line) = true) (he : nostar e = true) (hs : es.all nostar = true) (hn : es.length < 28) (ho : SE L P G n l ma) (ha : SA L P G n (e :: es) mm) :
    SE L P G n (.Call (.Attribute l m.nm ap) (e :: es) [] pos) (fun ρ h => (ma ρ h).bind fun v h1 => if mthR m v h1 then (mm ρ h1).bind fun vs h2 => mthM m v vs h2 else .bad) := fun X W k tk => ⟨fun pins s σ H Q I ⟨φ, h0, ρ, rp, er, fi⟩ => by
  refine wpAny_Call_method_late (base_of hb) ?_ hl rfl (thn ((ho X W k tk).run pins s σ H _ I ⟨φ, h0, ρ, rp, er, Fin.bind fi⟩) fun v s1 ⟨x, H1, I1, r1, φ1, h1, a, p1, rp1, w1, f1⟩ => ?_)
  · have h1 : (backTo pos (starEach (e :: es) X.env)).all (fun x => !x.1) = true := plain_all (by rw [List.all_cons, he, hs]; rfl)
    rw [h1]
    simp only [List.length_cons, List.length_nil, List.isEmpty_nil, if_true, Bool.true_and, keywordEach, backToKw, List.map_nil, List.all_nil, decide_eq_true_eq]
    omega
  · dsimp only at f1
    cases q : mthR m a h1 with
    | false => rw [q] at f1; exact f1.elim
    | true =>
      rw [q] at f1
      have f1 : Fin (dm X L.ca) W (VR (dm X L.ca)) σ φ1 H1 Q ((mm ρ h1).bind fun vs h2 => mthM m a vs h2) := f1
      have ty := mth_recv I1 r1 rp1 w1 q
      refine ⟨m.ty, m.id, (mth_slot m).1, (mth_slot m).2.1, (mth_slot m).2.2, ty.1, ty.2, ?_⟩
      have hA := (ha X W k tk).run pos pins s1 σ H1 _ I1 ⟨φ1, h1, ρ, rp1, er.ext p1, Fin.bind f1⟩
      rw [star_cons he] at hA ⊢
      refine Calls.callWith_builtin (by show (false || (backTo pos (starEach es X.env)).any (·.1)) = false; rw [plain_back hs] <;> rfl) (Calls.evalArgs_plain ?_)
      exact thn hA fun us s2 ⟨vs, H2, I2, r2, φ2, h2, as, p2, rp2, w2, f2⟩ => mth_ok I2 r1 r2 rp2 (w1.ext p2) w2 f2⟩
end
end Mi

set_option Elab.async false
set_option linter.all false
set_option maxRecDepth 100000
set_option maxHeartbeats 2000000
/-! Snd8: dict displays, what is walked, targets, list comprehensions. -/
namespace Mi
open PySem PySem.Spec PyProof.Rows L2
section
variable {D : Dm} {φ φ' : List Addr} {H H' : Hp} {h : MH} {σ : St} {W : WX}
/-- a tracked thing becomes ours -/
theorem Rep.adopt (r : Rep D φ h H) {a : Addr} {u : HO} {o : MO} (na : a ∉ φ) (t : TK D.K H (L2.upd H a u)) (w : OR D (φ ++ [a]) (L2.upd H a u) o a) : Rep D (φ ++ [a]) (h ++ [o]) (L2.upd H a u) := by
  refine ⟨by simp [r.len], ?_, fun i o' q => ?_⟩
  · rw [List.nodup_append]
    exact ⟨r.nd, by simp, fun x hx b hb => by simp at hb; subst hb; rintro rfl; exact na hx⟩
  · by_cases hi : i < h.length
    · rw [List.getElem?_append_left hi] at q
      obtain ⟨b, eb, w'⟩ := r.at_ i o' q
      have nb : b ≠ a := by rintro rfl; exact na (List.mem_of_getElem? eb)
      exact ⟨b, pre_get ⟨[a], rfl⟩ eb, w'.mono ⟨[a], rfl⟩ t (L2.upd_ne nb)⟩
    · have hlt : i < (h ++ [o]).length := (List.getElem?_eq_some_iff.mp q).1
      have e : i = h.length := by simp at hlt; omega
      subst e
      rw [List.getElem?_append_right (Nat.le_refl _)] at q
      simp at q
      subst q
      exact ⟨a, by rw [← r.len, List.getElem?_append_right (Nat.le_refl _)]; simp, w⟩
/-- a thing that is not ours is changed -/
theorem Rep.off (r : Rep D φ h H) {a : Addr} {u : HO} (na : a ∉ φ) (t : TK D.K H (L2.upd H a u)) : Rep D φ h (L2.upd H a u) :=
  ⟨r.len, r.nd, fun i o' q => by
    obtain ⟨b, eb, w'⟩ := r.at_ i o' q
    have nb : b ≠ a := by rintro rfl; exact na (List.mem_of_getElem? eb)
    exact ⟨b, eb, w'.mono (List.prefix_refl _) t (L2.upd_ne nb)⟩⟩
theorem Rep.notin (r : Rep D φ h H) {a : Addr} (e : H a = none) : a ∉ φ := fun hm => by
  obtain ⟨i, hi⟩ := List.mem_iff_getElem?.mp hm
  obtain ⟨o', q⟩ := r.there hi
  obtain ⟨v, hv⟩ := (r.get hi q).some
  rw [e] at hv; cases hv
/-- a thing that was laid meanwhile is ours now -/
theorem Ext.adopt {φ2 : List Addr} {H2 : Hp} {a : Addr} {u u0 : HO} (hn : H a = none) (e : Ext D φ φ2 (upd H a u0) H2) (t : TK D.K H2 (upd H2 a u)) : Ext D φ (φ2 ++ [a]) H (upd H2 a u) where
  pre := e.pre.trans ⟨[a], rfl⟩
  tk := ((TK.new hn).trans e.tk).trans t
  fresh := fun x hx => by
    rcases List.mem_append.mp hx with hx | hx
    · rcases e.fresh x hx with z | z
      · exact .inl z
      · by_cases hxa : x = a
        · subst hxa; exact .inr hn
        · rw [upd_ne hxa] at z; exact .inr z
    · rw [List.mem_singleton.mp hx]; exact .inr hn
  fr := fun x v q hm => by
    have hxa : x ≠ a := ne_of_none q hn
    rw [upd_ne hxa]
    exact e.fr x v (by rw [upd_ne hxa]; exact q) hm
section
variable {α β γ δ : Type} {R : List Addr → Hp → α → β → Prop} {S : List Addr → Hp → γ → δ → Prop} {Q : β → Hp → Prop}
/-- a first run from a later state, with its outcome -/
theorem Fin.first {o : Out γ} {k : γ → MH → Out α} (f : Fin D W R σ φ H Q (o.bind k)) (e0 : Ext D φ φ' H H') :
    Fin D W S σ φ' H' (fun x H1 => ∃ φ1 h1 a, o = .ok a h1 ∧ Ext D φ' φ1 H' H1 ∧ Rep D φ1 h1 H1 ∧ S φ1 H1 a x) o := by
  cases o with
  | ok v h1 => exact fun φ1 H1 x p r s => ⟨φ1, h1, v, rfl, p, r, s⟩
  | exc c fs h1 => exact fun φ1 H1 d p => f φ1 H1 d (e0.trans p)
  | bad => exact f
end
end
section
variable {L : Lk} {P : Prog} {G : Sc} {n : Nat} {ex l r : Expr} {pos : Pos} {m ma mb mc : Env → MH → Out MV} {es : List Expr} {mm : Env → MH → Out (List MV)}
theorem se_dic0 : SE L P G n (.Dict [] [] pos) (fun _ h => alloc (.dic []) h) := fun X W k tk => ⟨fun pins s σ H Q I ⟨φ, h0, ρ, rp, er, f⟩ =>
  pe_dnewK.run pins s σ H Q I fun p hp => Fin.new f rp hp (.inl ⟨[], upd_same, .nil⟩)⟩
theorem se_dic1 (ha : SE L P G n l ma) (hb : SE L P G n r mb) : SE L P G n (.Dict [some l] [r] pos) (fun ρ h => (ma ρ h).bind fun x h1 => (mb ρ h1).bind fun y h2 => if kfit [] x then alloc (.dic [(x, y)]) h2 else .bad) := fun X W k tk => ⟨fun pins s σ H Q I ⟨φ, h0, ρ, rp, er, f⟩ => by
  rw [arm_eval_Dict, show (evalEachOpt [some l] X.env).zip ((evalEach [r] X.env).map fun v => do let x ← v; standAt pos; pure x) = [(eval l X.env, (do let x ← eval r X.env; standAt pos; pure x : Sem Value))].map (fun p => (some p.1, p.2)) from rfl, dictDisplay_pairs _ (by simp) (by simp)]
  have hn := I.hok.fresh (Nat.le_refl s.heap.objs.size)
  have I0 := I.laid (a := s.heap.objs.size) (o := .dK []) (h' := s.heap.push { cls := .type "dict", data := .dict #[] }) (t' := s.toks) (fun _ _ q => Heap.get?_push_of_some _ q) (Nat.le_refl _) (dk_empty s.heap I.big)
  generalize hD : s.heap.objs.size = D at hn I0
  have ext0 : Ext (dm X L.ca) φ φ H (upd H D (.dK [])) := Ext.lay hn
  have nD : D ∉ φ := rp.notin hn
  refine wpAny_bind (wpAny_standAt (wpAny_bind ?_))
  unfold subDict
  refine wpAny_bind (wpAny_alloc ?_)
  rw [hD]
  refine wpAny_bind (wpAny_holding ?_)
  rw [if_pos (by simp)]
  have f : Fin (dm X L.ca) W (VR (dm X L.ca)) σ φ H Q ((ma ρ h0).bind _) := f
  refine wpAny_bind (evalPairs_cons (thn ((ha X W k tk).run pins _ σ _ _ I0 ⟨φ, h0, ρ, rp.upd hn, er.ext ext0, f.first ext0⟩) fun v s1 ⟨x, H1, I1, r1, φ1, h1, a, q1, p1, rp1, w1⟩ => ?_))
  rw [q1] at f
  have f : Fin (dm X L.ca) W (VR (dm X L.ca)) σ φ H Q ((mb ρ h1).bind _) := f
  refine wpAny_bind (thn ((hb X W k tk).run pins _ σ _ _ I1 ⟨φ1, h1, ρ, rp1, (er.ext ext0).ext p1, f.first (ext0.trans p1)⟩) fun u s2 ⟨y, H2, I2, r2, φ2, h2, b, q2, p2, rp2, w2⟩ => wpAny_bind (wpAny_standAt (wpAny_pure (evalPairs_nil ?_))))
  rw [q2] at f
  have p3 := p1.trans p2
  have eD : H2 D = some (.dK []) := p3.fr D _ upd_same nD
  have mu : Mut (H2 D) := by rw [eD]; exact True.intro
  have nD2 : D ∉ φ2 := fun hm => by
    rcases p3.fresh D hm with z | z
    · exact nD z
    · rw [upd_same] at z; cases z
  have f : Fin (dm X L.ca) W (VR (dm X L.ca)) σ φ H Q (if kfit [] a then alloc (.dic [(a, b)]) h2 else .bad) := f
  have fin : ∀ {u0 : HO}, OR (dm X L.ca) (φ2 ++ [D]) (upd H2 D u0) (.dic [(a, b)]) D → kfit [] a = true → Q (.ref D) (upd H2 D u0) := fun {u0} w hk => by
    rw [if_pos hk] at f
    exact f (φ2 ++ [D]) _ _ (Ext.adopt hn p3 (TK.mut mu)) (rp2.adopt nD2 (TK.mut mu) w) (.ref (by rw [← rp2.len, List.getElem?_append_right (Nat.le_refl _)]; simp))
  have we : ∀ {u0 : HO} {z : MV} {t : V}, VR (dm X L.ca) φ2 H2 z t → VR (dm X L.ca) (φ2 ++ [D]) (upd H2 D u0) z t := fun w => w.mono ⟨[D], rfl⟩ (TK.mut mu)
  have w1' := w1.ext p2
  cases hk : kfit [] a with
  | false => rw [hk] at f; exact f.elim
  | true =>
    refine wpAny_holding ?_
    have hk' : kk a = 1 ∨ kk a = 2 := by
      rcases kk_le a with e | e | e
      · simp [kfit, e] at hk
      · exact .inl e
      · exact .inr e
    rcases hk' with e | e
    · obtain ⟨q', rfl⟩ := kk1 e
      have ry : x = kV q' := by cases q' <;> (cases w1; rfl)
      subst ry
      obtain ⟨z, hd, vs0, r0, dd⟩ := dk_of I2.hok eD
      cases r0
      refine wpAny_bind (wpAny_storeAll (knd := mixKind X.prog X.w) [(v, u)] [(q', u)] [] s2 _ ⟨kV_is r1, rfl, trivial⟩ dd (by rw [sizeLine_eq]; simp) fun h' dd' hs => wpAny_pure (wpAny_pure (wpAny_pure ?_)))
      have he : ∃ q, h'.get? D = some q := let ⟨q, _, _, hq, _⟩ := dd'; ⟨q, hq⟩
      have I3 := d_write (t' := s2.toks + 1) I2 mu hs he (dk_new (kvs := [(q', y)]) (by rw [sizeLine_eq]; simp) hd (.cons ⟨rfl, r2⟩ .nil) dd')
      exact ⟨.ref D, _, I3, rfl, fin (.inl ⟨_, upd_same, .cons ⟨rfl, we w2⟩ .nil⟩) hk⟩
    · obtain ⟨ks, tk', hd⟩ := kk2 e
      obtain ⟨b', rfl⟩ : ∃ b, x = .ref b := by
        cases a with
        | tup zs => cases w1; exact ⟨_, rfl⟩
        | _ => simp [toK] at tk'
      cases r1
      obtain ⟨g1, g2⟩ := dE_of I2 eD
      have hkey : (nestedKind X.prog X.w).is s2.heap (.tup ks) b' := ⟨nest_ok I2 _ _ _ _ w1' rfl tk', hd⟩
      refine wpAny_bind (wpAny_storeAllH (knd := nestedKind X.prog X.w) (by show X.A.units + 8 < cLine; have := k.room.un; omega) [(.ref b', u)] [(.tup ks, b', u)] [] s2 _ ⟨rfl, rfl, hkey, trivial⟩ g2 (by rw [sizeLine_eq]; simp) fun h' tk2 dd' hs => wpAny_pure (wpAny_pure (wpAny_pure ?_)))
      have I3 := dX_write (ca := L.ca) (kvs := [(a, b)]) (t' := tk2) I2 mu hs dd'
      exact ⟨.ref D, _, I3, rfl, fin (.inr ⟨_, upd_same, g1, by simp [storedAllH, storedH, atKey], by simp, by rw [sizeLine_eq]; simp, .cons ⟨y, tk', ⟨ks, rfl⟩, hd, we w1', r2, we w2⟩ .nil⟩) hk⟩⟩
end
end Mi

set_option Elab.async false
set_option linter.all false
set_option maxRecDepth 100000
set_option maxHeartbeats 2000000
/-! Snd9: what is walked, targets, list comprehensions. -/
namespace Mi
open PySem PySem.Spec PyProof.Rows L2
section
variable {L : Lk} {P : Prog} {G : Sc} {n : Nat} {ex l r : Expr} {pos : Pos} {m ma mb mc : Env → MH → Out MV} {es : List Expr} {mm : Env → MH → Out (List MV)}
theorem si_val {tg : Expr} (ha : SE L P G n l ma) : SI L P G n tg l (fun ρ h => (ma ρ h).bind fun v h1 => .of h1 (itV v h1)) := fun X W k tk => ⟨fun pins s σ H R I ⟨φ, h0, ρ, rp, er, f⟩ => by
  refine thn ((ha X W k tk).run pins s σ H _ I ⟨φ, h0, ρ, rp, er, Fin.bind f⟩) fun v s1 ⟨x, H1, I1, r1, φ1, h1, a, p1, rp1, w1, f1⟩ => ?_
  obtain ⟨J0, e, f2⟩ := of_fin (X := X) f1
  exact iter_ok I1 r1 rp1 w1 e fun J ir => f2.ok0 rp1 ir⟩
theorem si_rng1 {tg : Expr} {p : Pos} (hg : G.gl "range" = true) (hf : P.free.contains ("range" : Str) = true) (hs : nostar l = true) (ha : SE L P G n l ma) : SI L P G n tg (.Call (.Name "range" p) [l] [] pos) (fun ρ h => (ma ρ h).bind fun v h1 => .of h1 (rngM [v])) := fun X W k tk => ⟨fun pins s σ H R I ⟨φ, h0, ρ, rp, er, f⟩ => by
  obtain ⟨g1, g2, g3⟩ := k.gl hg
  have hm : X.mg ("range" : Str) = none := by rw [k.mg]; exact k.ok.free _ (by simpa using hf)
  refine (pi_range1 (tg := tg) g1 hm (pa_cons (ha X W k tk) pa_nil (star_cons hs)) (star_cons hs)).run pins s σ H R I ⟨φ, h0, ρ, rp, er, (Fin.bind f).imp fun x H1 ⟨φ1, h1, as, p1, rp1, w1, f1⟩ => ?_⟩
  obtain ⟨J0, e, f2⟩ := of_fin (X := X) f1
  cases w1 with
  | int j =>
    unfold rngM at e
    dsimp only at e
    split at e
    · rename_i hz
      cases e
      exact ⟨_, rfl, hz.1, hz.2, f2.ok0 rp1 rfl⟩
    · cases e
  | _ => cases e⟩
theorem si_rng2 {tg : Expr} {p : Pos} (hg : G.gl "range" = true) (hf : P.free.contains ("range" : Str) = true) (hs : nostar l = true) (hs2 : nostar r = true) (ha : SE L P G n l ma) (hb : SE L P G n r mb) : SI L P G n tg (.Call (.Name "range" p) [l, r] [] pos) (fun ρ h => (ma ρ h).bind fun v h1 => (mb ρ h1).bind fun w h2 => .of h2 (rngM [v, w])) := fun X W k tk => ⟨fun pins s σ H R I ⟨φ, h0, ρ, rp, er, f⟩ => by
  obtain ⟨g1, g2, g3⟩ := k.gl hg
  have hm : X.mg ("range" : Str) = none := by rw [k.mg]; exact k.ok.free _ (by simpa using hf)
  refine (pi_range2 (tg := tg) g1 hm (pa_cons (ha X W k tk) (pa_cons (hb X W k tk) pa_nil (star_cons hs2)) (star_cons hs)) (by rw [star_cons hs, star_cons hs2]; rfl) (star_cons hs2)).run pins s σ H R I ⟨φ, h0, ρ, rp, er, (Fin.bind f).imp fun x H1 ⟨φ1, h1, a, p1, rp1, w1, f1⟩ =>
    ⟨φ1, h1, ρ, rp1, er.ext p1, (Fin.bind f1).imp fun y H2 ⟨φ2, h2, b, p2, rp2, w2, f2⟩ => ?_⟩⟩
  obtain ⟨J0, e, f3⟩ := of_fin (X := X) f2
  cases w1 with
  | int i => cases w2 with
    | int j =>
      unfold rngM at e
      dsimp only at e
      split at e
      · rename_i hz
        cases e
        exact ⟨i, j, rfl, hz, f3.ok0 rp2 rfl⟩
      · cases e
    | _ => cases e
  | _ => cases e⟩

/-! ### targets -/
/-- the end of a store -/
def FinA (D : Dm) (W : WX) (ss : List Nat) (σ : St) (φ : List Addr) (H : Hp) (Q : St → Hp → Prop) : SOut → Prop
  | .next ρ' h' => ∀ φ' H' σ', Ext D φ φ' H H' → Rep D φ' h' H' → ER D φ' H' ρ' σ' → Off ss σ σ' → Q σ' H'
  | .exc c fs ρ' h' => ∀ φ' H' σ' d, Ext D φ φ' H H' → Rep D φ' h' H' → ER D φ' H' ρ' σ' → XR φ' H' fs d → W (.ref (D.ca c)) d σ' H'
  | _ => False
def tGm (D : Dm) (W : WX) (ss : List Nat) (m : MV → Env → MH → SOut) : TG := fun x σ H Q => ∃ φ h ρ v, Rep D φ h H ∧ ER D φ H ρ σ ∧ VR D φ H v x ∧ FinA D W ss σ φ H Q (m v ρ h)
def tGs (D : Dm) (W : WX) (ss : List Nat) (m : List MV → Env → MH → SOut) : TGs := fun xs σ H Q => ∃ φ h ρ vs, Rep D φ h H ∧ ER D φ H ρ σ ∧ VRs D φ H vs xs ∧ FinA D W ss σ φ H Q (m vs ρ h)
def SG (L : Lk) (P : Prog) (G : Sc) (n : Nat) (tg : Expr) (ss : List Nat) (m : MV → Env → MH → SOut) : Prop := ∀ (X : Cx) (W : WX), XOk L P G n X → Takes X W → PG X tg (tGm (dm X L.ca) W ss m)
def SGs (L : Lk) (P : Prog) (G : Sc) (n : Nat) (ts : List Expr) (ss : List Nat) (m : List MV → Env → MH → SOut) : Prop := ∀ (X : Cx) (W : WX), XOk L P G n X → Takes X W → PGs X ts (tGs (dm X L.ca) W ss m)
theorem FinA.mono {D : Dm} {W : WX} {ss : List Nat} {σ σ1 : St} {φ φ' : List Addr} {H H' : Hp} {Q : St → Hp → Prop} {o : SOut} {ss' : List Nat} (f : FinA D W ss σ φ H Q o) (e : Ext D φ φ' H H') (hs : ∀ σ', Off ss' σ1 σ' → Off ss σ σ') : FinA D W ss' σ1 φ' H' Q o := by
  cases o with
  | next ρ' h' => exact fun φ2 H2 σ' p r w o => f φ2 H2 σ' (e.trans p) r w (hs _ o)
  | exc c fs ρ' h' => exact fun φ2 H2 σ' d p => f φ2 H2 σ' d (e.trans p)
  | ret v h => exact f
  | brk ρ h => exact f
  | cnt ρ h => exact f
  | bad => exact f
theorem sg_name {i : Nat} {x : Str} (hl : G.loc i x = true) : SG L P G n (.Name x pos) [i] (fun v ρ h => .next (ρ.set i (some v)) h) := fun X W k tk => ⟨fun pins s σ H v u Q I r ⟨φ, h0, ρ, a, rp, er, w, f⟩ => by
  obtain ⟨h1, h2, h3⟩ := k.loc hl
  refine wpAny_assign_Name (store_ok I k.nd h1 h2 r (fun s' I' => ⟨_, H, I', ?_⟩) h3)
  exact f φ H _ Ext.refl rp (er.set i w) ⟨by simp, fun j hj => List.getElem?_set_ne (fun e => hj (by simp [e]))⟩⟩
theorem sgs_nil : SGs L P G n [] [] (fun vs ρ h => match vs with
  | [] => .next ρ h
  | _ => .bad) := fun X W k tk => ⟨fun pins s σ H vs us Q I r ⟨φ, h0, ρ, as, rp, er, w, f⟩ => by
  cases w with
  | nil =>
    cases r
    exact assignInOrder_nil ⟨σ, H, I, f φ H σ Ext.refl rp er (Off.refl _ _)⟩
  | cons _ _ => exact f.elim⟩
theorem each_cons {e : Expr} {es : List Expr} {env : PySem.Env} (h : nostar e = true) : assignEach (e :: es) env = (false, assign e env) :: assignEach es env := by
  cases e <;> first | rfl | cases h
theorem sgs_cons {ss ss' : List Nat} {g : MV → Env → MH → SOut} {gs : List MV → Env → MH → SOut} (hs : nostar l = true) (ha : SG L P G n l ss g) (hr : SGs L P G n es ss' gs) : SGs L P G n (l :: es) (ss ++ ss') (fun vs ρ h => match vs with
  | v :: vs => match g v ρ h with
    | .next ρ1 h1 => gs vs ρ1 h1
    | _ => .bad
  | [] => .bad) := fun X W k tk => ⟨fun pins s σ H vs us Q I r ⟨φ, h0, ρ, as, rp, er, w, f⟩ => by
  cases w with
  | nil => exact f.elim
  | @cons v x vs' xs w1 w2 =>
    cases r with
    | cons r1 r2 =>
      rw [each_cons hs]
      have f : FinA (dm X L.ca) W (ss ++ ss') σ φ H Q (match g v ρ h0 with
        | .next ρ1 h1 => gs vs' ρ1 h1
        | _ => .bad) := f
      show wpAny _ _ (assignInOrder (assign l X.env :: (assignEach es X.env).map (·.2)) _) _ _ s
      refine assignInOrder_cons (thn ((ha X W k tk).run pins s σ H _ _ (fun σ1 H1 => ∃ φ1 h1 ρ1, Ext (dm X L.ca) φ φ1 H H1 ∧ Rep (dm X L.ca) φ1 h1 H1 ∧ ER (dm X L.ca) φ1 H1 ρ1 σ1 ∧ Off ss σ σ1 ∧ FinA (dm X L.ca) W (ss ++ ss') σ φ H Q (gs vs' ρ1 h1)) I r1 ⟨φ, h0, ρ, v, rp, er, w1, ?_⟩) fun _ s1 ⟨σ1, H1, I1, φ1, h1, ρ1, p1, rp1, er1, o1, f1⟩ => ?_)
      · cases e : g v ρ h0 with
        | next ρ1 h1 =>
          rw [e] at f
          exact fun φ1 H1 σ1 p1 rp1 er1 o1 => ⟨φ1, h1, ρ1, p1, rp1, er1, o1, f⟩
        | _ => rw [e] at f; exact f.elim
      · exact (hr X W k tk).run pins s1 σ1 H1 _ _ Q I1 r2 ⟨φ1, h1, ρ1, vs', rp1, er1, w2.ext p1, f1.mono p1 fun σ' o' => o1.trans o'⟩⟩
theorem idx_none {env : PySem.Env} : ∀ {es : List Expr}, es.all nostar = true → (assignEach es env).findIdx? (·.1) = none
  | [], _ => rfl
  | e :: es, h => by
    rw [List.all_cons, Bool.and_eq_true] at h
    rw [each_cons h.1, List.findIdx?_cons]
    simp [idx_none h.2]
theorem each_len {env : PySem.Env} : ∀ {es : List Expr}, es.all nostar = true → (assignEach es env).length = es.length
  | [], _ => rfl
  | e :: es, h => by
    rw [List.all_cons, Bool.and_eq_true] at h
    rw [each_cons h.1, List.length_cons, each_len h.2, List.length_cons]
theorem sg_tup {ss : List Nat} {gs : List MV → Env → MH → SOut} {k1 : Nat} (hs : es.all nostar = true) (hl : ∀ vs ρ h, gs vs ρ h ≠ .bad → vs.length = es.length) (hr : SGs L P G n es ss gs) : SG L P G n (.Tuple es k1 pos) ss (fun v ρ h => match v with
    | .tup xs => gs xs ρ h
    | _ => .bad) := fun X W k tk => ⟨fun pins s σ H v u Q I r ⟨φ, h0, ρ, a, rp, er, w, f⟩ => by
  cases w with
  | @tup xs p ys h1 h2 =>
    cases r
    have f : FinA (dm X L.ca) W ss σ φ H Q (gs xs ρ h0) := f
    have hl' := hl xs ρ h0 (fun e => by rw [e] at f; exact f.elim)
    obtain ⟨its, rv, ht, hz⟩ := I.tuple h1
    refine assign_Tuple_tuple (I.ok.hd k.calm) ht (by rw [each_len hs, ← hl', h2.length, rv.length]; simp) (idx_none hs) fun h' hx => ?_
    have I1 : Inv X pins σ H { s with heap := h' } := I.kept (t' := s.toks) fun b o e => hx b o (Nat.ne_of_lt (Heap.lt_size e)) e
    exact (hr X W k tk).run pins _ σ H ys _ Q I1 (by simpa using rv) ⟨φ, h0, ρ, xs, rp, er, h2, f⟩
  | _ => exact f.elim⟩
theorem asg_sub {o i : Expr} {env : PySem.Env} (h : noslice i = true) (v : Value) : assign (.Subscript o i pos) env v = (do
      let ov ← holding [v] (eval o env)
      let iv ← holding [v, ov] (eval i env)
      standAt pos
      holding [v, ov, iv] (setItem ov iv v)
      release [v, ov, iv] []) := by
  cases i <;> first | rfl | cases h
def subA (ma mb : Env → MH → Out MV) : MV → Env → MH → SOut := fun v ρ h => match ma ρ h with
    | .ok o h1 => match mb ρ h1 with
      | .ok k h2 => match setM o k v h2 with
        | some h3 => .next ρ h3
        | none => .bad
      | .exc c fs h2 => .exc c fs ρ h2
      | .bad => .bad
    | .exc c fs h1 => .exc c fs ρ h1
    | .bad => .bad
theorem setM_ok {X : Cx} {ca : Nat → Addr} (hr : Room n X.A) {o i v : MV} {x y z : V} {ov iv u : Value} {h h3 : MH} {φ : List Addr} {pins : List (Addr × Obj)} {s : Shared} {σ : St} {H : Hp} {Q : Hp → Prop} (I : Inv X pins σ H s) (rp : Rep (dm X ca) φ h H) (r1 : RelV x ov) (r2 : RelV y iv) (r3 : RelV z u)
    (w1 : VR (dm X ca) φ H o x) (w2 : VR (dm X ca) φ H i y) (w3 : VR (dm X ca) φ H v z) (e : setM o i v h = some h3) (hQ : ∀ H', Ext (dm X ca) φ φ H H' → Rep (dm X ca) φ h3 H' → Q H') : wpAny (model X.prog X.w) X.A (setItem ov iv u) (fun _ s' => ∃ H', Inv X pins σ H' s' ∧ Q H') X.xe s := by
  cases w1 with
  | @ref m a hm =>
    unfold setM at e
    dsimp only at e
    split at e
    · rename_i xs q1
      cases w2 with
      | int k =>
        dsimp only at e
        split at e
        · rename_i j q2
          cases e
          obtain ⟨ys, g1, g2⟩ := rp.lst hm q1
          have mu : Mut (H a) := by rw [g1]; exact True.intro
          exact set_list pins s σ H _ _ z ov iv u _ I r1 r2 r3 ⟨a, ys, k, j, rfl, rfl, g1, by rw [← g2.length]; exact q2, hQ _ (Ext.mut hm mu) (rp.set hm mu ⟨_, upd_same, ((g2.set w3 j).ext (Ext.mut hm mu))⟩)⟩
        · cases e
      | _ => cases e
    · rename_i kvs q1
      split at e
      · rename_i hf
        cases e
        obtain ⟨f1, f2⟩ := Bool.and_eq_true_iff.mp hf
        exact dset_ok hr I rp q1 r1 r2 r3 (.ref hm) w2 w3 f1 (of_decide_eq_true f2) hQ
      · cases e
    · cases e
  | _ => cases e
theorem sg_sub (hs : noslice r = true) (ha : SE L P G n l ma) (hb : SE L P G n r mb) : SG L P G n (.Subscript l r pos) [] (subA ma mb) := fun X W k tk => ⟨fun pins s σ H v u Q I rv ⟨φ, h0, ρ, a, rp, er, w, f⟩ => by
  rw [asg_sub hs]
  refine wpAny_bind (wpAny_holding (thn ((ha X W k tk).run pins s σ H (fun x H1 => ∃ φ1 h1 o, Ext (dm X L.ca) φ φ1 H H1 ∧ Rep (dm X L.ca) φ1 h1 H1 ∧ VR (dm X L.ca) φ1 H1 o x ∧ ma ρ h0 = .ok o h1) I ⟨φ, h0, ρ, rp, er, ?_⟩) fun ov s1 ⟨x, H1, I1, r1, φ1, h1, o, p1, rp1, w1, e1⟩ => ?_))
  · unfold subA at f
    cases e : ma ρ h0 with
    | ok o h1 => exact fun φ1 H1 x p r w => ⟨φ1, h1, o, p, r, w, rfl⟩
    | exc c fs h1 => rw [e] at f; exact fun φ1 H1 d p r xr => f φ1 H1 σ d p r (er.ext p) xr
    | bad => rw [e] at f; exact f
  · unfold subA at f
    rw [e1] at f
    dsimp only at f
    refine wpAny_bind (wpAny_holding (thn ((hb X W k tk).run pins s1 σ H1 (fun y H2 => ∃ φ2 h2 i, Ext (dm X L.ca) φ1 φ2 H1 H2 ∧ Rep (dm X L.ca) φ2 h2 H2 ∧ VR (dm X L.ca) φ2 H2 i y ∧ mb ρ h1 = .ok i h2) I1 ⟨φ1, h1, ρ, rp1, er.ext p1, ?_⟩) fun iv s2 ⟨y, H2, I2, r2, φ2, h2, i, p2, rp2, w2, e2⟩ => ?_))
    · cases e : mb ρ h1 with
      | ok i h2 => exact fun φ2 H2 y p r w => ⟨φ2, h2, i, p, r, w, rfl⟩
      | exc c fs h2 => rw [e] at f; exact fun φ2 H2 d p r xr => f φ2 H2 σ d (p1.trans p) r ((er.ext p1).ext p) xr
      | bad => rw [e] at f; exact f
    · rw [e2] at f
      dsimp only at f
      cases e3 : setM o i a h2 with
      | none => rw [e3] at f; exact f.elim
      | some h3 =>
        rw [e3] at f
        have p3 := p1.trans p2
        refine wpAny_bind (wpAny_standAt (wpAny_bind (wpAny_holding (thn (setM_ok (Q := fun H' => ∃ φ3, Ext (dm X L.ca) φ φ3 H H' ∧ Rep (dm X L.ca) φ3 h3 H') k.room I2 rp2 r1 r2 rv (w1.ext p2) w2 (w.ext p3) e3 fun H' p r => ⟨φ2, p3.trans p, r⟩) fun _ s3 ⟨H3, I3, φ3, p4, rp3⟩ => ?_))))
        exact wpAny_release ⟨σ, H3, I3, f φ3 H3 σ p4 rp3 (er.ext p4) (Off.refl _ _)⟩⟩
end
end Mi

set_option Elab.async false
set_option linter.all false
set_option maxRecDepth 100000
set_option maxHeartbeats 2000000
/-! Snd10: list comprehensions. -/
namespace Mi
open PySem PySem.Spec PyProof.Rows L2
def turnM (g : MV → Env → MH → SOut) (mt : Env → MH → Out Bool) (me : Env → MH → Out MV) (vs : List Nat) (I : Mi.It) (ρ : Env) : Nat → MH → Out (Option (Option MV)) := fun i h2 => match I.at_ i h2 with
        | none => .bad
        | some none => .ok none h2
        | some (some v) => match g v (Mi.wipe ρ vs) h2 with
          | .next ρ3 h3 => (mt ρ3 h3).bind fun b h4 => if b then (me ρ3 h4).bind fun x h5 => .ok (some (some x)) h5 else .ok (some none) h4
          | _ => .bad
def lcR (mi : Env → MH → Out Mi.It) (g : MV → Env → MH → SOut) (mt : Env → MH → Out Bool) (me : Env → MH → Out MV) (vs : List Nat) (fuel : Nat) : Env → MH → Out MV := fun ρ h =>
  (mi ρ h).bind fun I h1 => (lcM (turnM g mt me vs I ρ) fuel 0 [] h1).bind fun xs h2 => alloc (.lst xs) h2
abbrev Wn : WX := fun _ _ _ _ => False
theorem upd_self {H : Hp} {a : Addr} {o : HO} (e : H a = some o) : upd H a o = H := by
  funext b
  unfold upd
  by_cases h : b = a
  · rw [if_pos h, h, e]
  · rw [if_neg h]
section
variable {D : Dm} {W : WX} {σ : St} {H : Hp} {Q : VK} {mi : Env → MH → Out Mi.It} {g : MV → Env → MH → SOut} {mt : Env → MH → Out Bool} {me : Env → MH → Out MV} {vs ss : List Nat} {fuel : Nat}
theorem lc_rd (hss : ∀ j ∈ ss, j ∈ vs) (h : tE D W (lcR mi g mt me vs fuel) σ H Q) : tLc (tI D W mi) (tGm D Wn ss g) (tT D Wn mt) (tE D Wn me) vs σ H Q := by
  obtain ⟨φ, h0, ρ, rp, er, f⟩ := h
  have f : Fin D W (VR D) σ φ H Q ((mi ρ h0).bind _) := f
  refine ⟨φ, h0, ρ, rp, er, (f.first (S := IR D) Ext.refl).imp fun J H1 ⟨φ1, h1, I, e1, p1, rp1, ir⟩ => ?_⟩
  rw [e1] at f
  have f : Fin D W (VR D) σ φ H Q ((lcM (turnM g mt me vs I ρ) fuel 0 [] h1).bind fun xs h2 => alloc (.lst xs) h2) := f
  intro N hN
  have nN : N ∉ φ1 := rp1.notin hN
  have x0 : Ext D φ1 φ1 H1 (upd H1 N (.lst [])) := Ext.lay hN
  refine ⟨fun i m H' => ∃ φ' h' acc ys, Ext D φ1 φ' H1 H' ∧ Rep D φ' h' H' ∧ N ∉ φ' ∧ H' N = some (.lst ys) ∧ VRs D φ' H' acc ys ∧ Fin D W (VR D) σ φ H Q ((lcM (turnM g mt me vs I ρ) m i acc h').bind fun xs h2 => alloc (.lst xs) h2),
    ⟨fuel, φ1, h1, [], [], x0, rp1.upd hN, nN, upd_same, .nil, f⟩, ?_⟩
  rintro i m H' ⟨φ', h', acc, ys, x1, rp', nN', eN, wa, f'⟩
  have still : ∀ {φ2 H2}, Ext D φ' φ2 H' H2 → N ∉ φ2 ∧ H2 N = some (.lst ys) := fun x => by
    refine ⟨fun hm => ?_, x.fr N _ eN nN'⟩
    rcases x.fresh N hm with z | z
    · exact nN' z
    · rw [eN] at z; cases z
  cases m with
  | zero => exact f'.elim
  | succ m =>
    unfold lcM at f'
    obtain ⟨t1, t2⟩ := ir.turn x1 rp' i
    cases ea : I.at_ i h' with
    | none =>
      have et : turnM g mt me vs I ρ i h' = .bad := by unfold turnM; rw [ea]
      rw [et] at f'; exact f'.elim
    | some o =>
      cases o with
      | none =>
        have et : turnM g mt me vs I ρ i h' = .ok none h' := by unfold turnM; rw [ea]
        rw [et] at f'
        refine .inl ⟨t1 ea, ?_⟩
        have f' : Fin D W (VR D) σ φ H Q (alloc (.lst acc) h') := f'
        have mu : Mut (H' N) := by rw [eN]; exact True.intro
        have y1 : Ext D φ1 (φ' ++ [N]) H1 H' := ⟨x1.pre.trans ⟨[N], rfl⟩, x1.tk, fun a ha => (List.mem_append.mp ha).elim (x1.fresh a) fun z => .inr (by rw [List.mem_singleton.mp z]; exact hN), x1.fr⟩
        have y2 := rp'.adopt (u := .lst ys) (o := .lst acc) nN' (TK.mut mu) ⟨ys, upd_same, wa.mono ⟨[N], rfl⟩ (TK.mut mu)⟩
        rw [upd_self eN] at y2
        exact f' (φ' ++ [N]) H' _ (p1.trans y1) y2 (.ref (by rw [← rp'.len, List.getElem?_append_right (Nat.le_refl _)]; simp))
      | some v =>
        obtain ⟨t3, t4⟩ := t2 v ea
        refine .inr ⟨t3, fun H2 => ∃ φ' h' acc ys, Ext D φ1 φ' H1 H2 ∧ Rep D φ' h' H2 ∧ N ∉ φ' ∧ H2 N = some (.lst ys) ∧ VRs D φ' H2 acc ys ∧ Fin D W (VR D) σ φ H Q ((lcM (turnM g mt me vs I ρ) m (i + 1) acc h').bind fun xs h2 => alloc (.lst xs) h2), fun H2 w => ⟨m, Nat.lt_succ_self _, w⟩, fun x H2 hy => ?_⟩
        obtain ⟨φ2, x2, rp2, w2⟩ := t4 x H2 hy
        have x12 := x1.trans x2
        refine ⟨φ2, h', Mi.wipe ρ vs, v, rp2, (er.ext (p1.trans x12)).wipe vs, w2, ?_⟩
        have et : turnM g mt me vs I ρ i h' = (match g v (Mi.wipe ρ vs) h' with
          | .next ρ3 h3 => (mt ρ3 h3).bind fun b h4 => if b then (me ρ3 h4).bind fun x h5 => Out.ok (some (some x)) h5 else Out.ok (some none) h4
          | _ => Out.bad) := by
          unfold turnM
          rw [ea]
        rw [et] at f'
        clear et
        cases eg : g v (Mi.wipe ρ vs) h' with
        | next ρ3 h3 =>
          rw [eg] at f'
          intro φ3 H3 σ3 x3 rp3 er3 off
          refine ⟨off.wipe hss, φ3, h3, ρ3, rp3, er3, ?_⟩
          dsimp only at f'
          cases et : mt ρ3 h3 with
          | ok b h4 =>
            rw [et] at f'
            intro φ4 H4 b' x4 rp4 eb
            have eb : b = b' := eb
            subst eb
            have x14 := (x12.trans x3).trans x4
            cases b with
            | false =>
              rw [if_neg Bool.false_ne_true]
              obtain ⟨s1, s2⟩ := still ((x2.trans x3).trans x4)
              exact ⟨φ4, h4, acc, ys, x14, rp4, s1, s2, wa.ext ((x2.trans x3).trans x4), f'⟩
            | true =>
              rw [if_pos rfl]
              refine ⟨φ4, h4, ρ3, rp4, er3.ext x4, ?_⟩
              have f' : Fin D W (VR D) σ φ H Q ((match (me ρ3 h4).bind fun x h5 => Out.ok (some (some x)) h5 with
                | .ok none h1 => Out.ok acc h1
                | .ok (some none) h1 => lcM (turnM g mt me vs I ρ) m (i + 1) acc h1
                | .ok (some (some v)) h1 => if acc.length < line then lcM (turnM g mt me vs I ρ) m (i + 1) (acc ++ [v]) h1 else .bad
                | _ => .bad).bind fun xs h2 => alloc (.lst xs) h2) := f'
              cases ee : me ρ3 h4 with
              | ok z h5 =>
                rw [ee] at f'
                have f' : Fin D W (VR D) σ φ H Q ((if acc.length < line then lcM (turnM g mt me vs I ρ) m (i + 1) (acc ++ [z]) h5 else .bad).bind fun xs h2 => alloc (.lst xs) h2) := f'
                intro φ5 H5 y x5 rp5 w5
                have x25 := ((x2.trans x3).trans x4).trans x5
                obtain ⟨nN5, eN5⟩ := still x25
                have wa5 := wa.ext x25
                have x15 := x14.trans x5
                have mu : Mut (H5 N) := by rw [eN5]; exact True.intro
                by_cases hz : acc.length < line
                · rw [if_pos hz] at f'
                  refine ⟨ys, eN5, by rw [← wa5.length, ← line_eq]; exact hz, φ5, h5, acc ++ [z], ys ++ [y], ?_, rp5.off nN5 (TK.mut mu), nN5, upd_same, (wa5.append (.cons w5 .nil)).mono (List.prefix_refl _) (TK.mut mu), f'⟩
                  refine ⟨x15.pre, x15.tk.trans (TK.mut mu), x15.fresh, fun a u e hm => ?_⟩
                  rw [upd_ne (ne_of_none e hN)]
                  exact x15.fr a u e hm
                · rw [if_neg hz] at f'; exact f'.elim
              | exc c fs h5 => rw [ee] at f'; exact f'.elim
              | bad => rw [ee] at f'; exact f'.elim
          | exc c fs h4 => rw [et] at f'; exact f'.elim
          | bad => rw [et] at f'; exact f'.elim
        | exc c fs ρ3 h3 => rw [eg] at f'; exact f'.elim
        | ret v3 h3 => rw [eg] at f'; exact f'.elim
        | brk ρ3 h3 => rw [eg] at f'; exact f'.elim
        | cnt ρ3 h3 => rw [eg] at f'; exact f'.elim
        | bad => rw [eg] at f'; exact f'.elim
end
end Mi

set_option Elab.async false
set_option linter.all false
set_option maxRecDepth 100000
set_option maxHeartbeats 2000000
/-! SndZ: enumerate and zip walked. -/
namespace Mi
open PySem PySem.Spec PyProof.Rows L2
/-- what a value is as a source -/
def SrcOf (K : PySem.W.Frag) (H : Hp) : V → Src → Prop
  | .ref a, S => (S = .lst a ∧ ∃ xs, SqL K H a xs) ∨ (S = .tup a ∧ ∃ xs, SqT K H a xs)
  | .str x, S => ∃ t, S = .str x t
  | _, _ => False
/-- no list is a tuple -/
def Excl (K : PySem.W.Frag) (H : Hp) : Prop := ∀ b xs ys, SqL K H b xs → SqT K H b ys → False
theorem excl_of {X : Cx} {pins : List (Addr × Obj)} {σ : L2.St} {H : Hp} {s : Shared} (I : Inv X pins σ H s) : Excl X.K H := fun b xs ys h1 h2 => by
  obtain ⟨its, rv, p, _⟩ := I.list h1
  obtain ⟨its2, rv2, p2, _⟩ := I.tuple h2
  obtain ⟨o, ho, hc, _⟩ := p.isList
  obtain ⟨o2, ho2, hc2, _⟩ := p2
  rw [ho] at ho2
  cases ho2
  rw [hc] at hc2
  exact absurd (Value.type.inj hc2) (by decide)
theorem src_begins {X : Cx} {pins : List (Addr × Obj)} {σ : L2.St} {H : Hp} {s : Shared} {v : V} {u : Value} (I : Inv X pins σ H s) (rv : RelV v u) (e : ∃ S, SrcOf X.K H v S) :
    ∃ S o Hh, SrcOf X.K H v S ∧ Begins u o Hh ∧ Hh s.heap ∧ (∀ h' it, h'.get? it = some o → S.tn it 0 h') ∧ ∀ b, s.heap.objs.size ≤ b → S.off b := by
  obtain ⟨S0, h⟩ := e
  cases v with
  | ref a =>
    cases rv
    rcases h with ⟨rfl, xs, hq⟩ | ⟨rfl, xs, hq⟩
    · obtain ⟨its, rv, p, _⟩ := I.list hq
      exact ⟨.lst a, _, _, .inl ⟨rfl, xs, hq⟩, begins_list a its.toArray, p.isList, fun h' it e => ⟨_, e, rfl, rfl⟩, fun b hb => Nat.ne_of_lt (Nat.lt_of_lt_of_le p.lt hb)⟩
    · obtain ⟨its, rv, p, _⟩ := I.tuple hq
      exact ⟨.tup a, _, _, .inr ⟨rfl, xs, hq⟩, begins_tuple a its.toArray, p, fun h' it e => ⟨_, e, rfl, rfl⟩, fun b hb => Nat.ne_of_lt (Nat.lt_of_lt_of_le (by obtain ⟨o, ho, _⟩ := p; exact Heap.lt_size ho) hb)⟩
  | str x =>
    obtain ⟨t, rfl⟩ := rv
    exact ⟨.str x t, _, _, ⟨t, rfl⟩, begins_text x t, trivial, fun h' it e => ⟨_, e, rfl, rfl⟩, fun _ _ => trivial⟩
  | _ => exact h.elim
section
variable {X : Cx} {e e2 : Expr} {ta : TA} {p pos tpos : Pos} {elts : List Expr} {kk : Nat}
theorem pi_zipS (hg : Gl X "zip") (hm : X.mg "zip" = none) (ha : PA X [e, e2] ta) (hs : starEach [e, e2] X.env = (false, eval e X.env) :: starEach [e2] X.env) (hpl : (backTo pos (starEach [e2] X.env)).any (·.1) = false) :
    PI X (.Tuple elts kk tpos) (.Call (.Name "zip" p) [e, e2] [] pos) (fun σ H R => ta σ H fun vs H1 => ∃ v w, vs = [v, w] ∧ (∃ S, SrcOf X.K H1 v S) ∧ (∃ S, SrcOf X.K H1 w S) ∧ (Excl X.K H1 → ∀ S T, SrcOf X.K H1 v S → SrcOf X.K H1 w T → R (ItzS X.K S T) H1)) := by
  refine ⟨fun pins s σ H R I h => ?_⟩
  refine Call_ (ld_blt I hg hm PyProof.Rows.boot_zip (PyProof.Rows.callWith_type1 (thn (ha.run pos pins s σ H _ I h) fun us s1 ⟨vs, H1, I1, r1, v, w, ev, x1, x2, q⟩ => ?_) hs hpl))
  subst ev
  cases r1 with
  | cons r rr =>
    cases rr with
    | cons r' rr =>
      cases rr
      obtain ⟨S, o1, h1, s1', b1, k1, t1, off1⟩ := src_begins I1 r x1
      obtain ⟨T, o2, h2, s2', b2, k2, t2, off2⟩ := src_begins I1 r' x2
      refine zip_begins2 b1 b2 k1 k2 fun h' hz hTI hTO g1 g2 hsz hk => wpAny_pyIter_zip hz ?_
      have I2 : Inv X pins σ H1 { s1 with heap := h' } := I1.kept (t' := s1.toks) hk
      have hle : ∀ c ∈ [s1.heap.objs.size + 4, s1.heap.objs.size + 2, s1.heap.objs.size + 3, s1.heap.objs.size, s1.heap.objs.size + 1], s1.heap.objs.size ≤ c := fun c hcm => by
        have e' : c = s1.heap.objs.size + 4 ∨ c = s1.heap.objs.size + 2 ∨ c = s1.heap.objs.size + 3 ∨ c = s1.heap.objs.size ∨ c = s1.heap.objs.size + 1 := by simpa using hcm
        rcases e' with z | z | z | z | z <;> (rw [z]; first | exact Nat.le_add_right _ _ | exact Nat.le_refl _)
      refine ⟨s1.heap.objs.size + 4, [s1.heap.objs.size + 4, s1.heap.objs.size + 2, s1.heap.objs.size + 3, s1.heap.objs.size, s1.heap.objs.size + 1], _, _, H1, rfl, I2, turn_zipS (S1 := S) (S2 := T) ⟨?_, fun b hb => off1 b (hle b hb), fun b hb => off2 b (hle b hb)⟩, ⟨hz, hTI, ⟨_, _, hTO⟩, t1 _ _ g1, t2 _ _ g2⟩, fun c hcm => I1.fpOk (hle c hcm) (I1.hok.fresh (hle c hcm)), q (excl_of I1) S T s1' s2'⟩
      generalize s1.heap.objs.size = N
      have n1 : ∀ a b : Nat, a ≠ b → (N + a : Nat) ≠ N + b := fun a b h => by omega
      simp only [List.nodup_cons, List.mem_cons, not_or, List.not_mem_nil, not_false_eq_true, List.nodup_nil, and_true]
      exact ⟨⟨n1 4 2 (by decide), n1 4 3 (by decide), n1 4 0 (by decide), n1 4 1 (by decide)⟩, ⟨n1 2 3 (by decide), n1 2 0 (by decide), n1 2 1 (by decide)⟩, ⟨n1 3 0 (by decide), n1 3 1 (by decide)⟩, n1 0 1 (by decide)⟩
theorem pi_enumS (hg : Gl X "enumerate") (hm : X.mg "enumerate" = none) (ha : PA X [e] ta) (hs : starEach [e] X.env = [(false, eval e X.env)]) :
    PI X (.Tuple elts kk tpos) (.Call (.Name "enumerate" p) [e] [] pos) (fun σ H R => ta σ H fun vs H1 => (∃ a xs, vs = [.ref a] ∧ SqL X.K H1 a xs ∧ R (IteS X.K (.lst a)) H1) ∨ ∃ x, vs = [.str x] ∧ ∀ t, R (IteS X.K (.str x t)) H1) := by
  refine ⟨fun pins s σ H R I h => ?_⟩
  refine Call_ (ld_blt I hg hm boot_enumerate (PyProof.Rows.callWith_type1 (thn (ha.run pos pins s σ H _ I h) fun us s1 ⟨vs, H1, I1, r1, q1⟩ => ?_) hs rfl))
  have hle : ∀ b ∈ [s1.heap.objs.size + 1, s1.heap.objs.size], s1.heap.objs.size ≤ b := fun b hb => by
    have e' : b = s1.heap.objs.size + 1 ∨ b = s1.heap.objs.size := by simpa using hb
    rcases e' with z | z
    · rw [z]; exact Nat.le_add_right _ _
    · rw [z]; exact Nat.le_refl _
  rcases q1 with ⟨a, xs, ev, hq, q⟩ | ⟨x, ev, q⟩
  · subst ev
    cases r1 with
    | cons r rr =>
      cases rr
      cases r
      obtain ⟨its, rv, p', hz⟩ := I1.list hq
      refine call_enumerate_list p'.isList fun h' he hit hsz hk => wpAny_pyIter_enum he ?_
      have I2 : Inv X pins σ H1 { s1 with heap := h' } := I1.kept (t' := s1.toks) hk
      exact ⟨s1.heap.objs.size + 1, [s1.heap.objs.size + 1, s1.heap.objs.size], _, _, H1, rfl, I2, turn_enumS (.lst a) (s1.heap.objs.size + 1) s1.heap.objs.size, ⟨⟨.none, he⟩, hit, Nat.succ_ne_self _, Nat.ne_of_lt (Nat.lt_succ_of_lt p'.lt), Nat.ne_of_lt p'.lt⟩, fun b hb => I1.fpOk (hle b hb) (I1.hok.fresh (hle b hb)), q⟩
  · subst ev
    cases r1 with
    | cons r rr =>
      cases rr
      obtain ⟨t, rfl⟩ := r
      refine call_enumerate_str fun h' he hit hsz hk => wpAny_pyIter_enum he ?_
      have I2 : Inv X pins σ H1 { s1 with heap := h' } := I1.kept (t' := s1.toks) hk
      exact ⟨s1.heap.objs.size + 1, [s1.heap.objs.size + 1, s1.heap.objs.size], _, _, H1, rfl, I2, turn_enumS (.str x t) (s1.heap.objs.size + 1) s1.heap.objs.size, ⟨⟨.none, he⟩, hit, Nat.succ_ne_self _, trivial, trivial⟩, fun b hb => I1.fpOk (hle b hb) (I1.hok.fresh (hle b hb)), q t⟩
end
theorem srV_of {D : Dm} {φ : List Addr} {H : Hp} {h : MH} {a : MV} {x : V} {s : Sr} (rp : Rep D φ h H) (w : VR D φ H a x) (e : srV a h = some s) : (∃ S, SrcOf D.K H x S) ∧ (Excl D.K H → ∀ S, SrcOf D.K H x S → SR D φ H s S) := by
  cases w with
  | @tup xs p ys h1 h2 =>
    cases e
    refine ⟨⟨.tup p, .inr ⟨rfl, ys, h1⟩⟩, fun nb S hS => ?_⟩
    rcases hS with ⟨rfl, zs, hq⟩ | ⟨rfl, zs, hq⟩
    · exact (nb p _ _ hq h1).elim
    · exact ⟨p, ys, h1, h2, rfl⟩
  | @ref n p hm =>
    unfold srV at e
    dsimp only at e
    have key : ∀ xs, (h[n]? = some (.lst xs) ∨ h[n]? = some (.rol xs)) → s = .lst n → (∃ S, SrcOf D.K H (.ref p) S) ∧ (Excl D.K H → ∀ S, SrcOf D.K H (.ref p) S → SR D φ H s S) := fun xs q es => by
      obtain ⟨ys, g1, g2⟩ := rp.sql hm q
      refine ⟨⟨.lst p, .inl ⟨rfl, ys, g1⟩⟩, fun nb S hS => ?_⟩
      rcases hS with ⟨rfl, zs, hq⟩ | ⟨rfl, zs, hq⟩
      · subst es; exact ⟨p, hm, rfl⟩
      · exact (nb p _ _ g1 hq).elim
    split at e
    · rename_i xs q; cases e; exact key xs (.inl q) rfl
    · rename_i xs q; cases e; exact key xs (.inr q) rfl
    · cases e
  | str z =>
    cases e
    exact ⟨⟨.str z 0, 0, rfl⟩, fun _ S ⟨t, hS⟩ => ⟨t, hS⟩⟩
  | _ => cases e
section
variable {L : Lk} {P : Prog} {G : Sc} {n : Nat} {l r : Expr} {pos tpos : Pos} {elts : List Expr} {kk : Nat} {ma mb : Env → MH → Out MV}
theorem si_enm {p : Pos} (hg : G.gl "enumerate" = true) (hf : P.free.contains ("enumerate" : Str) = true) (hs : nostar l = true) (ha : SE L P G n l ma) : SI L P G n (.Tuple elts kk tpos) (.Call (.Name "enumerate" p) [l] [] pos) (fun ρ h => (ma ρ h).bind fun v h1 => .of h1 (enmM h1 [v])) := fun X W k tk => ⟨fun pins s σ H R I ⟨φ, h0, ρ, rp, er, f⟩ => by
  obtain ⟨g1, g2, g3⟩ := k.gl hg
  have hm : X.mg ("enumerate" : Str) = none := by rw [k.mg]; exact k.ok.free _ (by simpa using hf)
  refine (pi_enumS g1 hm (pa_cons (ha X W k tk) pa_nil (star_cons hs)) (star_cons hs)).run pins s σ H R I ⟨φ, h0, ρ, rp, er, (Fin.bind f).imp fun x H1 ⟨φ1, h1, as, p1, rp1, w1, f1⟩ => ?_⟩
  obtain ⟨J0, e, f2⟩ := of_fin (X := X) f1
  unfold enmM at e
  cases w1 with
  | @ref i b hm1 =>
    dsimp only at e
    obtain ⟨s0, e1, rfl⟩ := Option.map_eq_some_iff.mp e
    unfold srV at e1
    dsimp only at e1
    split at e1
    · rename_i xs q
      cases e1
      obtain ⟨ys, z1, z2⟩ := rp1.sql hm1 (.inl q)
      exact .inl ⟨b, ys, rfl, z1, f2.ok0 rp1 ⟨.lst b, ⟨b, hm1, rfl⟩, rfl⟩⟩
    · rename_i xs q
      cases e1
      obtain ⟨ys, z1, z2⟩ := rp1.sql hm1 (.inr q)
      exact .inl ⟨b, ys, rfl, z1, f2.ok0 rp1 ⟨.lst b, ⟨b, hm1, rfl⟩, rfl⟩⟩
    · cases e1
  | str z =>
    cases e
    exact .inr ⟨z, rfl, fun t => f2.ok0 rp1 ⟨.str z t, ⟨t, rfl⟩, rfl⟩⟩
  | _ => cases e⟩
theorem si_zip {p : Pos} (hg : G.gl "zip" = true) (hf : P.free.contains ("zip" : Str) = true) (hs : nostar l = true) (hs2 : nostar r = true) (ha : SE L P G n l ma) (hb : SE L P G n r mb) : SI L P G n (.Tuple elts kk tpos) (.Call (.Name "zip" p) [l, r] [] pos) (fun ρ h => (ma ρ h).bind fun v h1 => (mb ρ h1).bind fun w h2 => .of h2 (zipM h2 [v, w])) := fun X W k tk => ⟨fun pins s σ H R I ⟨φ, h0, ρ, rp, er, f⟩ => by
  obtain ⟨g1, g2, g3⟩ := k.gl hg
  have hm : X.mg ("zip" : Str) = none := by rw [k.mg]; exact k.ok.free _ (by simpa using hf)
  refine (pi_zipS g1 hm (pa_cons (ha X W k tk) (pa_cons (hb X W k tk) pa_nil (star_cons hs2)) (star_cons hs)) (star_cons hs) (by rw [star_cons hs2]; rfl)).run pins s σ H R I ⟨φ, h0, ρ, rp, er, (Fin.bind f).imp fun x H1 ⟨φ1, h1, a, p1, rp1, w1, f1⟩ =>
    ⟨φ1, h1, ρ, rp1, er.ext p1, (Fin.bind f1).imp fun y H2 ⟨φ2, h2, b, p2, rp2, w2, f2⟩ => ?_⟩⟩
  obtain ⟨J0, e, f3⟩ := of_fin (X := X) f2
  unfold zipM at e
  dsimp only at e
  cases q1 : srV a h2 with
  | none => rw [q1] at e; cases e
  | some s1 =>
    cases q2 : srV b h2 with
    | none => rw [q1, q2] at e; cases e
    | some s2 =>
      rw [q1, q2] at e
      cases e
      obtain ⟨x1, y1⟩ := srV_of rp2 (w1.ext p2) q1
      obtain ⟨x2, y2⟩ := srV_of rp2 w2 q2
      exact ⟨x, y, rfl, x1, x2, fun ex S T hS hT => f3.ok0 rp2 ⟨S, T, y1 ex S hS, y2 ex T hT, rfl⟩⟩⟩
end
end Mi

set_option Elab.async false
set_option linter.all false
set_option maxRecDepth 100000
set_option maxHeartbeats 2000000
/-! SndI: instances: attributes, properties, methods, new ones. -/
namespace Mi
open PySem PySem.Spec PyProof.Rows L2
section
variable {L : Lk} {P : Prog} {G : Sc} {n : Nat} {e l : Expr} {pos : Pos} {m ma : Env → MH → Out MV} {es : List Expr} {mm : Env → MH → Out (List MV)}
/-- the class of an instance -/
theorem XOk.clsI {X : Cx} (k : XOk L P G n X) {c : Nat} {K' : Mi.Cls} (h : icl P.cls c = some K') : L2.Cls X.K (L.ca c) ∧ MemK L K' (L.ca c) := by
  rw [k.K]
  obtain ⟨h1, h2⟩ := icl_of h
  exact ⟨(k.ok.cls c K' h1 h2).1.cls, k.ok.mem c K' h1 h2⟩
theorem getprop_R {X : Cx} {CX : CXT} {k : Nat} {C p g a dx : Addr} {fs : List (Str × V)} {f : Str} {sp : Sp} {E : XK} {pins : List (Addr × Obj)} {σ : St} {H : Hp} {s : Shared} {Q : VK} {b : Bool} {E' : Value → Shared → Prop} (I : Inv X pins σ H s) (ea : H a = some (.ins C dx fs)) (c : L2.Cls X.K C) (hp : PropOf X.K C f p g)
    (F : FnR X.prog X.w X.K X.mg X.base CX k g sp) (hr : Room (k + 1) X.A) (hx : Passes CX X.nox E) (h : sp [.ref a] H Q E) :
    wpAny (model X.prog X.w) X.A (getAttr (.ref a) f b) (EP X pins σ Q) E' s := by
  obtain ⟨mA, O, _, _, _, _⟩ := ins_get I.hok ea
  obtain ⟨od, J, _⟩ := O.look
  obtain ⟨rest, hrec⟩ := hp.rec_
  have I1 := I.tok (s.toks + 1)
  have hc : (PySem.W.clsIn X.K C).isSome = true := by
    obtain ⟨cd, hc, _⟩ := PySem.W.any_some c.hd
    rw [hc]
    rfl
  refine PySem.W.get_bind I.kIn J (PySem.W.plainGet_of (c.get f)).1 (PySem.W.findObj_data hc hp.at_ hp.get hp.tak) (PySem.W.plainGet_of (c.get f)).2 (wpAny_call (PySem.W.prop_get (s := { s with toks := s.toks + 1 }) I.kIn hrec ?_))
  refine codeAny_mono (F X.A.in1 X.stack { s with toks := s.toks + 1 } H [.ref a] [.ref a] Q E hr.in1 I1.env0.in1 (.cons rfl .nil) h) fun r s' hq => ?_
  cases r with
  | error er => exact False.elim (hx pins σ H { s with toks := s.toks + 1 } er s' (I1.wish _) hq)
  | ok fl =>
    cases fl with
    | ret u =>
      obtain ⟨v, H', I3, rv, q3⟩ := I1.after hq
      show wpAny _ _ (handedOut u) _ _ _
      rw [PySem.W.handedOut_of (handed_of rv)]
      exact wpAny_pure ⟨v, H', I3, rv, q3⟩
    | next => exact False.elim hq
    | brk => exact False.elim hq
    | cont => exact False.elim hq
theorem se_fld {f : Str} (hb : nosup l = true) (ha : SE L P G n l ma) : SE L P G n (.Attribute l f pos) (fun ρ h => (ma ρ h).bind fun v h1 => fldM (P.cfg (callM P n)) f v h1) := fun X W k tk => ⟨fun pins s σ H Q I ⟨φ, h0, ρ, rp, er, fi⟩ => by
  refine attr_of (base_of hb) (thn ((ha X W k tk).run pins s σ H _ I ⟨φ, h0, ρ, rp, er, fi.bind⟩) fun v s1 ⟨x, H1, I1, r1, φ1, h1, a, p1, rp1, w1, f1⟩ => ?_)
  unfold fldM at f1
  dsimp only at f1
  cases w1 with
  | @ref i b hm =>
    dsimp only at f1
    cases q : h1[i]? with
    | none => rw [q] at f1; exact f1.elim
    | some o =>
      rw [q] at f1
      cases o with
      | ins c fs =>
        dsimp only at f1
        cases hc : icl (P.cfg (callM P n)).cls c with
        | none => rw [hc] at f1; exact f1.elim
        | some K' =>
          rw [hc] at f1
          dsimp only at f1
          obtain ⟨cl, mk⟩ := k.clsI hc
          obtain ⟨dx, ys, g1, g2⟩ := rp1.ins hm q
          cases (show v = Value.ref b from r1)
          cases hf : K'.atts.contains f with
          | true =>
            rw [hf, if_pos rfl] at f1
            obtain ⟨z, ez, f2⟩ := of_fin (X := X) f1
            obtain ⟨y, ly, wy⟩ := (fe_get g2).1 z ez
            exact getattr_ok I1 g1 cl (by rw [k.K]; exact mk.att f (by simpa using hf)) ly fun u s2 I2 ru => ⟨y, H1, I2, ru, f2.ok0 rp1 wy⟩
          | false =>
            rw [hf, if_neg Bool.false_ne_true] at f1
            cases hm2 : K'.mems.find? fun m => m.prop && decide (m.name = f) with
            | none =>
              rw [hm2] at f1
              dsimp only at f1
              split at f1
              · rename_i hn
                obtain ⟨z, ez, f2⟩ := of_fin (X := X) f1
                obtain ⟨y, w, ⟨u, cn⟩, _⟩ := mk.con f z ez
                rw [← k.K] at cn
                exact getcon_ok I1 g1 cl cn ((fe_get g2).2 (by simpa using hn)) fun s2 I2 => ⟨y, H1, I2, cn.rel, f2.ok0 rp1 (w _ _ _)⟩
              · exact f1.elim
            | some mb =>
              rw [hm2] at f1
              dsimp only at f1
              have h1m := List.find?_some hm2
              simp only [Bool.and_eq_true, decide_eq_true_eq] at h1m
              obtain ⟨p, hp⟩ := mk.prp mb (List.mem_of_find?_eq_some hm2) h1m.1
              rw [h1m.2] at hp
              cases ec : callM P n mb.fn [.ref i] h1 with
              | ok z h2 =>
                have ec' : (P.cfg (callM P n)).call mb.fn [.ref i] h1 = .ok z h2 := ec
                rw [ec'] at f1
                obtain ⟨F, hF⟩ := callM_fn (P := P) (n := n) (f := mb.fn) (vs := [.ref i]) (h := h1) (fun e => by rw [ec] at e; cases e)
                obtain ⟨G1, G2, G4⟩ := k.ok.fn mb.fn F hF
                rw [← k.prog, ← k.w, ← k.K, ← k.mg, ← k.base] at G1
                rw [← k.K] at hp
                refine getprop_R (E := fun _ _ _ => False) I1 g1 cl hp G1 k.room (fun pins σ H s e s' _ cx => ?_) ⟨φ1, h1, [.ref i], ?_, ?_, ?_⟩
                · obtain ⟨_, _, _, _, _, _, _, _, _, _, _, _, z⟩ := cx
                  exact z.elim
                · rw [← k.dm]; exact rp1
                · rw [← k.dm]; exact .cons (.ref hm) .nil
                · rw [← k.dm, ec]
                  exact f1
              | exc cc fs h2 =>
                have ec' : (P.cfg (callM P n)).call mb.fn [.ref i] h1 = .exc cc fs h2 := ec
                rw [ec'] at f1; exact f1.elim
              | bad =>
                have ec' : (P.cfg (callM P n)).call mb.fn [.ref i] h1 = .bad := ec
                rw [ec'] at f1; exact f1.elim
      | _ => exact f1.elim
  | cls c =>
    dsimp only at f1
    cases hc : icl (P.cfg (callM P n)).cls c with
    | none => rw [hc] at f1; exact f1.elim
    | some K' =>
      rw [hc] at f1
      obtain ⟨cl, mk⟩ := k.clsI hc
      obtain ⟨z, ez, f2⟩ := of_fin (X := X) f1
      obtain ⟨y, w, _, mc, u, cr, cv⟩ := mk.con f z ez
      rw [← k.K] at cr cv
      cases (show v = Value.ref (L.ca c) from r1)
      exact ClX.getcval_ok I1 cr cv fun s2 I2 => ⟨y, H1, I2, cv.rel, f2.ok0 rp1 (w _ _ _)⟩
  | _ => exact f1.elim⟩
theorem mthF_ok {X : Cx} {φ : List Addr} {H : Hp} {h : MH} {f : Str} {a : MV} {x : V} {g : Nat} (k : XOk L P G n X) (rp : Rep (dm X L.ca) φ h H) (w : VR (dm X L.ca) φ H a x) (e : mthF (P.cfg (callM P n)) f a h = some g) :
    ∃ (p C dx : Addr) (ys : List (Str × V)), x = .ref p ∧ H p = some (.ins C dx ys) ∧ L2.Cls X.K C ∧ Meth X.K C f (L.fa g) ∧ ys.lookup f = none := by
  unfold mthF at e
  cases w with
  | @ref i b hm =>
    dsimp only at e
    split at e
    · rename_i c fs q
      split at e
      · rename_i hn
        split at e
        · rename_i K' hc
          obtain ⟨cl, mk⟩ := k.clsI hc
          obtain ⟨dx, ys, g1, g2⟩ := rp.ins hm q
          obtain ⟨mb, hm2, rfl⟩ := Option.map_eq_some_iff.mp e
          have h1m := List.find?_some hm2
          simp only [Bool.and_eq_true, Bool.not_eq_true', decide_eq_true_eq] at h1m
          have mt := mk.mth mb (List.mem_of_find?_eq_some hm2) h1m.1
          rw [h1m.2, ← k.K] at mt
          exact ⟨b, _, dx, ys, rfl, g1, cl, mt, (fe_get g2).2 (by simpa using hn)⟩
        · cases e
      · cases e
    · cases e
  | _ => cases e
/-- a call of a method of the text, without arguments -/
theorem se_umth0 {f : Str} {ap : Pos} (hb : nosup l = true) (hl : (ap.endLine == pos.line) = true) (ho : SE L P G n l ma) :
    SE L P G n (.Call (.Attribute l f ap) [] [] pos) (fun ρ h => (ma ρ h).bind fun v h1 => match mthF (P.cfg (callM P n)) f v h1 with
      | some g => callM P n g [v] h1
      | none => .bad) := fun X W k tk => ⟨fun pins s σ H Q I ⟨φ, h0, ρ, rp, er, fi⟩ => by
  rw [arm_eval_Call, base_of hb]
  refine wpAny_bind (thn ((ho X W k tk).run pins s σ H _ I ⟨φ, h0, ρ, rp, er, Fin.bind fi⟩) fun v s1 ⟨x, H1, I1, r1, φ1, h1, a, p1, rp1, w1, f1⟩ => ?_)
  dsimp only at f1
  cases q : mthF (P.cfg (callM P n)) f a h1 with
  | none => rw [q] at f1; exact f1.elim
  | some g =>
    rw [q] at f1
    have f1 : Fin (dm X L.ca) W (VR (dm X L.ca)) σ φ1 H1 Q (callM P n g [a] h1) := f1
    obtain ⟨p, C, dx, ys, rfl, g1, cl, mt, ly⟩ := mthF_ok k rp1 w1 q
    cases (show v = Value.ref p from r1)
    have hform : methodCallForm (([] : List Expr).length + ([] : List Keyword).length) (backTo pos (starEach [] X.env)) (backToKw pos (keywordEach [] X.env)) = true := by
      rfl
    have hpos : methodCallPos true l X.env ap pos = pure pos := by unfold methodCallPos; simp [hl]
    refine wpAny_bind (wpAny_standAt ?_)
    unfold methodCall
    rw [hform]
    refine wpAny_bind (wpAny_holding (getmeth_ok I1 g1 cl mt ly ?_))
    refine wpAny_bind (wpAny_of_eq hpos ?_)
    exact PySem.W.callWith_K0 (first := [.ref p]) I1.kIn mt.kp (run_own (us := [.ref p]) k tk I1 (show L2.Vals [V.ref p] [Value.ref p] from .cons rfl .nil) rp1 (.cons w1 .nil) f1)⟩
/-- a call of a method of the text, with arguments -/
theorem se_umth {f : Str} {ap : Pos} {e : Expr} (hb : nosup l = true) (hl : (ap.endLine == pos.line) = true) (he : nostar e = true) (hs : es.all nostar = true) (hn : es.length < 28) (ho : SE L P G n l ma) (ha : SA L P G n (e :: es) mm) :
    SE L P G n (.Call (.Attribute l f ap) (e :: es) [] pos) (fun ρ h => (ma ρ h).bind fun v h1 => match mthF (P.cfg (callM P n)) f v h1 with
      | some g => (mm ρ h1).bind fun vs h2 => callM P n g (v :: vs) h2
      | none => .bad) := fun X W k tk => ⟨fun pins s σ H Q I ⟨φ, h0, ρ, rp, er, fi⟩ => by
  rw [arm_eval_Call, base_of hb]
  refine wpAny_bind (thn ((ho X W k tk).run pins s σ H _ I ⟨φ, h0, ρ, rp, er, Fin.bind fi⟩) fun v s1 ⟨x, H1, I1, r1, φ1, h1, a, p1, rp1, w1, f1⟩ => ?_)
  dsimp only at f1
  cases q : mthF (P.cfg (callM P n)) f a h1 with
  | none => rw [q] at f1; exact f1.elim
  | some g =>
    rw [q] at f1
    have f1 : Fin (dm X L.ca) W (VR (dm X L.ca)) σ φ1 H1 Q ((mm ρ h1).bind fun vs h2 => callM P n g (a :: vs) h2) := f1
    obtain ⟨p, C, dx, ys, rfl, g1, cl, mt, ly⟩ := mthF_ok k rp1 w1 q
    cases (show v = Value.ref p from r1)
    have hform : methodCallForm ((e :: es).length + ([] : List Keyword).length) (backTo pos (starEach (e :: es) X.env)) (backToKw pos (keywordEach [] X.env)) = true := by
      have h1 : (backTo pos (starEach (e :: es) X.env)).all (fun x => !x.1) = true := plain_all (by rw [List.all_cons, he, hs]; rfl)
      unfold methodCallForm
      rw [h1]
      simp only [List.length_cons, List.length_nil, List.isEmpty_nil, if_true, Bool.true_and, keywordEach, backToKw, List.map_nil, List.all_nil, decide_eq_true_eq]
      omega
    have hpos : methodCallPos true l X.env ap pos = pure pos := by unfold methodCallPos; simp [hl]
    refine wpAny_bind (wpAny_standAt ?_)
    unfold methodCall
    rw [hform]
    refine wpAny_bind (wpAny_holding (getmeth_ok I1 g1 cl mt ly ?_))
    refine wpAny_bind (wpAny_of_eq hpos ?_)
    refine PySem.W.callWith_K (first := [.ref p]) (h₀ := X.base) I1.ok.mod.kin mt.kp (thn ((ha X W k tk).run pos pins s1 σ H1 _ I1 ⟨φ1, h1, ρ, rp1, er.ext p1, Fin.bind f1⟩) fun us s2 ⟨vs, H2, I2, r2, φ2, h2, as, p2, rp2, w2, f2⟩ => ⟨I2.kIn, ?_⟩) (star_cons he) (plain_back hs)
    exact run_own (us := .ref p :: us) k tk I2 (show L2.Vals (V.ref p :: vs) (Value.ref p :: us) from .cons rfl r2) rp2 (.cons (w1.ext p2) w2) f2⟩
/-- a class of the text is called, at this frame -/
theorem make_at {X : Cx} {cx : CXT} {k : Nat} {C g : Addr} {sp : Sp} {E : XK} {pins : List (Addr × Obj)} {σ : St} {H : Hp} {s : Shared} {Q : VK} {us : List Value} {vs : List V}
    (M : Mk X.K C g) (F : FnR X.prog X.w X.K X.mg X.base cx k g sp) (rm : Room (k + 1) X.A) (px : PassesAt cx X σ E) (I : Inv X pins σ H s) (r : Vals vs us)
    (hh : ∀ y dy, H y = none → H dy = none → dy ≠ y → sp (.ref y :: vs) (upd (upd H dy (.own y)) y (.ins C dy [])) (fun v H2 => v = .non ∧ Q (.ref y) H2) E) :
    wpAny (model X.prog X.w) X.A (call (.ref C) us) (EP X pins σ Q) X.xe s := by
  have q := hh (s.heap.objs.size + 1) s.heap.objs.size (I.hok.fresh (Nat.le_succ _)) (I.hok.fresh (Nat.le_refl _)) (Nat.ne_of_lt (Nat.lt_succ_self s.heap.objs.size))
  have J := Inv.made (C := C) I
  have rr : Vals (V.ref (s.heap.objs.size + 1) :: vs) (Value.ref (s.heap.objs.size + 1) :: us) := .cons rfl r
  have run := F _ X.stack _ _ (Value.ref (s.heap.objs.size + 1) :: us) _ _ E (rm.make C us []) (J.env0.make C us []) rr q
  refine wpAny_call (make_map (f := g) I.kIn M.makes M.init (beq_iff_eq.mp M.fn) (codeAny_mono run fun res s' z => ?_))
  match res, z with
  | .error e, z => exact px pins _ _ e s' J z
  | .ok (.ret u), z =>
    obtain ⟨v, H', I3, rv, ev, q3⟩ := J.after z
    subst ev
    exact ⟨rv, V.ref (s.heap.objs.size + 1), H', I3, rfl, q3⟩
  | .ok .next, z => exact z.elim
  | .ok .brk, z => exact z.elim
  | .ok .cont, z => exact z.elim
/-- a new instance -/
theorem mk_run {X : Cx} {W : WX} {c : Nat} {pins : List (Addr × Obj)} {s : Shared} {σ : St} {H : Hp} {Q : VK} {us : List Value} {vs : List V} {as : List MV} {φ : List Addr} {h : MH} (k : XOk L P G n X) (tk : Takes X W) (I : Inv X pins σ H s) (r : Vals vs us) (rp : Rep (dm X L.ca) φ h H) (w : VRs (dm X L.ca) φ H as vs)
    (f0 : Fin (dm X L.ca) W (VR (dm X L.ca)) σ φ H Q (mkM (P.cfg (callM P n)) c as h)) : wpAny (model X.prog X.w) X.A (call (.ref (L.ca c)) us) (EP X pins σ Q) X.xe s := by
  unfold mkM at f0
  cases hc : icl (P.cfg (callM P n)).cls c with
  | none => rw [hc] at f0; exact f0.elim
  | some K' =>
    rw [hc] at f0
    dsimp only at f0
    cases hi : K'.init with
    | none => rw [hi] at f0; exact f0.elim
    | some f =>
      rw [hi] at f0
      dsimp only at f0
      obtain ⟨cl, mk⟩ := k.clsI hc
      have M := mk.mkr f hi
      rw [← k.K] at M
      have cal : (P.cfg (callM P n)).call f (.ref h.length :: as) (h ++ [.ins c []]) = callM P n f (.ref h.length :: as) (h ++ [.ins c []]) := rfl
      rw [cal] at f0
      obtain ⟨F, hF⟩ := callM_fn (P := P) (n := n) (f := f) (vs := .ref h.length :: as) (h := h ++ [.ins c []]) (fun e => by rw [e] at f0; exact f0.elim)
      obtain ⟨G1, G2, G4⟩ := k.ok.fn f F hF
      rw [← k.prog, ← k.w, ← k.K, ← k.mg, ← k.base] at G1
      refine make_at (E := WE W σ) M G1 k.room (passAt tk σ) I r fun x dx hx hdx ne => ?_
      have e1 : Ext (dm X L.ca) φ φ H (upd H dx (.own x)) := Ext.lay hdx
      have hx1 : upd H dx (.own x) x = none := by rw [upd_ne (Ne.symm ne)]; exact hx
      have rp1 : Rep (dm X L.ca) φ h (upd H dx (.own x)) := rp.upd hdx
      have e2 : Ext (dm X L.ca) φ (φ ++ [x]) H (upd (upd H dx (.own x)) x (.ins (L.ca c) dx [])) := e1.trans (Ext.alloc hx1)
      have rp2 : Rep (dm X L.ca) (φ ++ [x]) (h ++ [.ins c []]) (upd (upd H dx (.own x)) x (.ins (L.ca c) dx [])) := rp1.alloc hx1 ⟨dx, [], upd_same, .nil⟩
      have hself : (φ ++ [x])[h.length]? = some x := by rw [← rp.len, List.getElem?_append_right (Nat.le_refl _)]; simp
      refine ⟨φ ++ [x], h ++ [.ins c []], .ref h.length :: as, ?_, ?_, ?_⟩
      · rw [← k.dm]; exact rp2
      · rw [← k.dm]; exact .cons (.ref hself) (w.ext e2)
      · rw [← k.dm]
        generalize callM P n f (.ref h.length :: as) (h ++ [.ins c []]) = o at f0
        cases o with
        | ok z h1 =>
          intro φ1 H1 y p1 rp' wy
          cases z with
          | non =>
            cases wy
            exact ⟨rfl, f0 φ1 H1 _ (e2.trans p1) rp' (.ref (pre_get p1.pre hself))⟩
          | _ => exact f0.elim
        | exc cc fs h1 => exact fun φ1 H1 d p1 rp' xr => f0 φ1 H1 d (e2.trans p1) rp' xr
        | bad => exact f0.elim
theorem cls_at {X : Cx} {c : Nat} {x : Str} (k : XOk L P G n X) (h : P.isCls c x = true) : ∃ f, Mk X.K (L.ca c) (L.fa f) ∧ X.mg x = some (.ref (L.ca c)) := by
  unfold Prog.isCls at h
  cases hc : icl P.cls c with
  | none => rw [hc] at h; cases h
  | some K' =>
    rw [hc] at h
    simp only [Bool.and_eq_true, decide_eq_true_eq] at h
    obtain ⟨f, hf⟩ := Option.isSome_iff_exists.mp h.2
    obtain ⟨cl, mk⟩ := k.clsI hc
    refine ⟨f, ?_, ?_⟩
    · rw [k.K]; exact mk.mkr f hf
    · rw [k.mg, ← h.1]; exact k.ok.at_ _ _ (icl_of hc).1
theorem se_mk0 {c : Nat} {x : Str} {p : Pos} (hg : G.gl x = true) (hf : P.isCls c x = true) : SE L P G n (.Call (.Name x p) [] [] pos) (fun ρ h => mkM (P.cfg (callM P n)) c [] h) := fun X W k tk => ⟨fun pins s σ H Q I ⟨φ, h0, ρ, rp, er, fi⟩ => by
  obtain ⟨g1, g2, g3⟩ := k.gl hg
  obtain ⟨f, M, hm⟩ := cls_at k hf
  refine wpAny_Call_Name_kw (ld_glob I g1 hm ?_ g2)
  exact PySem.W.callWith_K0 I.kIn M.kp (mk_run (us := []) k tk I .nil rp .nil fi)⟩
theorem se_mk {c : Nat} {x : Str} {p : Pos} {e : Expr} (hg : G.gl x = true) (hf : P.isCls c x = true) (he : nostar e = true) (hs : es.all nostar = true) (ha : SA L P G n (e :: es) mm) : SE L P G n (.Call (.Name x p) (e :: es) [] pos) (fun ρ h => (mm ρ h).bind fun vs h1 => mkM (P.cfg (callM P n)) c vs h1) := fun X W k tk => ⟨fun pins s σ H Q I ⟨φ, h0, ρ, rp, er, fi⟩ => by
  obtain ⟨g1, g2, g3⟩ := k.gl hg
  obtain ⟨f, M, hm⟩ := cls_at k hf
  refine wpAny_Call_Name_kw (ld_glob I g1 hm ?_ g2)
  refine PySem.W.callWith_K (h₀ := X.base) I.ok.mod.kin M.kp (thn ((ha X W k tk).run pos pins s σ H _ I ⟨φ, h0, ρ, rp, er, Fin.bind fi⟩) fun us s1 ⟨vs, H1, I1, r, φ1, h1, as, p1, rp1, w1, f1⟩ => ⟨I1.kIn, ?_⟩) (star_cons he) (plain_back hs)
  exact mk_run k tk I1 r rp1 w1 f1⟩
end
end Mi

set_option Elab.async false
set_option linter.all false
set_option maxRecDepth 100000
set_option maxHeartbeats 2000000
/-! SndC: classmethods, calls of a local that holds a class. -/
namespace Mi
open PySem PySem.Spec PyProof.Rows L2
section
variable {L : Lk} {P : Prog} {G : Sc} {n : Nat} {l : Expr} {pos : Pos} {ma : Env → MH → Out MV} {es : List Expr} {mm : Env → MH → Out (List MV)}
def cmthM (P : Prog) (n : Nat) (f : Str) (ma : Env → MH → Out MV) (mm : Env → MH → Out (List MV)) : Env → MH → Out MV := fun ρ h => (ma ρ h).bind fun v h1 => match v with
    | .cls c => match icl P.cls c with
      | some K => match K.cmts.lookup f with
        | some g => (mm ρ h1).bind fun vs h2 => callM P n g (v :: vs) h2
        | none => .bad
      | none => .bad
    | _ => .bad
theorem se_cmth {f : Str} {ap : Pos} {e : Expr} (hb : nosup l = true) (hl : (ap.endLine == pos.line) = true) (he : nostar e = true) (hs : es.all nostar = true) (hn : es.length < 28) (ho : SE L P G n l ma) (ha : SA L P G n (e :: es) mm) :
    SE L P G n (.Call (.Attribute l f ap) (e :: es) [] pos) (cmthM P n f ma mm) := fun X W k tk => ⟨fun pins s σ H Q I ⟨φ, h0, ρ, rp, er, fi⟩ => by
  rw [arm_eval_Call, base_of hb]
  refine wpAny_bind (thn ((ho X W k tk).run pins s σ H _ I ⟨φ, h0, ρ, rp, er, Fin.bind fi⟩) fun v s1 ⟨x, H1, I1, r1, φ1, h1, a, p1, rp1, w1, f1⟩ => ?_)
  dsimp only at f1
  cases w1 with
  | cls c =>
    dsimp only at f1
    cases hK : icl P.cls c with
    | none => rw [hK] at f1; exact f1.elim
    | some K' =>
      rw [hK] at f1
      dsimp only at f1
      cases hg : K'.cmts.lookup f with
      | none => rw [hg] at f1; exact f1.elim
      | some g =>
        rw [hg] at f1
        have f1 : Fin (dm X L.ca) W (VR (dm X L.ca)) σ φ1 H1 Q ((mm ρ h1).bind fun vs h2 => callM P n g (.cls c :: vs) h2) := f1
        cases (show v = Value.ref (L.ca c) from r1)
        obtain ⟨mc, p, cr, cm⟩ := (k.clsI hK).2.cmt f g hg
        rw [← k.K] at cr cm
        have hform : methodCallForm ((e :: es).length + ([] : List Keyword).length) (backTo pos (starEach (e :: es) X.env)) (backToKw pos (keywordEach [] X.env)) = true := by
          have h1 : (backTo pos (starEach (e :: es) X.env)).all (fun x => !x.1) = true := plain_all (by rw [List.all_cons, he, hs]; rfl)
          unfold methodCallForm
          rw [h1]
          simp only [List.length_cons, List.length_nil, List.isEmpty_nil, if_true, Bool.true_and, keywordEach, backToKw, List.map_nil, List.all_nil, decide_eq_true_eq]
          omega
        have hpos : methodCallPos true l X.env ap pos = pure pos := by unfold methodCallPos; simp [hl]
        refine wpAny_bind (wpAny_standAt ?_)
        unfold methodCall
        rw [hform]
        refine wpAny_bind (wpAny_holding (ClX.getmethcm_ok I1 cr cm fun s2 I2 => ?_))
        refine wpAny_bind (wpAny_of_eq hpos ?_)
        refine ClX.callwith_cm I2 (ClX.base_none I1 (Nat.le_refl _)) cm.fi (thn ((ha X W k tk).run pos _ s2 σ H1 _ I2 ⟨φ1, h1, ρ, rp1, er.ext p1, Fin.bind f1⟩) fun us s3 ⟨vs, H2, I3, rv, φ2, h2, as, p2, rp2, w2, f2⟩ => ⟨⟨ClX.pin_at I3, I3.kIn⟩, ?_⟩) (star_cons he) (plain_back hs)
        obtain ⟨F, hF, G1, G2, sp⟩ := spM_at (vs := .ref (L.ca c) :: vs) k rp2 (.cons (.cls c) w2) f2
        exact thn (wpAny_call (PySem.W.method_call (ClX.pin_at I3) (run_R (us := .ref (L.ca c) :: us) G1 (k.room.mono (by omega)) (passAt tk σ) I3 (show L2.Vals (V.ref (L.ca c) :: vs) (Value.ref (L.ca c) :: us) from .cons rfl rv) sp))) fun _ _ y => ClX.unpinE y
  | _ => exact f1.elim⟩
def callvM (P : Prog) (n : Nat) (i : Nat) (mm : Env → MH → Out (List MV)) : Env → MH → Out MV := fun ρ h => match slotO ρ i with
    | some (.cls c) => if (icl P.cls c).any (·.init.isSome) then (mm ρ h).bind fun vs h1 => mkM (P.cfg (callM P n)) c vs h1 else .bad
    | _ => .bad
theorem se_callv {i : Nat} {x : Str} {p : Pos} {e : Expr} (hv : G.vis i x = true) (he : nostar e = true) (hs : es.all nostar = true) (ha : SA L P G n (e :: es) mm) : SE L P G n (.Call (.Name x p) (e :: es) [] pos) (callvM P n i mm) := fun X W k tk => ⟨fun pins s σ H Q I ⟨φ, h0, ρ, rp, er, fi⟩ => by
  have fi : Fin (dm X L.ca) W (VR (dm X L.ca)) σ φ H Q (callvM P n i mm ρ h0) := fi
  unfold callvM at fi
  cases q : slotO ρ i with
  | none => rw [q] at fi; exact fi.elim
  | some v =>
    rw [q] at fi
    cases v with
    | cls c =>
      dsimp only at fi
      cases hc : (icl P.cls c).any (·.init.isSome) with
      | false => rw [hc] at fi; exact fi.elim
      | true =>
        rw [hc, if_pos rfl] at fi
        refine wpAny_Call_Name_kw ?_
        refine thn ((se_var hv X W k tk).run pins s σ H (fun x' H1 => x' = .ref (L.ca c) ∧ ∃ φ1, Ext (dm X L.ca) φ φ1 H H1 ∧ Rep (dm X L.ca) φ1 h0 H1) I ⟨φ, h0, ρ, rp, er, ?_⟩) fun v s1 ⟨x', H1, I1, r1, ex, φ1, p1, rp1⟩ => ?_
        · show Fin _ _ _ _ _ _ _ (Out.of h0 (slotO ρ i))
          rw [q]
          intro φ1 H1 y p1 rp1 w1
          cases w1
          exact ⟨rfl, φ1, p1, rp1⟩
        · subst ex
          obtain ⟨K', hK, hi⟩ : ∃ K', icl P.cls c = some K' ∧ K'.init.isSome = true := by
            cases z : icl P.cls c with
            | none => rw [z] at hc; cases hc
            | some K' => rw [z] at hc; exact ⟨K', rfl, hc⟩
          obtain ⟨f, hf⟩ := Option.isSome_iff_exists.mp hi
          have M := (k.clsI hK).2.mkr f hf
          rw [← k.K] at M
          cases (show v = Value.ref (L.ca c) from r1)
          refine PySem.W.callWith_K (h₀ := X.base) I1.ok.mod.kin M.kp (thn ((ha X W k tk).run pos pins s1 σ H1 _ I1 ⟨φ1, h0, ρ, rp1, er.ext p1, Fin.bind (fi.mono p1)⟩) fun us s1 ⟨vs, H1, I1, r, φ1, h1, as, p1, rp1, w1, f1⟩ => ⟨I1.kIn, ?_⟩) (star_cons he) (plain_back hs)
          exact mk_run k tk I1 r rp1 w1 f1
    | _ => exact fi.elim⟩
end
end Mi

set_option Elab.async false
set_option linter.all false
set_option maxRecDepth 100000
set_option maxHeartbeats 2000000
/-! SndX: what an except suite hands back. -/
namespace Mi
open PySem PySem.Spec PyProof.Rows L2
def xcV (L : Lk) : XC → Value
  | .own c => .ref (L.ca c)
  | .ve => .type "ValueError"
def xcT (L : Lk) : XC → V
  | .own c => .ref (L.ca c)
  | .ve => .ty "ValueError"
theorem xcRel (L : Lk) (x : XC) : RelV (xcT L x) (xcV L x) := by cases x <;> rfl
theorem xcRel' (L : Lk) (x : XC) (u : Value) (h : RelV (xcT L x) u) : u = xcV L x := by
  cases x with
  | own c => exact h
  | ve => exact h
/-- the reading: a the exception at hand, nm its name -/
def tX {α β : Type} (R : Dm → List Addr → Hp → α → β → Prop) (D : Dm) (a : Addr) (nm : Option Str) (N : List Str) (d : Option Addr) (m : List (Str × MV) → Mi.Env → Option α) (σ : L2.St) (H : Hp) (Q : β → Hp → Prop) : Prop :=
  ∃ φ h ρ fs v, Rep D φ h H ∧ ER D φ H ρ σ ∧ XR φ H fs d ∧ (∀ (x : Str) (i : Nat), nm = some x → N[i]? = some x → i < σ.length → σ[i]? = some (some (V.ref a))) ∧ m fs ρ = some v ∧ ∀ φ' H' y, Ext D φ φ' H H' → Rep D φ' h H' → R D φ' H' v y → Q y H'
/-- the name has a slot -/
def NmOk (G : Sc) (nm : Option Str) : Prop := ∀ x, nm = some x → ∃ i, G.vis i x = true
def SX (L : Lk) (P : Prog) (G : Sc) (lv : Nat) (nm : Option Str) (e : Expr) (m : Nat → List (Str × MV) → Mi.Env → Option MV) : Prop := ∀ (X : Cx) (a : Addr) (oe : Obj) (c : Nat) (d : Option Addr) (pn : List (Addr × Obj)), XOk L P G lv X → Zc (.ref (L.ca c)) d oe → (∃ vs, oe.data = .fields vs) → PE (X.suite a ((a, oe) :: pn)) e (tX VR (dm X L.ca) a nm X.N d (m c))
def SXs (L : Lk) (P : Prog) (G : Sc) (lv : Nat) (nm : Option Str) (es : List Expr) (m : Nat → List (Str × MV) → Mi.Env → Option (List MV)) : Prop := ∀ (X : Cx) (a : Addr) (oe : Obj) (c : Nat) (d : Option Addr) (pn : List (Addr × Obj)), XOk L P G lv X → Zc (.ref (L.ca c)) d oe → (∃ vs, oe.data = .fields vs) → PA (X.suite a ((a, oe) :: pn)) es (tX VRs (dm X L.ca) a nm X.N d (m c))
section
variable {L : Lk} {P : Prog} {G : Sc} {lv : Nat} {nm : Option Str} {ex l r : Expr} {es : List Expr} {pos p : Pos} {m ma mb : Nat → List (Str × MV) → Mi.Env → Option MV} {mm : Nat → List (Str × MV) → Mi.Env → Option (List MV)} {α β : Type} {R : Dm → List Addr → Hp → α → β → Prop}
theorem XOk.names {X : Cx} (k : XOk L P G lv X) {y : Str} {x : XC} (hg : G.gl y = true) (h : x.ok P y = true) : Names X y (xcV L x) := by
  obtain ⟨g1, g2, g3⟩ := k.gl hg
  refine ⟨g1, g2, ?_⟩
  cases x with
  | own c =>
    unfold XC.ok at h
    cases q : P.cls[c]? with
    | none => simp only [q] at h; cases h
    | some K' =>
      simp only [q, Bool.and_eq_true, decide_eq_true_eq] at h
      exact .inl (by rw [k.mg, ← h.1]; exact k.ok.at_ c K' q)
  | ve =>
    unfold XC.ok at h
    simp only [Bool.and_eq_true, decide_eq_true_eq, List.contains_iff_mem] at h
    obtain ⟨rfl, h⟩ := h
    exact .inr ⟨by rw [k.mg]; exact k.ok.free _ h, show bootBuiltins (Str.ofString "ValueError") = some (.type "ValueError") by decide +kernel, by decide⟩
theorem pe_xc {X : Cx} {y : Str} {x : XC} (h : Names X y (xcV L x)) (a : Addr) (pn : List (Addr × Obj)) : PE (X.suite a pn) (.Name y p) (tC (xcT L x)) := by
  obtain ⟨h1, h2, h3 | ⟨h3, h4, h5⟩⟩ := h
  · exact pe_glob (X := X.suite a pn) h1 h3 (xcRel L x) h2
  · exact pe_bltn (X := X.suite a pn) h1 h3 h4 (xcRel L x) h5 h2
theorem sx_lit {c : Const} {j : Nat} {v : MV} (hp : ∀ X, ∃ y, PE X (.Constant c j pos) (tC y) ∧ ∀ D φ H, VR D φ H v y) : SX L P G lv nm (.Constant c j pos) (fun _ _ _ => some v) := fun X a oe c' d pn k hz hf => ⟨fun pins s σ H Q I ⟨φ, h0, ρ, fs, w, rp, er, xr, hn, e, q⟩ => by
  obtain ⟨y, h1, h2⟩ := hp (X.suite a ((a, oe) :: pn))
  cases e
  exact h1.run pins s σ H Q I (q φ H y Ext.refl rp (h2 _ _ _))⟩
theorem slotO_get {ρ : Env} {i : Nat} {v : MV} (e : slotO ρ i = some v) : ρ[i]? = some (some v) := by
  unfold slotO at e
  split at e
  · rename_i q; cases e; exact q
  · cases e
theorem sx_var {i : Nat} {x : Str} (hv : G.vis i x = true) : SX L P G lv nm (.Name x pos) (fun _ _ ρ => slotO ρ i) := fun X a oe c d pn k hz hf => ⟨fun pins s σ H Q I ⟨φ, h0, ρ, fs, v, rp, er, xr, hn, e, q⟩ => by
  obtain ⟨h1, h2, h3, h4⟩ := k.vis hv
  obtain ⟨y, hy, w⟩ := er.at_ i v (slotO_get e)
  exact (pe_var (X := X.suite a ((a, oe) :: pn)) h1 h2 h3 h4).run pins s σ H Q I ⟨y, hy, q φ H y Ext.refl rp w⟩⟩
/-- the exception itself -/
theorem pe_nm {X : Cx} {a : Addr} {pn : List (Addr × Obj)} (k : XOk L P G lv X) (hm : NmOk G nm) {x : Str} (hx : nm = some x) : ∃ i, X.N[i]? = some x ∧ PE (X.suite a pn) (.Name x pos) (tVar i) := by
  obtain ⟨i, hi⟩ := hm x hx
  obtain ⟨h1, h2, h3, h4⟩ := k.vis hi
  exact ⟨i, h1, pe_var (X := X.suite a pn) h1 h2 h3 h4⟩
theorem sx_xf {f x : Str} (hm : NmOk G nm) (hx : nm = some x) : SX L P G lv nm (.Attribute (.Name x p) f pos) (fun c fs _ => match P.cls[c]? with
    | some K => if K.exc = some (some f) then fget fs f else none
    | none => none) := fun X a oe c d pn k hz hf => ⟨fun pins s σ H Q I ⟨φ, h0, ρ, fs, v, rp, er, xr, hn, e, q⟩ => by
  obtain ⟨i, hi, hp⟩ := pe_nm (pos := p) (a := a) (pn := (a, oe) :: pn) k hm hx
  cases hK : P.cls[c]? with
  | none => simp only [hK] at e; cases e
  | some K' =>
    simp only [hK] at e
    by_cases hk : K'.exc = some (some f)
    · rw [if_pos hk] at e
      have X1 := k.ok.exc c K' hK (by rw [hk]; rfl)
      have xf := X1.xf
      have at_ := X1.att f hk
      rw [← k.K] at xf at_
      obtain ⟨f', v', y, dd, e1, e2, e3, e4, e5, e6⟩ := xr
      subst e1
      unfold fget at e
      rw [List.lookup_cons] at e
      cases z : (f == f') with
      | false => rw [z] at e; cases e
      | true =>
        rw [z] at e
        obtain rfl := eq_of_beq z
        cases e
        refine (pe_xf (pos := pos) xf at_ hz hf hp).run pins s σ H Q I ⟨.ref a, hn x i hx hi (by rw [I.len]; exact (List.getElem?_eq_some_iff.mp hi).1), rfl, rfl, dd, [(f, y)], y, e2, e4, ?_, q φ H y Ext.refl rp (e6 _ _ _)⟩
        rw [List.lookup_cons, z]
    · rw [if_neg hk] at e; cases e⟩
theorem sxs_nil : SXs L P G lv nm [] (fun _ _ _ => some []) := fun X a oe c d pn k hz hf => ⟨fun ps pins s σ H Q I ⟨φ, h0, ρ, fs, v, rp, er, xr, hn, e, q⟩ => by
  cases e
  exact pa_nil.run ps pins s σ H Q I (q φ H [] Ext.refl rp .nil)⟩
def x2 {α β γ : Type} (f : Option α) (g : Option β) (k : α → β → Option γ) : Option γ := match f, g with
  | some v, some w => k v w
  | _, _ => none
theorem x2_some {α β γ : Type} {f : Option α} {g : Option β} {k : α → β → Option γ} {v : γ} (e : x2 f g k = some v) : ∃ x y, f = some x ∧ g = some y ∧ k x y = some v := by
  cases f with
  | none => cases e
  | some x => cases g with
    | none => cases e
    | some y => exact ⟨x, y, rfl, rfl, e⟩
theorem sxs_cons (hs : nostar l = true) (ha : SX L P G lv nm l ma) (hb : SXs L P G lv nm es mm) : SXs L P G lv nm (l :: es) (fun c fs ρ => x2 (ma c fs ρ) (mm c fs ρ) fun v vs => some (v :: vs)) := fun X a oe c d pn k hz hf => ⟨fun ps pins s σ H Q I ⟨φ, h0, ρ, fs, v, rp, er, xr, hn, e, q⟩ => by
  obtain ⟨v1, vs, e1, e2, e3⟩ := x2_some e
  cases e3
  exact (pa_cons (ha X a oe c d pn k hz hf) (hb X a oe c d pn k hz hf) (star_cons hs)).run ps pins s σ H Q I ⟨φ, h0, ρ, fs, v1, rp, er, xr, hn, e1, fun φ1 H1 y p1 rp1 w1 => ⟨φ1, h0, ρ, fs, vs, rp1, er.ext p1, xr.ext p1, hn, e2, fun φ2 H2 ys p2 rp2 w2 => q φ2 H2 (y :: ys) (p1.trans p2) rp2 (.cons (w1.ext p2) w2)⟩⟩⟩
theorem sx_tup {k1 : Nat} (hl : es.length ≤ line) (ha : SXs L P G lv nm es mm) (hlen : ∀ c fs ρ vs, mm c fs ρ = some vs → vs.length = es.length) : SX L P G lv nm (.Tuple es k1 pos) (fun c fs ρ => (mm c fs ρ).map .tup) := fun X a oe c d pn k hz hf => ⟨fun pins s σ H Q I ⟨φ, h0, ρ, fs, v, rp, er, xr, hn, e, q⟩ => by
  obtain ⟨vs, e1, rfl⟩ := Option.map_eq_some_iff.mp e
  refine (L2.pe_tup (ha X a oe c d pn k hz hf)).run pins s σ H Q I ⟨φ, h0, ρ, fs, vs, rp, er, xr, hn, e1, fun φ1 H1 ys p1 rp1 w1 => ⟨?_, fun p hp => ?_⟩⟩
  · rw [← w1.length, hlen c fs ρ vs e1, ← line_eq]; exact hl
  · have x1 : Ext (dm X L.ca) φ1 φ1 H1 (upd H1 p (.tup ys)) := Ext.lay hp
    exact q φ1 _ (.ref p) (p1.trans x1) (rp1.upd hp) (.tup (.inl (.inl upd_same)) (w1.ext x1))⟩
theorem sx_not (ha : SX L P G lv nm l ma) : SX L P G lv nm (.UnaryOp .Not l pos) (fun c fs ρ => match ma c fs ρ with
    | some (.bl b) => some (.bl (!b))
    | _ => none) := fun X a oe c d pn k hz hf => ⟨fun pins s σ H Q I ⟨φ, h0, ρ, fs, v, rp, er, xr, hn, e, q⟩ => by
  cases e1 : ma c fs ρ with
  | none => simp only [e1] at e; cases e
  | some w =>
    simp only [e1] at e
    cases w with
    | bl b =>
      cases e
      exact (pe_not (ha X a oe c d pn k hz hf)).run pins s σ H Q I ⟨φ, h0, ρ, fs, .bl b, rp, er, xr, hn, e1, fun φ1 H1 y p1 rp1 w1 => by
        cases w1
        exact ⟨b, rfl, q φ1 H1 _ p1 rp1 (.bl _)⟩⟩
    | _ => cases e⟩
theorem sx_eq {neg : Bool} (hs : noset r = true) (ha : SX L P G lv nm l ma) (hb : SX L P G lv nm r mb) : SX L P G lv nm (.Compare l [if neg then CmpOp.NotEq else CmpOp.Eq] [r] pos) (fun c fs ρ => x2 (ma c fs ρ) (mb c fs ρ) fun v w => (xeq v w).map fun r => .bl (if neg then !r else r)) := fun X a oe c d pn k hz hf => ⟨fun pins s σ H Q I ⟨φ, h0, ρ, fs, v, rp, er, xr, hn, e, q⟩ => by
  obtain ⟨v1, v2, e1, e2, e3⟩ := x2_some e
  refine wpAny_Compare1 (thn ((ha X a oe c d pn k hz hf).run pins s σ H (fun x H1 => ∃ φ1, Ext (dm X L.ca) φ φ1 H H1 ∧ Rep (dm X L.ca) φ1 h0 H1 ∧ VR (dm X L.ca) φ1 H1 v1 x) I ⟨φ, h0, ρ, fs, v1, rp, er, xr, hn, e1, fun φ1 H1 y p1 rp1 w1 => ⟨φ1, p1, rp1, w1⟩⟩) fun v s1 ⟨x, H1, I1, r1, φ1, p1, rp1, w1⟩ => ?_) (mark_of hs)
  refine thn ((hb X a oe c d pn k hz hf).run pins s1 σ H1 (fun x H1 => ∃ φ2, Ext (dm X L.ca) φ φ2 H H1 ∧ Rep (dm X L.ca) φ2 h0 H1 ∧ VR (dm X L.ca) φ2 H1 v2 x) I1 ⟨φ1, h0, ρ, fs, v2, rp1, er.ext p1, xr.ext p1, hn, e2, fun φ2 H2 y p2 rp2 w2 => ⟨φ2, p1.trans p2, rp2, w2⟩⟩) fun u s2 ⟨y, H2, I2, r2, φ2, p2, rp2, w2⟩ => ?_
  obtain ⟨b, e4, rfl⟩ := Option.map_eq_some_iff.mp e3
  have sc : scal x y = true ∧ decide (x = y) = b := by
    cases v1 <;> cases v2 <;> first | (cases w1; cases w2; cases e4; exact ⟨rfl, dec_int⟩) | (cases w1; cases w2; cases e4; exact ⟨rfl, dec_bl⟩) | (cases w1; cases w2; cases e4; exact ⟨rfl, dec_str⟩) | cases e4
  cases neg with
  | false =>
    refine (op_eq (X := X.suite a ((a, oe) :: pn)) pins s2 σ H2 x y v u Q I2 r1 r2 ⟨sc.1, ?_⟩)
    rw [sc.2]
    exact q φ2 H2 _ p2 rp2 (.bl _)
  | true =>
    refine (op_ne (X := X.suite a ((a, oe) :: pn)) pins s2 σ H2 x y v u Q I2 r1 r2 ⟨sc.1, ?_⟩)
    rw [sc.2]
    exact q φ2 H2 _ p2 rp2 (.bl _)⟩
theorem sx_mul (ha : SX L P G lv nm l ma) (hb : SX L P G lv nm r mb) : SX L P G lv nm (.BinOp l .Mult r pos) (fun c fs ρ => x2 (ma c fs ρ) (mb c fs ρ) fun v w => match v, w with
    | .int i, .int j => if cmulB i j then some (.int (i * j)) else none
    | _, _ => none) := fun X a oe c d pn k hz hf => ⟨fun pins s σ H Q I ⟨φ, h0, ρ, fs, v, rp, er, xr, hn, e, q⟩ => by
  obtain ⟨v1, v2, e1, e2, e3⟩ := x2_some e
  refine wpAny_BinOp (thn ((ha X a oe c d pn k hz hf).run pins s σ H (fun x H1 => ∃ φ1, Ext (dm X L.ca) φ φ1 H H1 ∧ Rep (dm X L.ca) φ1 h0 H1 ∧ VR (dm X L.ca) φ1 H1 v1 x) I ⟨φ, h0, ρ, fs, v1, rp, er, xr, hn, e1, fun φ1 H1 y p1 rp1 w1 => ⟨φ1, p1, rp1, w1⟩⟩) fun v s1 ⟨x, H1, I1, r1, φ1, p1, rp1, w1⟩ => ?_)
  refine thn ((hb X a oe c d pn k hz hf).run pins s1 σ H1 (fun x H1 => ∃ φ2, Ext (dm X L.ca) φ φ2 H H1 ∧ Rep (dm X L.ca) φ2 h0 H1 ∧ VR (dm X L.ca) φ2 H1 v2 x) I1 ⟨φ1, h0, ρ, fs, v2, rp1, er.ext p1, xr.ext p1, hn, e2, fun φ2 H2 y p2 rp2 w2 => ⟨φ2, p1.trans p2, rp2, w2⟩⟩) fun u s2 ⟨y, H2, I2, r2, φ2, p2, rp2, w2⟩ => ?_
  cases v1 with
  | int i0 => cases v2 with
    | int j0 =>
      dsimp only at e3
      split at e3
      · rename_i hz'
        cases e3
        cases w1
        cases w2
        have hc : CMul i0 j0 := by
          unfold cmulB at hz'
          simp only [Bool.or_eq_true, Bool.and_eq_true, decide_eq_true_eq] at hz'
          exact hz'
        exact op_mul (X := X.suite a ((a, oe) :: pn)) pins s2 σ H2 _ _ v u Q I2 r1 r2 ⟨i0, j0, rfl, rfl, hc, q φ2 H2 _ p2 rp2 (.int _)⟩
      · cases e3
    | _ => cases e3
  | _ => cases e3⟩
theorem sx_int {y : Str} (hy : y = "int") (hg : G.gl y = true) (hf' : P.free.contains y = true) (he : nostar l = true) (ha : SX L P G lv nm l ma) : SX L P G lv nm (.Call (.Name y p) [l] [] pos) (fun c fs ρ => match ma c fs ρ with
    | some (.bl b) => some (.int (if b then 1 else 0))
    | _ => none) := fun X a oe c d pn k hz hf => ⟨fun pins s σ H Q I ⟨φ, h0, ρ, fs, v, rp, er, xr, hn, e, q⟩ => by
  obtain ⟨g1, g2, g3⟩ := k.gl hg
  have hm : X.mg y = none := by rw [k.mg]; exact k.ok.free _ (by simpa using hf')
  subst hy
  cases e1 : ma c fs ρ with
  | none => simp only [e1] at e; cases e
  | some w =>
    simp only [e1] at e
    cases w with
    | bl b =>
      cases e
      refine wpAny_Call_Name_kw (ld_blt (X := X.suite a ((a, oe) :: pn)) I g1 hm (show bootBuiltins (Str.ofString "int") = some (.type "int") by decide +kernel) ?_ g3 g2)
      refine PyProof.Rows.callWith_type1 (thn ((pa_cons (ha X a oe c d pn k hz hf) pa_nil (star_cons he)).run pos pins s σ H (fun xs H1 => ∃ φ1, Ext (dm X L.ca) φ φ1 H H1 ∧ Rep (dm X L.ca) φ1 h0 H1 ∧ VRs (dm X L.ca) φ1 H1 [.bl b] xs) I ⟨φ, h0, ρ, fs, .bl b, rp, er, xr, hn, e1, fun φ1 H1 y p1 rp1 w1 => ⟨φ1, p1, rp1, .cons w1 .nil⟩⟩) fun us s1 ⟨vs, H1, I1, r, φ1, p1, rp1, w1⟩ => ?_) (star_cons he) rfl
      cases w1 with
      | cons w1 w2 =>
        cases w2
        cases w1
        exact call_int1 (X := X.suite a ((a, oe) :: pn)) pins s1 σ H1 _ us Q I1 r (.inr ⟨b, rfl, q φ1 H1 _ p1 rp1 (.int _)⟩)
    | _ => cases e⟩
theorem sx_low {y : Str} {ap : Pos} (hy : y = "lower") (hb : nosup l = true) (hl : (ap.endLine == pos.line) = true) (ha : SX L P G lv nm l ma) : SX L P G lv nm (.Call (.Attribute l y ap) [] [] pos) (fun c fs ρ => match ma c fs ρ with
    | some (.str x) => if x.length ≤ 5592405 then some (.str (PySem.Txt.lower x)) else none
    | _ => none) := fun X a oe c d pn k hz hf => ⟨fun pins s σ H Q I ⟨φ, h0, ρ, fs, v, rp, er, xr, hn, e, q⟩ => by
  subst hy
  cases e1 : ma c fs ρ with
  | none => simp only [e1] at e; cases e
  | some w =>
    simp only [e1] at e
    cases w with
    | str x =>
      dsimp only at e
      split at e
      · rename_i hlen
        cases e
        refine wpAny_Call_method0_late (base_of hb) hl (thn ((ha X a oe c d pn k hz hf).run pins s σ H (fun y H1 => ∃ φ1, Ext (dm X L.ca) φ φ1 H H1 ∧ Rep (dm X L.ca) φ1 h0 H1 ∧ VR (dm X L.ca) φ1 H1 (.str x) y) I ⟨φ, h0, ρ, fs, .str x, rp, er, xr, hn, e1, fun φ1 H1 y p1 rp1 w1 => ⟨φ1, p1, rp1, w1⟩⟩) fun v s1 ⟨z, H1, I1, r1, φ1, p1, rp1, w1⟩ => ?_)
        have ty := mth_recv (X := X.suite a ((a, oe) :: pn)) (m := .lower) I1 r1 rp1 w1 rfl
        exact ⟨Mth.lower.ty, Mth.lower.id, (mth_slot .lower).1, (mth_slot .lower).2.1, (mth_slot .lower).2.2, ty.1, ty.2, Calls.callWith_builtin rfl (PySem.evalArgs_none (by
          cases w1
          exact mt_lower (X := X.suite a ((a, oe) :: pn)) pins s1 σ H1 _ _ v [] Q I1 r1 .nil ⟨x, rfl, rfl, hlen, q φ1 H1 _ p1 rp1 (.str _)⟩))⟩
      · cases e
    | _ => cases e⟩
theorem sx_b1 {op : BoolOp} (ha : SX L P G lv nm l ma) : SX L P G lv nm (.BoolOp op [l] pos) (fun c fs ρ => match ma c fs ρ with
    | some (.bl b) => some (.bl b)
    | _ => none) := fun X a oe c d pn k hz hf => ⟨fun pins s σ H Q I ⟨φ, h0, ρ, fs, v, rp, er, xr, hn, e, q⟩ => BoolOp_one ((ha X a oe c d pn k hz hf).run pins s σ H Q I ⟨φ, h0, ρ, fs, v, rp, er, xr, hn, by
    cases e1 : ma c fs ρ with
    | none => simp only [e1] at e; cases e
    | some w =>
      simp only [e1] at e
      cases w <;> first | exact e | (cases e; done), q⟩)⟩
theorem sx_bop {op : BoolOp} {b : Expr} {rest : List Expr} (ha : SX L P G lv nm l ma) (hb : SX L P G lv nm (.BoolOp op (b :: rest) pos) mb) : SX L P G lv nm (.BoolOp op (l :: b :: rest) pos) (fun c fs ρ => match ma c fs ρ with
    | some (.bl b) => if (match op with | .And => b | .Or => !b) then mb c fs ρ else some (.bl b)
    | _ => none) := fun X a oe c d pn k hz hf => ⟨fun pins s σ H Q I ⟨φ, h0, ρ, fs, v, rp, er, xr, hn, e, q⟩ => by
  cases e1 : ma c fs ρ with
  | none => simp only [e1] at e; cases e
  | some w =>
    simp only [e1] at e
    cases w with
    | bl w =>
      dsimp only at e
      have A := (ha X a oe c d pn k hz hf).run pins s σ H (fun y H1 => ∃ φ1, Ext (dm X L.ca) φ φ1 H H1 ∧ Rep (dm X L.ca) φ1 h0 H1 ∧ VR (dm X L.ca) φ1 H1 (.bl w) y) I ⟨φ, h0, ρ, fs, .bl w, rp, er, xr, hn, e1, fun φ1 H1 y p1 rp1 w1 => ⟨φ1, p1, rp1, w1⟩⟩
      have go : ∀ (s1 : Shared) (H1 : Hp) (φ1 : List Addr), L2.Inv (X.suite a ((a, oe) :: pn)) pins σ H1 s1 → Ext (dm X L.ca) φ φ1 H H1 → Rep (dm X L.ca) φ1 h0 H1 → mb c fs ρ = some v → wpAny (model X.prog X.w) (X.suite a ((a, oe) :: pn)).A (eval (.BoolOp op (b :: rest) pos) (X.suite a ((a, oe) :: pn)).env) (EP (X.suite a ((a, oe) :: pn)) pins σ Q) (X.suite a ((a, oe) :: pn)).xe s1 := fun s1 H1 φ1 I1 p1 rp1 e2 =>
        (hb X a oe c d pn k hz hf).run pins s1 σ H1 Q I1 ⟨φ1, h0, ρ, fs, v, rp1, er.ext p1, xr.ext p1, hn, e2, fun φ2 H2 y p2 rp2 w2 => q φ2 H2 y (p1.trans p2) rp2 w2⟩
      cases op with
      | And =>
        refine BoolOp_and (thn A fun v1 s1 ⟨z, H1, I1, r1, φ1, p1, rp1, w1⟩ => ?_)
        cases w1
        obtain rfl : v1 = Value.bool w := r1
        refine wpAny_truthy_bool ?_
        cases w with
        | true => exact go s1 H1 φ1 I1 p1 rp1 e
        | false =>
          cases e
          exact ⟨.bl false, H1, I1, rfl, q φ1 H1 _ p1 rp1 (.bl _)⟩
      | Or =>
        refine BoolOp_or (thn A fun v1 s1 ⟨z, H1, I1, r1, φ1, p1, rp1, w1⟩ => ?_)
        cases w1
        obtain rfl : v1 = Value.bool w := r1
        refine wpAny_truthy_bool ?_
        cases w with
        | false => exact go s1 H1 φ1 I1 p1 rp1 e
        | true =>
          cases e
          exact ⟨.bl true, H1, I1, rfl, q φ1 H1 _ p1 rp1 (.bl _)⟩
    | _ => cases e⟩
theorem isX_kit {X : Cx} {c : Nat} {x : XC} {b : Bool} (k : XOk L P G lv X) (h : isX P.cls c x = some b) : ∃ K', P.cls[c]? = some K' ∧ ExK L P c K' ∧ PySem.W.kitOne X.K (.ref (L.ca c)) (xcV L x) = some b ∧ PySem.W.exmOne X.K (.ref (L.ca c)) (xcV L x) = some b := by
  cases x with
  | own j =>
    unfold isX at h
    cases q : P.cls[c]? with
    | none => simp only [q] at h; cases h
    | some K' =>
      simp only [q] at h
      split at h
      · rename_i hh
        cases h
        obtain ⟨h1, h2, h3⟩ := hh
        obtain ⟨Kj, hj, hx⟩ : ∃ Kj, P.cls[j]? = some Kj ∧ Kj.exc.isSome = true := by
          cases z : P.cls[j]? with
          | none => rw [z] at h3; cases h3
          | some Kj => rw [z] at h3; exact ⟨Kj, rfl, h3⟩
        have E := k.ok.exc c K' q h2
        exact ⟨K', rfl, E, by rw [k.K]; exact E.kto j Kj hj hx, by rw [k.K]; exact E.exm j Kj hj hx⟩
      · cases h
  | ve =>
    unfold isX at h
    cases q : P.cls[c]? with
    | none => simp only [q] at h; cases h
    | some K' =>
      simp only [q] at h
      split at h
      · rename_i h2
        cases h
        have E := k.ok.exc c K' q h2
        exact ⟨K', rfl, E, by rw [k.K]; exact E.ktv, by rw [k.K]; exact E.exv⟩
      · cases h
theorem sx_xis {bn x y : Str} {cl : XC} {p2 p3 : Pos} (hb : bn = "isinstance") (hg : G.gl bn = true) (hf' : P.free.contains bn = true) (hm : NmOk G nm) (hx : nm = some x) (hy : G.gl y = true) (hc : cl.ok P y = true) : SX L P G lv nm (.Call (.Name bn p) [.Name x p2, .Name y p3] [] pos) (fun c _ _ => (isX P.cls c cl).map .bl) := fun X a oe c d pn k hz hf => ⟨fun pins s σ H Q I ⟨φ, h0, ρ, fs, v, rp, er, xr, hn, e, q⟩ => by
  obtain ⟨g1, g2, g3⟩ := k.gl hg
  have hmg : X.mg bn = none := by rw [k.mg]; exact k.ok.free _ (by simpa using hf')
  subst hb
  obtain ⟨b, e1, rfl⟩ := Option.map_eq_some_iff.mp e
  obtain ⟨K', hK, E, e2, _⟩ := isX_kit k e1
  obtain ⟨i, hi, hp⟩ := pe_nm (pos := p2) (a := a) (pn := (a, oe) :: pn) k hm hx
  have pc := pe_xc (p := p3) (L := L) (k.names hy hc) a ((a, oe) :: pn)
  refine wpAny_Call_Name_kw (ld_blt (X := X.suite a ((a, oe) :: pn)) I g1 hmg (show bootBuiltins (Str.ofString "isinstance") = some (.builtin "isinstance") by decide +kernel) ?_ g3 g2)
  refine PyProof.Rows.callWith_builtin1 (thn ((pa_cons hp (pa_cons pc pa_nil)).run pos pins s σ H (fun xs H1 => xs = [.ref a, xcT L cl] ∧ H1 = H) I ⟨.ref a, hn x i hx hi (by rw [I.len]; exact (List.getElem?_eq_some_iff.mp hi).1), rfl, rfl⟩) fun us s1 ⟨vs, H1, I1, r, ev, eH⟩ => ?_) rfl rfl
  subst ev eH
  cases r with
  | cons rx rr =>
    cases rr with
    | cons rt rr =>
      cases rr
      cases rx
      have ec := xcRel' L cl _ rt
      subst ec
      obtain ⟨f', v', y', dd, e1', e2', e3', e4', e5', e6'⟩ := xr
      subst e2'
      obtain ⟨hget, _⟩ := I1.pin (a, oe) (List.mem_append.mpr (.inl List.mem_cons_self))
      obtain ⟨vs, hv⟩ := hf
      have hxo : ObjOk X.prog X.w H1 s1.heap dd (.xd [(f', y')]) := I1.hok dd _ e4'
      obtain ⟨mA, hns, hr⟩ := hxo
      obtain ⟨od, ho, hl⟩ := lookIn_ns hns
      have J : PySem.W.InstAt s1.heap a oe (L.ca c) (some od) := ⟨hget, hz.1, by unfold PySem.W.notCls; rw [hv] <;> rfl, by rw [hz.2]; exact ho⟩
      have kit := E.kit a oe (some od)
      rw [← k.K] at kit
      exact PySem.W.kia_one kit I1.kIn J e2 (fun z => nomatch z) fun tk => ⟨.bl b, H1, I1.kept (t' := tk) fun _ _ z => z, rfl, q φ H1 _ Ext.refl rp (.bl _)⟩⟩
end
section
variable (L : Lk) (P : Prog) (lv : Nat)
theorem SX.cong {G : Sc} {nm : Option Str} {e : Expr} {m m' : Nat → List (Str × MV) → Mi.Env → Option MV} {L : Lk} {P : Prog} {lv : Nat} (h : SX L P G lv nm e m) (q : ∀ c fs ρ, m' c fs ρ = m c fs ρ) : SX L P G lv nm e m' := by
  have : m' = m := funext fun c => funext fun fs => funext fun ρ => q c fs ρ
  rw [this]; exact h
theorem SXs.cong {G : Sc} {nm : Option Str} {e : List Expr} {m m' : Nat → List (Str × MV) → Mi.Env → Option (List MV)} {L : Lk} {P : Prog} {lv : Nat} (h : SXs L P G lv nm e m) (q : ∀ c fs ρ, m' c fs ρ = m c fs ρ) : SXs L P G lv nm e m' := by
  have : m' = m := funext fun c => funext fun fs => funext fun ρ => q c fs ρ
  rw [this]; exact h
theorem chkXs_cons {P : Prog} {G : Sc} {nm : Option Str} {t : XE} {ts : XEs} {xs : List Expr} (c : chkXs P G nm (.cons t ts) xs = true) : ∃ y ys, xs = y :: ys ∧ nostar y = true ∧ chkX P G nm t y = true ∧ chkXs P G nm ts ys = true := by
  cases xs with
  | nil => unfold chkXs at c; cases c
  | cons y ys =>
    unfold chkXs at c
    simp only [Bool.and_eq_true] at c
    exact ⟨y, ys, rfl, c.1, c.2.1, c.2.2⟩
theorem chkXs_nil {P : Prog} {G : Sc} {nm : Option Str} {xs : List Expr} (c : chkXs P G nm .nil xs = true) : xs = [] := by
  cases xs with
  | nil => rfl
  | cons _ _ => unfold chkXs at c; cases c
theorem evXs_len {P : Prog} {G : Sc} {nm : Option Str} {c : Nat} {fs : List (Str × MV)} {ρ : Mi.Env} : ∀ (ts : XEs) (xs : List Expr) (vs : List MV), chkXs P G nm ts xs = true → evXs P.cls c fs ρ ts = some vs → vs.length = xs.length
  | .nil, xs, vs, h, e => by
    rw [chkXs_nil h]
    rw [evXs] at e; cases e; rfl
  | .cons t ts, xs, vs, h, e => by
    obtain ⟨y, ys, rfl, h1, h2, h3⟩ := chkXs_cons h
    rw [evXs] at e
    split at e
    · rename_i v ws q1 q2
      cases e
      rw [List.length_cons, List.length_cons, evXs_len ts ys ws h3 q2]
    · cases e
mutual
theorem okX : ∀ (x : XE) (G : Sc) (nm : Option Str) (e : Expr), NmOk G nm → chkX P G nm x e = true → SX L P G lv nm e (fun c fs ρ => evX P.cls c fs ρ x)
  | .lit v, G, nm, e, hm, h => by
    unfold chkX at h
    split at h
    · exact (sx_lit fun X => ⟨.non, pe_non, fun _ _ _ => .non⟩).cong fun c fs ρ => by rw [evX]; try rfl
    · obtain rfl := of_decide_eq_true h
      exact (sx_lit (v := .bl _) fun X => ⟨.bl _, pe_bl, fun _ _ _ => .bl _⟩).cong fun c fs ρ => by rw [evX]; try rfl
    · obtain rfl := of_decide_eq_true h
      exact (sx_lit (v := .int _) fun X => ⟨.int _, pe_int, fun _ _ _ => .int _⟩).cong fun c fs ρ => by rw [evX]; try rfl
    · obtain rfl := of_decide_eq_true h
      exact (sx_lit (v := .str _) fun X => ⟨.str _, pe_str, fun _ _ _ => .str _⟩).cong fun c fs ρ => by rw [evX]; try rfl
    · cases h
  | .var i, G, nm, e, hm, h => by
    unfold chkX at h
    split at h
    · simp only [Bool.and_eq_true] at h
      exact (sx_var h.1).cong fun c fs ρ => by rw [evX]
    · cases h
  | .xf f, G, nm, e, hm, h => by
    unfold chkX at h
    split at h
    · simp only [Bool.and_eq_true, decide_eq_true_eq] at h
      obtain ⟨h1, rfl⟩ := h
      exact (sx_xf hm h1).cong fun c fs ρ => by rw [evX]; try rfl
    · cases h
  | .xis cl, G, nm, e, hm, h => by
    unfold chkX at h
    split at h
    · simp only [Bool.and_eq_true, decide_eq_true_eq] at h
      obtain ⟨h1, h2, h3, h4, h5, h6⟩ := h
      exact (sx_xis h1 h2 h3 hm h4 h5 h6).cong fun c fs ρ => by rw [evX]
    · cases h
  | .tup es, G, nm, e, hm, h => by
    unfold chkX at h
    split at h
    · rename_i xs k1 pos
      simp only [Bool.and_eq_true, decide_eq_true_eq] at h
      exact (sx_tup h.2 (okXs es G nm xs hm h.1) fun c fs ρ vs e => evXs_len es xs vs h.1 e).cong fun c fs ρ => by rw [evX]
    · cases h
  | .eq neg a b, G, nm, e, hm, h => by
    unfold chkX at h
    split at h
    · simp only [Bool.and_eq_true, decide_eq_true_eq] at h
      obtain ⟨rfl, h1, h2, h3⟩ := h
      exact (sx_eq h3 (okX a G nm _ hm h1) (okX b G nm _ hm h2)).cong fun c fs ρ => by rw [evX]; generalize evX P.cls c fs ρ a = o1; generalize evX P.cls c fs ρ b = o2; cases o1 <;> cases o2 <;> rfl
    · cases h
  | .not a, G, nm, e, hm, h => by
    unfold chkX at h
    split at h
    · exact (sx_not (okX a G nm _ hm h)).cong fun c fs ρ => by rw [evX]; try rfl
    · cases h
  | .bop op es, G, nm, e, hm, h => by
    unfold chkX at h
    split at h
    · simp only [Bool.and_eq_true, decide_eq_true_eq] at h
      obtain ⟨rfl, h1⟩ := h
      exact (okXb es G nm _ op _ hm h1).cong fun c fs ρ => by rw [evX]
    · cases h
  | .mul a b, G, nm, e, hm, h => by
    unfold chkX at h
    split at h
    · simp only [Bool.and_eq_true] at h
      exact (sx_mul (okX a G nm _ hm h.1) (okX b G nm _ hm h.2)).cong fun c fs ρ => by
        rw [evX]
        cases evX P.cls c fs ρ a with
        | none => rfl
        | some v => cases evX P.cls c fs ρ b with
          | none => cases v <;> rfl
          | some w => cases v <;> cases w <;> rfl
    · cases h
  | .intb a, G, nm, e, hm, h => by
    unfold chkX at h
    split at h
    · simp only [Bool.and_eq_true, decide_eq_true_eq] at h
      obtain ⟨h1, h2, h3, h4, h5⟩ := h
      exact (sx_int h1 h2 h3 h5 (okX a G nm _ hm h4)).cong fun c fs ρ => by rw [evX]; try rfl
    · cases h
  | .low a, G, nm, e, hm, h => by
    unfold chkX at h
    split at h
    · simp only [Bool.and_eq_true, decide_eq_true_eq] at h
      obtain ⟨h1, h2, h3, h4⟩ := h
      exact (sx_low h1 h3 h4 (okX a G nm _ hm h2)).cong fun c fs ρ => by rw [evX]; try rfl
    · cases h
theorem okXs : ∀ (es : XEs) (G : Sc) (nm : Option Str) (xs : List Expr), NmOk G nm → chkXs P G nm es xs = true → SXs L P G lv nm xs (fun c fs ρ => evXs P.cls c fs ρ es)
  | .nil, G, nm, xs, hm, h => by
    obtain rfl := chkXs_nil h
    exact sxs_nil.cong fun c fs ρ => by rw [evXs]
  | .cons a as, G, nm, xs, hm, h => by
    obtain ⟨y, ys, rfl, g1, g2, g3⟩ := chkXs_cons h
    exact (sxs_cons g1 (okX a G nm _ hm g2) (okXs as G nm _ hm g3)).cong fun c fs ρ => by rw [evXs]; generalize evX P.cls c fs ρ a = o1; generalize evXs P.cls c fs ρ as = o2; cases o1 <;> cases o2 <;> rfl
theorem okXb : ∀ (es : XEs) (G : Sc) (nm : Option Str) (xs : List Expr) (op : BoolOp) (pos : Pos), NmOk G nm → chkXs P G nm es xs = true → SX L P G lv nm (.BoolOp op xs pos) (fun c fs ρ => evXb P.cls c fs ρ op es)
  | .nil, G, nm, xs, op, pos, hm, h => fun X a oe c d pn k hz hf => ⟨fun pins s σ H Q I ⟨φ, h0, ρ, fs, v, rp, er, xr, hn, e, q⟩ => by
    have e : evXb P.cls c fs ρ op .nil = some v := e
    rw [evXb] at e; cases e⟩
  | .cons a .nil, G, nm, xs, op, pos, hm, h => by
    obtain ⟨y, ys, rfl, g1, g2, g3⟩ := chkXs_cons h
    obtain rfl := chkXs_nil g3
    exact (sx_b1 (okX a G nm _ hm g2)).cong fun c fs ρ => by rw [evXb]; try rfl
  | .cons a (.cons b bs), G, nm, xs, op, pos, hm, h => by
    obtain ⟨y, ys, rfl, g1, g2, g3⟩ := chkXs_cons h
    have B := okXb (.cons b bs) G nm _ op pos hm g3
    obtain ⟨z, zs, rfl, _, _, _⟩ := chkXs_cons g3
    exact (sx_bop (okX a G nm _ hm g2) B).cong fun c fs ρ => by
      rw [evXb]
      all_goals first | rfl | (intro z; cases z)
end
end
end Mi

set_option Elab.async false
set_option linter.all false
set_option maxRecDepth 100000
set_option maxHeartbeats 2000000
/-! Snd11: every expression of the text runs as ours does. -/
namespace Mi
open PySem PySem.Spec PyProof.Rows L2
section
variable {L : Lk} {P : Prog} {G : Sc} {n : Nat}
theorem takesN {X : Cx} : Takes X Wn := fun _ _ ⟨_, _, _, _, _, _, _, _, _, _, _, _, _, _, _, _, w⟩ => w.elim
theorem XOk.blk {X : Cx} (k : XOk L P G n X) (s : Shared) (H : Hp) (scope : Scope) (cl : List (Str × Addr)) (C : Addr) (fp : List Addr) : XOk L P ⟨G.N, relS scope G.sc, some scope⟩ n (X.blk s H scope (compEnvC scope cl C X.env) fp) where
  prog := k.prog
  w := k.w
  K := k.K
  mg := k.mg
  base := k.base
  N := k.N
  nd := k.nd
  sc := by rw [← k.sc]; rfl
  room := k.room
  calm := k.calm
  fn := fun _ => rfl
  ok := k.ok
def SPt (L : Lk) (P : Prog) (G : Sc) (n : Nat) (es : List Expr) (m : Env → MH → Out Bool) : Prop := ∀ (X : Cx) (W : WX), XOk L P G n X → Takes X W → PTs X es (tT (dm X L.ca) W m)
theorem spt_nil : SPt L P G n [] (fun _ h => .ok true h) := fun X W k tk => ⟨fun pins s σ H Q I ⟨φ, h0, ρ, rp, er, f⟩ => pts_nil.run pins s σ H Q I (f.ok0 rp rfl)⟩
theorem spt_one {c : Expr} {m : Env → MH → Out Bool} (h : ST L P G n c m) : SPt L P G n [c] m := fun X W k tk => pts_one (h X W k tk)
theorem se_lc {elt tg iter : Expr} {ifs : List Expr} {scope : Scope} {own : List (Str × Nat)} {pos : Pos} {mi : Env → MH → Out Mi.It} {g : MV → Env → MH → SOut} {mt : Env → MH → Out Bool} {me : Env → MH → Out MV} {ss : List Nat} (hb : blkC G.N G.sc scope own = true) (hn : noset iter = true) (hss : ∀ j ∈ ss, j ∈ own.map (·.2))
    (hi : SI L P G n tg iter mi) (hg : SG L P ⟨G.N, relS scope G.sc, some scope⟩ n tg ss g) (ht : SPt L P ⟨G.N, relS scope G.sc, some scope⟩ n ifs mt) (he : SE L P ⟨G.N, relS scope G.sc, some scope⟩ n elt me) : SE L P G n (.ListComp elt [⟨tg, iter, ifs, 0⟩] scope pos) (lcR mi g mt me (own.map (·.2)) P.fuel) := fun X W k tk => ⟨fun pins s σ H Q I h => by
  have hb' : blkC X.N X.env.scope scope own = true := by rw [k.N, k.sc]; exact hb
  exact (pe_lc (pos := pos) k.calm k.nd (hi X W k tk) (blkOk_by hb') (fun s H C cl fp => hg _ Wn (k.blk s H scope cl C fp) takesN) (fun s H C cl fp => ht _ Wn (k.blk s H scope cl C fp) takesN) (fun s H C cl fp => he _ Wn (k.blk s H scope cl C fp) takesN) (fun x => set_of hn)).run pins s σ H Q I (lc_rd hss h)⟩
variable {ex : Expr} {m m' : Env → MH → Out MV}
theorem SE.cong (h : SE L P G n ex m) (e : ∀ ρ h, m' ρ h = m ρ h) : SE L P G n ex m' := by
  have : m' = m := funext fun ρ => funext fun h => e ρ h
  rw [this]; exact h
theorem cong2 (h : SE L P G n ex m ∧ ST L P G n ex (testM m)) (e : ∀ ρ h, m' ρ h = m ρ h) : SE L P G n ex m' ∧ ST L P G n ex (testM m') := by
  have : m' = m := funext fun ρ => funext fun h => e ρ h
  rw [this]; exact h
theorem both (he : ∀ env whole, isTrue ex env whole = (do let v ← whole; standAt ex.pos; holding [v] (truthy v))) (ha : SE L P G n ex m) : SE L P G n ex m ∧ ST L P G n ex (testM m) := ⟨ha, st_plain he ha⟩
theorem SA.cong {es : List Expr} {m m' : Env → MH → Out (List MV)} (h : SA L P G n es m) (e : ∀ ρ h, m' ρ h = m ρ h) : SA L P G n es m' := by
  have : m' = m := funext fun ρ => funext fun h => e ρ h
  rw [this]; exact h
theorem SO.cong {es : Option Expr} {m m' : Env → MH → Out (Option Int)} (h : SO L P G n es m) (e : ∀ ρ h, m' ρ h = m ρ h) : SO L P G n es m' := by
  have : m' = m := funext fun ρ => funext fun h => e ρ h
  rw [this]; exact h
theorem SI.cong {tg : Expr} {m m' : Env → MH → Out Mi.It} (h : SI L P G n tg ex m) (e : ∀ ρ h, m' ρ h = m ρ h) : SI L P G n tg ex m' := by
  have : m' = m := funext fun ρ => funext fun h => e ρ h
  rw [this]; exact h
theorem SG.cong {ss : List Nat} {m m' : MV → Env → MH → SOut} (h : SG L P G n ex ss m) (e : ∀ v ρ h, m' v ρ h = m v ρ h) : SG L P G n ex ss m' := by
  have : m' = m := funext fun v => funext fun ρ => funext fun h => e v ρ h
  rw [this]; exact h
theorem SGs.cong {es : List Expr} {ss : List Nat} {m m' : List MV → Env → MH → SOut} (h : SGs L P G n es ss m) (e : ∀ v ρ h, m' v ρ h = m v ρ h) : SGs L P G n es ss m' := by
  have : m' = m := funext fun v => funext fun ρ => funext fun h => e v ρ h
  rw [this]; exact h
theorem SPt.cong {es : List Expr} {m m' : Env → MH → Out Bool} (h : SPt L P G n es m) (e : ∀ ρ h, m' ρ h = m ρ h) : SPt L P G n es m' := by
  have : m' = m := funext fun ρ => funext fun h => e ρ h
  rw [this]; exact h
theorem chkTs_nil {xs : List Expr} (c : chkTs P G .nil xs = true) : xs = [] := by
  cases xs with
  | nil => rfl
  | cons _ _ => unfold chkTs at c; cases c
theorem chkTs_cons {t : MT} {ts : MTs} {xs : List Expr} (c : chkTs P G (.cons t ts) xs = true) : ∃ y ys, xs = y :: ys ∧ nostar y = true ∧ chkT P G t y = true ∧ chkTs P G ts ys = true := by
  cases xs with
  | nil => unfold chkTs at c; cases c
  | cons y ys =>
    unfold chkTs at c
    simp only [Bool.and_eq_true] at c
    exact ⟨y, ys, rfl, c.1, c.2.1, c.2.2⟩
theorem chkEs_nil {xs : List Expr} (c : chkEs P G .nil xs = true) : xs = [] := by
  cases xs with
  | nil => rfl
  | cons _ _ => unfold chkEs at c; cases c
theorem chkEs_cons {t : ME} {ts : MEs} {xs : List Expr} (c : chkEs P G (.cons t ts) xs = true) : ∃ y ys, xs = y :: ys ∧ nostar y = true ∧ chkE P G t y = true ∧ chkEs P G ts ys = true := by
  cases xs with
  | nil => unfold chkEs at c; cases c
  | cons y ys =>
    unfold chkEs at c
    simp only [Bool.and_eq_true] at c
    exact ⟨y, ys, rfl, c.1, c.2.1, c.2.2⟩
theorem chkEs_star : ∀ {ts : MEs} {xs : List Expr}, chkEs P G ts xs = true → xs.all nostar = true
  | .nil, xs, c => by rw [chkEs_nil c]; rfl
  | .cons t ts, xs, c => by
    obtain ⟨y, ys, rfl, h1, h2, h3⟩ := chkEs_cons c
    rw [List.all_cons, h1, chkEs_star h3]; rfl
theorem chkTs_star : ∀ {ts : MTs} {xs : List Expr}, chkTs P G ts xs = true → xs.all nostar = true
  | .nil, xs, c => by rw [chkTs_nil c]; rfl
  | .cons t ts, xs, c => by
    obtain ⟨y, ys, rfl, h1, h2, h3⟩ := chkTs_cons c
    rw [List.all_cons, h1, chkTs_star h3]; rfl
theorem asgs_len {C : Cfg} : ∀ (ts : MTs) (xs : List Expr) (vs : List MV) (ρ : Env) (h : MH), chkTs P G ts xs = true → asgs C ts vs ρ h ≠ .bad → vs.length = xs.length
  | .nil, xs, vs, ρ, h, c, e => by
    rw [chkTs_nil c]
    cases vs with
    | nil => rfl
    | cons _ _ => exact absurd (by unfold asgs; rfl) e
  | .cons t ts, xs, vs, ρ, h, c, e => by
    obtain ⟨y, ys, rfl, h1, h2, h3⟩ := chkTs_cons c
    cases vs with
    | nil => exact absurd (by unfold asgs; rfl) e
    | cons v vs =>
      unfold asgs at e
      cases q : asg C t v ρ h with
      | next ρ1 h1 =>
        rw [q] at e
        rw [List.length_cons, List.length_cons, asgs_len ts ys vs ρ1 h1 h3 e]
      | _ => rw [q] at e; exact absurd rfl e
end

theorem st_bad {L : Lk} {P : Prog} {G : Sc} {n : Nat} {ex : Expr} {m : Env → MH → Out MV} (h : ∀ ρ h0, m ρ h0 = .bad) : ST L P G n ex (testM m) := sw_st (sw_bad h)
section
variable (L : Lk) (P : Prog) (n : Nat)
mutual
theorem okE : ∀ (a : ME) (G : Sc) (e : Expr), chkE P G a e = true → SE L P G n e (ev (P.cfg (callM P n)) a) ∧ ST L P G n e (testM (ev (P.cfg (callM P n)) a))
  | .unk, G, e, h => ⟨se_bad fun ρ h => by rw [ev], st_bad fun ρ h => by rw [ev]⟩
  | .cmth a m es, G, e, h => by
    unfold chkE at h
    split at h
    · rename_i o y ap xs pos
      simp only [Bool.and_eq_true, decide_eq_true_eq, Bool.not_eq_true'] at h
      obtain ⟨rfl, h1, h2, h3, h4, h5, h6⟩ := h
      have A := okEs es G _ h2
      cases es with
      | nil =>
        obtain rfl := chkEs_nil h2
        cases h3
      | cons a' as =>
        obtain ⟨y, ys, rfl, g1, g2, g3⟩ := chkEs_cons h2
        exact cong2 (both (fun _ _ => rfl) (se_cmth h4 h5 g1 (chkEs_star g3) (by rw [List.length_cons] at h6; omega) (okE a G _ h1).1 A)) fun ρ h => by rw [ev]; try rfl
    · cases h
  | .callv i es, G, e, h => by
    unfold chkE at h
    split at h
    · simp only [Bool.and_eq_true, Bool.not_eq_true'] at h
      obtain ⟨h1, h2, h3⟩ := h
      have A := okEs es G _ h2
      cases es with
      | nil =>
        obtain rfl := chkEs_nil h2
        cases h3
      | cons a' as =>
        obtain ⟨y, ys, rfl, g1, g2, g3⟩ := chkEs_cons h2
        exact cong2 (both (fun _ _ => rfl) (se_callv h1 g1 (chkEs_star g3) A)) fun ρ h => by rw [ev]; try rfl
    · cases h
  | .var i, G, e, h => by
    unfold chkE at h
    split at h
    · exact cong2 (both (fun _ _ => rfl) (se_var h)) fun ρ h => by rw [ev]
    · cases h
  | .non, G, e, h => by
    unfold chkE at h
    split at h
    · exact cong2 (both (fun _ _ => rfl) (se_cst fun X => ⟨.non, pe_non, fun _ _ _ => .non⟩)) fun ρ h => by rw [ev]
    · cases h
  | .bl b, G, e, h => by
    unfold chkE at h
    split at h
    · obtain rfl := of_decide_eq_true h
      exact cong2 (both (fun _ _ => rfl) (se_cst fun X => ⟨.bl b, pe_bl, fun _ _ _ => .bl _⟩)) fun ρ h => by rw [ev]
    · cases h
  | .int i, G, e, h => by
    unfold chkE at h
    split at h
    · obtain rfl := of_decide_eq_true h
      exact cong2 (both (fun _ _ => rfl) (se_cst fun X => ⟨.int i, pe_int, fun _ _ _ => .int _⟩)) fun ρ h => by rw [ev]
    · cases h
  | .str x, G, e, h => by
    unfold chkE at h
    split at h
    · obtain rfl := of_decide_eq_true h
      exact cong2 (both (fun _ _ => rfl) (se_cst fun X => ⟨.str x, pe_str, fun _ _ _ => .str _⟩)) fun ρ h => by rw [ev]
    · cases h
  | .glb x v, G, e, h => by
    unfold chkE at h
    split at h
    · simp only [Bool.and_eq_true, decide_eq_true_eq] at h
      obtain ⟨rfl, h1, h2⟩ := h
      exact cong2 (both (fun _ _ => rfl) (se_glb h1 h2)) fun ρ h => by rw [ev]
    · cases h
  | .bin op a b, G, e, h => by
    unfold chkE at h
    split at h
    · simp only [Bool.and_eq_true, decide_eq_true_eq] at h
      obtain ⟨rfl, h1, h2⟩ := h
      exact cong2 (both (fun _ _ => rfl) (se_bin (okE a G _ h1).1 (okE b G _ h2).1)) fun ρ h => by rw [ev]
    · cases h
  | .neg a, G, e, h => by
    unfold chkE at h
    split at h
    · exact cong2 (both (fun _ _ => rfl) (se_neg (okE a G _ h).1)) fun ρ h => by rw [ev]; try rfl
    · cases h
  | .cmp op a b, G, e, h => by
    unfold chkE at h
    split at h
    · simp only [Bool.and_eq_true, decide_eq_true_eq] at h
      obtain ⟨rfl, h1, h2, h3⟩ := h
      exact cong2 ⟨se_cmp h3 (okE a G _ h1).1 (okE b G _ h2).1, st_cmp h3 (okE a G _ h1).1 (okE b G _ h2).1⟩ fun ρ h => by rw [ev]
    · cases h
  | .chn o1 o2 a b c, G, e, h => by
    unfold chkE at h
    split at h
    · simp only [Bool.and_eq_true, decide_eq_true_eq] at h
      obtain ⟨rfl, rfl, h1, h2, h3, h4, h5⟩ := h
      exact cong2 ⟨se_chn h4 h5 (okE a G _ h1).1 (okE b G _ h2).1 (okE c G _ h3).1, st_chn h4 h5 (okE a G _ h1).1 (okE b G _ h2).1 (okE c G _ h3).1⟩ fun ρ h => by rw [ev]; try rfl
    · cases h
  | .bop op es, G, e, h => by
    unfold chkE at h
    split at h
    · simp only [Bool.and_eq_true, decide_eq_true_eq] at h
      obtain ⟨rfl, h1⟩ := h
      exact cong2 ⟨(okB es G _ op _ h1).1, sw_st (okB es G _ op _ h1).2⟩ fun ρ h => by rw [ev]
    · cases h
  | .not a, G, e, h => by
    unfold chkE at h
    split at h
    · exact cong2 ⟨se_not (okE a G _ h).1, st_not (okE a G _ h).2⟩ fun ρ h => by rw [ev]
    · cases h
  | .ifx c a b, G, e, h => by
    unfold chkE at h
    split at h
    · simp only [Bool.and_eq_true] at h
      obtain ⟨h1, h2, h3⟩ := h
      exact cong2 ⟨se_ifx (okE c G _ h1).2 (okE a G _ h2).1 (okE b G _ h3).1, st_ifx (okE c G _ h1).2 (okE a G _ h2).2 (okE b G _ h3).2⟩ fun ρ h => by rw [ev]; try rfl
    · cases h
  | .tup es, G, e, h => by
    unfold chkE at h
    split at h
    · exact cong2 (both (fun _ _ => rfl) (se_tup (okEs es G _ h))) fun ρ h => by rw [ev]
    · cases h
  | .lst es, G, e, h => by
    unfold chkE at h
    split at h
    · exact cong2 (both (fun _ _ => rfl) (se_lst (okEs es G _ h))) fun ρ h => by rw [ev]
    · cases h
  | .dic0, G, e, h => by
    unfold chkE at h
    split at h
    · exact cong2 (both (fun _ _ => rfl) se_dic0) fun ρ h => by rw [ev]
    · cases h
  | .dic1 k v, G, e, h => by
    unfold chkE at h
    split at h
    · simp only [Bool.and_eq_true] at h
      exact cong2 (both (fun _ _ => rfl) (se_dic1 (okE k G _ h.1).1 (okE v G _ h.2).1)) fun ρ h => by rw [ev]
    · cases h
  | .sub a i, G, e, h => by
    unfold chkE at h
    split at h
    · simp only [Bool.and_eq_true] at h
      exact cong2 (both (fun _ _ => rfl) (se_sub h.2.2 (okE a G _ h.1).1 (okE i G _ h.2.1).1)) fun ρ h => by rw [ev]
    · cases h
  | .slc a lo hi, G, e, h => by
    unfold chkE at h
    split at h
    · simp only [Bool.and_eq_true] at h
      exact cong2 (both (fun _ _ => rfl) (se_slc (okE a G _ h.1).1 (okO lo G _ h.2.1) (okO hi G _ h.2.2))) fun ρ h => by rw [ev]
    · cases h
  | .call x f es, G, e, h => by
    unfold chkE at h
    split at h
    · rename_i y p xs pos
      simp only [Bool.and_eq_true, decide_eq_true_eq] at h
      obtain ⟨rfl, h1, h2, h3⟩ := h
      have A := okEs es G _ h3
      cases es with
      | nil =>
        obtain rfl := chkEs_nil h3
        exact cong2 (both (fun _ _ => rfl) (se_call0 h1 h2)) fun ρ h => by rw [ev, evs]; rfl
      | cons a as =>
        obtain ⟨y, ys, rfl, g1, g2, g3⟩ := chkEs_cons h3
        exact cong2 (both (fun _ _ => rfl) (se_call h1 h2 g1 (chkEs_star g3) A)) fun ρ h => by rw [ev]; try rfl
    · cases h
  | .blt b es, G, e, h => by
    unfold chkE at h
    split at h
    · rename_i y p xs pos
      simp only [Bool.and_eq_true, decide_eq_true_eq] at h
      obtain ⟨rfl, h1, h2, h3, h4⟩ := h
      have A := okEs es G _ h3
      cases es with
      | nil =>
        obtain rfl := chkEs_nil h3
        cases h4
      | cons a as =>
        obtain ⟨y, ys, rfl, g1, g2, g3⟩ := chkEs_cons h3
        exact cong2 (both (fun _ _ => rfl) (se_blt h1 h2 g1 (chkEs_star g3) A)) fun ρ h => by rw [ev]
    · cases h
  | .mth a m es, G, e, h => by
    unfold chkE at h
    split at h
    · rename_i o y ap xs pos
      simp only [Bool.and_eq_true, decide_eq_true_eq] at h
      obtain ⟨rfl, h1, h2, h4, h5, h6⟩ := h
      have A := okEs es G _ h2
      cases es with
      | nil =>
        obtain rfl := chkEs_nil h2
        exact cong2 (both (fun _ _ => rfl) (se_mth0 h4 h5 (okE a G _ h1).1)) fun ρ h => by
          rw [ev]
          congr 1 <;> (funext v h1; first | done | (rw [evs]; try rfl))
      | cons a' as =>
        obtain ⟨y, ys, rfl, g1, g2, g3⟩ := chkEs_cons h2
        exact cong2 (both (fun _ _ => rfl) (se_mth h4 h5 g1 (chkEs_star g3) (by rw [List.length_cons] at h6; omega) (okE a G _ h1).1 A)) fun ρ h => by rw [ev]
    · cases h
  | .lc a t it ifs own, G, e, h => by
    unfold chkE at h
    split at h
    · simp only [Bool.and_eq_true, decide_eq_true_eq, List.all_eq_true, List.contains_iff_mem] at h
      obtain ⟨rfl, h1, h2, h3, h4, h5, h6, h7, h8⟩ := h
      exact cong2 (both (fun _ _ => rfl) (se_lc h1 h3 h5 (okI it G _ _ h2) (okT t _ _ h4) (okA ifs _ _ h6 h7) (okE a _ _ h8).1)) fun ρ h => by rw [ev]; try rfl
    · cases h
  | .fld a f, G, e, h => by
    unfold chkE at h
    split at h
    · simp only [Bool.and_eq_true, decide_eq_true_eq] at h
      obtain ⟨rfl, h1, h2⟩ := h
      exact cong2 (both (fun _ _ => rfl) (se_fld h2 (okE a G _ h1).1)) fun ρ h => by rw [ev]
    · cases h
  | .mk x c es, G, e, h => by
    unfold chkE at h
    split at h
    · simp only [Bool.and_eq_true, decide_eq_true_eq] at h
      obtain ⟨rfl, h1, h2, h3⟩ := h
      have A := okEs es G _ h3
      cases es with
      | nil =>
        obtain rfl := chkEs_nil h3
        exact cong2 (both (fun _ _ => rfl) (se_mk0 h1 h2)) fun ρ h => by rw [ev, evs]; try rfl
      | cons a as =>
        obtain ⟨y, ys, rfl, g1, g2, g3⟩ := chkEs_cons h3
        exact cong2 (both (fun _ _ => rfl) (se_mk h1 h2 g1 (chkEs_star g3) A)) fun ρ h => by rw [ev]
    · cases h
  | .umth a f es, G, e, h => by
    unfold chkE at h
    split at h
    · simp only [Bool.and_eq_true, decide_eq_true_eq] at h
      obtain ⟨rfl, h1, h2, h4, h5, h6⟩ := h
      have A := okEs es G _ h2
      cases es with
      | nil =>
        obtain rfl := chkEs_nil h2
        exact cong2 (both (fun _ _ => rfl) (se_umth0 h4 h5 (okE a G _ h1).1)) fun ρ h => by rw [ev]; simp only [evs, Out.bind]; try rfl
      | cons a' as =>
        obtain ⟨y, ys, rfl, g1, g2, g3⟩ := chkEs_cons h2
        exact cong2 (both (fun _ _ => rfl) (se_umth h4 h5 g1 (chkEs_star g3) (by rw [List.length_cons] at h6; omega) (okE a G _ h1).1 A)) fun ρ h => by rw [ev]; try rfl
    · cases h
theorem okB : ∀ (es : MEs) (G : Sc) (xs : List Expr) (op : BoolOp) (pos : Pos), chkEs P G es xs = true → SE L P G n (.BoolOp op xs pos) (evB (P.cfg (callM P n)) op es) ∧ SW L P G n (.BoolOp op xs pos) (testM (evB (P.cfg (callM P n)) op es))
  | .nil, G, xs, op, pos, h => ⟨se_bad fun ρ h => by rw [evB], sw_bad fun ρ h => by rw [evB]⟩
  | .cons a .nil, G, xs, op, pos, h => by
    obtain ⟨y, ys, rfl, g1, g2, g3⟩ := chkEs_cons h
    obtain rfl := chkEs_nil g3
    have A := okE a G _ g2
    have q : evB (P.cfg (callM P n)) op (.cons a .nil) = ev (P.cfg (callM P n)) a := by funext ρ h; rw [evB]
    rw [q]
    exact ⟨se_b1 A.1, sw_b1 A.2⟩
  | .cons a (.cons b bs), G, xs, op, pos, h => by
    obtain ⟨y, ys, rfl, g1, g2, g3⟩ := chkEs_cons h
    have A := okE a G _ g2
    have B := okB (.cons b bs) G _ op pos g3
    obtain ⟨z, zs, rfl, _, _, _⟩ := chkEs_cons g3
    have q : evB (P.cfg (callM P n)) op (.cons a (.cons b bs)) = bopM op (ev (P.cfg (callM P n)) a) (evB (P.cfg (callM P n)) op (.cons b bs)) := by
      funext ρ h
      rw [evB]
      · rfl
      · intro z; cases z
    rw [q]
    exact ⟨se_bop A.1 B.1, sw_bop A.2 B.2⟩
theorem okA : ∀ (es : MEs) (G : Sc) (xs : List Expr), chkEs P G es xs = true → xs.length ≤ 1 → SPt L P G n xs (evA (P.cfg (callM P n)) es)
  | .nil, G, xs, h, hl => by
    obtain rfl := chkEs_nil h
    exact spt_nil.cong fun ρ h => by rw [evA]
  | .cons a .nil, G, xs, h, hl => by
    obtain ⟨y, ys, rfl, g1, g2, g3⟩ := chkEs_cons h
    obtain rfl := chkEs_nil g3
    refine (spt_one (okE a G _ g2).2).cong fun ρ h => ?_
    rw [evA]
    unfold testM
    congr 1
    funext v h1
    cases truth h1 v with
    | none => rfl
    | some c => cases c <;> first | rfl | (rw [evA]; rfl)
  | .cons a (.cons b bs), G, xs, h, hl => by
    obtain ⟨y, ys, rfl, g1, g2, g3⟩ := chkEs_cons h
    obtain ⟨z, zs, rfl, _, _, _⟩ := chkEs_cons g3
    simp at hl
theorem okEs : ∀ (es : MEs) (G : Sc) (xs : List Expr), chkEs P G es xs = true → SA L P G n xs (evs (P.cfg (callM P n)) es)
  | .nil, G, xs, h => by
    obtain rfl := chkEs_nil h
    exact sa_nil.cong fun ρ h => by rw [evs]
  | .cons a as, G, xs, h => by
    obtain ⟨y, ys, rfl, g1, g2, g3⟩ := chkEs_cons h
    exact (sa_cons g1 (okE a G _ g2).1 (okEs as G _ g3)).cong fun ρ h => by rw [evs]
theorem okO : ∀ (o : MOp) (G : Sc) (e : Option Expr), chkO P G o e = true → SO L P G n e (evO (P.cfg (callM P n)) o)
  | .none, G, e, h => by
    unfold chkO at h
    split at h
    · exact so_none.cong fun ρ h => by rw [evO]
    · cases h
  | .some a, G, e, h => by
    unfold chkO at h
    split at h
    · exact (so_some (okE a G _ h).1).cong fun ρ h => by rw [evO]; try rfl
    · cases h
theorem okI : ∀ (i : MI) (G : Sc) (tg e : Expr), chkI P G i tg e = true → SI L P G n tg e (evI (P.cfg (callM P n)) i)
  | .val a, G, tg, e, h => by
    unfold chkI at h
    exact (si_val (okE a G _ h).1).cong fun ρ h => by rw [evI]
  | .rng .nil, G, tg, e, h => by
    unfold chkI at h
    split at h
    · simp only [Bool.and_eq_true, decide_eq_true_eq] at h
      obtain ⟨rfl, h1, h2, h3, h4, h5⟩ := h
      obtain rfl := chkEs_nil h3
      simp at h4
    · cases h
  | .rng (.cons a .nil), G, tg, e, h => by
    unfold chkI at h
    split at h
    · simp only [Bool.and_eq_true, decide_eq_true_eq] at h
      obtain ⟨rfl, h1, h2, h3, h4, h5⟩ := h
      obtain ⟨y, ys, rfl, g1, g2, g3⟩ := chkEs_cons h3
      obtain rfl := chkEs_nil g3
      exact (si_rng1 h1 h2 g1 (okE a G _ g2).1).cong fun ρ h => by
        rw [evI, evs, Out.bind_bind]
        congr 1
    · cases h
  | .rng (.cons a (.cons b .nil)), G, tg, e, h => by
    unfold chkI at h
    split at h
    · simp only [Bool.and_eq_true, decide_eq_true_eq] at h
      obtain ⟨rfl, h1, h2, h3, h4, h5⟩ := h
      obtain ⟨y, ys, rfl, g1, g2, g3⟩ := chkEs_cons h3
      obtain ⟨z, zs, rfl, k1, k2, k3⟩ := chkEs_cons g3
      obtain rfl := chkEs_nil k3
      exact (si_rng2 h1 h2 g1 k1 (okE a G _ g2).1 (okE b G _ k2).1).cong fun ρ h => by
        rw [evI, evs, Out.bind_bind]
        congr 1
        funext v h1
        rw [evs, Out.bind_bind, Out.bind_bind]
        congr 1
    · cases h
  | .rng (.cons a (.cons b (.cons c cs))), G, tg, e, h => by
    unfold chkI at h
    split at h
    · simp only [Bool.and_eq_true, decide_eq_true_eq] at h
      obtain ⟨rfl, h1, h2, h3, h4, h5⟩ := h
      obtain ⟨y, ys, rfl, g1, g2, g3⟩ := chkEs_cons h3
      obtain ⟨z, zs, rfl, k1, k2, k3⟩ := chkEs_cons g3
      obtain ⟨z, zs, rfl, k1, k2, k3⟩ := chkEs_cons k3
      simp at h5
    · cases h
  | .enm .nil, G, tg, e, h => by
    unfold chkI at h
    split at h
    · simp only [Bool.and_eq_true, decide_eq_true_eq] at h
      obtain ⟨rfl, h1, h2, h3, h4, h5⟩ := h
      obtain rfl := chkEs_nil h3
      simp at h4
    · cases h
  | .enm (.cons a .nil), G, tg, e, h => by
    unfold chkI at h
    split at h
    · simp only [Bool.and_eq_true, decide_eq_true_eq] at h
      obtain ⟨rfl, h1, h2, h3, h4, h5⟩ := h
      obtain ⟨y, ys, rfl, g1, g2, g3⟩ := chkEs_cons h3
      obtain rfl := chkEs_nil g3
      cases tg with
      | Tuple _ _ _ =>
        exact (si_enm h1 h2 g1 (okE a G _ g2).1).cong fun ρ h => by
          rw [evI, evs, Out.bind_bind]
          congr 1 <;> (funext v h1; first | done | (rw [evs]; try rfl))
      | _ => cases h5
    · cases h
  | .enm (.cons a (.cons b bs)), G, tg, e, h => by
    unfold chkI at h
    split at h
    · simp only [Bool.and_eq_true, decide_eq_true_eq] at h
      obtain ⟨rfl, h1, h2, h3, h4, h5⟩ := h
      obtain ⟨y, ys, rfl, g1, g2, g3⟩ := chkEs_cons h3
      obtain ⟨y, ys, rfl, g1, g2, g3⟩ := chkEs_cons g3
      simp at h4
    · cases h
  | .zip .nil, G, tg, e, h => by
    unfold chkI at h
    split at h
    · simp only [Bool.and_eq_true, decide_eq_true_eq] at h
      obtain ⟨rfl, h1, h2, h3, h4, h5⟩ := h
      obtain rfl := chkEs_nil h3
      simp at h4
    · cases h
  | .zip (.cons a .nil), G, tg, e, h => by
    unfold chkI at h
    split at h
    · simp only [Bool.and_eq_true, decide_eq_true_eq] at h
      obtain ⟨rfl, h1, h2, h3, h4, h5⟩ := h
      obtain ⟨y, ys, rfl, g1, g2, g3⟩ := chkEs_cons h3
      obtain rfl := chkEs_nil g3
      simp at h4
    · cases h
  | .zip (.cons a (.cons b .nil)), G, tg, e, h => by
    unfold chkI at h
    split at h
    · simp only [Bool.and_eq_true, decide_eq_true_eq] at h
      obtain ⟨rfl, h1, h2, h3, h4, h5⟩ := h
      obtain ⟨y, ys, rfl, g1, g2, g3⟩ := chkEs_cons h3
      obtain ⟨z, zs, rfl, k1, k2, k3⟩ := chkEs_cons g3
      obtain rfl := chkEs_nil k3
      cases tg with
      | Tuple _ _ _ =>
        exact (si_zip h1 h2 g1 k1 (okE a G _ g2).1 (okE b G _ k2).1).cong fun ρ h => by
          rw [evI, evs, Out.bind_bind]
          congr 1 <;> (funext v h1; rw [evs, Out.bind_bind, Out.bind_bind]; congr 1)
      | _ => cases h5
    · cases h
  | .zip (.cons a (.cons b (.cons c cs))), G, tg, e, h => by
    unfold chkI at h
    split at h
    · simp only [Bool.and_eq_true, decide_eq_true_eq] at h
      obtain ⟨rfl, h1, h2, h3, h4, h5⟩ := h
      obtain ⟨y, ys, rfl, g1, g2, g3⟩ := chkEs_cons h3
      obtain ⟨z, zs, rfl, k1, k2, k3⟩ := chkEs_cons g3
      obtain ⟨z, zs, rfl, k1, k2, k3⟩ := chkEs_cons k3
      simp at h4
    · cases h
theorem okT : ∀ (t : MT) (G : Sc) (e : Expr), chkT P G t e = true → SG L P G n e t.slots (asg (P.cfg (callM P n)) t)
  | .name i, G, e, h => by
    unfold chkT at h
    split at h
    · exact (sg_name h).cong fun v ρ h => by rw [asg]
    · cases h
  | .tup ts, G, e, h => by
    unfold chkT at h
    split at h
    · have A := okTs ts G _ h
      exact (sg_tup (chkTs_star h) (fun vs ρ h0 q => asgs_len ts _ vs ρ h0 h q) A).cong fun v ρ h => by cases v <;> first | rfl | rw [asg]
    · cases h
  | .sub a i, G, e, h => by
    unfold chkT at h
    split at h
    · simp only [Bool.and_eq_true] at h
      exact (sg_sub h.2.2 (okE a G _ h.1).1 (okE i G _ h.2.1).1).cong fun v ρ h => by rw [asg]; try rfl
    · cases h
theorem okTs : ∀ (ts : MTs) (G : Sc) (xs : List Expr), chkTs P G ts xs = true → SGs L P G n xs (MT.slots.go ts) (asgs (P.cfg (callM P n)) ts)
  | .nil, G, xs, h => by
    obtain rfl := chkTs_nil h
    exact sgs_nil.cong fun v ρ h => by cases v <;> (unfold asgs; rfl)
  | .cons t ts, G, xs, h => by
    obtain ⟨y, ys, rfl, g1, g2, g3⟩ := chkTs_cons h
    exact (sgs_cons g1 (okT t G _ g2) (okTs ts G _ g3)).cong fun v ρ h => by
      cases v with
      | nil => unfold asgs; rfl
      | cons v vs => rw [asgs]; try rfl
end
end
end Mi

set_option Elab.async false
set_option linter.all false
set_option maxRecDepth 100000
set_option maxHeartbeats 2000000
/-! Snd12: statements. -/
namespace Mi
open PySem PySem.Spec PyProof.Rows L2
/-- the end of a statement -/
def FinX (D : Dm) (W : WX) (φ : List Addr) (H : Hp) (E : Ends) : SOut → Prop
  | .next ρ' h' => ∀ φ' H' σ', Ext D φ φ' H H' → Rep D φ' h' H' → ER D φ' H' ρ' σ' → E.nx σ' H'
  | .brk ρ' h' => ∀ φ' H' σ', Ext D φ φ' H H' → Rep D φ' h' H' → ER D φ' H' ρ' σ' → E.bk σ' H'
  | .cnt ρ' h' => ∀ φ' H' σ', Ext D φ φ' H H' → Rep D φ' h' H' → ER D φ' H' ρ' σ' → E.ct σ' H'
  | .ret v h' => ∀ φ' H' x, Ext D φ φ' H H' → Rep D φ' h' H' → VR D φ' H' v x → E.rt x H'
  | .exc c fs ρ' h' => ∀ φ' H' σ' d, Ext D φ φ' H H' → Rep D φ' h' H' → ER D φ' H' ρ' σ' → XR φ' H' fs d → W (.ref (D.ca c)) d σ' H'
  | .bad => False
def tS (D : Dm) (W : WX) (m : Env → MH → SOut) : TS := fun E σ H => ∃ φ h ρ, Rep D φ h H ∧ ER D φ H ρ σ ∧ FinX D W φ H E (m ρ h)
/-- the frame is a function's -/
def FrOk (X : Cx) : Prop := X.stack = X.env :: X.outer ∧ X.env.frame = some X.env.locals
def SS (L : Lk) (P : Prog) (G : Sc) (n : Nat) (st : Stmt) (m : Env → MH → SOut) : Prop := ∀ (X : Cx) (W : WX), XOk L P G n X → Takes X W → PassesOwn (model X.prog X.w) X.A X.env X.xe → FrOk X → PS X st (tS (dm X L.ca) W m)
def SSs (L : Lk) (P : Prog) (G : Sc) (n : Nat) (st : List Stmt) (m : Env → MH → SOut) : Prop := ∀ (X : Cx) (W : WX), XOk L P G n X → Takes X W → PassesOwn (model X.prog X.w) X.A X.env X.xe → FrOk X → PSs X st (tS (dm X L.ca) W m)
/-- an outcome, then a statement's end -/
def Out.thenS {α : Type} (o : Out α) (ρ : Env) (k : α → MH → SOut) : SOut := match o with
  | .ok v h1 => k v h1
  | .exc c fs h1 => .exc c fs ρ h1
  | .bad => .bad
def SOut.seq (o : SOut) (k : Env → MH → SOut) : SOut := match o with
  | .next ρ1 h1 => k ρ1 h1
  | o => o
section
variable {D : Dm} {W : WX} {φ φ' : List Addr} {H H' : Hp} {E : Ends} {ρ : Env} {σ : St} {h : MH}
theorem FinX.mono {o : SOut} (f : FinX D W φ H E o) (p : Ext D φ φ' H H') : FinX D W φ' H' E o := by
  cases o with
  | next ρ' h' => exact fun φ2 H2 x p2 => f φ2 H2 x (p.trans p2)
  | brk ρ' h' => exact fun φ2 H2 x p2 => f φ2 H2 x (p.trans p2)
  | cnt ρ' h' => exact fun φ2 H2 x p2 => f φ2 H2 x (p.trans p2)
  | ret v h' => exact fun φ2 H2 x p2 => f φ2 H2 x (p.trans p2)
  | exc c fs ρ' h' => exact fun φ2 H2 x d p2 => f φ2 H2 x d (p.trans p2)
  | bad => exact f
theorem FinX.first {α β : Type} {R : List Addr → Hp → α → β → Prop} {o : Out α} {k : α → MH → SOut} (f : FinX D W φ H E (o.thenS ρ k)) (er : ER D φ H ρ σ) :
    Fin D W R σ φ H (fun x H1 => ∃ φ1 h1 v, o = .ok v h1 ∧ Ext D φ φ1 H H1 ∧ Rep D φ1 h1 H1 ∧ R φ1 H1 v x ∧ FinX D W φ1 H1 E (k v h1)) o := by
  cases o with
  | ok v h1 => exact fun φ1 H1 x p r s => ⟨φ1, h1, v, rfl, p, r, s, FinX.mono (show FinX D W φ H E (k v h1) from f) p⟩
  | exc c fs h1 => exact fun φ1 H1 d p r x => f φ1 H1 σ d p r (er.ext p) x
  | bad => exact f
theorem FinX.seq {o : SOut} {k : Env → MH → SOut} (f : FinX D W φ H E (o.seq k)) : FinX D W φ H { E with nx := tS D W k E } o := by
  cases o with
  | next ρ' h' => exact fun φ1 H1 σ1 p r e => ⟨φ1, h', ρ', r, e, FinX.mono (show FinX D W φ H E (k ρ' h') from f) p⟩
  | brk ρ' h' => exact f
  | cnt ρ' h' => exact f
  | ret v h' => exact f
  | exc c fs ρ' h' => exact f
  | bad => exact f
theorem FinX.imp {o : SOut} {E' : Ends} (f : FinX D W φ H E o) (h1 : ∀ σ H, E.nx σ H → E'.nx σ H) (h2 : ∀ σ H, E.bk σ H → E'.bk σ H) (h3 : ∀ σ H, E.ct σ H → E'.ct σ H) (h4 : ∀ v H, E.rt v H → E'.rt v H) : FinX D W φ H E' o := by
  cases o with
  | next ρ' h' => exact fun φ1 H1 σ1 p r e => h1 _ _ (f φ1 H1 σ1 p r e)
  | brk ρ' h' => exact fun φ1 H1 σ1 p r e => h2 _ _ (f φ1 H1 σ1 p r e)
  | cnt ρ' h' => exact fun φ1 H1 σ1 p r e => h3 _ _ (f φ1 H1 σ1 p r e)
  | ret v h' => exact fun φ1 H1 σ1 p r e => h4 _ _ (f φ1 H1 σ1 p r e)
  | exc c fs ρ' h' => exact f
  | bad => exact f
/-- a store's end -/
theorem FinX.asg {o : SOut} {ss : List Nat} (f : FinX D W φ H E o) (hn : ∀ v h1, o ≠ .ret v h1) (hb : ∀ ρ h1, o ≠ .brk ρ h1) (hc : ∀ ρ h1, o ≠ .cnt ρ h1) : FinA D W ss σ φ H E.nx o := by
  cases o with
  | next ρ' h' => exact fun φ1 H1 σ1 p r e _ => f φ1 H1 σ1 p r e
  | brk ρ' h' => exact absurd rfl (hb _ _)
  | cnt ρ' h' => exact absurd rfl (hc _ _)
  | ret v h' => exact absurd rfl (hn _ _)
  | exc c fs ρ' h' => exact f
  | bad => exact f
end
/-- a store neither returns nor breaks -/
def Tame (o : SOut) : Prop := (∀ v h1, o ≠ .ret v h1) ∧ (∀ ρ h1, o ≠ .brk ρ h1) ∧ ∀ ρ h1, o ≠ .cnt ρ h1
mutual
theorem asg_tame (C : Cfg) : ∀ (t : MT) (v : MV) (ρ : Env) (h : MH), Tame (asg C t v ρ h)
  | .name i, v, ρ, h => by unfold asg; exact ⟨fun _ _ => by simp, fun _ _ => by simp, fun _ _ => by simp⟩
  | .tup ts, v, ρ, h => by
    unfold asg
    cases v with
    | tup xs => exact asgs_tame C ts xs ρ h
    | _ => exact ⟨fun _ _ => by simp, fun _ _ => by simp, fun _ _ => by simp⟩
  | .sub a i, v, ρ, h => by
    unfold asg
    split
    · split
      · split <;> exact ⟨fun _ _ => by simp, fun _ _ => by simp, fun _ _ => by simp⟩
      · exact ⟨fun _ _ => by simp, fun _ _ => by simp, fun _ _ => by simp⟩
      · exact ⟨fun _ _ => by simp, fun _ _ => by simp, fun _ _ => by simp⟩
    · exact ⟨fun _ _ => by simp, fun _ _ => by simp, fun _ _ => by simp⟩
    · exact ⟨fun _ _ => by simp, fun _ _ => by simp, fun _ _ => by simp⟩
theorem asgs_tame (C : Cfg) : ∀ (t : MTs) (v : List MV) (ρ : Env) (h : MH), Tame (asgs C t v ρ h)
  | .nil, v, ρ, h => by
    cases v with
    | nil => unfold asgs; exact ⟨fun _ _ => by simp, fun _ _ => by simp, fun _ _ => by simp⟩
    | cons _ _ => unfold asgs; exact ⟨fun _ _ => by simp, fun _ _ => by simp, fun _ _ => by simp⟩
  | .cons t ts, v, ρ, h => by
    cases v with
    | nil => unfold asgs; exact ⟨fun _ _ => by simp, fun _ _ => by simp, fun _ _ => by simp⟩
    | cons v vs =>
      rw [asgs]
      cases q : asg C t v ρ h with
      | next ρ1 h1 => exact asgs_tame C ts vs ρ1 h1
      | _ => exact ⟨fun _ _ => by simp, fun _ _ => by simp, fun _ _ => by simp⟩
end
section
variable {L : Lk} {P : Prog} {G : Sc} {n : Nat} {e tg l : Expr} {pos : Pos} {m ma mb mc : Env → MH → Out MV} {st : Stmt} {sts : List Stmt} {ms ms' : Env → MH → SOut}
theorem ss_exp (hc : nocomp e = true) (ha : SE L P G n e m) : SS L P G n (.Expr e pos) (fun ρ h => (m ρ h).thenS ρ fun _ h1 => .next ρ h1) := fun X W k tk ps fo => ⟨fun pins s σ H D I ⟨φ, h0, ρ, rp, er, f⟩ =>
  (ps_expr (ha X W k tk) (by cases e <;> first | rfl | cases hc)).run pins s σ H D I ⟨φ, h0, ρ, rp, er, (f.first er).imp fun x H1 ⟨φ1, h1, v, _, p1, rp1, w1, f1⟩ => f1 φ1 H1 σ Ext.refl rp1 (er.ext p1)⟩⟩
theorem ss_next (h : ∀ X, PS X st tNext) : SS L P G n st (fun ρ h => .next ρ h) := fun X W k tk ps fo => ⟨fun pins s σ H D I ⟨φ, h0, ρ, rp, er, f⟩ => (h X).run pins s σ H D I (f φ H σ Ext.refl rp er)⟩
theorem ss_brk : SS L P G n (.Break pos) (fun ρ h => .brk ρ h) := fun X W k tk ps fo => ⟨fun pins s σ H D I ⟨φ, h0, ρ, rp, er, f⟩ => ps_break.run pins s σ H D I (f φ H σ Ext.refl rp er)⟩
theorem ss_cnt : SS L P G n (.Continue pos) (fun ρ h => .cnt ρ h) := fun X W k tk ps fo => ⟨fun pins s σ H D I ⟨φ, h0, ρ, rp, er, f⟩ => ps_continue.run pins s σ H D I (f φ H σ Ext.refl rp er)⟩
theorem ss_retN : SS L P G n (.Return none pos) (fun _ h => .ret .non h) := fun X W k tk ps fo => ⟨fun pins s σ H D I ⟨φ, h0, ρ, rp, er, f⟩ => ps_retN.run pins s σ H D I (f φ H _ Ext.refl rp .non)⟩
theorem ss_ret (ha : SE L P G n e m) : SS L P G n (.Return (some e) pos) (fun ρ h => (m ρ h).thenS ρ fun v h1 => .ret v h1) := fun X W k tk ps fo => ⟨fun pins s σ H D I ⟨φ, h0, ρ, rp, er, f⟩ =>
  (ps_ret (ha X W k tk)).run pins s σ H D I ⟨φ, h0, ρ, rp, er, (f.first er).imp fun x H1 ⟨φ1, h1, v, _, p1, rp1, w1, f1⟩ => f1 φ1 H1 x Ext.refl rp1 w1⟩⟩
/-- o.f = e -/
theorem ss_setf {f : Str} {o e : Expr} {p2 : Pos} (hc : nocomp e = true) (ho : SE L P G n o ma) (he : SE L P G n e m) : SS L P G n (.Assign [.Attribute o f p2] e pos) (fun ρ h => (m ρ h).thenS ρ fun v h1 => (ma ρ h1).thenS ρ fun z h2 => match setF (P.cfg (callM P n)) f z v h2 with
    | some h3 => .next ρ h3
    | none => .bad) := fun X W k tk ps fo => ⟨fun pins s σ H D I ⟨φ, h0, ρ, rp, er, fi⟩ => by
  refine (ps_fld (ho X W k tk) (he X W k tk) (by cases e <;> first | rfl | cases hc)).run pins s σ H D I ⟨φ, h0, ρ, rp, er, (fi.first er).imp fun y H1 ⟨φ1, h1, v, _, p1, rp1, w1, f1⟩ => ⟨φ1, h1, ρ, rp1, er.ext p1, (FinX.first f1 (er.ext p1)).imp fun x H2 ⟨φ2, h2, z, _, p2, rp2, w2, f2⟩ => ?_⟩⟩
  cases q : setF (P.cfg (callM P n)) f z v h2 with
  | none => rw [q] at f2; exact f2.elim
  | some h3 =>
    rw [q] at f2
    unfold setF at q
    cases w2 with
    | @ref i b hm =>
      dsimp only at q
      split at q
      · rename_i c fs q1
        split at q
        · rename_i K' hK
          split at q
          · rename_i hz
            cases q
            obtain ⟨z1, z2⟩ := Bool.and_eq_true_iff.mp hz
            obtain ⟨cl, mk⟩ := k.clsI hK
            obtain ⟨dx, ys, g1, g2⟩ := rp2.ins hm q1
            have mu : Mut (H2 b) := by rw [g1]; exact True.intro
            have lz : ys.length < 1000 := by
              have : fs.length = ys.length := g2.length
              rw [← this]; exact of_decide_eq_true z2
            refine ⟨b, L.ca c, dx, ys, rfl, g1, cl, by rw [k.K]; exact mk.att f (by simpa using z1), lz, ?_⟩
            have x1 : Ext (dm X L.ca) φ2 φ2 H2 (upd H2 b (.ins (L.ca c) dx (putF f y ys))) := Ext.mut hm mu
            exact f2 φ2 _ σ x1 (rp2.set hm mu ⟨dx, _, upd_same, L2.Paired.mapP (fe_put g2 (w1.ext p2)) fun _ _ z => ⟨z.1, z.2.ext x1⟩⟩) (((er.ext p1).ext p2).ext x1)
          · cases q
        · cases q
      · cases q
    | _ => cases q⟩
/-- a comprehension's value goes straight to its name -/
def swC (G : Sc) (tg e : Expr) : Bool := match e with
  | .ListComp _ _ s p => (match tg with
    | .Name t tp => decide (G.sc.names.lookup t = some .local) && ((tp.line == p.line) && !(s.names.any fun (n, k) => n == t && (k == .local || k == .cell)))
    | _ => false)
  | .SetComp .. => true
  | .DictComp .. => true
  | _ => false
theorem sw_false {X : Cx} {l0 : Nat} (hk : X.env.scope.kind = .function) (hs : X.env.scope = G.sc) (h : swC G tg e = false) : swapsWithSole [tg] e l0 X.env = pure false := by
  have hb : X.env.blockKind = .function := by unfold Env.blockKind; rw [hk]; rfl
  show swapsWith e (some tg) l0 X.env = pure false
  cases e with
  | ListComp el gs s p =>
    cases tg with
    | Name t tp =>
      unfold swC at h
      dsimp only at h
      unfold swapsWith
      rw [← hs] at h
      have e1 : X.env.kindOf t = X.env.scope.names.lookup t := rfl
      simp only [hb, e1, Expr.pos]
      by_cases q : X.env.scope.names.lookup t = some .local
      · rw [q] at h ⊢
        have h' : ((tp.line == p.line) && !(s.names.any fun (n, k) => n == t && (k == .local || k == .cell))) = false := by simpa using h
        show (pure _ : Sem Bool) = _
        congr 1
      · have q' : (X.env.scope.names.lookup t == some NameKind.local) = false := by
          cases z : (X.env.scope.names.lookup t == some NameKind.local) with
          | false => rfl
          | true => exact absurd (by simpa using z) q
        rw [q']
        rfl
    | _ => rfl
  | SetComp _ _ _ _ => cases h
  | DictComp _ _ _ _ _ => cases h
  | _ => rfl
theorem ss_asg {ss : List Nat} {g : MV → Env → MH → SOut} (h1 : swC G tg e = false) (h2 : nostar tg = true) (h3 : (notup tg || notup e) = true) (ht : ∀ v ρ h, Tame (g v ρ h)) (ha : SE L P G n e m) (hg : SG L P G n tg ss g) : SS L P G n (.Assign [tg] e pos) (fun ρ h => (m ρ h).thenS ρ fun v h1 => g v ρ h1) := fun X W k tk ps fo => ⟨fun pins s σ H D I ⟨φ, h0, ρ, rp, er, f⟩ => by
  refine (ps_asg (ha X W k tk) (hg X W k tk) (sw_false I.ok.kind k.sc h1) ?_ (by rw [each_cons h2]; rfl)).run pins s σ H D I ⟨φ, h0, ρ, rp, er, (f.first er).imp fun x H1 ⟨φ1, h1, v, _, p1, rp1, w1, f1⟩ => ⟨φ1, h1, ρ, v, rp1, er.ext p1, w1, f1.asg (ht v ρ h1).1 (ht v ρ h1).2.1 (ht v ρ h1).2.2⟩⟩
  cases tg <;> first | rfl | (cases e <;> first | rfl | cases h3)⟩
theorem ss_setLc {i : Nat} {y : Str} {py spos : Pos} {elt tg iter : Expr} {ifs : List Expr} {scope : Scope} {own : List (Str × Nat)} {pos : Pos} {mi : Env → MH → Out Mi.It} {g : MV → Env → MH → SOut} {mt : Env → MH → Out Bool} {me : Env → MH → Out MV} {ss : List Nat} (hs : swC G (.Name y py) (.ListComp elt [⟨tg, iter, ifs, 0⟩] scope pos) = true) (hl : G.loc i y = true)
    (hb : blkC G.N G.sc scope own = true) (hn : noset iter = true) (hss : ∀ j ∈ ss, j ∈ own.map (·.2))
    (hi : SI L P G n tg iter mi) (hg : SG L P ⟨G.N, relS scope G.sc, some scope⟩ n tg ss g) (ht : SPt L P ⟨G.N, relS scope G.sc, some scope⟩ n ifs mt) (he : SE L P ⟨G.N, relS scope G.sc, some scope⟩ n elt me) :
    SS L P G n (.Assign [.Name y py] (.ListComp elt [⟨tg, iter, ifs, 0⟩] scope pos) spos) (fun ρ h => (lcR mi g mt me (own.map (·.2)) P.fuel ρ h).thenS ρ fun v h1 => .next (ρ.set i (some v)) h1) := fun X W k tk ps fo => ⟨fun pins s σ H D I ⟨φ, h0, ρ, rp, er, f⟩ => by
  have hb' : blkC X.N X.env.scope scope own = true := by rw [k.N, k.sc]; exact hb
  obtain ⟨g1, g2, g3⟩ := k.loc hl
  unfold swC at hs
  dsimp only at hs
  simp only [Bool.and_eq_true, decide_eq_true_eq, Bool.not_eq_true'] at hs
  have hy : X.env.scope.names.lookup y = some .local := by rw [k.sc]; exact hs.1
  refine (ps_setLc (spos := spos) (te := tE (dm X L.ca) Wn me) (tt := tT (dm X L.ca) Wn mt) (g := tGm (dm X L.ca) Wn ss g) k.calm k.nd g1 hy (sw_true I.ok.kind hy hs.2.1 hs.2.2) (hi X W k tk) (blkOk_by hb') (fun s H C cl fp => hg _ Wn (k.blk s H scope cl C fp) takesN) (fun s H C cl fp => ht _ Wn (k.blk s H scope cl C fp) takesN) (fun s H C cl fp => he _ Wn (k.blk s H scope cl C fp) takesN) (fun x => set_of hn)).run pins s σ H D I ?_
  show tLc _ _ _ _ _ σ H (fun x H1 => gName i x σ H1 D.nx)
  exact lc_rd hss ⟨φ, h0, ρ, rp, er, (f.first er).imp fun x H1 ⟨φ1, h1, v, _, p1, rp1, w1, f1⟩ => f1 φ1 H1 _ Ext.refl rp1 ((er.ext p1).set i w1)⟩⟩
def ipM (op : Operator) : TIp := fun x y H Q => (∃ i j, x = .int i ∧ y = .int j ∧ ((op = .Add ∧ Q (.int (i + j)) H) ∨ (op = .Sub ∧ Q (.int (i - j)) H))) ∨ ∃ i j, x = .str i ∧ y = .str j ∧ op = .Add ∧ i.length + j.length ≤ sizeLine ∧ Q (.str (i ++ j)) H
theorem ip_M {X : Cx} {op : Operator} : PIp X op (ipM op) := fun pins s σ H x y v u Q I r1 r2 h => by
  rcases h with ⟨i, j, e1, e2, ⟨rfl, q⟩ | ⟨rfl, q⟩⟩ | ⟨i, j, e1, e2, rfl, hz, q⟩
  · exact ip_add pins s σ H x y v u Q I r1 r2 ⟨i, j, e1, e2, q⟩
  · exact ip_sub pins s σ H x y v u Q I r1 r2 ⟨i, j, e1, e2, q⟩
  · exact iop_add_str pins s σ H x y v u Q I r1 r2 ⟨i, j, e1, e2, hz, q⟩
theorem ss_aug {i : Nat} {x : Str} {op : Operator} {px : Pos} (hl : G.loc i x = true) (ha : SE L P G n e m) : SS L P G n (.AugAssign (.Name x px) op e pos) (fun ρ h => match slotO ρ i with
    | some v => (m ρ h).thenS ρ fun w h1 => (augM op v w h1).thenS ρ fun z h2 => .next (ρ.set i (some z)) h2
    | none => .bad) := fun X W k tk ps fo => ⟨fun pins s σ H D I ⟨φ, h0, ρ, rp, er, f⟩ => by
  obtain ⟨g1, g2, g3⟩ := k.loc hl
  dsimp only at f
  cases q : slotO ρ i with
  | none => rw [q] at f; exact f.elim
  | some v =>
    rw [q] at f
    have e' : ρ[i]? = some (some v) := by
      unfold slotO at q
      split at q
      · rename_i q'; cases q; exact q'
      · cases q
    obtain ⟨y, hy, w⟩ := er.at_ i v e'
    refine (ps_aug k.nd g1 g2 (ha X W k tk) ip_M g3).run pins s σ H D I ⟨y, hy, φ, h0, ρ, rp, er, (FinX.first f er).imp fun x H1 ⟨φ1, h1, u, _, p1, rp1, w1, f1⟩ => ?_⟩
    have w := w.ext p1
    have er1 := er.ext p1
    have fin : ∀ {z : MV} {y' : V}, augM op v u h1 = .ok z h1 → VR (dm X L.ca) φ1 H1 z y' → D.nx (σ.set i (some y')) H1 := fun {z y'} ez wz => by
      rw [ez] at f1
      exact f1 φ1 H1 _ Ext.refl rp1 (er1.set i wz)
    cases op with
    | Add =>
      cases w with
      | int a => cases w1 with
        | int b => exact .inl ⟨a, b, rfl, rfl, .inl ⟨rfl, fin rfl (.int _)⟩⟩
        | _ => exact f1.elim
      | str a => cases w1 with
        | str b =>
          by_cases hz : a.length + b.length ≤ line
          · exact .inr ⟨a, b, rfl, rfl, rfl, by rw [← line_eq]; exact hz, fin (by unfold augM; dsimp only; rw [if_pos hz]) (.str _)⟩
          · have f1 : FinX (dm X L.ca) W φ1 H1 D ((if a.length + b.length ≤ line then Out.ok (.str (a ++ b)) h1 else .bad).thenS ρ fun z h2 => .next (ρ.set i (some z)) h2) := f1
            rw [if_neg hz] at f1
            exact f1.elim
        | _ => exact f1.elim
      | _ => exact f1.elim
    | Sub =>
      cases w with
      | int a => cases w1 with
        | int b => exact .inl ⟨a, b, rfl, rfl, .inr ⟨rfl, fin rfl (.int _)⟩⟩
        | _ => exact f1.elim
      | _ => exact f1.elim
    | _ => exact f1.elim⟩
theorem sss_nil : SSs L P G n [] (fun ρ h => .next ρ h) := fun X W k tk ps fo => ⟨fun pins s σ H D I ⟨φ, h0, ρ, rp, er, f⟩ => pss_nil.run pins s σ H D I (f φ H σ Ext.refl rp er)⟩
theorem sss_cons (h1 : SS L P G n st ms) (h2 : SSs L P G n sts ms') : SSs L P G n (st :: sts) (fun ρ h => (ms ρ h).seq ms') := fun X W k tk ps fo => ⟨fun pins s σ H D I ⟨φ, h0, ρ, rp, er, f⟩ =>
  (pss_cons (h1 X W k tk ps fo) (h2 X W k tk ps fo)).run pins s σ H D I ⟨φ, h0, ρ, rp, er, FinX.seq f⟩⟩
theorem ss_if {a b : List Stmt} {mt : Env → MH → Out Bool} (hc : ST L P G n e mt) (ha : SSs L P G n a ms) (hb : SSs L P G n b ms') : SS L P G n (.If e a b pos) (fun ρ h => (mt ρ h).thenS ρ fun c h1 => if c then ms ρ h1 else ms' ρ h1) := fun X W k tk ps fo => ⟨fun pins s σ H D I ⟨φ, h0, ρ, rp, er, f⟩ => by
  refine (ps_if (hc X W k tk) (ha X W k tk ps fo) (hb X W k tk ps fo)).run pins s σ H D I ⟨φ, h0, ρ, rp, er, (f.first er).imp fun x H1 ⟨φ1, h1, c, _, p1, rp1, w1, f1⟩ => ?_⟩
  have w1 : c = x := w1
  subst w1
  cases c with
  | true => rw [if_pos rfl]; exact ⟨φ1, h1, ρ, rp1, er.ext p1, f1⟩
  | false => rw [if_neg Bool.false_ne_true]; exact ⟨φ1, h1, ρ, rp1, er.ext p1, f1⟩⟩
theorem whileM_succ {c : Env → MH → Out Bool} {b : Env → MH → SOut} {m : Nat} {ρ : Env} {h : MH} : whileM c b (m + 1) ρ h = (c ρ h).thenS ρ fun t h1 => if t then (match b ρ h1 with
      | .next ρ2 h2 => whileM c b m ρ2 h2
      | .cnt ρ2 h2 => whileM c b m ρ2 h2
      | .brk ρ2 h2 => .next ρ2 h2
      | o => o) else .next ρ h1 := by
  rw [whileM]
  cases c ρ h with
  | ok t h1 => cases t <;> rfl
  | exc _ _ _ => rfl
  | bad => rfl
theorem FinX.loop {D : Dm} {W : WX} {φ : List Addr} {H : Hp} {E : Ends} {o : SOut} {k : Env → MH → SOut} (f : FinX D W φ H E (match o with
      | .next ρ2 h2 => k ρ2 h2
      | .cnt ρ2 h2 => k ρ2 h2
      | .brk ρ2 h2 => .next ρ2 h2
      | o => o)) {N : St → Hp → Prop} (hN : ∀ φ' h' ρ' σ' H', Ext D φ φ' H H' → Rep D φ' h' H' → ER D φ' H' ρ' σ' → FinX D W φ' H' E (k ρ' h') → N σ' H') : FinX D W φ H { E with nx := N, ct := N, bk := E.nx } o := by
  cases o with
  | next ρ' h' => exact fun φ1 H1 σ1 p r e => hN φ1 h' ρ' σ1 H1 p r e (FinX.mono (show FinX D W φ H E (k ρ' h') from f) p)
  | cnt ρ' h' => exact fun φ1 H1 σ1 p r e => hN φ1 h' ρ' σ1 H1 p r e (FinX.mono (show FinX D W φ H E (k ρ' h') from f) p)
  | brk ρ' h' => exact f
  | ret v h' => exact f
  | exc c fs ρ' h' => exact f
  | bad => exact f
theorem ss_while {mt : Env → MH → Out Bool} {fuel : Nat} (hc : ST L P G n e mt) (hb : SSs L P G n sts ms) : SS L P G n (.While e sts [] pos) (fun ρ h => whileM mt ms fuel ρ h) := fun X W k tk ps fo => ⟨fun pins s σ H D I h => by
  refine (ps_while ps (hc X W k tk) (hb X W k tk ps fo)).run pins s σ H D I ⟨fun m σ H => tS (dm X L.ca) W (whileM mt ms m) D σ H, ⟨fuel, h⟩, ?_⟩
  rintro m σ H ⟨φ, h0, ρ, rp, er, f⟩
  cases m with
  | zero => exact f.elim
  | succ m =>
    rw [whileM_succ] at f
    refine ⟨φ, h0, ρ, rp, er, (f.first er).imp fun x H1 ⟨φ1, h1, c, _, p1, rp1, w1, f1⟩ => ?_⟩
    have w1 : c = x := w1
    subst w1
    cases c with
    | true =>
      rw [if_pos rfl]
      rw [if_pos rfl] at f1
      exact ⟨fun σ H => tS (dm X L.ca) W (whileM mt ms m) D σ H, fun σ' H' w => ⟨m, Nat.lt_succ_self _, w⟩, φ1, h1, ρ, rp1, er.ext p1, FinX.loop f1 fun φ' h' ρ' σ' H' p r e f => ⟨φ', h', ρ', r, e, f⟩⟩
    | false =>
      rw [if_neg Bool.false_ne_true]
      rw [if_neg Bool.false_ne_true] at f1
      exact f1 φ1 H1 σ Ext.refl rp1 (er.ext p1)⟩
theorem ss_for {mi : Env → MH → Out Mi.It} {g : MV → Env → MH → SOut} {fuel : Nat} {ss : List Nat} {iter : Expr} (hn : noset iter = true) (ht : ∀ v ρ h, Tame (g v ρ h)) (hi : SI L P G n tg iter mi) (hg : SG L P G n tg ss g) (hb : SSs L P G n sts ms) : SS L P G n (.For tg iter sts [] pos) (fun ρ h => (mi ρ h).thenS ρ fun I h1 => forM I g ms fuel 0 ρ h1) := fun X W k tk ps fo => ⟨fun pins s σ H D I ⟨φ, h0, ρ, rp, er, f⟩ => by
  refine (ps_for ps k.calm (hi X W k tk) (hg X W k tk) (hb X W k tk ps fo) (fun x => set_of hn)).run pins s σ H D I ⟨φ, h0, ρ, rp, er, (f.first er).imp fun J H1 ⟨φ1, h1, I, _, p1, rp1, ir, f1⟩ => ?_⟩
  refine ⟨fun i m σ' H' => ∃ φ' h' ρ', Ext (dm X L.ca) φ1 φ' H1 H' ∧ Rep (dm X L.ca) φ' h' H' ∧ ER (dm X L.ca) φ' H' ρ' σ' ∧ FinX (dm X L.ca) W φ' H' D (forM I g ms m i ρ' h'), ⟨fuel, φ1, h1, ρ, Ext.refl, rp1, er.ext p1, f1⟩, ?_⟩
  rintro i m σ' H' ⟨φ', h', ρ', x1, rp', er', f'⟩
  cases m with
  | zero => exact f'.elim
  | succ m =>
    obtain ⟨t1, t2⟩ := ir.turn x1 rp' i
    rw [forM] at f'
    cases ea : I.at_ i h' with
    | none => rw [ea] at f'; exact f'.elim
    | some o =>
      rw [ea] at f'
      cases o with
      | none => exact .inl ⟨t1 ea, f' φ' H' σ' Ext.refl rp' er'⟩
      | some v =>
        obtain ⟨t3, t4⟩ := t2 v ea
        refine .inr ⟨t3, fun σ' H' => ∃ φ' h' ρ', Ext (dm X L.ca) φ1 φ' H1 H' ∧ Rep (dm X L.ca) φ' h' H' ∧ ER (dm X L.ca) φ' H' ρ' σ' ∧ FinX (dm X L.ca) W φ' H' D (forM I g ms m (i + 1) ρ' h'), fun σ' H' w => ⟨m, Nat.lt_succ_self _, w⟩, fun x H2 hy => ?_⟩
        obtain ⟨φ2, x2, rp2, w2⟩ := t4 x H2 hy
        refine ⟨φ2, h', ρ', v, rp2, er'.ext x2, w2, ?_⟩
        have f' := FinX.mono f' x2
        dsimp only at f'
        cases eg : g v ρ' h' with
        | next ρ3 h3 =>
          rw [eg] at f'
          intro φ3 H3 σ3 x3 rp3 er3 off
          refine ⟨φ3, h3, ρ3, rp3, er3, FinX.loop (FinX.mono f' x3) fun φ' h' ρ' σ' H' p r e f => ⟨φ', h', ρ', ((x1.trans x2).trans x3).trans p, r, e, f⟩⟩
        | exc c fs ρ3 h3 => rw [eg] at f'; exact f'
        | ret v3 h3 => exact absurd eg ((ht v ρ' h').1 _ _)
        | brk ρ3 h3 => exact absurd eg ((ht v ρ' h').2.1 _ _)
        | cnt ρ3 h3 => exact absurd eg ((ht v ρ' h').2.2 _ _)
        | bad => rw [eg] at f'; exact f'.elim⟩
end

section
variable {L : Lk} {P : Prog} {G : Sc} {n : Nat} {st : Stmt} {sts : List Stmt} {ms ms' : Env → MH → SOut}
theorem SS.cong (h : SS L P G n st ms) (e : ∀ ρ h, ms' ρ h = ms ρ h) : SS L P G n st ms' := by
  have : ms' = ms := funext fun ρ => funext fun h => e ρ h
  rw [this]; exact h
theorem SSs.cong (h : SSs L P G n sts ms) (e : ∀ ρ h, ms' ρ h = ms ρ h) : SSs L P G n sts ms' := by
  have : ms' = ms := funext fun ρ => funext fun h => e ρ h
  rw [this]; exact h
end
section
variable {L : Lk} {P : Prog} {G : Sc} {n : Nat}
theorem ss_unk {st : Stmt} : SS L P G n st (fun _ _ => .bad) := fun X W k tk ps fo => ⟨fun pins s σ H D I ⟨φ, h0, ρ, rp, er, f⟩ => f.elim⟩
theorem smp_any {D : Dm} {φ : List Addr} {H : Hp} {v : MV} {y : V} (h : smp v = true) (w : VR D φ H v y) : ∀ D φ H, VR D φ H v y := by
  cases w with
  | non => exact fun _ _ _ => .non
  | bl b => exact fun _ _ _ => .bl b
  | int i => exact fun _ _ _ => .int i
  | str x => exact fun _ _ _ => .str x
  | _ => cases h
theorem rep_some {D : Dm} {φ : List Addr} {h : MH} {H : Hp} (r : Rep D φ h H) {a : Addr} (ha : a ∈ φ) : ∃ u, H a = some u := by
  obtain ⟨i, hi⟩ := List.mem_iff_getElem?.mp ha
  obtain ⟨o', q⟩ := r.there hi
  exact (r.get hi q).some
/-- raise C(e) -/
theorem ss_raise {x : Str} {c : Nat} {e : Expr} {p2 pos pos' : Pos} {m : Mi.Env → MH → Out MV} (hg : G.gl x = true) (hc : (match P.cls[c]? with
      | some K => decide (K.name = x) && (K.exc.bind id).isSome
      | none => false) = true) (hs : nostar e = true) (ha : SE L P G n e m) : SS L P G n (.Raise (some (.Call (.Name x p2) [e] [] pos)) none pos') (fun ρ h => (m ρ h).thenS ρ fun v h1 => raiseM (P.cfg (callM P n)) c v ρ h1) := fun X W k tk ps fo => ⟨fun pins s σ H D I ⟨φ, h0, ρ, rp, er, f⟩ => by
  obtain ⟨g1, g2, g3⟩ := k.gl hg
  cases hK : P.cls[c]? with
  | none => simp only [hK] at hc; cases hc
  | some K' =>
    simp only [hK, Bool.and_eq_true, decide_eq_true_eq] at hc
    obtain ⟨rfl, hx⟩ := hc
    have hm : X.mg K'.name = some (.ref (L.ca c)) := by rw [k.mg]; exact k.ok.at_ c K' hK
    cases hf : K'.exc with
    | none => rw [hf] at hx; cases hx
    | some o =>
      have E := k.ok.exc c K' hK (by rw [hf]; rfl)
      cases o with
      | none => rw [hf] at hx; cases hx
      | some fl =>
        obtain ⟨fI, fd, par, i1, i2, S, B⟩ := E.mkx fl hf
        rw [← k.prog, ← k.K] at S
        rw [← k.K] at i1 i2 B
        refine (ps_raise (pos := pos') k.calm tk (pmk_oex (pos := pos) (p := p2) S.oex i1 i2 (sup_ok (w := X.w) (mg := X.mg) (base := X.base) (CX := CX0) S) (k.room.mono (by omega)) B .nil pass0 g1 hm (pa_cons (ha X W k tk) pa_nil (star_cons hs)) g2 (star_cons hs) rfl)).run pins s σ H D I ?_
        refine ⟨φ, h0, ρ, rp, er, (f.first er).imp fun y H1 ⟨φ1, h1, v, _, p1, rp1, w1, f1⟩ => ?_⟩
        refine ⟨(by decide : 1 ≤ 1000), fun a hna => ⟨a, y, rfl, upd_same, fun dx hdx ne => ?_⟩⟩
        refine ⟨rfl, dx, [(fl, y)], upd_same, ?_, ?_, ?_⟩
        · rw [upd_ne ne, upd_same]
        · rw [upd_ne ne] at hdx; exact hdx
        · have hdx1 : H1 dx = none := by rw [upd_ne ne] at hdx; exact hdx
          have eH : upd (del (upd (upd (upd H1 a (exo a (L.ca c) none)) dx (exd dx [(fl, y)])) a (exo a (L.ca c) (some dx))) a) dx (.xd [(fl, y)]) = upd H1 dx (.xd [(fl, y)]) := by
            funext b
            by_cases hb : b = dx
            · rw [hb, upd_same, upd_same]
            · rw [upd_ne hb, upd_ne hb]
              by_cases hb2 : b = a
              · rw [hb2, del_same]; exact hna.symm
              · rw [del_ne hb2, upd_ne hb2, upd_ne hb, upd_ne hb2]
          rw [eH]
          unfold raiseM at f1
          have hK2 : (P.cfg (callM P n)).cls[c]? = some K' := hK
          rw [hK2] at f1
          dsimp only at f1
          rw [hf] at f1
          dsimp only at f1
          by_cases hv : smp v = true
          · rw [if_pos hv] at f1
            have x1 : Ext (dm X L.ca) φ1 φ1 H1 (upd H1 dx (.xd [(fl, y)])) := Ext.lay hdx1
            refine f1 φ1 _ σ (some dx) x1 (rp1.upd hdx1) ((er.ext p1).ext x1) ⟨fl, v, y, dx, rfl, rfl, fun hm => ?_, upd_same, hv, smp_any hv w1⟩
            obtain ⟨u, hu⟩ := rep_some rp1 hm
            rw [hdx1] at hu; cases hu
          · rw [if_neg hv] at f1; exact f1.elim⟩
end
/-! ### try -/
theorem ER.unset {D : Dm} {φ : List Addr} {H : Hp} {ρ : Mi.Env} {σ : L2.St} (e : ER D φ H ρ σ) (i : Nat) (o : Option V) : ER D φ H (ρ.set i none) (σ.set i o) := by
  refine ⟨by simp [e.len], fun j u q => ?_⟩
  by_cases hj : i = j
  · subst hj
    by_cases hl : i < ρ.length
    · rw [List.getElem?_set_self hl] at q; cases q
    · rw [List.getElem?_eq_none (by simpa using hl)] at q; cases q
  · rw [List.getElem?_set_ne hj] at q
    rw [List.getElem?_set_ne hj]
    exact e.at_ j u q
def nmOf : ExceptHandler → Option Str
  | .ExceptHandler _ nm _ _ => nm
/-- what a clause's suite wishes -/
def sutT (L : Lk) (P : Prog) (X : Cx) (d : Hd) (nm : Option Str) : SuiteT := fun a cls dd => fun D σ H => ∃ c, cls = .ref (L.ca c) ∧ tX VR (dm X L.ca) a nm X.N dd (fun fs ρ => evX P.cls c fs ρ d.e) σ H fun v H1 => D.rt v H1
def hdL (L : Lk) (P : Prog) (X : Cx) : List Hd → List ExceptHandler → List (Value × Option Nat × SuiteT)
  | d :: ds, h :: hs => (xcV L d.cls, d.slot, sutT L P X d (nmOf h)) :: hdL L P X ds hs
  | _, _ => []
section
variable {L : Lk} {P : Prog} {G : Sc} {n : Nat}
theorem hd_form {d : Hd} {h : ExceptHandler} (c : chkHd P G d h = true) : ∃ x np nm e p1 p2, h = .ExceptHandler (some (.Name x np)) nm [.Return (some e) p1] p2 ∧ G.gl x = true ∧ d.cls.ok P x = true ∧ chkX P G nm d.e e = true ∧ ((nm = none ∧ d.slot = none) ∨ ∃ y i, nm = some y ∧ d.slot = some i ∧ G.vis i y = true ∧ G.sc.names.lookup y = some .local) := by
  unfold chkHd at c
  split at c
  · rename_i x np nm e p1 p2
    simp only [Bool.and_eq_true, decide_eq_true_eq] at c
    obtain ⟨c1, c2, c3, c4, c5⟩ := c
    refine ⟨x, np, nm, e, p1, p2, rfl, c2, c3, c4, ?_⟩
    split at c5
    · rename_i q1
      exact .inl ⟨rfl, q1⟩
    · rename_i y i q1
      simp only [Bool.and_eq_true, decide_eq_true_eq] at c5
      exact .inr ⟨y, i, rfl, q1, c5.1, c5.2⟩
    · cases c5
  · cases c
theorem hds_ok {X : Cx} (k : XOk L P G n X) : ∀ {ds : List Hd} {hs : List ExceptHandler}, chkHds P G ds hs = true → HdsA X hs (hdL L P X ds hs)
  | [], hs, h => by
    unfold chkHds at h
    cases hs with
    | nil => exact .nil
    | cons _ _ => cases h
  | d :: ds, hs, h => by
    unfold chkHds at h
    cases hs with
    | nil => cases h
    | cons hd hs =>
      simp only [Bool.and_eq_true] at h
      have ih := hds_ok k (ds := ds) (hs := hs) h.2
      obtain ⟨x, np, nm, e, p1, p2, rfl, g1, g2, g3, g4⟩ := hd_form h.1
      have nmk : NmOk G nm := by
        intro y hy
        rcases g4 with ⟨rfl, _⟩ | ⟨y', i, rfl, _, hv, _⟩
        · cases hy
        · cases hy; exact ⟨i, hv⟩
      have su : ∀ (a : Addr) (oe : Obj) (cls : Value) (dd : Option Addr) (pn : List (Addr × Obj)), Zc cls dd oe → (∃ vs, oe.data = .fields vs) → PSs (X.suite a ((a, oe) :: pn)) [.Return (some e) p1] (sutT L P X d nm a cls dd) := fun a oe cls dd pn hz hf => ⟨fun pins s σ H D I ⟨c, ec, ht⟩ => by
        subst ec
        exact (pss_one (ps_ret (okX L P n d.e G nm e nmk g3 X a oe c dd pn k hz hf))).run pins s σ H D I ht⟩
      show HdsA X _ ((xcV L d.cls, d.slot, sutT L P X d nm) :: hdL L P X ds hs)
      rcases g4 with ⟨rfl, e2⟩ | ⟨y, i, rfl, e2, hv, hl⟩
      · rw [e2]
        exact .cons (k.names g1 g2) su ih
      · rw [e2]
        refine .consA (k.names g1 g2) (k.vis hv).1 ?_ su ih
        show X.env.scope.names.lookup y = some .local
        rw [k.sc]; exact hl
/-- an exception of the body, at the clauses -/
theorem caught {X : Cx} {W : WX} (k : XOk L P G n X) {E : Ends} {c : Nat} {fs : List (Str × MV)} {ρ : Mi.Env} {h : MH} {φ : List Addr} {H : Hp} {σ : L2.St} {dd : Option Addr} (rp : Rep (dm X L.ca) φ h H) (er : ER (dm X L.ca) φ H ρ σ) (xr : XR φ H fs dd) : ∀ {ds : List Hd} {hs : List ExceptHandler}, chkHds P G ds hs = true →
    FinX (dm X L.ca) W φ H E (match hdX P.cls c ds with
    | some (some d) => match evX P.cls c fs (match d.slot with | some i => ρ.set i none | none => ρ) d.e with
      | some v => .ret v h
      | none => .bad
    | some none => .exc c fs ρ h
    | none => .bad) → wManyA X.K W E (hdL L P X ds hs) (.ref (L.ca c)) dd σ H
  | [], hs, hc, f => by
    unfold chkHds at hc
    cases hs with
    | nil => exact f φ H σ dd Ext.refl rp er xr
    | cons _ _ => cases hc
  | d :: ds, hs, hc, f => by
    unfold chkHds at hc
    cases hs with
    | nil => cases hc
    | cons hd hs =>
      simp only [Bool.and_eq_true] at hc
      obtain ⟨x, np, nm, e, p1, p2, rfl, g1, g2, g3, g4⟩ := hd_form hc.1
      rw [hdX] at f
      cases q : isX P.cls c d.cls with
      | none => simp only [q] at f; exact f.elim
      | some b =>
        obtain ⟨K', hK, E1, E2, E3⟩ := isX_kit k q
        refine ⟨b, E3, fun hb a ha => ?_, fun hb => ?_⟩
        · subst hb
          simp only [q] at f
          rcases g4 with ⟨rfl, e2⟩ | ⟨y, i, rfl, e2, hv, hl⟩
          · rw [e2] at f ⊢
            dsimp only at f ⊢
            cases ev : evX P.cls c fs ρ d.e with
            | none => rw [ev] at f; exact f.elim
            | some v =>
              rw [ev] at f
              exact ⟨c, rfl, φ, h, ρ, fs, v, rp, er, xr, (fun _ _ z => by cases z), ev, fun φ' H' y p r w => f φ' H' y p r w⟩
          · rw [e2] at f ⊢
            dsimp only at f ⊢
            cases ev : evX P.cls c fs (ρ.set i none) d.e with
            | none => rw [ev] at f; exact f.elim
            | some v =>
              rw [ev] at f
              refine ⟨c, rfl, φ, h, ρ.set i none, fs, v, rp, er.unset i _, xr, ?_, ev, fun φ' H' y p r w => f φ' H' y p r w⟩
              intro y' j hy hj hlt
              cases hy
              have hi := (k.vis hv).1
              have ij : j = i := by
                obtain ⟨l1, z1⟩ := List.getElem?_eq_some_iff.mp hi
                obtain ⟨l2, z2⟩ := List.getElem?_eq_some_iff.mp hj
                exact (List.getElem_inj k.nd).mp (z2.trans z1.symm)
              subst ij
              rw [List.getElem?_set_self (by simpa using hlt)]
        · subst hb
          simp only [q] at f
          exact caught k rp er xr hc.2 f
theorem ss_try {b : List Stmt} {h0 : ExceptHandler} {hds : List ExceptHandler} {ds : List Hd} {pos : Pos} {ms : Mi.Env → MH → SOut} (hb : SSs L P G n b ms) (hc : chkHds P G ds (h0 :: hds) = true) : SS L P G n (.Try b (h0 :: hds) [] [] pos) (fun ρ h => catchM (P.cfg (callM P n)) ds (ms ρ h)) := fun X W k tk ps fo => by
  have T := ps_try_manyA (pos := pos) (tb := fun W => tS (dm X L.ca) W ms) fo.1 fo.2 k.nd tk (fun W pn xe tk' ps' => hb (X.tr pn xe) W ⟨k.prog, k.w, k.K, k.mg, k.base, k.N, k.nd, k.sc, k.room, k.calm, k.fn, k.ok⟩ tk' ps' ⟨fo.1, fo.2⟩) (hds_ok k hc)
  refine ⟨fun pins s σ H D I ⟨φ, h1, ρ, rp, er, f⟩ => T.run pins s σ H D I ⟨φ, h1, ρ, rp, er, ?_⟩⟩
  have f : FinX (dm X L.ca) W φ H D (catchM (P.cfg (callM P n)) ds (ms ρ h1)) := f
  show FinX (dm X L.ca) _ φ H D (ms ρ h1)
  generalize ms ρ h1 = o at f
  cases o with
  | exc c fs ρ' h' =>
    intro φ' H' σ' dd p r e x
    exact caught k r e x hc (FinX.mono (show FinX (dm X L.ca) W φ H D (match hdX P.cls c ds with
      | some (some d) => match evX P.cls c fs (match d.slot with | some i => ρ'.set i none | none => ρ') d.e with
        | some v => .ret v h'
        | none => .bad
      | some none => .exc c fs ρ' h'
      | none => .bad) from f) p)
  | next ρ' h' => exact f
  | brk ρ' h' => exact f
  | cnt ρ' h' => exact f
  | ret v h' => exact f
  | bad => exact f
end
theorem okSet (L : Lk) (P : Prog) (n : Nat) {G : Sc} {t : MT} {a : ME} {tg e : Expr} {pos : Pos} (h1 : chkT P G t tg = true) (h2 : chkE P G a e = true) (h3 : nostar tg = true) (h4 : (notup tg || notup e) = true) :
    SS L P G n (.Assign [tg] e pos) (fun ρ h => (ev (P.cfg (callM P n)) a ρ h).thenS ρ fun v h1 => asg (P.cfg (callM P n)) t v ρ h1) := by
  by_cases hu : a = .unk
  · subst hu
    exact ss_unk.cong fun ρ h => by rw [ev]; rfl
  cases q : swC G tg e with
  | false => exact ss_asg q h3 h4 (fun v ρ h => asg_tame _ t v ρ h) (okE L P n a G e h2).1 (okT L P n t G tg h1)
  | true =>
    unfold swC at q
    split at q
    · rename_i el gs s p
      split at q
      · rename_i y py
        cases t with
        | name i =>
          unfold chkT at h1
          cases a with
          | lc a t it ifs own =>
            unfold chkE at h2
            split at h2
            · rename_i heq
              cases heq
              simp only [Bool.and_eq_true, decide_eq_true_eq, List.all_eq_true, List.contains_iff_mem] at h2
              obtain ⟨rfl, g1, g2, g3, g4, g5, g6, g7, g8⟩ := h2
              refine (ss_setLc (show swC G (.Name y py) _ = true from q) h1 g1 g3 g5 (okI L P n it G _ _ g2) (okT L P n t _ _ g4) (okA L P n ifs _ _ g6 g7) (okE L P n a _ _ g8).1).cong fun ρ h => ?_
              rw [ev]
              simp only [asg]
              rfl
            · cases h2
          | unk => exact absurd rfl hu
          | _ => unfold chkE at h2; cases h2
        | tup _ => unfold chkT at h1; cases h1
        | sub _ _ => unfold chkT at h1; cases h1
      · cases q
    · cases a <;> first | exact absurd rfl hu | (unfold chkE at h2; cases h2)
    · cases a <;> first | exact absurd rfl hu | (unfold chkE at h2; cases h2)
    · cases q
section
variable (L : Lk) (P : Prog) (n : Nat)
mutual
theorem okS : ∀ (a : MS) (G : Sc) (s : Stmt), chkS P G a s = true → SS L P G n s (ex (P.cfg (callM P n)) a)
  | .unk, G, s, h => ss_unk.cong fun ρ h => by rw [ex]
  | .raise x c a, G, s, h => by
    unfold chkS at h
    split at h
    · simp only [Bool.and_eq_true, decide_eq_true_eq] at h
      obtain ⟨rfl, h1, h2, h3, h4⟩ := h
      exact (ss_raise h1 h2 h4 (okE L P n a G _ h3).1).cong fun ρ h => by rw [ex]; generalize ev (P.cfg (callM P n)) a ρ h = o; cases o <;> rfl
    · cases h
  | .try_ b ds, G, s, h => by
    unfold chkS at h
    split at h
    · rename_i xs hds pos
      simp only [Bool.and_eq_true, Bool.not_eq_true'] at h
      cases hds with
      | nil => cases h.2.2
      | cons h0 hds => exact (ss_try (okSs b G _ h.1) h.2.1).cong fun ρ h => by rw [ex]
    · cases h
  | .exp a, G, s, h => by
    unfold chkS at h
    split at h
    · simp only [Bool.and_eq_true] at h
      exact (ss_exp h.2 (okE L P n a G _ h.1).1).cong fun ρ h => by rw [ex]; generalize ev (P.cfg (callM P n)) a ρ h = o; cases o <;> rfl
    · cases h
  | .doc, G, s, h => by
    unfold chkS at h
    split at h
    · exact (ss_next fun X => ps_doc).cong fun ρ h => by rw [ex]
    · cases h
  | .ret a, G, s, h => by
    unfold chkS at h
    split at h
    · exact (ss_ret (okE L P n a G _ h).1).cong fun ρ h => by rw [ex]; generalize ev (P.cfg (callM P n)) a ρ h = o; cases o <;> rfl
    · cases h
  | .retN, G, s, h => by
    unfold chkS at h
    split at h
    · exact ss_retN.cong fun ρ h => by rw [ex]
    · cases h
  | .pass, G, s, h => by
    unfold chkS at h
    split at h
    · exact (ss_next fun X => ps_pass).cong fun ρ h => by rw [ex]
    · cases h
  | .brk, G, s, h => by
    unfold chkS at h
    split at h
    · exact ss_brk.cong fun ρ h => by rw [ex]
    · cases h
  | .cnt, G, s, h => by
    unfold chkS at h
    split at h
    · exact ss_cnt.cong fun ρ h => by rw [ex]
    · cases h
  | .asg t a, G, s, h => by
    unfold chkS at h
    split at h
    · simp only [Bool.and_eq_true] at h
      exact (okSet L P n h.1 h.2.1 h.2.2.1 h.2.2.2).cong fun ρ h => by rw [ex]; generalize ev (P.cfg (callM P n)) a ρ h = o; cases o <;> rfl
    · cases h
  | .setf o f a, G, s, h => by
    unfold chkS at h
    split at h
    · simp only [Bool.and_eq_true, decide_eq_true_eq] at h
      obtain ⟨rfl, h1, h2, h3⟩ := h
      exact (ss_setf h3 (okE L P n o G _ h1).1 (okE L P n a G _ h2).1).cong fun ρ h => by
        rw [ex]
        generalize ev (P.cfg (callM P n)) a ρ h = r
        cases r with
        | ok v h1 => dsimp only [Out.thenS]; generalize ev (P.cfg (callM P n)) o ρ h1 = r; cases r <;> rfl
        | exc _ _ _ => rfl
        | bad => rfl
    · cases h
  | .aug i op a, G, s, h => by
    unfold chkS at h
    split at h
    · simp only [Bool.and_eq_true, decide_eq_true_eq] at h
      obtain ⟨rfl, h1, h2⟩ := h
      exact (ss_aug h1 (okE L P n a G _ h2).1).cong fun ρ h => by
        rw [ex]
        cases slotO ρ i with
        | none => rfl
        | some v =>
          dsimp only
          generalize ev (P.cfg (callM P n)) a ρ h = o
          cases o with
          | ok w h1 => dsimp only [Out.thenS]; generalize augM op v w h1 = o; cases o <;> rfl
          | exc _ _ _ => rfl
          | bad => rfl
    · cases h
  | .ifs c a b, G, s, h => by
    unfold chkS at h
    split at h
    · simp only [Bool.and_eq_true] at h
      refine (ss_if (okE L P n c G _ h.1).2 (okSs a G _ h.2.1) (okSs b G _ h.2.2)).cong fun ρ h => ?_
      rw [ex]
      show (match testM _ ρ h with
        | .ok true h1 => _
        | .ok false h1 => _
        | .exc k fs h1 => _
        | .bad => _) = _
      cases testM (ev (P.cfg (callM P n)) c) ρ h with
      | ok b h1 => cases b <;> rfl
      | exc _ _ _ => rfl
      | bad => rfl
    · cases h
  | .whl c b, G, s, h => by
    unfold chkS at h
    split at h
    · simp only [Bool.and_eq_true] at h
      exact (ss_while (okE L P n c G _ h.1).2 (okSs b G _ h.2)).cong fun ρ h => by rw [ex]; rfl
    · cases h
  | .for_ t it b, G, s, h => by
    unfold chkS at h
    split at h
    · simp only [Bool.and_eq_true] at h
      exact (ss_for h.2.2.1 (fun v ρ h => asg_tame _ t v ρ h) (okI L P n it G _ _ h.2.1) (okT L P n t G _ h.1) (okSs b G _ h.2.2.2)).cong fun ρ h => by rw [ex]; generalize evI (P.cfg (callM P n)) it ρ h = o; cases o <;> rfl
    · cases h
theorem okSs : ∀ (a : MSs) (G : Sc) (s : List Stmt), chkSs P G a s = true → SSs L P G n s (exs (P.cfg (callM P n)) a)
  | .nil, G, s, h => by
    cases s with
    | nil => exact sss_nil.cong fun ρ h => by rw [exs]
    | cons _ _ => unfold chkSs at h; cases h
  | .cons a as, G, s, h => by
    cases s with
    | nil => unfold chkSs at h; cases h
    | cons st sts =>
      unfold chkSs at h
      simp only [Bool.and_eq_true] at h
      exact (sss_cons (okS a G st h.1) (okSs as G sts h.2)).cong fun ρ h => by
        rw [exs]
        cases ex (P.cfg (callM P n)) a ρ h <;> rfl
end
end
end Mi

set_option Elab.async false
set_option linter.all false
set_option maxRecDepth 100000
set_option maxHeartbeats 2000000
/-! Snd13: functions. -/
namespace Mi
open PySem PySem.Spec PyProof.Rows L2
/-! ### functions -/
theorem startM_get {n i : Nat} {vs : List MV} {v : MV} (e : (startM n vs)[i]? = some (some v)) : vs[i]? = some v := by
  unfold startM at e
  by_cases hi : i < vs.length
  · rw [List.getElem?_append_left (by simpa using hi), List.getElem?_map] at e
    cases q : vs[i]? with
    | none => rw [q] at e; cases e
    | some a => rw [q] at e; cases e; rfl
  · rw [List.getElem?_append_right (by simpa using hi), List.getElem?_replicate] at e
    split at e <;> cases e
theorem er_start {D : Dm} {φ : List Addr} {H : Hp} {N : List Str} {args : List MV} {vs : List V} (w : VRs D φ H args vs) : ER D φ H (startM N.length args) (L2.start N vs) := by
  refine ⟨by unfold startM L2.start; simp [w.length], fun i v e => ?_⟩
  obtain ⟨x, h1, h2⟩ := w.get (startM_get e)
  refine ⟨x, ?_, h2⟩
  unfold L2.start
  have hi := (List.getElem?_eq_some_iff.mp h1).1
  rw [List.getElem?_append_left (by simpa using hi), List.getElem?_map, h1]
  rfl
structure FnT (L : Lk) (P : Prog) (f : Nat) (F : Fn) : Prop where
  fn : ∃ params body scope dvs, FunD L.K F.name F.qual params body scope dvs [] (L.fa f) (L.fd f) ∧ FnScope F.N F.params scope ∧ chkSs P ⟨F.N, scope, none⟩ F.body body = true ∧ (∀ (D : Dm) φ H, D.K = L.K → VRs D φ H F.dfl dvs) ∧
    ∀ j, j ≤ dvs.length → ∃ ds, Vals (dvs.drop j) ds ∧ Binds L.K (L.fd f) F.params ds
  kp : PySem.W.keepIn L.K (.ref (L.fa f)) = true
  at_ : ∀ x, F.at_ = .glo x → L.mg x = some (.ref (L.fa f))
structure TxtOk (L : Lk) (P : Prog) : Prop where
  glb : ∀ p ∈ P.glb, GlbOk L p.1 p.2
  free : ∀ x ∈ P.free, L.mg x = none
  kit : ∀ (t : Ty) j, j < P.cls.length → PySem.W.kitOne L.K (.type t.nm) (.ref (L.ca j)) = some false
  cls : ClsK L.K L.ca P.cls
  mem : ∀ k K', P.cls[k]? = some K' → K'.exc = none → MemK L K' (L.ca k)
  cat : ∀ k K', P.cls[k]? = some K' → L.mg K'.name = some (.ref (L.ca k))
  exc : ∀ k K', P.cls[k]? = some K' → K'.exc.isSome = true → ExK L P k K'
  fn : ∀ f F, P.fns[f]? = some F → FnT L P f F
/-- all arguments are there -/
def spF (L : Lk) (P : Prog) (n f : Nat) (F : Fn) : Sp := fun vs H Q E => ∃ φ h args, Rep L.dm φ h H ∧ VRs L.dm φ H args vs ∧ args.length = F.params.length ∧ Fin L.dm (fun c d _ H' => E c d H') (VR L.dm) [] φ H Q (callM P n f args h)
theorem spF_len {L : Lk} {P : Prog} {n f : Nat} {F : Fn} (vs : List V) (H : Hp) (Q : VK) (E : XK) (h : spF L P n f F vs H Q E) : vs.length = F.params.length := by
  obtain ⟨_, _, _, _, w, e, _⟩ := h
  rw [← w.length]; exact e
theorem fill_self {F : Fn} {ws : List MV} (h : ws.length = F.params.length) : F.fill ws = some ws := by
  unfold Fn.fill
  rw [if_pos ⟨by omega, by omega⟩]
  have : F.dfl.drop (F.dfl.length - (F.params.length - ws.length)) = [] := by rw [List.drop_eq_nil_iff]; omega
  rw [this, List.append_nil]
theorem fill_of {F : Fn} {vs ws : List MV} (h : F.fill vs = some ws) : vs.length ≤ F.params.length ∧ F.params.length - vs.length ≤ F.dfl.length ∧ ws = vs ++ F.dfl.drop (F.dfl.length - (F.params.length - vs.length)) ∧ ws.length = F.params.length := by
  unfold Fn.fill at h
  split at h
  · rename_i hh
    cases h
    refine ⟨hh.1, hh.2, rfl, ?_⟩
    rw [List.length_append, List.length_drop]
    omega
  · cases h
theorem lk_full {L : Lk} {P : Prog} (T : TxtOk L P) {n : Nat} (ih : LkOk L P n) {f : Nat} {F : Fn} (hF : P.fns[f]? = some F) : FnOk L.P L.w L.K L.mg L.base (L2.CX L.P L.w) (2 * n + 3) (L.fa f) (L.fd f) F.params (spF L P (n + 1) f F) := by
  obtain ⟨params, body, scope, dvs, FD, S, ck, _, _⟩ := (T.fn f F hF).fn
  refine FD.ok (k := 2 * n + 2) S spF_len fun cdv A outer s H vs Q E hr hsp => ?_
  obtain ⟨φ, h0, args, rp, w, hl, f0⟩ := hsp
  have f0 : Fin L.dm (fun c d _ H' => E c d H') (VR L.dm) [] φ H Q (match P.fns[f]? with
    | some F => match F.fill args with
      | some ws => match exs (P.cfg (callM P n)) F.body (startM F.N.length ws) h0 with
        | .next _ h1 => .ok .non h1
        | .ret v h1 => .ok v h1
        | .exc c fs _ h1 => .exc c fs h1
        | _ => .bad
      | none => .bad
    | none => .bad) := f0
  rw [hF] at f0
  dsimp only at f0
  rw [fill_self hl] at f0
  dsimp only at f0
  let X : Cx := cxOf (L2.CX L.P L.w) L.P L.w L.K L.mg L.base F.N F.qual scope (L.fa f) cdv A outer s H E
  have k : XOk L P ⟨F.N, scope, none⟩ n X := ⟨rfl, rfl, rfl, rfl, rfl, rfl, S.nd, rfl, hr, rfl, fun _ => rfl, ih⟩
  have tk : Takes X (fun cls d _ H => E cls d H) := takes_of rfl rfl rfl rfl
  have ps : PassesOwn (model X.prog X.w) X.A X.env X.xe := passes_of (K := fun e s'' => L2.CX L.P L.w outer H s E e s'') rfl
  refine ⟨_, okSs L P n F.body ⟨F.N, scope, none⟩ body ck X _ k tk ps ⟨rfl, rfl⟩, φ, h0, startM F.N.length args, rp, er_start w, ?_⟩
  show FinX L.dm _ φ H _ (exs (P.cfg (callM P n)) F.body (startM F.N.length args) h0)
  generalize exs (P.cfg (callM P n)) F.body (startM F.N.length args) h0 = o at f0
  cases o with
  | next ρ h1 => exact fun φ1 H1 σ1 p r e => f0 φ1 H1 .non p r .non
  | ret v h1 => exact f0
  | exc c fs ρ h1 => exact fun φ1 H1 σ1 d p r e x => f0 φ1 H1 d p r x
  | brk ρ h1 => exact f0.elim
  | cnt ρ h1 => exact f0.elim
  | bad => exact f0.elim
theorem callM_fill {P : Prog} {n f : Nat} {F : Fn} {args ws : List MV} {h : MH} (hF : P.fns[f]? = some F) (e : F.fill args = some ws) : callM P (n + 1) f args h = callM P (n + 1) f ws h := by
  unfold callM
  rw [hF]
  dsimp only
  rw [e, fill_self (fill_of e).2.2.2]
theorem lk_ok {L : Lk} {P : Prog} (T : TxtOk L P) : ∀ n, LkOk L P n
  | 0 => ⟨T.glb, T.free, fun f F hF => ⟨fun A outer s H us vs Q E hr e0 r hsp => by
      obtain ⟨_, _, _, _, _, z⟩ := hsp
      exact z.elim, (T.fn f F hF).kp, (T.fn f F hF).at_⟩, T.kit, T.cls, T.mem, T.cat, T.exc⟩
  | n + 1 => by
    have ih := lk_ok T n
    refine ⟨T.glb, T.free, fun f F hF => ⟨?_, (T.fn f F hF).kp, (T.fn f F hF).at_⟩, T.kit, T.cls, T.mem, T.cat, T.exc⟩
    intro A outer s H us vs Q E hr e0 r hsp
    obtain ⟨φ, h, args, rp, w, f0⟩ := hsp
    cases q : F.fill args with
    | none =>
      have : callM P (n + 1) f args h = .bad := by unfold callM; rw [hF]; dsimp only; rw [q]
      rw [this] at f0
      exact f0.elim
    | some ws =>
      rw [callM_fill hF q] at f0
      obtain ⟨l1, l2, l3, l4⟩ := fill_of q
      obtain ⟨params, body, scope, dvs, FD, S, ck, wd, bd⟩ := (T.fn f F hF).fn
      have hdl : F.dfl.length = dvs.length := (wd ⟨default, L.w, L.K, L.ca⟩ [] (fun _ => none) rfl).length
      obtain ⟨ds, h1, h2⟩ := bd (F.dfl.length - (F.params.length - args.length)) (by omega)
      have KX : L.K.In s.heap := e0.mod.kin.keeps fun b o e => (e0.bs b o e).1
      have wl := w.length
      have hlen : (us ++ ds).length = F.params.length := by
        rw [List.length_append, ← h1.length, ← r.length, ← wl, List.length_drop]; omega
      refine (lk_full T ih hF).run A outer s H ⟨us, []⟩ (us ++ ds) (vs ++ dvs.drop (F.dfl.length - (F.params.length - args.length))) Q E hr e0 (h2 s us KX hlen) (r.append h1) ⟨φ, h, ws, rp, ?_, l4, f0⟩
      rw [l3]
      exact w.append ((wd L.dm φ H rfl).drop _)
end Mi

set_option Elab.async false
set_option linter.all false
set_option maxRecDepth 100000
set_option maxHeartbeats 2000000
/-! SndH: the head: what the top of the text leaves, seen by one look. -/
namespace Mi
open PySem PySem.Spec PyProof.Rows L2
/-! ### where things stand -/
def plA (K : PySem.W.Frag) : Pl → Addr
  | .glo x => He.ga K x
  | .mth x m => He.ma K (He.ga K x) m
  | .prp x m => He5.wf K (He.ga K x) "property" m
  | .cmt x m => He5.wf K (He.ga K x) "classmethod" m
def faK (K : PySem.W.Frag) (P : Prog) (f : Nat) : Addr := match P.fns[f]? with
  | some F => plA K F.at_
  | none => 0
def caK (K : PySem.W.Frag) (P : Prog) (c : Nat) : Addr := match P.cls[c]? with
  | some K' => He.ga K K'.name
  | none => 0
theorem faK_at {K : PySem.W.Frag} {P : Prog} {f : Nat} {F : Fn} (h : P.fns[f]? = some F) : faK K P f = plA K F.at_ := by unfold faK; rw [h]
theorem caK_at {K : PySem.W.Frag} {P : Prog} {c : Nat} {K' : Mi.Cls} (h : P.cls[c]? = some K') : caK K P c = He.ga K K'.name := by unfold caK; rw [h]
/-! ### values of the text -/
def toV : Value → V
  | .none => .non
  | .bool b => .bl b
  | .int i _ => .int i
  | .str x _ => .str x
  | .ref a => .ref a
  | .type n => .ty n
  | _ => .non
mutual
def dvB (K : PySem.W.Frag) : MV → Value → Bool
  | .non, .none => true
  | .bl b, .bool c => b == c
  | .int i, .int j _ => decide (i = j)
  | .str x, .str y _ => decide (x = y)
  | .tup xs, .ref a => match K.lookup a with
    | some ⟨.type c, _, .seq its _, _⟩ => decide (c = "tuple") && (decide (its.size ≤ sizeLine) && dvBs K xs its.toList)
    | _ => false
  | _, _ => false
def dvBs (K : PySem.W.Frag) : List MV → List Value → Bool
  | [], [] => true
  | v :: vs, u :: us => dvB K v u && dvBs K vs us
  | _, _ => false
end
mutual
theorem dvB_ok {K : PySem.W.Frag} : ∀ {v : MV} {u : Value}, dvB K v u = true → RelV (toV u) u ∧ ∀ (D : Dm) φ H, D.K = K → VR D φ H v (toV u)
  | .non, u, h => by
    unfold dvB at h
    cases u with
    | none => exact ⟨rfl, fun _ _ _ _ => .non⟩
    | _ => cases h
  | .bl b, u, h => by
    cases u with
    | bool c =>
      have : b = c := eq_of_beq (show (b == c) = true by unfold dvB at h; exact h)
      subst this
      exact ⟨rfl, fun _ _ _ _ => .bl _⟩
    | _ => unfold dvB at h; cases h
  | .int i, u, h => by
    cases u with
    | int j t =>
      have : i = j := of_decide_eq_true (show decide (i = j) = true by unfold dvB at h; exact h)
      subst this
      exact ⟨⟨t, rfl⟩, fun _ _ _ _ => .int _⟩
    | _ => unfold dvB at h; cases h
  | .str x, u, h => by
    cases u with
    | str y t =>
      have : x = y := of_decide_eq_true (show decide (x = y) = true by unfold dvB at h; exact h)
      subst this
      exact ⟨⟨t, rfl⟩, fun _ _ _ _ => .str _⟩
    | _ => unfold dvB at h; cases h
  | .tup xs, u, h => by
    cases u with
    | ref a =>
      refine ⟨rfl, fun D φ H e => ?_⟩
      unfold dvB at h
      split at h
      · rename_i c od its n sl q
        obtain ⟨h1, h2⟩ := Bool.and_eq_true_iff.mp h
        obtain ⟨h3, h4⟩ := Bool.and_eq_true_iff.mp h2
        have A := dvBs_ok h4
        refine .tup (ys := its.toList.map toV) (.inr ⟨_, its, n, by rw [e]; exact q, congrArg Value.type (of_decide_eq_true h1), rfl, of_decide_eq_true h3, A.1⟩) (A.2 D φ H e)
      · cases h
    | _ => unfold dvB at h; cases h
  | .ref _, u, h => by cases u <;> (unfold dvB at h; cases h)
  | .cls _, u, h => by cases u <;> (unfold dvB at h; cases h)
  | .ty _, u, h => by cases u <;> (unfold dvB at h; cases h)
theorem dvBs_ok {K : PySem.W.Frag} : ∀ {vs : List MV} {us : List Value}, dvBs K vs us = true → Vals (us.map toV) us ∧ ∀ (D : Dm) φ H, D.K = K → VRs D φ H vs (us.map toV)
  | [], [], _ => ⟨.nil, fun _ _ _ _ => .nil⟩
  | [], _ :: _, h => by unfold dvBs at h; cases h
  | _ :: _, [], h => by unfold dvBs at h; cases h
  | v :: vs, u :: us, h => by
    unfold dvBs at h
    obtain ⟨h1, h2⟩ := Bool.and_eq_true_iff.mp h
    have A := dvB_ok h1
    have B := dvBs_ok h2
    exact ⟨.cons A.1 B.1, fun D φ H e => .cons (A.2 D φ H e) (B.2 D φ H e)⟩
end
/-! ### functions -/
structure DefP where
  name : Str
  qual : Str
  params : Arguments
  body : List Stmt
  scope : Scope
def DefP.val (d : DefP) : He.FnW := some (d.name, d.qual, d.params, .stmts d.body, d.scope, mainGlobals, [], builtinsNs)
def dItems (K : PySem.W.Frag) : Value → Option (List Value)
  | .none => some []
  | .ref T => match K.lookup T with
    | some ⟨_, _, .seq its _, _⟩ => if its.toList.isEmpty then none else some its.toList
    | _ => none
  | _ => none
theorem dItems_ok {K : PySem.W.Frag} {dV : Value} {its : List Value} (h : dItems K dV = some its) (r : Vals (its.map toV) its) : DflV K dV (its.map toV) := by
  cases dV with
  | none => cases h; exact .inl ⟨rfl, rfl⟩
  | ref T =>
    unfold dItems at h
    dsimp only at h
    split at h
    · rename_i oc od its' n sl q
      split at h
      · cases h
      · rename_i hne
        cases h
        exact .inr ⟨by intro z; rw [List.map_eq_nil_iff] at z; rw [z] at hne; exact hne rfl, T, _, its'.toList, n, rfl, q, by simp, r⟩
    · cases h
  | _ => cases h
def fnB (K : PySem.W.Frag) (F : Fn) : Bool := PySem.W.keepIn K (.ref (plA K F.at_)) && ((match F.at_ with
    | .glo x => (He.Fa.glo x).ok K
    | _ => true) && (match K.lookup (plA K F.at_) with
  | some ⟨_, _, .func fd, _⟩ => PySem.W.codeIn K fd.code F.qual && (match dItems K fd.defaults with
    | some its => dvBs K F.dfl its
    | none => false)
  | _ => false))
theorem fnB_ok {K : PySem.W.Frag} {F : Fn} {d : DefP} (c : fnB K F = true) (e : He5.fnA K (plA K F.at_) = d.val) (hq : F.qual = d.qual) (hn : F.name = d.name) :
    ∃ fd dvs, FunD K F.name F.qual d.params d.body d.scope dvs [] (plA K F.at_) fd ∧ ∀ (D : Dm) φ H, D.K = K → VRs D φ H F.dfl dvs := by
  unfold fnB at c
  obtain ⟨kp, c⟩ := Bool.and_eq_true_iff.mp c
  obtain ⟨_, c⟩ := Bool.and_eq_true_iff.mp c
  unfold He5.fnA at e
  cases q : K.lookup (plA K F.at_) with
  | none => rw [q] at c; cases c
  | some o =>
    obtain ⟨oc, od, dt, osl⟩ := o
    rw [q] at c e
    cases dt with
    | func fd =>
      obtain ⟨n1, n2, n3, n4, n5, n6, n7, n8, n9, n10, n11, n12, n13, n14, n15⟩ := fd
      have e2 : (some (n1, n2, n3, n4, n5, n6, n7, n15) : He.FnW) = some (d.name, d.qual, d.params, .stmts d.body, d.scope, mainGlobals, [], builtinsNs) := e
      simp only [Option.some.injEq, Prod.mk.injEq] at e2
      obtain ⟨h1, h2, h3, h4, h5, h6, h7, h8⟩ := e2
      subst h1 h2 h3 h4 h5 h6 h7 h8
      dsimp only at c
      obtain ⟨k1, k2⟩ := Bool.and_eq_true_iff.mp c
      cases z : dItems K n8 with
      | none => rw [z] at k2; cases k2
      | some its =>
        rw [z] at k2
        have A := dvBs_ok k2
        refine ⟨_, its.map toV, ⟨⟨oc, od, n8, n9, n10, n11, n12, n13, n14, osl, ?_, q, ?_, dItems_ok z A.1, .inl rfl⟩, kp⟩, A.2⟩
        · rw [hn, hq]
        · exact k1
    | _ => cases c
/-! ### classes -/
def allTy : List Ty := [.noneT, .bool, .int, .str, .list, .tuple, .dict]
theorem allTy_mem (t : Ty) : t ∈ allTy := by cases t <;> decide
def eqO := He.eqO
def memB (K : PySem.W.Frag) (P : Prog) (x : Str) (m : Member) : Bool := match P.fns[m.fn]? with
  | some F => if m.prop then decide (F.at_ = .prp x m.name) && (He.eqO (PySem.W.findIn K (.ref (He.ga K x)) m.name) (some (some (.ref (He.ma K (He.ga K x) m.name)))) && (He.eqO (PySem.W.specialIn K (.ref (He.ma K (He.ga K x) m.name)) "__get__") (some (some (.builtin "property.__get__"))) &&
      (decide (PySem.W.takesIn K (.ref (He.ma K (He.ga K x) m.name)) = some true) && (match PySem.W.recIn K (He.ma K (He.ga K x) m.name) "property" with
        | some (.ref _ :: _) => true
        | _ => false))))
    else decide (F.at_ = .mth x m.name) && (He.Fa.meth x m.name).ok K
  | none => false
def conB (K : PySem.W.Frag) (x : Str) (p : Str × MV) : Bool := smp p.2 && (!PySem.W.copiedNames.contains p.1 && ((match PySem.W.findIn K (.ref (He.ga K x)) p.1 with
    | some (some u) => dvB K p.2 u && He.eqO (PySem.W.specialIn K u "__get__") (some none)
    | _ => false) && (PySem.W.readsIn K (He.ga K x) (.type "type") && (He.eqO (PySem.W.specialIn K (.ref (He.ga K x)) "__getattribute__") (some (some (.builtin "type.__getattribute__"))) && (match PySem.W.findCls K (.ref (He.ga K x)) (.type "type") p.1 with
    | some (.val u) => dvB K p.2 u
    | _ => false)))))
def cmtB (K : PySem.W.Frag) (P : Prog) (x : Str) (p : Str × Nat) : Bool := match P.fns[p.2]? with
  | some F => decide (F.at_ = .cmt x p.1) && (He5.wrapB K (He.ga K x) "classmethod" "classmethod.__get__" p.1 && (PySem.W.fnIn K (He5.wf K (He.ga K x) "classmethod" p.1) && (PySem.W.readsIn K (He.ga K x) (.type "type") && He.eqO (PySem.W.specialIn K (.ref (He.ga K x)) "__getattribute__") (some (some (.builtin "type.__getattribute__"))))))
  | none => false
def ordB (K : PySem.W.Frag) (P : Prog) (k : Nat) (K' : Mi.Cls) : Bool := (He.Fa.cls K'.name).ok K && (He.eqO (PySem.W.findIn K (.ref (He.ga K K'.name)) "__class__") (some (some (.builtin "object.__class__"))) && (decide (PySem.W.mroIn K (He.ga K K'.name) (.type "object") = some true) &&
  ((allTy.all fun t => decide (PySem.W.kitOne K (.ref (He.ga K K'.name)) (.type t.nm) = some false)) && (((List.range P.cls.length).all fun j => decide (PySem.W.kitOne K (.ref (He.ga K K'.name)) (.ref (caK K P j)) = some (k == j || K'.ups.contains j))) &&
  ((K'.atts.all fun f => (He.Fa.noat K'.name f).ok K) && ((K'.mems.all fun m => memB K P K'.name m) && ((match K'.init with
    | some f => (match P.fns[f]? with
      | some F => decide (F.at_ = .mth K'.name "__init__") && (He.Fa.mkr K'.name).ok K
      | none => false)
    | none => true) && ((K'.cons.all fun p => conB K K'.name p) && K'.cmts.all fun p => cmtB K P K'.name p))))))))
theorem and2 {a b : Bool} (h : (a && b) = true) : a = true ∧ b = true := Bool.and_eq_true_iff.mp h
theorem wf_at {K : PySem.W.Frag} {C : Addr} {T : String} {m : Str} (h : (match PySem.W.recIn K (He.ma K C m) T with
        | some (.ref _ :: _) => true
        | _ => false) = true) : ∃ rest, PySem.W.recIn K (He.ma K C m) T = some (.ref (He5.wf K C T m) :: rest) := by
  unfold He5.wf
  split at h
  · rename_i f r e
    exact ⟨r, by rw [e]⟩
  · cases h
theorem mem_ok {K : PySem.W.Frag} {P : Prog} {x : Str} {m : Member} (h : memB K P x m = true) : (m.prop = false → Meth K (He.ga K x) m.name (faK K P m.fn)) ∧ (m.prop = true → ∃ p, PropOf K (He.ga K x) m.name p (faK K P m.fn)) := by
  unfold memB at h
  cases q : P.fns[m.fn]? with
  | none => rw [q] at h; cases h
  | some F =>
    rw [q] at h
    dsimp only at h
    rw [faK_at q]
    by_cases hp : m.prop = true
    · rw [if_pos hp] at h
      refine ⟨fun z => (by rw [hp] at z; cases z), fun _ => ?_⟩
      obtain ⟨h1, h⟩ := and2 h
      obtain ⟨h2, h⟩ := and2 h
      obtain ⟨h3, h⟩ := and2 h
      obtain ⟨h4, h5⟩ := and2 h
      rw [of_decide_eq_true h1]
      exact ⟨_, He.eqO_ok h2, He.eqO_ok h3, of_decide_eq_true h4, wf_at h5⟩
    · rw [if_neg hp] at h
      refine ⟨fun _ => ?_, fun z => absurd z hp⟩
      obtain ⟨h1, h2⟩ := and2 h
      rw [of_decide_eq_true h1]
      exact He.meth_ok h2
theorem lookup_memE {α β : Type} [BEq α] [LawfulBEq α] {a : α} {b : β} : ∀ {l : List (α × β)}, l.lookup a = some b → (a, b) ∈ l
  | [], h => by cases h
  | (c, d) :: r, h => by
    rw [List.lookup_cons] at h
    cases q : (a == c) with
    | true => rw [q] at h; cases h; rw [eq_of_beq q]; exact List.mem_cons_self ..
    | false => rw [q] at h; exact List.mem_cons_of_mem _ (lookup_memE h)
theorem ord_ok {K : PySem.W.Frag} {P : Prog} {k : Nat} {K' : Mi.Cls} {L : Lk} (hLK : L.K = K) (hLf : L.fa = faK K P) (hLc : L.ca = caK K P) (hk : P.cls[k]? = some K') (hn : PySem.W.specialIn K (.builtin "object.__class__") "__get__" = some (some (.builtin "getset_descriptor.__get__"))) (htk : PySem.W.takesIn K (.builtin "object.__class__") = some true) (h : ordB K P k K' = true) :
    (ClsI L.K (L.ca k) ∧ (∀ t : Ty, PySem.W.kitOne L.K (.ref (L.ca k)) (.type t.nm) = some false) ∧ ∀ j, j < P.cls.length → PySem.W.kitOne L.K (.ref (L.ca k)) (.ref (L.ca j)) = some (k == j || K'.ups.contains j)) ∧ MemK L K' (L.ca k) := by
  unfold ordB at h
  rw [hLK, hLc, caK_at hk]
  obtain ⟨h1, h⟩ := and2 h
  obtain ⟨h2, h⟩ := and2 h
  obtain ⟨h3, h⟩ := and2 h
  obtain ⟨h4, h⟩ := and2 h
  obtain ⟨h5, h⟩ := and2 h
  obtain ⟨h6, h⟩ := and2 h
  obtain ⟨h7, h⟩ := and2 h
  obtain ⟨h8, h⟩ := and2 h
  obtain ⟨h9, h10⟩ := and2 h
  refine ⟨⟨⟨He.cls_ok h1, He.eqO_ok h2, hn, htk, of_decide_eq_true h3⟩, fun t => of_decide_eq_true (List.all_eq_true.mp h4 t (allTy_mem t)), fun j hj => of_decide_eq_true (List.all_eq_true.mp h5 j (List.mem_range.mpr hj))⟩, ?_⟩
  refine ⟨fun f hf => ?_, fun m hm hp => ?_, fun m hm hp => ?_, fun f hf => ?_, fun f v hv => ?_, fun f g hg => ?_⟩
  · rw [hLK]; exact He.noat_ok (List.all_eq_true.mp h6 f hf)
  · rw [hLK, hLf]; exact (mem_ok (List.all_eq_true.mp h7 m hm)).1 hp
  · rw [hLK, hLf]; exact (mem_ok (List.all_eq_true.mp h7 m hm)).2 hp
  · rw [hf] at h8
    dsimp only at h8
    rw [hLK, hLf]
    cases q : P.fns[f]? with
    | none => rw [q] at h8; cases h8
    | some F =>
      rw [q] at h8
      obtain ⟨g1, g2⟩ := and2 h8
      rw [faK_at q, of_decide_eq_true g1]
      exact He.mkr_ok g2
  · have hb := List.all_eq_true.mp h9 _ (lookup_memE hv)
    rw [hLK]
    unfold conB at hb
    obtain ⟨g1, hb⟩ := and2 hb
    obtain ⟨g2, hb⟩ := and2 hb
    obtain ⟨g3, hb⟩ := and2 hb
    obtain ⟨g4, hb⟩ := and2 hb
    obtain ⟨g5, g6⟩ := and2 hb
    have g2 : PySem.W.copiedNames.contains f = false := by simpa using g2
    dsimp only at g1 g3 g6
    have any : ∀ u, dvB K v u = true → ∀ (D : Dm) φ H, VR D φ H v (toV u) := fun u hu D φ H => smp_any g1 ((dvB_ok hu).2 ⟨D.P, D.w, K, D.ca⟩ φ H rfl) D φ H
    have one : ∀ u u', dvB K v u = true → dvB K v u' = true → toV u' = toV u := fun u u' hu hu' => by
      have a := any u hu ⟨default, L.w, K, L.ca⟩ [] (fun _ => none)
      have b := any u' hu' ⟨default, L.w, K, L.ca⟩ [] (fun _ => none)
      revert a b
      generalize toV u = y1
      generalize toV u' = y2
      intro a b
      cases a <;> first | (cases b; rfl) | cases g1
    split at g3
    · rename_i u e
      obtain ⟨k1, k2⟩ := and2 g3
      split at g6
      · rename_i u' e'
        refine ⟨toV u, any u k1, ⟨u, e, (dvB_ok k1).1, He.eqO_ok k2, g2⟩, .type "type", u', ⟨g4, He.eqO_ok g5⟩, ⟨e', ?_⟩⟩
        rw [← one u u' k1 g6]
        exact (dvB_ok g6).1
      · cases g6
    · cases g3
  · have hb := List.all_eq_true.mp h10 _ (lookup_memE hg)
    rw [hLK, hLf]
    unfold cmtB at hb
    dsimp only at hb
    cases q : P.fns[g]? with
    | none => rw [q] at hb; cases hb
    | some F =>
      rw [q] at hb
      dsimp only at hb
      obtain ⟨g1, hb⟩ := and2 hb
      obtain ⟨g2, hb⟩ := and2 hb
      obtain ⟨g3, hb⟩ := and2 hb
      obtain ⟨g4, g5⟩ := and2 hb
      rw [faK_at q, of_decide_eq_true g1]
      exact ⟨.type "type", _, ⟨g4, He.eqO_ok g5⟩, He5.cmet_of g2 g3⟩
/-! ### exceptions -/
def oexB (K : PySem.W.Frag) (C : Addr) : Bool := (match K.lookup C with
    | some ⟨.type c, _, .cls cd, sl⟩ => decide (c = "type") && ((match cd.mro with
      | .ref C' :: bm => decide (C' = C) && PySem.HandSPX.refsVE bm
      | _ => false) && (cd.hasDict && (!cd.hasDel && (match sl.toList with
      | [_, _, _, _, some (.builtin nid), _] => decide (nid = "ValueError.__new__")
      | _ => false))))
    | _ => false) && (He.eqO (PySem.W.findIn K (.ref C) "__setattr__") (some (some (.builtin "object.__setattr__"))) && (decide (PySem.W.subIn K (.ref C) (.type "BaseException") = some true) && (decide (PySem.W.typeIn K (.ref C) = some (.type "type")) && PySem.W.keepIn K (.ref C))))
theorem oexB_ok {K : PySem.W.Frag} {C : Addr} (h : oexB K C = true) : OexC K C := by
  unfold oexB at h
  obtain ⟨h1, h⟩ := and2 h
  obtain ⟨h2, h⟩ := and2 h
  obtain ⟨h3, h⟩ := and2 h
  obtain ⟨h4, h5⟩ := and2 h
  refine ⟨?_, He.eqO_ok h2, of_decide_eq_true h3, of_decide_eq_true h4, h5⟩
  clear h
  split at h1
  · rename_i c dd cd sl q
    obtain ⟨k1, h1⟩ := and2 h1
    obtain ⟨k2, h1⟩ := and2 h1
    obtain ⟨k3, h1⟩ := and2 h1
    obtain ⟨k4, k5⟩ := and2 h1
    obtain ⟨n1, n2, n3, n4, n5, n6, n7, n8, n9, n10, n11⟩ := cd
    dsimp only at k2 k3 k4
    cases n3 with
    | nil => cases k2
    | cons v bm =>
      cases v with
      | ref C' =>
        obtain ⟨z1, z2⟩ := and2 (show (decide (C' = C) && PySem.HandSPX.refsVE bm) = true from k2)
        have z1 := of_decide_eq_true z1
        split at k5
        · rename_i a0 a1 a2 a3 nid a5 es
          have es : sl = #[a0, a1, a2, a3, some (.builtin nid), a5] := by
            have := congrArg List.toArray es
            simpa using this
          have en := of_decide_eq_true k5
          have e11 : n11 = false := by simpa using k4
          have ec := of_decide_eq_true k1
          subst es en e11 ec z1
          subst k3
          exact ⟨n1, n5, n4, n2, bm, n7, n8, n9, n10, dd, a0, a1, a2, a3, a5, q, z2⟩
        · cases k5
      | _ => cases k2
  · cases h1
def supNames : List Str := ["index", "steps", "part", "ticks", "limit", "count", "unit", "kind", "setting", "upto"]
/-- self and one more -/
def supPar (p : Arguments) : Option Str := match p with
  | ⟨[], [a, b], none, [], [], none, []⟩ => if a.arg = ("self" : Str) ∧ supNames.contains b.arg then some b.arg else none
  | _ => none
theorem sup_binds {name qual : Str} {params : Arguments} {body : List Stmt} {scope : Scope} {cl : List (Str × Addr)} {kV doc pm : Value} {an : Option Addr} {cdv ct : Value} {K : PySem.W.Frag} {par : Str} (h : supPar params = some par) : Binds K (PySem.W.fnX name qual params body scope cl .none kV doc pm an cdv ct) ["self", par] [] := by
  unfold supPar at h
  split at h
  · rename_i a b
    split at h
    · rename_i ea
      cases h
      obtain ⟨a1, a2, a3⟩ := a
      obtain ⟨b1, b2, b3⟩ := b
      dsimp only at ea ⊢
      obtain ⟨ea, eb⟩ := ea
      subst ea
      refine Binds.all fun us hl => ?_
      have eb := List.contains_iff_mem.mp eb
      simp only [supNames, List.mem_cons, List.not_mem_nil, or_false] at eb
      match us, hl with
      | [_, _], _ => rcases eb with rfl | rfl | rfl | rfl | rfl | rfl | rfl | rfl | rfl | rfl <;> rfl
    · cases h
  · cases h
theorem supPar_head {p : Arguments} {par : Str} (h : supPar p = some par) : ∃ ar : Arg, (p.posonlyargs ++ p.args).head? = some ar ∧ ar.arg = "self" := by
  unfold supPar at h
  split at h
  · rename_i a b
    split at h
    · rename_i ea
      exact ⟨a, rfl, ea.1⟩
    · cases h
  · cases h
def fileB (file : Str) : Option Value → Bool
  | some (.str z _) => (file == z)
  | _ => false
def supFn (file : Str) (K : PySem.W.Frag) (C : Addr) (f : Str) (fd : FuncData) : Bool := match fd.body, fd.closure, supPar fd.params, fd.code, fd.defaults with
  | .stmts body, [(x, cc)], some par, .ref c, .none => decide (fd.globals = mainGlobals) && (decide (fd.builtins = builtinsNs) && (decide (x = ("__class__" : Str)) && (PySem.W.codeIn K (.ref c) fd.qualname && (supBody f par body && (NdefX.nscB ["self", par, "__class__"] ["self", par] ["__class__"] fd.scope && (decide (fd.scope.names.lookup ("super" : Str) = some .globalImplicit) &&
      ((match K.lookup c with
        | some ⟨_, _, .fields vs, _⟩ => fileB file vs[2]?
        | _ => false) && ((match K.lookup cc with
        | some ⟨_, _, .cell (some (.ref C')), _⟩ => decide (C' = C)
        | _ => false) && (!(par == ("__debug__" : Str)) && !(par == ("__classdict__" : Str)))))))))))
  | _, _, _, _, _ => false
def supB (file : Str) (K : PySem.W.Frag) (C fI : Addr) (f : Str) : Bool := oexB K C && (He.eqO (PySem.W.findIn K (.ref C) f) (some none) && ((match K.lookup fI with
    | some ⟨_, _, .func fd, _⟩ => supFn file K C f fd
    | _ => false) && (decide (PySem.W.subIn K (.ref C) (.type "ValueError") = some true) && ((match PySem.W.clsIn K C with
    | some cd => He.eqO (PySem.W.alongIn K "__init__" ((cd.mro.dropWhile (· != .ref C)).drop 1)) (some (some (.builtin "ValueError.__init__")))
    | none => false) && (decide (PySem.W.mroIn K C (.ref C) = some true) && (He.eqO (PySem.W.nsIn K mainGlobals "super") (some none) && He.eqO (PySem.W.nsIn K cStatics "thirdparty.any") (some none)))))))
theorem supB_ok {P : Program} {K : PySem.W.Frag} {C fI : Addr} {f : Str} {file : Str} (hfile : (P.main.file : Str) = file) (htop : (P.main.scope.names.lookup ("super" : Str)).isSome = false) (h : supB file K C fI f = true) : ∃ fd par, SupK P K C fI f par fd ∧ Binds K fd ["self", par] [] := by
  unfold supB at h
  obtain ⟨h1, h⟩ := and2 h
  obtain ⟨h2, h⟩ := and2 h
  obtain ⟨h3, h⟩ := and2 h
  obtain ⟨h4, h⟩ := and2 h
  obtain ⟨h5, h⟩ := and2 h
  obtain ⟨h6, h⟩ := and2 h
  obtain ⟨h7, h8⟩ := and2 h
  split at h3
  · rename_i oc od fd osl q
    unfold supFn at h3
    obtain ⟨n1, n2, n3, n4, n5, n6, n7, n8, n9, n10, n11, n12, n13, n14, n15⟩ := fd
    dsimp only at h3
    split at h3
    · rename_i body x cc par c e3
      obtain ⟨k1, h3⟩ := and2 h3
      obtain ⟨k2, h3⟩ := and2 h3
      obtain ⟨k3, h3⟩ := and2 h3
      obtain ⟨k4, h3⟩ := and2 h3
      obtain ⟨k5, h3⟩ := and2 h3
      obtain ⟨k6, h3⟩ := and2 h3
      obtain ⟨k7, h3⟩ := and2 h3
      obtain ⟨k8, h3⟩ := and2 h3
      obtain ⟨k9, h3⟩ := and2 h3
      obtain ⟨k10, k11⟩ := and2 h3
      have q1 := of_decide_eq_true k1
      have q2 := of_decide_eq_true k2
      have q3 := of_decide_eq_true k3
      subst q1
      subst q2
      subst q3
      refine ⟨_, par, ⟨oexB_ok h1, He.eqO_ok h2, ⟨⟨n1, n2, n3, body, n5, [("__class__", cc)], c⟩, oc, od, osl, .none, n9, n10, n11, n12, n14, cc, rfl, q, rfl, k4, k5, NdefX.nscope_by k6, supPar_head e3, of_decide_eq_true k7, ?_, ?_⟩, of_decide_eq_true h4, ?_, of_decide_eq_true h6, He.eqO_ok h7, He.eqO_ok h8, ⟨by simpa using k10, by simpa using k11⟩, htop⟩, sup_binds e3⟩
      · split at k8
        · rename_i a1 a2 vs a3 z1
          unfold fileB at k8
          split at k8
          · rename_i z t z2
            exact ⟨a1, a2, vs, a3, z, t, z1, z2, by rw [hfile]; exact k8⟩
          · cases k8
        · cases k8
      · split at k9
        · rename_i a1 a2 C' a3 z1
          have := of_decide_eq_true k9
          subst this
          exact ⟨a1, a2, a3, z1⟩
        · cases k9
      · split at h5
        · rename_i cd z1
          exact ⟨cd, z1, He.eqO_ok h5⟩
        · cases h5
    · cases h3
  · cases h3
def excB (file : Str) (K : PySem.W.Frag) (P : Prog) (k : Nat) (K' : Mi.Cls) : Bool := xfB K (He.ga K K'.name) && ((PySem.W.clsIn K (He.ga K K'.name)).isSome && (He.eqO (PySem.W.findIn K (.ref (He.ga K K'.name)) "__class__") (some (some (.builtin "object.__class__"))) && (decide (PySem.W.mroIn K (He.ga K K'.name) (.type "object") = some true) &&
  (((List.range P.cls.length).all fun j => match P.cls[j]? with
    | some Kj => !Kj.exc.isSome || (decide (PySem.W.exmOne K (.ref (He.ga K K'.name)) (.ref (He.ga K Kj.name)) = some (k == j || K'.ups.contains j)) && decide (PySem.W.kitOne K (.ref (He.ga K K'.name)) (.ref (He.ga K Kj.name)) = some (k == j || K'.ups.contains j)))
    | none => true) && (decide (PySem.W.exmOne K (.ref (He.ga K K'.name)) (.type "ValueError") = some true) && (decide (PySem.W.kitOne K (.ref (He.ga K K'.name)) (.type "ValueError") = some true) && (match K'.exc with
    | some (some f) => He.eqO (PySem.W.findIn K (.ref (He.ga K K'.name)) "__init__") (some (some (.ref (He.ma K (He.ga K K'.name) "__init__")))) && (decide (PySem.W.typeIn K (.ref (He.ma K (He.ga K K'.name) "__init__")) = some (.type "function")) && supB file K (He.ga K K'.name) (He.ma K (He.ga K K'.name) "__init__") f)
    | _ => true)))))))
theorem exc_ok {K : PySem.W.Frag} {P : Prog} {k : Nat} {K' : Mi.Cls} {L : Lk} {file : Str} (hfile : (L.P.main.file : Str) = file) (htop : (L.P.main.scope.names.lookup ("super" : Str)).isSome = false) (hLK : L.K = K) (hLc : L.ca = caK K P) (hk : P.cls[k]? = some K')
    (hn : PySem.W.specialIn K (.builtin "object.__class__") "__get__" = some (some (.builtin "getset_descriptor.__get__"))) (htk : PySem.W.takesIn K (.builtin "object.__class__") = some true) (h : excB file K P k K' = true) : ExK L P k K' := by
  unfold excB at h
  obtain ⟨h1, h⟩ := and2 h
  obtain ⟨h2, h⟩ := and2 h
  obtain ⟨h3, h⟩ := and2 h
  obtain ⟨h4, h⟩ := and2 h
  obtain ⟨h5, h⟩ := and2 h
  obtain ⟨h6, h⟩ := and2 h
  obtain ⟨h7, h8⟩ := and2 h
  have X := xfB_ok h1
  have pair : ∀ j Kj, P.cls[j]? = some Kj → Kj.exc.isSome = true → PySem.W.exmOne K (.ref (He.ga K K'.name)) (.ref (caK K P j)) = some (k == j || K'.ups.contains j) ∧ PySem.W.kitOne K (.ref (He.ga K K'.name)) (.ref (caK K P j)) = some (k == j || K'.ups.contains j) := fun j Kj hj hx => by
    have := List.all_eq_true.mp h5 j (List.mem_range.mpr (List.getElem?_eq_some_iff.mp hj).1)
    rw [hj] at this
    dsimp only at this
    rw [hx] at this
    obtain ⟨z1, z2⟩ := and2 (show (_ && _) = true from this)
    rw [caK_at hj]
    exact ⟨of_decide_eq_true z1, of_decide_eq_true z2⟩
  refine ⟨?_, fun x ox od => ?_, fun j Kj hj hx => ?_, ?_, fun j Kj hj hx => ?_, ?_, fun f hf => ?_, fun f hf => ?_⟩
  all_goals rw [hLK, hLc, caK_at hk]
  · exact X
  · exact PySem.W.kitx_exc h2 X.ga X.gg X.exC (He.eqO_ok h3) hn htk (of_decide_eq_true h4)
  · exact (pair j Kj hj hx).1
  · exact of_decide_eq_true h6
  · exact (pair j Kj hj hx).2
  · exact of_decide_eq_true h7
  · rw [hf] at h8
    obtain ⟨z1, h8⟩ := and2 (show (_ && _) = true from h8)
    obtain ⟨z2, z3⟩ := and2 h8
    obtain ⟨fd, par, s1, s2⟩ := supB_ok hfile htop z3
    exact ⟨_, fd, par, He.eqO_ok z1, of_decide_eq_true z2, s1, s2⟩
  · rw [hf] at h8
    obtain ⟨z1, h8⟩ := and2 (show (_ && _) = true from h8)
    obtain ⟨z2, z3⟩ := and2 h8
    unfold supB at z3
    obtain ⟨g1, z3⟩ := and2 z3
    obtain ⟨g2, z3⟩ := and2 z3
    exact He.eqO_ok g2
/-! ### the look at a program -/
def chkSc (N ps : List Str) (sc : Scope) : Bool := (match sc.kind with | .function => true | _ => false) && (!sc.isCoroutine && (!sc.isGenerator && (decide N.Nodup && (decide (N.take ps.length = ps) && ((ps.all fun x => decide (sc.names.lookup x = some .local) || decide (sc.names.lookup x = some .cell)) && sc.names.all fun y => !(y.2 == .free))))))
theorem scope_ok {N ps : List Str} {sc : Scope} (h : chkSc N ps sc = true) : FnScope N ps sc := by
  unfold chkSc at h
  simp only [Bool.and_eq_true, Bool.not_eq_true', decide_eq_true_eq, List.all_eq_true, Bool.or_eq_true] at h
  obtain ⟨h1, h2, h3, h4, h5, h6, h7⟩ := h
  refine ⟨?_, h2, h3, h4, h5, h6, fun y hy e => ?_⟩
  · split at h1
    · assumption
    · cases h1
  · have := h7 y hy
    rw [e] at this
    cases this
def chkF (P : Prog) (F : Fn) (d : DefP) : Bool := decide (F.name = d.name) && (decide (F.qual = d.qual) && (chkSc F.N F.params d.scope && chkSs P ⟨F.N, d.scope, none⟩ F.body d.body))
def chkFs (P : Prog) : List Fn → List DefP → Bool
  | [], [] => true
  | F :: Fs, d :: ds => chkF P F d && chkFs P Fs ds
  | _, _ => false
theorem chkFs_at {P : Prog} : ∀ {Fs : List Fn} {ds : List DefP} {i : Nat} {F : Fn}, chkFs P Fs ds = true → Fs[i]? = some F → ∃ d, ds[i]? = some d ∧ chkF P F d = true
  | [], [], i, F, _, e => by simp at e
  | [], _ :: _, _, _, h, _ => by cases h
  | _ :: _, [], _, _, h, _ => by cases h
  | F :: Fs, d :: ds, 0, F', h, e => by
    obtain ⟨h1, h2⟩ := Bool.and_eq_true_iff.mp (show (chkF P F d && chkFs P Fs ds) = true from h)
    simp at e; subst e
    exact ⟨d, rfl, h1⟩
  | F :: Fs, d :: ds, i + 1, F', h, e => by
    obtain ⟨h1, h2⟩ := Bool.and_eq_true_iff.mp (show (chkF P F d && chkFs P Fs ds) = true from h)
    obtain ⟨d', e1, e2⟩ := chkFs_at (i := i) h2 (by simpa using e)
    exact ⟨d', by simpa using e1, e2⟩
/-- how a def binds -/
def BndOk (d : DefP) (F : Fn) : Prop :=
  (F.dfl = [] ∧ ∀ (kV doc pm : Value) (an : Option Addr) (cdv ct : Value) (us : List Value), us.length = F.params.length → bindArgs (PySem.W.fnOf d.name d.qual d.params d.body d.scope .none kV doc pm an cdv ct) ⟨us, []⟩ = pure (F.params.zip us)) ∨
  (F.dfl ≠ [] ∧ F.dfl.length ≤ F.params.length ∧ ∀ j, j ≤ F.dfl.length → ∀ (T : Addr) (kV doc pm : Value) (an : Option Addr) (cdv ct : Value) (us its : List Value), us.length = F.params.length - (F.dfl.length - j) → its.length = F.dfl.length →
      ∃ k, bindArgs (PySem.W.fnOf d.name d.qual d.params d.body d.scope (.ref T) kV doc pm an cdv ct) ⟨us, []⟩ = seqItems? (.ref T) >>= k ∧ k (some its.toArray) = pure (F.params.zip (us ++ its.drop j)))
def BndAll : List Fn → List DefP → Prop
  | F :: Fs, d :: ds => BndOk d F ∧ BndAll Fs ds
  | _, _ => True
theorem BndAll.at_ : ∀ {Fs : List Fn} {ds : List DefP} {i : Nat} {F : Fn} {d : DefP}, BndAll Fs ds → Fs[i]? = some F → ds[i]? = some d → BndOk d F
  | [], _, _, _, _, _, e, _ => by simp at e
  | _ :: _, [], _, _, _, _, _, e => by simp at e
  | F :: Fs, d :: ds, 0, _, _, h, e1, e2 => by
    simp at e1 e2; subst e1; subst e2
    exact h.1
  | F :: Fs, d :: ds, i + 1, _, _, h, e1, e2 => BndAll.at_ (i := i) h.2 (by simpa using e1) (by simpa using e2)
def isTyV (t : Ty) (u : Option Value) : Bool := match u with
  | some (.type s) => decide (s = t.nm)
  | _ => false
def chkG (P : Prog) : Bool := P.glb.all fun p => match p.2 with
  | .ty t => P.free.contains p.1 && isTyV t (bootBuiltins p.1)
  | _ => true
/-- no list among what the names reach -/
def noLst (K : PySem.W.Frag) : Bool := K.all fun p => match p.2 with
  | ⟨.type c, none, .seq _ _, _⟩ => !decide (c = "list")
  | _ => true
theorem lookup_mem {K : PySem.W.Frag} {a : Addr} {o : Obj} (h : K.lookup a = some o) : ∃ b, (b, o) ∈ K := by
  induction K with
  | nil => cases h
  | cons p r ih =>
    obtain ⟨b, q⟩ := p
    rw [List.lookup_cons] at h
    cases e : (a == b) with
    | true => rw [e] at h; cases h; exact ⟨b, List.mem_cons_self ..⟩
    | false => rw [e] at h; obtain ⟨c, hc⟩ := ih h; exact ⟨c, List.mem_cons_of_mem _ hc⟩
theorem noLst_ok {K : PySem.W.Frag} (h : noLst K = true) {H : Hp} {a : Addr} {xs : List V} (s : SqL K H a xs) : Rd H a (.lst xs) := by
  rcases s with s | ⟨o, its, n, h1, h2, h3, h4, _⟩
  · exact s
  · obtain ⟨b, hm⟩ := lookup_mem h1
    have := List.all_eq_true.mp h _ hm
    obtain ⟨c, d, dt, sl⟩ := o
    simp only at h2 h3 h4
    subst h2 h3 h4
    simp at this
def glbB (K : PySem.W.Frag) (P : Prog) (p : Str × MV) : Bool := match p.2 with
  | .ty _ => true
  | .cls c => (match P.cls[c]? with
    | some K' => decide (K'.name = p.1)
    | none => false)
  | v => match PySem.W.nsIn K mainGlobals p.1 with
    | some (some u) => dvB K v u
    | _ => false
def clsB (file : Str) (K : PySem.W.Frag) (P : Prog) (k : Nat) (K' : Mi.Cls) : Bool := (He.Fa.glo K'.name).ok K && ((allTy.all fun t => decide (PySem.W.kitOne K (.type t.nm) (.ref (He.ga K K'.name)) = some false)) && (if K'.exc.isSome then excB file K P k K' else ordB K P k K'))
def txtB (file : Str) (P : Prog) (K : PySem.W.Frag) : Bool := (P.free.all fun x => (He.Fa.free x).ok K) && ((P.fns.all fun F => fnB K F) && ((P.glb.all fun p => glbB K P p) && (((List.range P.cls.length).all fun k => match P.cls[k]? with
    | some K' => clsB file K P k K'
    | none => true) && (noLst K && (P.cls.isEmpty || (He.eqO (PySem.W.specialIn K (.builtin "object.__class__") "__get__") (some (some (.builtin "getset_descriptor.__get__"))) && decide (PySem.W.takesIn K (.builtin "object.__class__") = some true)))))))
/-! ### the hook -/
abbrev AlM : Type := Bool × List He.FnW
def obsK (file : Str) (P : Prog) (K : PySem.W.Frag) : AlM := (txtB file P K, P.fns.map fun F => He5.fnA K (plA K F.at_))
def obsM (n : Nat) (file : Str) (P : Prog) (g : Addr → Option Obj) : AlM := obsK file P (He.frG g (He5.asA g n))
def SaysM (file : Str) (P : Prog) (ds : List DefP) (K : PySem.W.Frag) : Prop := obsK file P K = (true, ds.map DefP.val)
def hookM (n : Nat) (file : Str) (P : Prog) (ds : List DefP) : PySem.W.Hook where
  α := AlM
  obs := fun s => obsM n file P s.heap.get?
  val := fun _ => (true, ds.map DefP.val)
  says := fun _ h => ∃ K : PySem.W.Frag, K.In h ∧ SaysM file P ds K
  of := fun _ _ e => ⟨_, He.frG_in, e⟩
  keeps := fun _ _ _ ⟨K, hK, c⟩ k => ⟨K, PySem.W.Frag.In.keeps hK k, c⟩
theorem obsM_eq {n : Nat} {file : Str} {P : Prog} {ds : List DefP} {g : Addr → Option Obj} {s : Shared} (h : ∀ a, g a = s.heap.get? a) : obsM n file P g = (hookM n file P ds).obs s := by
  have e : g = s.heap.get? := funext h
  rw [e] <;> rfl
/-! ### the law -/
/-- the script, as it comes -/
def scrM (ns : List Int) : MH := [.rol (ns.map .int)]
theorem vrs_ints {D : Dm} {φ : List Addr} {H : Hp} : ∀ ns : List Int, VRs D φ H (ns.map .int) (ns.map V.int)
  | [] => .nil
  | n :: ns => .cons (.int n) (vrs_ints ns)
/-- nothing is let out -/
theorem cx0_of {P : Program} {w : World} {K : PySem.W.Frag} {mg : Str → Option Value} {base : Heap} {k : Nat} {f : Addr} {fd : FuncData} {ps : List Str} {sp : Sp} (F : FnOk P w K mg base (L2.CX P w) k f fd ps sp) : FnOk P w K mg base L2.CX0 k f fd ps (fun vs H Q _ => sp vs H Q fun _ _ _ => False) :=
  ⟨fun vs H Q E h => F.len vs H Q _ h, fun A outer s H args us vs Q E hr e0 hb r hsp => codeAny_mono (F.run A outer s H args us vs Q (fun _ _ _ => False) hr e0 hb r hsp) fun r s' h => by
    cases r with
    | ok fl => cases fl <;> exact h
    | error e =>
      obtain ⟨_, _, _, _, _, _, _, _, _, _, _, _, z⟩ := h
      exact z.elim⟩
theorem head_fn {P : Prog} {ds : List DefP} {n li most : Nat} {F : Fn} {x y : Str} {Pr : Program} {w : World} {K : PySem.W.Frag} {h : Heap} {mg : Str → Option Value} {fa : Addr} {file : Str}
    (hfile : (Pr.main.file : Str) = file) (htop : (Pr.main.scope.names.lookup ("super" : Str)).isSome = false)
    (ck : chkFs P P.fns ds = true) (cg : chkG P = true) (bn : BndAll P.fns ds) (hF : P.fns[li]? = some F) (hx : F.params = [x]) (hdf : F.dfl = [])
    (hrun : ∀ ns : List Int, ns.length ≤ most → ∃ h', callM P (n + 1) li [.ref 0] (scrM ns) = .ok (.bl true) h')
    (X : K.In h) (G : h.Ns mainGlobals mg) (c : SaysM file P ds K) (hat : F.at_ = .glo y) (hfa : mg y = some (.ref fa)) :
    ∃ (fd : FuncData) (sp : Sp), (∀ (s : Shared) (u : Value), BindsTo s fd ⟨[u], []⟩ [(x, u)]) ∧
      (∀ (H : Hp) (a : Addr) (ns : List Int), ns.length ≤ most → Only H → SqL K H a (ns.map V.int) → sp [.ref a] H (fun v _ => v = .bl true) fun _ _ _ => False) ∧
      ∀ base : Heap, K.In base → base.Ns mainGlobals mg → FnOk Pr w K mg base L2.CX0 (2 * n + 3) fa fd [x] sp := by
  have cB : txtB file P K = true := congrArg Prod.fst c
  have cD : (P.fns.map fun F => He5.fnA K (plA K F.at_)) = ds.map DefP.val := congrArg Prod.snd c
  unfold txtB at cB
  obtain ⟨c1, cB⟩ := and2 cB
  obtain ⟨c2, cB⟩ := and2 cB
  obtain ⟨c3, cB⟩ := and2 cB
  obtain ⟨c4, cB⟩ := and2 cB
  obtain ⟨c5, c6⟩ := and2 cB
  have dAt : ∀ (i : Nat) (F : Fn), P.fns[i]? = some F → ∃ d, ds[i]? = some d ∧ chkF P F d = true ∧ He5.fnA K (plA K F.at_) = d.val := fun i F hF => by
    obtain ⟨d, e1, e2⟩ := chkFs_at ck hF
    refine ⟨d, e1, e2, ?_⟩
    have e : (P.fns.map fun F => He5.fnA K (plA K F.at_))[i]? = (ds.map DefP.val)[i]? := by rw [cD]
    rw [List.getElem?_map, List.getElem?_map, hF, e1] at e
    exact Option.some.inj e
  have ex : ∀ i : Nat, ∃ fd : FuncData, ∀ (F : Fn) (d : DefP), P.fns[i]? = some F → ds[i]? = some d → ∃ dvs, FunD K F.name F.qual d.params d.body d.scope dvs [] (plA K F.at_) fd ∧ ∀ (D : Dm) φ H, D.K = K → VRs D φ H F.dfl dvs := fun i => by
    cases q : P.fns[i]? with
    | none => exact ⟨Classical.choice ⟨(⟨default, default, default, default, default, default, default, default, default, default, default, default, default, default, default⟩ : FuncData)⟩, fun F d e => by cases e⟩
    | some F =>
      obtain ⟨d, e1, e2, e3⟩ := dAt i F q
      have e2' := e2
      unfold chkF at e2'
      simp only [Bool.and_eq_true, decide_eq_true_eq] at e2'
      obtain ⟨fd, dvs, h1, h2⟩ := fnB_ok (List.all_eq_true.mp c2 F (List.mem_of_getElem? q)) e3 e2'.2.1 e2'.1
      exact ⟨fd, fun F' d' q1 q2 => by
        cases q1
        rw [e1] at q2; cases q2
        exact ⟨dvs, h1, h2⟩⟩
  let fdf : Nat → FuncData := fun i => Classical.choose (ex i)
  have fdh := fun i => Classical.choose_spec (ex i)
  have hfree : ∀ x ∈ P.free, mg x = none := fun x hx => He.free_ok X G (List.all_eq_true.mp c1 x hx)
  have hcls : ∀ (k : Nat) (K' : Mi.Cls), P.cls[k]? = some K' → clsB file K P k K' = true := fun k K' hk => by
    have := List.all_eq_true.mp c4 k (List.mem_range.mpr (List.getElem?_eq_some_iff.mp hk).1)
    rw [hk] at this
    exact this
  have hgt : ∀ (k : Nat) (K' : Mi.Cls), P.cls[k]? = some K' → PySem.W.specialIn K (.builtin "object.__class__") "__get__" = some (some (.builtin "getset_descriptor.__get__")) ∧ PySem.W.takesIn K (.builtin "object.__class__") = some true := fun k K' hk => by
    cases q : P.cls with
    | nil => rw [q] at hk; cases k <;> cases hk
    | cons a b =>
      rw [q] at c6
      obtain ⟨z1, z2⟩ := and2 (show (He.eqO (PySem.W.specialIn K (.builtin "object.__class__") "__get__") (some (some (.builtin "getset_descriptor.__get__"))) && decide (PySem.W.takesIn K (.builtin "object.__class__") = some true)) = true from c6)
      exact ⟨He.eqO_ok z1, of_decide_eq_true z2⟩
  have txt : ∀ base, TxtOk ⟨Pr, w, K, mg, base, caK K P, faK K P, fdf⟩ P := fun base => by
    have mgC : ∀ (k : Nat) (K' : Mi.Cls), P.cls[k]? = some K' → mg K'.name = some (.ref (caK K P k)) := fun k K' hk => by
      have z := hcls k K' hk
      unfold clsB at z
      rw [caK_at hk]
      exact He.glo_ok X G (and2 z).1
    refine ⟨fun p hp => ?_, hfree, fun t j hj => ?_, fun k K' hk he => ?_, fun k K' hk he => ?_, mgC, fun k K' hk he => ?_, fun f F hF => ?_⟩
    · obtain ⟨x, v⟩ := p
      have g1 := List.all_eq_true.mp c3 _ hp
      have g2 := List.all_eq_true.mp cg _ hp
      unfold glbB at g1
      dsimp only at g1 g2 ⊢
      have data : (match PySem.W.nsIn K mainGlobals x with
          | some (some u) => dvB K v u
          | _ => false) = true → GlbOk ⟨Pr, w, K, mg, base, caK K P, faK K P, fdf⟩ x v := fun z => by
        split at z
        · rename_i u e
          exact .inr ⟨u, toV u, PySem.W.mg_of X G e, (dvB_ok z).1, fun D φ H _ e2 => (dvB_ok z).2 D φ H e2⟩
        · cases z
      cases v with
      | ty t =>
        obtain ⟨z1, z2⟩ := and2 g2
        refine .inl ⟨t, rfl, hfree _ (by simpa using z1), ?_⟩
        unfold isTyV at z2
        split at z2
        · rename_i s es
          rw [es, of_decide_eq_true z2]
        · cases z2
      | cls c =>
        dsimp only at g1
        cases q : P.cls[c]? with
        | none => rw [q] at g1; cases g1
        | some K' =>
          rw [q] at g1
          have e : K'.name = x := of_decide_eq_true g1
          subst e
          refine .inr ⟨.ref (caK K P c), .ref (caK K P c), mgC c K' q, rfl, fun D φ H e _ => ?_⟩
          have : D.ca c = caK K P c := by rw [e]
          rw [← this]
          exact .cls c
      | _ => exact data g1
    · obtain ⟨K', hk⟩ : ∃ K', P.cls[j]? = some K' := ⟨_, List.getElem?_eq_getElem hj⟩
      have z := hcls j K' hk
      unfold clsB at z
      show PySem.W.kitOne K (.type t.nm) (.ref (caK K P j)) = some false
      rw [caK_at hk]
      exact of_decide_eq_true (List.all_eq_true.mp (and2 (and2 z).2).1 t (allTy_mem t))
    · have z := hcls k K' hk
      unfold clsB at z
      rw [he] at z
      obtain ⟨n1, n2⟩ := hgt k K' hk
      exact (ord_ok (L := ⟨Pr, w, K, mg, base, caK K P, faK K P, fdf⟩) (K := K) rfl rfl rfl hk n1 n2 (show ordB K P k K' = true from (and2 (and2 z).2).2)).1
    · have z := hcls k K' hk
      unfold clsB at z
      rw [he] at z
      obtain ⟨n1, n2⟩ := hgt k K' hk
      exact (ord_ok (L := ⟨Pr, w, K, mg, base, caK K P, faK K P, fdf⟩) (K := K) rfl rfl rfl hk n1 n2 (show ordB K P k K' = true from (and2 (and2 z).2).2)).2
    · have z := hcls k K' hk
      unfold clsB at z
      rw [if_pos he] at z
      obtain ⟨n1, n2⟩ := hgt k K' hk
      exact exc_ok hfile htop rfl rfl hk n1 n2 (and2 (and2 z).2).2
    · obtain ⟨d, e1, e2, e3⟩ := dAt f F hF
      obtain ⟨dvs, f1, f2⟩ := fdh f F d hF e1
      have fB := List.all_eq_true.mp c2 F (List.mem_of_getElem? hF)
      unfold fnB at fB
      unfold chkF at e2
      simp only [Bool.and_eq_true, decide_eq_true_eq] at e2
      have hl : F.dfl.length = dvs.length := (f2 ⟨default, w, K, caK K P⟩ [] (fun _ => none) rfl).length
      have ea : faK K P f = plA K F.at_ := faK_at hF
      refine ⟨⟨d.params, d.body, d.scope, dvs, by show FunD K _ _ _ _ _ _ _ (faK K P f) (fdf f); rw [ea]; exact f1, scope_ok e2.2.2.1, e2.2.2.2, f2, fun j hj => ?_⟩, ?_, fun x e => ?_⟩
      · have b := BndAll.at_ bn hF e1
        rcases b with ⟨b1, b2⟩ | ⟨b0, b1, b2⟩
        · rw [b1] at hl
          have hd : dvs = [] := List.eq_nil_of_length_eq_zero hl.symm
          subst hd
          refine ⟨[], by simp; exact .nil, ?_⟩
          rw [← e2.1, ← e2.2.1] at b2
          exact f1.bindsN b2
        · rw [← e2.1, ← e2.2.1] at b2
          obtain ⟨ds', w1, w2⟩ := f1.binds1 (ps := F.params) (F.params.length - (F.dfl.length - j)) j (by intro z; rw [z] at hl; exact b0 (List.eq_nil_of_length_eq_zero hl)) (by omega) (fun T kV doc pm an cdv ct us its h1 h2 => b2 j (by omega) T kV doc pm an cdv ct us its h1 (by omega))
          exact ⟨ds', w1, w2⟩
      · show PySem.W.keepIn K (.ref (faK K P f)) = true
        rw [ea]; exact (and2 fB).1
      · show mg x = some (.ref (faK K P f))
        rw [ea, e]
        have z := (and2 (and2 fB).2).1
        rw [e] at z
        exact He.glo_ok X G z
  have hfe : faK K P li = fa := by
    have fB := List.all_eq_true.mp c2 F (List.mem_of_getElem? hF)
    unfold fnB at fB
    have z := (and2 (and2 fB).2).1
    rw [hat] at z
    have z := He.glo_ok X G z
    rw [hfa] at z
    rw [faK_at hF, hat]
    exact (Value.ref.inj (Option.some.inj z)).symm
  refine ⟨fdf li, fun vs H Q _ => spF ⟨Pr, w, K, mg, h, caK K P, faK K P, fdf⟩ P (n + 1) li F vs H Q fun _ _ _ => False, fun s u => ?_, fun H a ns hl hO hS => ?_, fun base hb hn => ?_⟩
  · obtain ⟨d, e1, e2, e3⟩ := dAt li F hF
    obtain ⟨dvs, f1, f2⟩ := fdh li F d hF e1
    have hl : F.dfl.length = dvs.length := (f2 ⟨default, w, K, caK K P⟩ [] (fun _ => none) rfl).length
    rw [hdf] at hl
    have hd : dvs = [] := List.eq_nil_of_length_eq_zero hl.symm
    subst hd
    have b := BndAll.at_ bn hF e1
    unfold chkF at e2
    simp only [Bool.and_eq_true, decide_eq_true_eq] at e2
    rcases b with ⟨b1, b2⟩ | ⟨b0, _⟩
    · rw [← e2.1, ← e2.2.1] at b2
      have := f1.bindsA b2 s [u] (by rw [hx]; rfl)
      rw [hx] at this
      exact this
    · exact absurd hdf b0
  · have rd := noLst_ok c5 hS
    obtain ⟨o, ho⟩ : ∃ o, H a = some (.frz o (.lst (ns.map V.int))) := by
      rcases rd with r | ⟨o, r⟩
      · rcases hO a with z | ⟨o, xs, z⟩
        · rw [z] at r; cases r
        · rw [z] at r; cases r
      · exact ⟨o, r⟩
    refine ⟨[a], scrM ns, [.ref 0], ⟨rfl, by simp, fun i o' e => ?_⟩, .cons (.ref rfl) .nil, by rw [hx]; rfl, ?_⟩
    · cases i with
      | zero =>
        cases e
        exact ⟨a, rfl, o, _, ho, vrs_ints ns⟩
      | succ i => simp [scrM] at e
    · obtain ⟨h', e⟩ := hrun ns hl
      rw [e]
      intro φ' H' x' _ _ wv
      cases wv
      rfl
  · have := lk_full (txt base) (lk_ok (txt base) n) hF
    rw [hx] at this
    show FnOk Pr w K mg base L2.CX0 (2 * n + 3) fa (fdf li) [x] _
    rw [← hfe]
    exact cx0_of this
end Mi

set_option Elab.async false
set_option linter.all false
set_option maxRecDepth 100000
set_option maxHeartbeats 2000000
/-! Draw: what the laws' draws give, whatever the script. -/
namespace Mi
open PySem PySem.Spec
def drawLoop1 : MSs := .cons (.exp (.mth (.var 5) .append (.cons (.bin .Mod (.blt .int (.cons (.var 6) .nil)) (.var 3)) .nil))) (.cons (.asg (.name 6) (.bin .FloorDiv (.var 6) (.var 3))) .nil)
def drawLoop2 : MSs := .cons (.exp (.mth (.var 5) .append (.cons (.bin .Mod (.blt .int (.cons (.bin .FloorDiv (.bin .Add (.bin .Add (.bin .Mult (.var 4) (.int 211)) (.bin .Mult (.var 7) (.int 137))) (.bin .Mult (.var 1) (.int 59))) (.bin .Add (.var 7) (.int 2))) .nil)) (.sub (.var 2) (.var 7))) .nil))) .nil
def drawB (x : Str) : MSs := (.cons (.ifs (.cmp .Eq (.var 0) (.lst .nil)) (.cons (.ret (.lc (.int 0) (.name 3) (.val (.var 2)) .nil [(x, 3)])) .nil) .nil) (.cons (.asg (.name 4) (.sub (.var 0) (.bin .Mod (.var 1) (.blt .len (.cons (.var 0) .nil))))) (.cons (.asg (.name 5) (.lst .nil)) (.cons (.ifs (.cmp .GtE (.var 4) (.bin .Pow (.int 10) (.int 18))) (.cons (.asg (.name 6) (.bin .Sub (.var 4) (.bin .Pow (.int 10) (.int 18)))) (.cons (.for_ (.name 3) (.val (.var 2)) drawLoop1) (.cons (.ret (.var 5)) .nil))) .nil) (.cons (.for_ (.name 7) (.rng (.cons (.blt .len (.cons (.var 2) .nil)) .nil)) drawLoop2) (.cons (.ret (.var 5)) .nil))))))
/-- each draw below its size -/
def Drawn : List Int → List Int → Prop
  | [], [] => True
  | d :: ds, z :: zs => (0 ≤ d ∧ d < z) ∧ Drawn ds zs
  | _, _ => False
theorem Drawn.snoc : ∀ {ds zs : List Int} {d z : Int}, Drawn ds zs → 0 ≤ d → d < z → Drawn (ds ++ [d]) (zs ++ [z])
  | [], [], _, _, _, h1, h2 => ⟨⟨h1, h2⟩, True.intro⟩
  | [], _ :: _, _, _, h, _, _ => h.elim
  | _ :: _, [], _, _, h, _, _ => h.elim
  | _ :: _, _ :: _, _, _, h, h1, h2 => ⟨h.1, h.2.snoc h1 h2⟩
theorem Drawn.len : ∀ {ds zs : List Int}, Drawn ds zs → ds.length = zs.length
  | [], [], _ => rfl
  | [], _ :: _, h => h.elim
  | _ :: _, [], h => h.elim
  | _ :: _, _ :: _, h => congrArg Nat.succ h.2.len
theorem get_l {h0 t : MH} {s : Nat} {o : MO} (e : h0[s]? = some o) : (h0 ++ t)[s]? = some o := by
  rw [List.getElem?_append_left (List.getElem?_eq_some_iff.mp e).1]; exact e
theorem get_r {h0 t : MH} (i : Nat) : (h0 ++ t)[h0.length + i]? = t[i]? := by
  rw [List.getElem?_append_right (by omega)]
  congr 1
  omega
theorem set_r {h0 t : MH} (i : Nat) (o : MO) : (h0 ++ t).set (h0.length + i) o = h0 ++ t.set i o := by
  rw [List.set_append_right _ _ (by omega)]
  congr 2
  omega
theorem mapO_ints (h : MH) (n : Nat) : ∀ ns : List Int, mapO (toD h n) (ns.map .int) = some (ns.map .int)
  | [] => rfl
  | i :: ns => by
    rw [List.map_cons, mapO, mapO_ints h n ns]
    cases n <;> rfl
section
variable {C : Cfg} {h0 : MH} {r s : Nat} {k c : Int} {sizes : List Int}
theorem stepE {E : ME} {v : Int} {acc : List Int} {x3 x6 x7 : Option MV} (hv : ev C E [some (.ref r), some (.int k), some (.ref s), x3, some (.int c), some (.ref (h0.length + 1)), x6, x7] (h0 ++ [.lst [], .lst (acc.map .int)]) = .ok (.int v) (h0 ++ [.lst [], .lst (acc.map .int)])) (hl : acc.length < line) :
    ex C (.exp (.mth (.var 5) .append (.cons E .nil))) [some (.ref r), some (.int k), some (.ref s), x3, some (.int c), some (.ref (h0.length + 1)), x6, x7] (h0 ++ [.lst [], .lst (acc.map .int)]) = .next [some (.ref r), some (.int k), some (.ref s), x3, some (.int c), some (.ref (h0.length + 1)), x6, x7] (h0 ++ [.lst [], .lst ((acc ++ [v]).map .int)]) := by
  have q1 : (h0 ++ [MO.lst [], MO.lst (acc.map .int)])[h0.length + 1]? = some (.lst (acc.map .int)) := get_r 1
  have q4 : (h0 ++ [MO.lst [], MO.lst (acc.map .int)]).set (h0.length + 1) (.lst (acc.map .int ++ [.int v])) = h0 ++ [.lst [], .lst ((acc ++ [v]).map .int)] := by
    rw [set_r]
    simp
  have e1 : ev C (.var 5) [some (.ref r), some (.int k), some (.ref s), x3, some (.int c), some (.ref (h0.length + 1)), x6, x7] (h0 ++ [.lst [], .lst (acc.map .int)]) = .ok (.ref (h0.length + 1)) (h0 ++ [.lst [], .lst (acc.map .int)]) := by rw [ev]; rfl
  have e2 : mthR .append (.ref (h0.length + 1)) (h0 ++ [MO.lst [], MO.lst (acc.map .int)]) = true := by
    unfold mthR
    dsimp only
    rw [q1]
    rfl
  have e3 : mthM .append (.ref (h0.length + 1)) [.int v] (h0 ++ [MO.lst [], MO.lst (acc.map .int)]) = .ok .non (h0 ++ [.lst [], .lst ((acc ++ [v]).map .int)]) := by
    unfold mthM
    dsimp only
    rw [q1]
    dsimp only
    rw [if_pos (by rw [List.length_map]; exact hl), q4]
  have e4 : ev C (.mth (.var 5) .append (.cons E .nil)) [some (.ref r), some (.int k), some (.ref s), x3, some (.int c), some (.ref (h0.length + 1)), x6, x7] (h0 ++ [.lst [], .lst (acc.map .int)]) = .ok .non (h0 ++ [.lst [], .lst ((acc ++ [v]).map .int)]) := by
    rw [ev, e1]
    dsimp only [Out.bind]
    rw [e2, if_pos rfl, evs, hv]
    dsimp only [Out.bind]
    rw [evs]
    dsimp only
    exact e3
  rw [ex, e4]
theorem ev_bin {C : Cfg} {ρ : Env} {h : MH} {op : Operator} {a b : ME} {v w z : MV} (ha : ev C a ρ h = .ok v h) (hb : ev C b ρ h = .ok w h) (e : binM op v w h = .ok z h) : ev C (.bin op a b) ρ h = .ok z h := by
  rw [ev, ha]
  show (ev C b ρ h).bind _ = _
  rw [hb]
  exact e
theorem ev_var {C : Cfg} {ρ : Env} {h : MH} {i : Nat} {v : MV} (e : ρ[i]? = some (some v)) : ev C (.var i) ρ h = .ok v h := by
  rw [ev]
  unfold slotO
  rw [e]
  rfl
theorem ev_int {C : Cfg} {ρ : Env} {h : MH} {i : Int} : ev C (.int i) ρ h = .ok (.int i) h := by rw [ev]
theorem ev_blt1 {C : Cfg} {ρ : Env} {h : MH} {b : Blt} {a : ME} {v z : MV} (ha : ev C a ρ h = .ok v h) (e : bltM C b [v] h = .ok z h) : ev C (.blt b (.cons a .nil)) ρ h = .ok z h := by
  rw [ev, evs, ha]
  simp only [Out.bind]
  rw [evs]
  exact e
theorem ev_sub {C : Cfg} {ρ : Env} {h : MH} {a b : ME} {v w z : MV} (ha : ev C a ρ h = .ok v h) (hb : ev C b ρ h = .ok w h) (e : subM v w h = some z) : ev C (.sub a b) ρ h = .ok z h := by
  rw [ev, ha]
  show (ev C b ρ h).bind _ = _
  rw [hb]
  show Out.of h (subM v w h) = _
  rw [e]
  rfl
theorem ev_lst0 {C : Cfg} {ρ : Env} {h : MH} : ev C (.lst .nil) ρ h = .ok (.ref h.length) (h ++ [.lst []]) := by
  rw [ev, evs]
  simp [Out.bind, alloc]
theorem b_add {i j : Int} {h : MH} : binM .Add (.int i) (.int j) h = .ok (.int (i + j)) h := rfl
theorem b_sub {i j : Int} {h : MH} : binM .Sub (.int i) (.int j) h = .ok (.int (i - j)) h := rfl
theorem b_mul {i j : Int} {h : MH} (e : cmulB i j = true) : binM .Mult (.int i) (.int j) h = .ok (.int (i * j)) h := by
  show (if cmulB i j = true then _ else _) = _
  rw [if_pos e]
theorem b_div {i j : Int} {h : MH} (e : j ≠ 0 ∧ j.natAbs < 1073741824) : binM .FloorDiv (.int i) (.int j) h = .ok (.int (i.fdiv j)) h := by
  show (if _ then _ else _) = _
  rw [if_pos e]
theorem b_mod {i j : Int} {h : MH} (e : j ≠ 0) : binM .Mod (.int i) (.int j) h = .ok (.int (i.fmod j)) h := by
  show (if _ then _ else _) = _
  rw [if_pos e]
theorem cm1 (c : Int) : cmulB c 211 = true := by unfold cmulB; simp
theorem cm2 (c : Int) : cmulB c 137 = true := by unfold cmulB; simp
theorem cm3 (c : Int) : cmulB c 59 = true := by unfold cmulB; simp
theorem atI_ints {i : Nat} {z : Int} (ez : sizes[i]? = some z) : L2.atI (sizes.map MV.int) (i : Int) = some (.int z) := by
  have hl := (List.getElem?_eq_some_iff.mp ez).1
  unfold L2.atI L2.ixN
  rw [if_pos (by omega), if_pos (by simp; omega)]
  show (sizes.map MV.int)[(i : Int).toNat]? = _
  rw [Int.toNat_natCast, List.getElem?_map, ez]
  rfl
theorem val2 {ρ : Env} {i : Nat} {z : Int} {h : MH} (h1 : ρ[1]? = some (some (.int k))) (h2 : ρ[2]? = some (some (.ref s))) (h4 : ρ[4]? = some (some (.int c))) (h7 : ρ[7]? = some (some (.int (i : Int)))) (hs : h[s]? = some (.lst (sizes.map .int))) (ez : sizes[i]? = some z) (hi : i < 1000) (hz : z ≠ 0) :
    ev C (.bin .Mod (.blt .int (.cons (.bin .FloorDiv (.bin .Add (.bin .Add (.bin .Mult (.var 4) (.int 211)) (.bin .Mult (.var 7) (.int 137))) (.bin .Mult (.var 1) (.int 59))) (.bin .Add (.var 7) (.int 2))) .nil)) (.sub (.var 2) (.var 7))) ρ h = .ok (.int ((Int.fdiv (c * 211 + (i : Int) * 137 + k * 59) ((i : Int) + 2)).fmod z)) h := by
  have b4 : (i : Int) + 2 ≠ 0 ∧ ((i : Int) + 2).natAbs < 1073741824 := by omega
  refine ev_bin (ev_blt1 (ev_bin (ev_bin (ev_bin (ev_bin (ev_var h4) ev_int (b_mul (cm1 _))) (ev_bin (ev_var h7) ev_int (b_mul (cm2 _))) b_add) (ev_bin (ev_var h1) ev_int (b_mul (cm3 _))) b_add) (ev_bin (ev_var h7) ev_int b_add) (b_div b4)) rfl) (ev_sub (ev_var h2) (ev_var h7) (z := .int z) ?_) (b_mod hz)
  unfold subM
  dsimp only
  rw [hs]
  exact atI_ints ez
theorem loop2 (hs : h0[s]? = some (.lst (sizes.map .int))) (hz : ∀ z ∈ sizes, 0 < z ∧ z < 1073741824) (hl : sizes.length ≤ 1000) :
    ∀ (f i : Nat) (acc : List Int) (x3 x6 x7 : Option MV), f + i > sizes.length → i ≤ sizes.length → Drawn acc (sizes.take i) →
    ∃ ρ' ds, Drawn ds sizes ∧ ρ'[5]? = some (some (.ref (h0.length + 1))) ∧ forM (.rng 0 sizes.length) (asg C (.name 7)) (exs C drawLoop2) f i [some (.ref r), some (.int k), some (.ref s), x3, some (.int c), some (.ref (h0.length + 1)), x6, x7] (h0 ++ [.lst [], .lst (acc.map .int)]) = .next ρ' (h0 ++ [.lst [], .lst (ds.map .int)])
  | 0, i, acc, x3, x6, x7, h1, h2, h3 => by omega
  | f + 1, i, acc, x3, x6, x7, h1, h2, h3 => by
    by_cases hi : i < sizes.length
    · have hlen : acc.length = i := by rw [h3.len, List.length_take]; omega
      obtain ⟨z, ez⟩ : ∃ z, sizes[i]? = some z := ⟨sizes[i], List.getElem?_eq_getElem hi⟩
      have hzz := hz z (List.mem_of_getElem? ez)
      have ih := loop2 hs hz hl f (i + 1) (acc ++ [(Int.fdiv (c * 211 + (i : Int) * 137 + k * 59) ((i : Int) + 2)).fmod z]) x3 x6 (some (.int (i : Int))) (by omega) (by omega) (by
        rw [List.take_add_one, ez]
        exact h3.snoc (Int.fmod_nonneg_of_pos _ hzz.1) (Int.fmod_lt_of_pos _ hzz.1))
      obtain ⟨ρ', ds, g1, g2, g3⟩ := ih
      refine ⟨ρ', ds, g1, g2, ?_⟩
      rw [← g3, forM]
      have e1 : Mi.It.at_ (.rng 0 sizes.length) i (h0 ++ [.lst [], .lst (acc.map .int)]) = some (some (.int (0 + (i : Int)))) := by
        show some (if i < sizes.length then some (MV.int (0 + (i : Int))) else none) = _
        rw [if_pos hi]
      rw [e1]
      have e2 : asg C (.name 7) (.int (0 + (i : Int))) [some (.ref r), some (.int k), some (.ref s), x3, some (.int c), some (.ref (h0.length + 1)), x6, x7] (h0 ++ [.lst [], .lst (acc.map .int)]) = .next [some (.ref r), some (.int k), some (.ref s), x3, some (.int c), some (.ref (h0.length + 1)), x6, some (.int (i : Int))] (h0 ++ [.lst [], .lst (acc.map .int)]) := by
        rw [asg, Int.zero_add]; rfl
      have e3 := stepE (C := C) (h0 := h0) (k := k) (s := s) (r := r) (c := c) (x3 := x3) (x6 := x6) (x7 := some (.int (i : Int))) (acc := acc) (val2 (C := C) (s := s) (k := k) (c := c) (i := i) (z := z) rfl rfl rfl rfl (get_l hs) ez (by omega) (by omega)) (by show acc.length < 16777216; omega)
      dsimp only
      rw [e2]
      dsimp only [drawLoop2]
      rw [exs, e3]
      dsimp only
      rw [exs]
    · have hi' : i = sizes.length := by omega
      subst hi'
      rw [List.take_length] at h3
      refine ⟨[some (.ref r), some (.int k), some (.ref s), x3, some (.int c), some (.ref (h0.length + 1)), x6, x7], acc, h3, rfl, ?_⟩
      rw [forM]
      have e1 : Mi.It.at_ (.rng 0 sizes.length) sizes.length (h0 ++ [.lst [], .lst (acc.map .int)]) = some none := by
        show some (if sizes.length < sizes.length then some (MV.int (0 + (sizes.length : Int))) else none) = _
        rw [if_neg (by omega)]
      rw [e1]
theorem loop1 (hs : h0[s]? = some (.lst (sizes.map .int))) (hz : ∀ z ∈ sizes, 0 < z ∧ z < 1073741824) (hl : sizes.length ≤ 1000) :
    ∀ (f i : Nat) (acc : List Int) (rest : Int) (x3 x7 : Option MV), f + i > sizes.length → i ≤ sizes.length → Drawn acc (sizes.take i) →
    ∃ ρ' ds, Drawn ds sizes ∧ ρ'[5]? = some (some (.ref (h0.length + 1))) ∧ forM (.lst s) (asg C (.name 3)) (exs C drawLoop1) f i [some (.ref r), some (.int k), some (.ref s), x3, some (.int c), some (.ref (h0.length + 1)), some (.int rest), x7] (h0 ++ [.lst [], .lst (acc.map .int)]) = .next ρ' (h0 ++ [.lst [], .lst (ds.map .int)])
  | 0, i, acc, rest, x3, x7, h1, h2, h3 => by omega
  | f + 1, i, acc, rest, x3, x7, h1, h2, h3 => by
    by_cases hi : i < sizes.length
    · have hlen : acc.length = i := by rw [h3.len, List.length_take]; omega
      obtain ⟨z, ez⟩ : ∃ z, sizes[i]? = some z := ⟨sizes[i], List.getElem?_eq_getElem hi⟩
      have hzz := hz z (List.mem_of_getElem? ez)
      have ih := loop1 hs hz hl f (i + 1) (acc ++ [rest.fmod z]) (rest.fdiv z) (some (.int z)) x7 (by omega) (by omega) (by
        rw [List.take_add_one, ez]
        exact h3.snoc (Int.fmod_nonneg_of_pos _ hzz.1) (Int.fmod_lt_of_pos _ hzz.1))
      obtain ⟨ρ', ds, g1, g2, g3⟩ := ih
      refine ⟨ρ', ds, g1, g2, ?_⟩
      rw [← g3, forM]
      have q1 : (h0 ++ [MO.lst [], MO.lst (acc.map .int)])[h0.length + 1]? = some (.lst (acc.map .int)) := get_r 1
      have q2 : (h0 ++ [MO.lst [], MO.lst (acc.map .int)])[s]? = some (.lst (sizes.map .int)) := get_l hs
      have e1 : Mi.It.at_ (.lst s) i (h0 ++ [.lst [], .lst (acc.map .int)]) = some (some (.int z)) := by
        unfold Mi.It.at_
        dsimp only
        rw [q2]
        dsimp only
        rw [List.getElem?_map, ez]
        rfl
      rw [e1]
      have b5 : z ≠ 0 ∧ z.natAbs < 1073741824 := by omega
      have e2 : asg C (.name 3) (.int z) [some (.ref r), some (.int k), some (.ref s), x3, some (.int c), some (.ref (h0.length + 1)), some (.int rest), x7] (h0 ++ [.lst [], .lst (acc.map .int)]) = .next [some (.ref r), some (.int k), some (.ref s), some (.int z), some (.int c), some (.ref (h0.length + 1)), some (.int rest), x7] (h0 ++ [.lst [], .lst (acc.map .int)]) := by
        rw [asg]; rfl
      have v1 : ev C (.bin .Mod (.blt .int (.cons (.var 6) .nil)) (.var 3)) [some (.ref r), some (.int k), some (.ref s), some (.int z), some (.int c), some (.ref (h0.length + 1)), some (.int rest), x7] (h0 ++ [.lst [], .lst (acc.map .int)]) = .ok (.int (rest.fmod z)) (h0 ++ [.lst [], .lst (acc.map .int)]) := by
        exact ev_bin (ev_blt1 (ev_var rfl) rfl) (ev_var rfl) (b_mod b5.1)
      have e3 := stepE (C := C) (h0 := h0) (k := k) (s := s) (r := r) (c := c) (x3 := some (.int z)) (x6 := some (.int rest)) (x7 := x7) (acc := acc) v1 (by show acc.length < 16777216; omega)
      have e4 : ex C (.asg (.name 6) (.bin .FloorDiv (.var 6) (.var 3))) [some (.ref r), some (.int k), some (.ref s), some (.int z), some (.int c), some (.ref (h0.length + 1)), some (.int rest), x7] (h0 ++ [.lst [], .lst ((acc ++ [rest.fmod z]).map .int)]) = .next [some (.ref r), some (.int k), some (.ref s), some (.int z), some (.int c), some (.ref (h0.length + 1)), some (.int (rest.fdiv z)), x7] (h0 ++ [.lst [], .lst ((acc ++ [rest.fmod z]).map .int)]) := by
        have v2 : ev C (.bin .FloorDiv (.var 6) (.var 3)) [some (.ref r), some (.int k), some (.ref s), some (.int z), some (.int c), some (.ref (h0.length + 1)), some (.int rest), x7] (h0 ++ [.lst [], .lst ((acc ++ [rest.fmod z]).map .int)]) = .ok (.int (rest.fdiv z)) (h0 ++ [.lst [], .lst ((acc ++ [rest.fmod z]).map .int)]) := by
          exact ev_bin (ev_var rfl) (ev_var rfl) (b_div b5)
        rw [ex, v2]
        dsimp only
        rw [asg]; rfl
      dsimp only
      rw [e2]
      dsimp only [drawLoop1]
      rw [exs, e3]
      dsimp only
      rw [exs, e4]
      dsimp only
      rw [exs]
    · have hi' : i = sizes.length := by omega
      subst hi'
      rw [List.take_length] at h3
      refine ⟨[some (.ref r), some (.int k), some (.ref s), x3, some (.int c), some (.ref (h0.length + 1)), some (.int rest), x7], acc, h3, rfl, ?_⟩
      rw [forM]
      have q2 : (h0 ++ [MO.lst [], MO.lst (acc.map .int)])[s]? = some (.lst (sizes.map .int)) := get_l hs
      have e1 : Mi.It.at_ (.lst s) sizes.length (h0 ++ [.lst [], .lst (acc.map .int)]) = some none := by
        unfold Mi.It.at_
        dsimp only
        rw [q2]
        simp
      rw [e1]
theorem loop0 (hs : h0[s]? = some (.lst (sizes.map .int))) (hl : sizes.length ≤ 1000) (t : MH) (ρ : Env) (hr : slotO ρ 2 = some (.ref s)) :
    ∀ (f i : Nat), f + i > sizes.length → i ≤ sizes.length →
    lcM (fun i h2 => match Mi.It.at_ (.lst s) i h2 with
        | none => .bad
        | some none => .ok none h2
        | some (some v) => match asg C (.name 3) v (wipe ρ [3]) h2 with
          | .next ρ3 h3 => (evA C .nil ρ3 h3).bind fun b h4 => if b then (ev C (.int 0) ρ3 h4).bind fun x h5 => .ok (some (some x)) h5 else .ok (some none) h4
          | _ => .bad) f i ((List.replicate i (0 : Int)).map .int) (h0 ++ t) = .ok ((List.replicate sizes.length (0 : Int)).map .int) (h0 ++ t)
  | 0, i, h1, h2 => by omega
  | f + 1, i, h1, h2 => by
    rw [lcM]
    have q2 : (h0 ++ t)[s]? = some (.lst (sizes.map .int)) := get_l hs
    by_cases hi : i < sizes.length
    · obtain ⟨z, ez⟩ : ∃ z, sizes[i]? = some z := ⟨sizes[i], List.getElem?_eq_getElem hi⟩
      have e1 : Mi.It.at_ (.lst s) i (h0 ++ t) = some (some (.int z)) := by
        unfold Mi.It.at_
        dsimp only
        rw [q2]
        dsimp only
        rw [List.getElem?_map, ez]
        rfl
      have ih := loop0 hs hl t ρ hr f (i + 1) (by omega) (by omega)
      rw [List.replicate_succ', List.map_append] at ih
      rw [e1]
      have b6 : i < line := by show i < 16777216; omega
      simp only [asg, evA, ev, Out.bind, if_true, List.length_map, List.length_replicate, b6]
      exact ih
    · have hi' : i = sizes.length := by omega
      subst hi'
      have e1 : Mi.It.at_ (.lst s) sizes.length (h0 ++ t) = some none := by
        unfold Mi.It.at_
        dsimp only
        rw [q2]
        simp
      rw [e1]
theorem drawn_zero : ∀ {zs : List Int}, (∀ z ∈ zs, 0 < z ∧ z < 1073741824) → Drawn (List.replicate zs.length 0) zs
  | [], _ => True.intro
  | z :: zs, h => ⟨⟨Int.le_refl _, (h z (List.mem_cons_self ..)).1⟩, drawn_zero fun y hy => h y (List.mem_cons_of_mem _ hy)⟩
end
end Mi

set_option Elab.async false
set_option linter.all false
set_option maxRecDepth 100000
set_option maxHeartbeats 2000000
/-! Draw2: what the laws' draws give, whatever the script. -/
namespace Mi
open PySem PySem.Spec
def big : Int := 10 ^ 18
theorem p18b (h : MH) : binM .Pow (.int 10) (.int 18) h = .ok (.int big) h := by
  show (if (0 : Int) ≤ 18 ∧ (18 : Int) ≤ 1000000 ∧ (10 : Int).natAbs < 2 ^ 64 then Out.ok (MV.int (10 ^ (18 : Int).toNat)) h else .bad) = _
  rw [if_pos (by decide)]
  rfl
theorem rng_len {n : Nat} (hn : n ≤ 1000) : rngM [.int (n : Int)] = some (.rng 0 n) := by
  unfold rngM
  dsimp only
  rw [if_pos (by omega), Int.toNat_natCast]
theorem evI_rng1 {C : Cfg} {ρ : Env} {h : MH} {a : ME} {n : Nat} (ha : ev C a ρ h = .ok (.int (n : Int)) h) (hn : n ≤ 1000) : evI C (.rng (.cons a .nil)) ρ h = .ok (.rng 0 n) h := by
  have e : evs C (.cons a .nil) ρ h = .ok [.int (n : Int)] h := by
    rw [evs, ha]
    simp only [Out.bind]
    rw [evs]
  have e2 : evI C (.rng (.cons a .nil)) ρ h = (Out.ok [MV.int (n : Int)] h).bind fun vs h1 => .of h1 (rngM vs) := by rw [evI, e]
  have e3 : ∀ (vs : List MV) (g : List MV → Option Mi.It) (h : MH), ((Out.ok vs h).bind fun vs h1 => Out.of h1 (g vs)) = Out.of h (g vs) := fun _ _ _ => rfl
  rw [e2, e3, rng_len hn]
  rfl
section
variable {C : Cfg} {h0 : MH} {r s : Nat} {k c : Int} {sizes : List Int}
theorem p18 {ρ : Env} {h : MH} : ev C (.bin .Pow (.int 10) (.int 18)) ρ h = .ok (.int big) h := ev_bin ev_int ev_int (p18b h)
theorem c5 {ρ : Env} {h : MH} (hρ : ρ[4]? = some (some (.int c))) : evT C (.cmp .GtE (.var 4) (.bin .Pow (.int 10) (.int 18))) ρ h = .ok (decide (big ≤ c)) h := by
  unfold evT
  rw [ev, ev_var hρ]
  simp only [Out.bind]
  rw [p18]
  rfl
/-- the draws -/
theorem draws_ok {ns : List Int} (x : Str) (hr : h0[r]? = some (.rol (ns.map .int))) (hs : h0[s]? = some (.lst (sizes.map .int))) (hz : ∀ z ∈ sizes, 0 < z ∧ z < 1073741824) (hl : sizes.length ≤ 1000) (hf : 1000 < C.fuel) :
    ∃ ds, Drawn ds sizes ∧ exs C (drawB x) [some (.ref r), some (.int k), some (.ref s), none, none, none, none, none] h0 = .ret (.ref (h0.length + 1)) (h0 ++ [.lst [], .lst (ds.map .int)]) := by
  have q1 : (h0 ++ [MO.lst []])[r]? = some (.rol (ns.map .int)) := get_l hr
  have q2 : (h0 ++ [MO.lst []])[h0.length]? = some (.lst []) := get_r 0
  have t1 : toD (h0 ++ [MO.lst []]) 64 (.ref r) = some (.list (ns.map .int)) := by
    unfold toD
    simp only [q1]
    rw [mapO_ints]
    rfl
  have t2 : toD (h0 ++ [MO.lst []]) 64 (.ref h0.length) = some (.list []) := by
    unfold toD
    simp only [q2]
    rfl
  have sh := PySem.W.ke_shaped_ints ns
  have sh2 : SeqAt.shaped (.list []) = true := PySem.W.ke_shaped_ints []
  have e0 : eqM (h0 ++ [MO.lst []]) (.ref r) (.ref h0.length) = some (decide (ns = [])) := by
    unfold eqM
    simp only [t1, t2, sh, sh2, Bool.and_self, if_true]
    cases ns with
    | nil => rfl
    | cons a b => simp [PyData.eqv, PyData.eqvAll]
  have ap : h0 ++ [MO.lst []] ++ [MO.lst []] = h0 ++ [.lst [], .lst (([] : List Int).map .int)] := by simp
  have c0 : ∀ ρ : Env, ρ[0]? = some (some (.ref r)) → evT C (.cmp .Eq (.var 0) (.lst .nil)) ρ h0 = .ok (decide (ns = [])) (h0 ++ [.lst []]) := fun ρ hρ => by
    unfold evT
    rw [ev, ev_var hρ]
    simp only [Out.bind]
    rw [ev_lst0]
    simp only [cmpM]
    rw [e0]
    rfl
  by_cases hn : ns = []
  · refine ⟨List.replicate sizes.length 0, drawn_zero hz, ?_⟩
    have g2 : (h0 ++ [MO.lst []])[s]? = some (.lst (sizes.map .int)) := get_l hs
    have lp := loop0 (C := C) (h0 := h0) hs hl [MO.lst []] [some (.ref r), some (.int k), some (.ref s), none, none, none, none, none] rfl C.fuel 0 (by omega) (by omega)
    simp only [List.replicate_zero, List.map_nil] at lp
    have c1 : ev C (.lc (.int 0) (.name 3) (.val (.var 2)) .nil [(x, 3)]) [some (.ref r), some (.int k), some (.ref s), none, none, none, none, none] (h0 ++ [.lst []]) = .ok (.ref (h0.length + 1)) (h0 ++ [.lst [], .lst ((List.replicate sizes.length (0 : Int)).map .int)]) := by
      rw [ev, evI, ev_var rfl]
      simp only [Out.bind, itV, g2, Out.of]
      simp only [List.map_cons, List.map_nil]
      have lp' := congrArg (fun o : Out (List MV) => o.bind fun xs h2 => alloc (.lst xs) h2) lp
      refine Eq.trans ?_ (lp'.trans ?_)
      · rfl
      · simp [Out.bind, alloc]
    have c2 : ex C (.ifs (.cmp .Eq (.var 0) (.lst .nil)) (.cons (.ret (.lc (.int 0) (.name 3) (.val (.var 2)) .nil [(x, 3)])) .nil) .nil) [some (.ref r), some (.int k), some (.ref s), none, none, none, none, none] h0 = .ret (.ref (h0.length + 1)) (h0 ++ [.lst [], .lst ((List.replicate sizes.length (0 : Int)).map .int)]) := by
      rw [ex, c0 _ rfl]
      simp only [hn, decide_true]
      rw [exs, ex, c1]
    unfold drawB
    rw [exs, c2]
  · obtain ⟨c, hc⟩ : ∃ c, subM (.ref r) (.int (k.fmod (ns.length : Int))) (h0 ++ [.lst []]) = some (.int c) := by
      have hp : 0 < (ns.length : Int) := by
        have := List.length_pos_iff.mpr hn
        omega
      obtain ⟨j, hj⟩ : ∃ j : Nat, k.fmod (ns.length : Int) = (j : Int) := ⟨_, (Int.toNat_of_nonneg (Int.fmod_nonneg_of_pos k hp)).symm⟩
      have hlt := Int.fmod_lt_of_pos k hp
      rw [hj] at hlt
      have hj2 : j < ns.length := by omega
      refine ⟨ns[j], ?_⟩
      rw [hj]
      unfold subM
      dsimp only
      rw [q1]
      exact atI_ints (List.getElem?_eq_getElem hj2)
    have hnz : (ns.length : Int) ≠ 0 := by
      have := List.length_pos_iff.mpr hn
      omega
    have c2 : ex C (.ifs (.cmp .Eq (.var 0) (.lst .nil)) (.cons (.ret (.lc (.int 0) (.name 3) (.val (.var 2)) .nil [(x, 3)])) .nil) .nil) [some (.ref r), some (.int k), some (.ref s), none, none, none, none, none] h0 = .next [some (.ref r), some (.int k), some (.ref s), none, none, none, none, none] (h0 ++ [.lst []]) := by
      rw [ex, c0 _ rfl]
      simp only [hn, decide_false]
      rw [exs]
    have c3 : ex C (.asg (.name 4) (.sub (.var 0) (.bin .Mod (.var 1) (.blt .len (.cons (.var 0) .nil))))) [some (.ref r), some (.int k), some (.ref s), none, none, none, none, none] (h0 ++ [.lst []]) = .next [some (.ref r), some (.int k), some (.ref s), none, some (.int c), none, none, none] (h0 ++ [.lst []]) := by
      have v1 : ev C (.sub (.var 0) (.bin .Mod (.var 1) (.blt .len (.cons (.var 0) .nil)))) [some (.ref r), some (.int k), some (.ref s), none, none, none, none, none] (h0 ++ [.lst []]) = .ok (.int c) (h0 ++ [.lst []]) := by
        refine ev_sub (ev_var rfl) (ev_bin (ev_var rfl) (ev_blt1 (z := .int (ns.length : Int)) (ev_var rfl) ?_) (b_mod hnz)) hc
        simp only [bltM, lenM, q1, List.length_map]
      rw [ex, v1]
      dsimp only
      rw [asg]
      rfl
    have c4 : ex C (.asg (.name 5) (.lst .nil)) [some (.ref r), some (.int k), some (.ref s), none, some (.int c), none, none, none] (h0 ++ [.lst []]) = .next [some (.ref r), some (.int k), some (.ref s), none, some (.int c), some (.ref (h0.length + 1)), none, none] (h0 ++ [.lst [], .lst (([] : List Int).map .int)]) := by
      rw [ex, ev_lst0]
      dsimp only
      rw [asg, ap]
      simp
    unfold drawB
    rw [exs, c2]
    dsimp only
    rw [exs, c3]
    dsimp only
    rw [exs, c4]
    dsimp only
    by_cases hb : big ≤ c
    · obtain ⟨ρ', ds, g1, g2, g3⟩ := loop1 (C := C) (h0 := h0) (r := r) (s := s) (k := k) (c := c) hs hz hl C.fuel 0 [] (c - big) none none (by omega) (by omega) True.intro
      refine ⟨ds, g1, ?_⟩
      have c6 : ex C (.asg (.name 6) (.bin .Sub (.var 4) (.bin .Pow (.int 10) (.int 18)))) [some (.ref r), some (.int k), some (.ref s), none, some (.int c), some (.ref (h0.length + 1)), none, none] (h0 ++ [.lst [], .lst (([] : List Int).map .int)]) = .next [some (.ref r), some (.int k), some (.ref s), none, some (.int c), some (.ref (h0.length + 1)), some (.int (c - big)), none] (h0 ++ [.lst [], .lst (([] : List Int).map .int)]) := by
        rw [ex, ev_bin (ev_var rfl) p18 b_sub]
        dsimp only
        rw [asg]
        rfl
      have c7 : ex C (.for_ (.name 3) (.val (.var 2)) drawLoop1) [some (.ref r), some (.int k), some (.ref s), none, some (.int c), some (.ref (h0.length + 1)), some (.int (c - big)), none] (h0 ++ [.lst [], .lst (([] : List Int).map .int)]) = .next ρ' (h0 ++ [.lst [], .lst (ds.map .int)]) := by
        have it : evI C (.val (.var 2)) [some (.ref r), some (.int k), some (.ref s), none, some (.int c), some (.ref (h0.length + 1)), some (.int (c - big)), none] (h0 ++ [.lst [], .lst (([] : List Int).map .int)]) = .ok (.lst s) (h0 ++ [.lst [], .lst (([] : List Int).map .int)]) := by
          rw [evI, ev_var rfl]
          have g2 : (h0 ++ [MO.lst [], .lst (([] : List Int).map .int)])[s]? = some (.lst (sizes.map .int)) := get_l hs
          simp only [Out.bind, itV, g2, Out.of]
        rw [ex, it]
        exact g3
      have c8 : ex C (.ifs (.cmp .GtE (.var 4) (.bin .Pow (.int 10) (.int 18))) (.cons (.asg (.name 6) (.bin .Sub (.var 4) (.bin .Pow (.int 10) (.int 18)))) (.cons (.for_ (.name 3) (.val (.var 2)) drawLoop1) (.cons (.ret (.var 5)) .nil))) .nil) [some (.ref r), some (.int k), some (.ref s), none, some (.int c), some (.ref (h0.length + 1)), none, none] (h0 ++ [.lst [], .lst (([] : List Int).map .int)]) = .ret (.ref (h0.length + 1)) (h0 ++ [.lst [], .lst (ds.map .int)]) := by
        rw [ex, c5 rfl]
        simp only [hb, decide_true]
        rw [exs, c6]
        dsimp only
        rw [exs, c7]
        dsimp only
        rw [exs, ex, ev_var g2]
      rw [exs, c8]
    · obtain ⟨ρ', ds, g1, g2, g3⟩ := loop2 (C := C) (h0 := h0) (r := r) (s := s) (k := k) (c := c) hs hz hl C.fuel 0 [] none none none (by omega) (by omega) True.intro
      refine ⟨ds, g1, ?_⟩
      have c8 : ex C (.ifs (.cmp .GtE (.var 4) (.bin .Pow (.int 10) (.int 18))) (.cons (.asg (.name 6) (.bin .Sub (.var 4) (.bin .Pow (.int 10) (.int 18)))) (.cons (.for_ (.name 3) (.val (.var 2)) drawLoop1) (.cons (.ret (.var 5)) .nil))) .nil) [some (.ref r), some (.int k), some (.ref s), none, some (.int c), some (.ref (h0.length + 1)), none, none] (h0 ++ [.lst [], .lst (([] : List Int).map .int)]) = .next [some (.ref r), some (.int k), some (.ref s), none, some (.int c), some (.ref (h0.length + 1)), none, none] (h0 ++ [.lst [], .lst (([] : List Int).map .int)]) := by
        rw [ex, c5 rfl]
        simp only [hb, decide_false]
        rw [exs]
      have c7 : ex C (.for_ (.name 7) (.rng (.cons (.blt .len (.cons (.var 2) .nil)) .nil)) drawLoop2) [some (.ref r), some (.int k), some (.ref s), none, some (.int c), some (.ref (h0.length + 1)), none, none] (h0 ++ [.lst [], .lst (([] : List Int).map .int)]) = .next ρ' (h0 ++ [.lst [], .lst (ds.map .int)]) := by
        have g2 : (h0 ++ [MO.lst [], .lst (([] : List Int).map .int)])[s]? = some (.lst (sizes.map .int)) := get_l hs
        have it : evI C (.rng (.cons (.blt .len (.cons (.var 2) .nil)) .nil)) [some (.ref r), some (.int k), some (.ref s), none, some (.int c), some (.ref (h0.length + 1)), none, none] (h0 ++ [.lst [], .lst (([] : List Int).map .int)]) = .ok (.rng 0 sizes.length) (h0 ++ [.lst [], .lst (([] : List Int).map .int)]) := by
          exact evI_rng1 (ev_blt1 (z := .int (sizes.length : Int)) (ev_var rfl) (by simp only [bltM, lenM, g2, List.length_map])) hl
        rw [ex, it]
        exact g3
      rw [exs, c8]
      dsimp only
      rw [exs, c7]
      dsimp only
      rw [exs, ex, ev_var g2]
end
end Mi

set_option Elab.async false
set_option linter.all false
set_option maxRecDepth 100000
set_option maxHeartbeats 2000000
/-! Draw3: a law whose draws are few: all of them are run. -/
namespace Mi
open PySem PySem.Spec
theorem draw_call {P : Prog} {n f r s : Nat} {k : Int} {F : Fn} {x : Str} {h0 : MH} {ns sizes : List Int} (hF : P.fns[f]? = some F) (hb : F.body = drawB x) (hp : F.params.length = 3) (hN : F.N.length = 8) (hf : 1000 < P.fuel)
    (hr : h0[r]? = some (.rol (ns.map .int))) (hs : h0[s]? = some (.lst (sizes.map .int))) (hz : ∀ z ∈ sizes, 0 < z ∧ z < 1073741824) (hl : sizes.length ≤ 1000) :
    ∃ ds, Drawn ds sizes ∧ callM P (n + 1) f [.ref r, .int k, .ref s] h0 = .ok (.ref (h0.length + 1)) (h0 ++ [.lst [], .lst (ds.map .int)]) := by
  obtain ⟨ds, h1, h2⟩ := draws_ok (C := P.cfg (callM P n)) (k := k) x hr hs hz hl hf
  refine ⟨ds, h1, ?_⟩
  unfold callM
  rw [hF]
  dsimp only
  rw [fill_self (by rw [hp]; rfl)]
  dsimp only
  rw [hb, hN]
  have e : startM 8 [MV.ref r, .int k, .ref s] = [some (.ref r), some (.int k), some (.ref s), none, none, none, none, none] := rfl
  rw [e, h2]
def below : Nat → List Int
  | 0 => []
  | n + 1 => below n ++ [(n : Int)]
def allDraws : List Int → List (List Int)
  | [] => [[]]
  | z :: zs => (below z.toNat).flatMap fun d => (allDraws zs).map fun ds => d :: ds
theorem below_mem : ∀ {n : Nat} {d : Int}, 0 ≤ d → d < n → d ∈ below n
  | 0, d, h1, h2 => by omega
  | n + 1, d, h1, h2 => by
    unfold below
    by_cases h : d < n
    · exact List.mem_append_left _ (below_mem h1 h)
    · exact List.mem_append_right _ (by simp; omega)
theorem drawn_mem : ∀ {zs ds : List Int}, Drawn ds zs → ds ∈ allDraws zs
  | [], [], _ => by simp [allDraws]
  | [], _ :: _, h => h.elim
  | _ :: _, [], h => h.elim
  | z :: zs, d :: ds, h => by
    unfold allDraws
    refine List.mem_flatMap.mpr ⟨d, below_mem h.1.1 (by have := h.1; omega), List.mem_map.mpr ⟨ds, drawn_mem h.2, rfl⟩⟩
def goodS (o : SOut) : Bool := match o with
  | .ret (.bl true) _ => true
  | _ => false
theorem goodS_of {o : SOut} (h : goodS o = true) : ∃ h', o = .ret (.bl true) h' := by
  unfold goodS at h
  split at h
  · exact ⟨_, rfl⟩
  · cases h
/-- the sizes, written as a display -/
def dispB : List Int → MEs
  | [] => .nil
  | z :: zs => .cons (.int z) (dispB zs)
theorem evs_disp {C : Cfg} {ρ : Env} {h : MH} : ∀ zs : List Int, evs C (dispB zs) ρ h = .ok (zs.map .int) h
  | [] => by unfold dispB; rw [evs]; rfl
  | z :: zs => by
    unfold dispB
    rw [evs, ev]
    show (evs C (dispB zs) ρ h).bind _ = _
    rw [evs_disp zs]
    rfl
/-- a law that draws first, then runs -/
theorem law_few {P : Prog} {n li f m : Nat} {k : Int} {F L : Fn} {x y : Str} {sizes : List Int} {rest : MSs} (hF : P.fns[f]? = some F) (hb : F.body = drawB x) (hp : F.params.length = 3) (hN : F.N.length = 8) (hf : 1000 < P.fuel) (hz : ∀ z ∈ sizes, 0 < z ∧ z < 1073741824) (hl : sizes.length ≤ 1000)
    (hL : P.fns[li]? = some L) (hLp : L.params.length = 1) (hLN : L.N.length = m + 2) (hLb : L.body = .cons (.asg (.name 1) (.call y f (.cons (.var 0) (.cons (.int k) (.cons (.lst (dispB sizes)) .nil))))) rest)
    (run : ∀ xs : List MV, (allDraws sizes).all (fun ds => goodS (exs (P.cfg (callM P (n + 1))) rest (some (.ref 0) :: some (.ref 3) :: List.replicate m none) [.rol xs, .lst (sizes.map .int), .lst [], .lst (ds.map .int)])) = true) (ns : List Int) :
    ∃ h', callM P (n + 2) li [.ref 0] (scrM ns) = .ok (.bl true) h' := by
  obtain ⟨ds, h1, h2⟩ := draw_call (n := n) (k := k) (r := 0) (s := 1) (h0 := [.rol (ns.map .int), .lst (sizes.map .int)]) (ns := ns) hF hb hp hN hf rfl rfl hz hl
  have g := List.all_eq_true.mp (run (ns.map .int)) ds (drawn_mem h1)
  obtain ⟨h', e⟩ := goodS_of g
  refine ⟨h', ?_⟩
  have e0 : startM (m + 2) [MV.ref 0] = some (.ref 0) :: none :: List.replicate m none := by
    show some (MV.ref 0) :: List.replicate (m + 2 - 1) none = _
    rw [show m + 2 - 1 = m + 1 by omega, List.replicate_succ]
  have e1 : ex (P.cfg (callM P (n + 1))) (.asg (.name 1) (.call y f (.cons (.var 0) (.cons (.int k) (.cons (.lst (dispB sizes)) .nil))))) (some (.ref 0) :: none :: List.replicate m none) (scrM ns) = .next (some (.ref 0) :: some (.ref 3) :: List.replicate m none) [.rol (ns.map .int), .lst (sizes.map .int), .lst [], .lst (ds.map .int)] := by
    have a1 : evs (P.cfg (callM P (n + 1))) (.cons (.var 0) (.cons (.int k) (.cons (.lst (dispB sizes)) .nil))) (some (.ref 0) :: none :: List.replicate m none) (scrM ns) = .ok [.ref 0, .int k, .ref 1] [.rol (ns.map .int), .lst (sizes.map .int)] := by
      have b1 : ev (P.cfg (callM P (n + 1))) (.lst (dispB sizes)) (some (.ref 0) :: none :: List.replicate m none) (scrM ns) = .ok (.ref 1) [.rol (ns.map .int), .lst (sizes.map .int)] := by
        rw [ev, evs_disp]
        simp only [Out.bind, List.length_map]
        rw [if_pos (by show sizes.length ≤ 16777216; omega)]
        rfl
      rw [evs, ev_var rfl]
      simp only [Out.bind]
      rw [evs, ev_int]
      simp only [Out.bind]
      rw [evs, b1]
      simp only [Out.bind]
      rw [evs]
    rw [ex, ev, a1]
    simp only [Out.bind, Prog.cfg]
    rw [h2]
    dsimp only
    rw [asg]
    rfl
  unfold callM
  rw [hL]
  dsimp only
  rw [fill_self (by rw [hLp]; rfl)]
  dsimp only
  rw [hLb, hLN, e0, exs, e1]
  dsimp only
  rw [e]
end Mi

set_option Elab.async false
set_option linter.all false
set_option maxRecDepth 100000
set_option maxHeartbeats 2000000
/-! Run: running the small interpreter on a text, symbolically. -/
namespace Mi
open PySem _root_.SX
/-! ### slots -/
theorem slotO_0 {v : MV} {ρ : Env} : slotO (some v :: ρ) 0 = some v := rfl
theorem slotO_n {ρ : Env} : slotO (none :: ρ) 0 = none := rfl
theorem slotO_s {x : Option MV} {ρ : Env} {n : Nat} : slotO (x :: ρ) (n + 1) = slotO ρ n := rfl
/-! ### the heap -/
theorem hp_last {h : MH} {o : MO} : (h ++ [o])[h.length]? = some o := by simp
theorem hp_new {h t : MH} {i : Nat} : (h ++ t)[h.length + i]? = t[i]? := get_r i
theorem hp_new0 {h t : MH} : (h ++ t)[h.length]? = t[0]? := get_r 0
theorem hp_old {h t : MH} {r : Nat} (hr : r < h.length) : (h ++ t)[r]? = h[r]? := List.getElem?_append_left hr
theorem hp_lt {h : MH} {r : Nat} {o : MO} (e : h[r]? = some o) : r < h.length := (List.getElem?_eq_some_iff.mp e).1
theorem hp_get {h t : MH} {r : Nat} {o : MO} (e : h[r]? = some o) : (h ++ t)[r]? = some o := get_l e
/-! ### calls -/
/-- a body's end is a call's end -/
def endF : SOut → Out MV
  | .next _ h1 => .ok .non h1
  | .ret v h1 => .ok v h1
  | .exc c fs _ h1 => .exc c fs h1
  | _ => .bad
theorem callM_at {P : Prog} {n f : Nat} {F : Fn} {vs ws : List MV} {h : MH} (hF : P.fns[f]? = some F) (e : F.fill vs = some ws) : callM P (n + 1) f vs h = endF (exs (P.cfg (callM P n)) F.body (startM F.N.length ws) h) := by
  rw [callM_fill hF e]
  unfold callM
  rw [hF]
  dsimp only
  rw [fill_self (fill_of e).2.2.2]
  dsimp only
  generalize exs (P.cfg (callM P n)) F.body (startM F.N.length ws) h = o
  cases o <;> rfl
/-! ### and, or -/
theorem evB_1 {C : Cfg} {op : BoolOp} {e : ME} {ρ : Env} {h : MH} : evB C op (.cons e .nil) ρ h = ev C e ρ h := by rw [evB]
theorem evB_a {C : Cfg} {e a : ME} {b : MEs} {ρ : Env} {h : MH} : evB C .And (.cons e (.cons a b)) ρ h = (ev C e ρ h).bind fun v h1 => match truth h1 v with
    | some true => evB C .And (.cons a b) ρ h1
    | some false => .ok v h1
    | none => .bad := by
  rw [evB]
  · congr 1
    funext v h1
    cases truth h1 v with
    | none => rfl
    | some c => cases c <;> rfl
  · intro z; cases z
theorem evB_o {C : Cfg} {e a : ME} {b : MEs} {ρ : Env} {h : MH} : evB C .Or (.cons e (.cons a b)) ρ h = (ev C e ρ h).bind fun v h1 => match truth h1 v with
    | some true => .ok v h1
    | some false => evB C .Or (.cons a b) ρ h1
    | none => .bad := by
  rw [evB]
  · congr 1
    funext v h1
    cases truth h1 v with
    | none => rfl
    | some c => cases c <;> rfl
  · intro z; cases z
/-! ### values -/
theorem truth_bl {h : MH} {b : Bool} : truth h (.bl b) = some b := rfl
theorem of_some {α : Type} {h : MH} {a : α} : Out.of h (some a) = .ok a h := rfl
theorem of_none {α : Type} {h : MH} : (Out.of h none : Out α) = .bad := rfl
theorem bind_ok {α β : Type} {a : α} {h : MH} {f : α → MH → Out β} : (Out.ok a h).bind f = f a h := rfl
theorem bind_exc {α β : Type} {c : Nat} {fs : List (Str × MV)} {h : MH} {f : α → MH → Out β} : (Out.exc c fs h : Out α).bind f = .exc c fs h := rfl
theorem bind_bad {α β : Type} {f : α → MH → Out β} : (Out.bad : Out α).bind f = .bad := rfl
/-- is one sign in a text -/
theorem in_sign {h : MH} {l : List Nat} {c : Nat} : inM h (.str (S [c])) (.str (S l)) = some (decide (c ∈ l)) := by
  show some (!(Builtin.Str.occurrences (S l) (S [c]) 0 (S l).length 1).isEmpty) = _
  rw [in_one]
theorem signs_S (l : List Nat) : signs (S l) = l.map fun c => .str (S [c]) := by
  unfold signs S
  simp
theorem len_S {h : MH} {l : List Nat} (hl : l.length ≤ line) : lenM h (.str (S l)) = some l.length := by
  unfold lenM
  dsimp only
  rw [S_len, if_pos hl]
theorem at_S {l : List Nat} {i : Nat} {c : Nat} {h : MH} (hl : l.length ≤ line) (e : l[i]? = some c) : subM (.str (S l)) (.int (i : Int)) h = some (.str (S [c])) := by
  have hi := (List.getElem?_eq_some_iff.mp e).1
  unfold subM
  dsimp only
  rw [S_len, if_pos hl]
  have : L2.atI (S l).cps.toList (i : Int) = some c := by
    show L2.atI l (i : Int) = some c
    unfold L2.atI L2.ixN
    rw [if_pos (by omega), if_pos (by omega)]
    simpa using e
  rw [this]
  rfl
theorem atI_nat {α : Type} {l : List α} {i : Nat} {c : α} (e : l[i]? = some c) : L2.atI l (i : Int) = some c := by
  have hi := (List.getElem?_eq_some_iff.mp e).1
  unfold L2.atI L2.ixN
  rw [if_pos (by omega), if_pos (by omega)]
  simpa using e
theorem ixN_nat {n i : Nat} (h : i < n) : L2.ixN n (i : Int) = some i := by
  unfold L2.ixN
  rw [if_pos (by omega), if_pos (by omega)]
  rfl
/-! ### equality -/
def dsmp : MV → PyData
  | .bl b => .bool b
  | .int i => .int i
  | .str x => .str x
  | _ => .none
/-- a simple value that == compares -/
def sok : MV → Bool
  | .non => true
  | .bl _ => true
  | .int _ => true
  | .str x => PyData.strOk x
  | _ => false
theorem toD_smp {h : MH} {n : Nat} {v : MV} (s : sok v = true) : toD h n v = some (dsmp v) := by
  cases v <;> first | (cases n <;> rfl) | cases s
theorem lay_smp {v : MV} (s : sok v = true) : (dsmp v).canLay0 = true ∧ (dsmp v).depth = 0 := by
  cases v <;> first | exact ⟨by simp only [dsmp, PyData.canLay0]; exact s, rfl⟩ | exact ⟨by simp only [dsmp, PyData.canLay0], rfl⟩ | cases s
theorem mapO_smp {h : MH} {n : Nat} : ∀ {vs : List MV}, vs.all sok = true → mapO (toD h n) vs = some (vs.map dsmp)
  | [], _ => rfl
  | v :: vs, s => by
    rw [List.all_cons, Bool.and_eq_true] at s
    rw [mapO, toD_smp s.1, mapO_smp s.2]
    rfl
theorem lays_smp : ∀ {vs : List MV}, vs.all sok = true → PyData.canLayAll0 (vs.map dsmp) = true ∧ PyData.depthAll (vs.map dsmp) = 0
  | [], _ => ⟨by simp only [List.map_nil, PyData.canLayAll0], rfl⟩
  | v :: vs, s => by
    rw [List.all_cons, Bool.and_eq_true] at s
    have A := lay_smp s.1
    have B := lays_smp s.2
    refine ⟨by rw [List.map_cons, PyData.canLayAll0, A.1, B.1]; rfl, ?_⟩
    rw [List.map_cons, PyData.depthAll, A.2, B.2]; rfl
theorem toD_tup {h : MH} {vs : List MV} (s : vs.all sok = true) : toD h 64 (.tup vs) = some (.tuple (vs.map dsmp)) := by
  rw [toD, mapO_smp s]; rfl
theorem toD_lst {h : MH} {r : Nat} {vs : List MV} (e : h[r]? = some (.lst vs) ∨ h[r]? = some (.rol vs)) (s : vs.all sok = true) : toD h 64 (.ref r) = some (.list (vs.map dsmp)) := by
  rw [toD]
  rcases e with e | e
  · rw [e]; dsimp only; rw [mapO_smp s]; rfl
  · rw [e]; dsimp only; rw [mapO_smp s]; rfl
theorem shaped_tup {vs : List MV} (s : vs.all sok = true) : SeqAt.shaped (.tuple (vs.map dsmp)) = true ∧ SeqAt.shaped (.list (vs.map dsmp)) = true := by
  have A := lays_smp s
  unfold SeqAt.shaped
  constructor
  · rw [PyData.canLay0, A.1, PyData.depth, A.2]; rfl
  · rw [PyData.canLay0, A.1, PyData.depth, A.2]; rfl
theorem shaped_smp {v : MV} (s : sok v = true) : SeqAt.shaped (dsmp v) = true := by
  have A := lay_smp s
  unfold SeqAt.shaped
  rw [A.1, A.2]; rfl
theorem eqM_self {h : MH} {v w : MV} {d : PyData} (hv : toD h 64 v = some d) (hw : toD h 64 w = some d) (s : SeqAt.shaped d = true) : eqM h v w = some true := by
  unfold eqM
  rw [hv, hw]
  dsimp only
  rw [s, SeqAt.eqv_refl d (SeqAt.canLay_of_shaped s)]
  rfl
theorem eqM_tup {h : MH} {vs : List MV} (s : vs.all sok = true) : eqM h (.tup vs) (.tup vs) = some true := eqM_self (toD_tup s) (toD_tup s) (shaped_tup s).1
theorem eqM_lst {h : MH} {r t : Nat} {vs : List MV} (e1 : h[r]? = some (.lst vs) ∨ h[r]? = some (.rol vs)) (e2 : h[t]? = some (.lst vs) ∨ h[t]? = some (.rol vs)) (s : vs.all sok = true) : eqM h (.ref r) (.ref t) = some true := eqM_self (toD_lst e1 s) (toD_lst e2 s) (shaped_tup s).2
theorem eqM_smp {h : MH} {v : MV} (s : sok v = true) : eqM h v v = some true := eqM_self (toD_smp s) (toD_smp s) (shaped_smp s)
theorem eqM_int {h : MH} {i j : Int} : eqM h (.int i) (.int j) = some (i == j) := by
  unfold eqM
  rw [toD_smp (v := .int i) rfl, toD_smp (v := .int j) rfl]
  have a := shaped_smp (v := .int i) rfl
  have b := shaped_smp (v := .int j) rfl
  dsimp only [dsmp] at a b ⊢
  rw [a, b]
  simp [PyData.eqv]
theorem eqM_str {h : MH} {x y : Str} (hx : PyData.strOk x = true) (hy : PyData.strOk y = true) : eqM h (.str x) (.str y) = some (x == y) := by
  unfold eqM
  rw [toD_smp (v := .str x) hx, toD_smp (v := .str y) hy]
  have a := shaped_smp (v := .str x) hx
  have b := shaped_smp (v := .str y) hy
  dsimp only [dsmp] at a b ⊢
  rw [a, b]
  simp [PyData.eqv]
/-! ### loops -/
/-- a loop that runs to its end or leaves early -/
theorem forM_run {I : Mi.It} {a : MV → Env → MH → SOut} {b : Env → MH → SOut} {len : Nat} (Inv : Nat → Env → MH → Prop) (Post : SOut → Prop)
    (last : ∀ ρ h, Inv len ρ h → I.at_ len h = some none ∧ Post (.next ρ h))
    (step : ∀ i ρ h, i < len → Inv i ρ h → ∃ v, I.at_ i h = some (some v) ∧ ∃ ρ1 h1, a v ρ h = .next ρ1 h1 ∧ ((∃ ρ2 h2, (b ρ1 h1 = .next ρ2 h2 ∨ b ρ1 h1 = .cnt ρ2 h2) ∧ Inv (i + 1) ρ2 h2) ∨ (∃ ρ2 h2, b ρ1 h1 = .brk ρ2 h2 ∧ Post (.next ρ2 h2)) ∨ (∃ v h2, b ρ1 h1 = .ret v h2 ∧ Post (.ret v h2)) ∨ ∃ c fs ρ2 h2, b ρ1 h1 = .exc c fs ρ2 h2 ∧ Post (.exc c fs ρ2 h2))) :
    ∀ (fuel i : Nat) (ρ : Env) (h : MH), len < fuel + i → i ≤ len → Inv i ρ h → Post (forM I a b fuel i ρ h)
  | 0, i, ρ, h, h1, h2, _ => by omega
  | n + 1, i, ρ, h, h1, h2, hi => by
    rw [forM]
    by_cases hl : i < len
    · obtain ⟨v, e1, ρ1, h1', e2, c⟩ := step i ρ h hl hi
      rw [e1]
      dsimp only
      rw [e2]
      dsimp only
      rcases c with ⟨ρ2, h2', e3 | e3, hi'⟩ | ⟨ρ2, h2', e3, p⟩ | ⟨v2, h2', e3, p⟩ | ⟨c, fs, ρ2, h2', e3, p⟩
      · rw [e3]; exact forM_run Inv Post last step n (i + 1) ρ2 h2' (by omega) (by omega) hi'
      · rw [e3]; exact forM_run Inv Post last step n (i + 1) ρ2 h2' (by omega) (by omega) hi'
      · rw [e3]; exact p
      · rw [e3]; exact p
      · rw [e3]; exact p
    · obtain rfl : i = len := by omega
      obtain ⟨e1, p⟩ := last ρ h hi
      rw [e1]
      exact p
/-- a display by a pure loop -/
theorem lcM_map {turn : Nat → MH → Out (Option (Option MV))} {h : MH} {len : Nat} (f : Nat → MV) (step : ∀ i, i < len → turn i h = .ok (some (some (f i))) h) (last : turn len h = .ok none h) :
    ∀ (fuel i : Nat) (acc : List MV), len < fuel + i → i ≤ len → acc.length + len ≤ i + line → lcM turn fuel i acc h = .ok (acc ++ (List.range' i (len - i)).map f) h
  | 0, i, acc, h1, h2, _ => by omega
  | n + 1, i, acc, h1, h2, h3 => by
    rw [lcM]
    by_cases hl : i < len
    · rw [step i hl]
      dsimp only
      rw [if_pos (by omega), lcM_map f step last n (i + 1) (acc ++ [f i]) (by omega) (by omega) (by simp; omega)]
      have : len - i = (len - (i + 1)) + 1 := by omega
      rw [this, List.range'_succ, List.map_cons, List.append_assoc]
      rfl
    · obtain rfl : i = len := by omega
      rw [last]
      simp
theorem wipe_nil {ρ : Env} : wipe ρ [] = ρ := rfl
theorem wipe_1 {ρ : Env} {i : Nat} : wipe ρ [i] = ρ.set i none := rfl
/-! ### running by rewriting -/
theorem cmp_gt {i j : Int} {h : MH} : cmpM .Gt (.int i) (.int j) h = some (decide (j < i)) := rfl
theorem cmp_ge {i j : Int} {h : MH} : cmpM .GtE (.int i) (.int j) h = some (decide (j ≤ i)) := rfl
theorem cmp_lt {i j : Int} {h : MH} : cmpM .Lt (.int i) (.int j) h = some (decide (i < j)) := rfl
theorem cmp_le {i j : Int} {h : MH} : cmpM .LtE (.int i) (.int j) h = some (decide (i ≤ j)) := rfl
theorem cmp_in {v w : MV} {h : MH} : cmpM .In v w h = inM h v w := rfl
theorem cmp_ni {v w : MV} {h : MH} : cmpM .NotIn v w h = (inM h v w).map (!·) := rfl
theorem cmp_eq {v w : MV} {h : MH} : cmpM .Eq v w h = eqM h v w := rfl
theorem cmp_ne {v w : MV} {h : MH} : cmpM .NotEq v w h = (eqM h v w).map (!·) := rfl
theorem b_addT {xs ys : List MV} {h : MH} (hl : xs.length + ys.length ≤ line) : binM .Add (.tup xs) (.tup ys) h = .ok (.tup (xs ++ ys)) h := by
  show (if _ then _ else _) = _
  rw [if_pos hl]
theorem blt_len {C : Cfg} {v : MV} {h : MH} {n : Nat} (e : lenM h v = some n) : bltM C .len [v] h = .ok (.int n) h := by
  unfold bltM
  dsimp only
  rw [e]
theorem blt_listS {C : Cfg} {l : List Nat} {h : MH} (hl : l.length ≤ line) : bltM C .list [.str (S l)] h = .ok (.ref h.length) (h ++ [.lst (l.map fun c => .str (S [c]))]) := by
  unfold bltM
  dsimp only [seqM]
  rw [S_len, if_pos hl, signs_S]
  rfl
theorem rng_nat {n : Nat} (h : n < 1000000) : rngM [.int (n : Int)] = some (.rng 0 n) := by
  unfold rngM
  dsimp only
  rw [if_pos (by omega)]
  simp
theorem at_rng {n i : Nat} {h : MH} (hi : i < n) : Mi.It.at_ (.rng 0 n) i h = some (some (.int (i : Int))) := by
  show some (if i < n then some (MV.int (0 + (i : Int))) else none) = _
  rw [if_pos hi, Int.zero_add]
theorem at_rngE {n : Nat} {h : MH} : Mi.It.at_ (.rng 0 n) n h = some none := by
  show some (if n < n then some (MV.int (0 + (n : Int))) else none) = _
  rw [if_neg (by omega)]
theorem at_enmS {l : List Nat} {i c : Nat} {h : MH} (e : l[i]? = some c) : Mi.It.at_ (.enm (.str (S l))) i h = some (some (.tup [.int (i : Int), .str (S [c])])) := by
  unfold Mi.It.at_
  dsimp only [Sr.items]
  rw [signs_S, List.getElem?_map, e]
  rfl
theorem at_enmSE {l : List Nat} {h : MH} : Mi.It.at_ (.enm (.str (S l))) l.length h = some none := by
  unfold Mi.It.at_
  dsimp only [Sr.items]
  rw [signs_S, List.getElem?_map, List.getElem?_eq_none (Nat.le_refl _)]
  simp
theorem enm_S {l : List Nat} {h : MH} : enmM h [.str (S l)] = some (.enm (.str (S l))) := rfl
/-- the first place where p does not hold -/
def bad (p : Nat → Bool) (l : List Nat) : Option Nat := l.findIdx? fun c => !p c
theorem bad_some {p : Nat → Bool} {l : List Nat} {i c : Nat} (e : l[i]? = some c) (hc : p c = false) (h : ∀ j, j < i → ∀ c, l[j]? = some c → p c = true) : bad p l = some i := by
  unfold bad
  obtain ⟨hi, e⟩ := List.getElem?_eq_some_iff.mp e
  rw [List.findIdx?_eq_some_iff_getElem]
  refine ⟨hi, by rw [e, hc]; rfl, fun j hj => ?_⟩
  have := h j hj l[j] (List.getElem?_eq_getElem (by omega))
  simp [this]
theorem bad_none {p : Nat → Bool} {l : List Nat} (h : ∀ j, j < l.length → ∀ c, l[j]? = some c → p c = true) : bad p l = none := by
  unfold bad
  rw [List.findIdx?_eq_none_iff]
  intro c hc
  obtain ⟨j, hj⟩ := List.mem_iff_getElem?.mp hc
  rw [h j (List.getElem?_eq_some_iff.mp hj).1 c hj]
  rfl
theorem bad_all {p : Nat → Bool} {l : List Nat} (h : bad p l = none) : ∀ c ∈ l, p c = true := by
  unfold bad at h
  rw [List.findIdx?_eq_none_iff] at h
  intro c hc
  simpa using h c hc
theorem at_lt {α : Type} {l : List α} {i : Nat} (hi : i < l.length) : ∃ c, l[i]? = some c := ⟨l[i], List.getElem?_eq_getElem hi⟩
theorem asgq_name {C : Cfg} {i : Nat} {v : MV} {ρ : Env} {h : MH} : asg C (.name i) v ρ h = .next (ρ.set i (some v)) h := by rw [asg]
theorem asgq_tup {C : Cfg} {ts : MTs} {xs : List MV} {ρ : Env} {h : MH} : asg C (.tup ts) (.tup xs) ρ h = asgs C ts xs ρ h := by rw [asg]
theorem asgqs_nil {C : Cfg} {ρ : Env} {h : MH} : asgs C .nil [] ρ h = .next ρ h := by rw [asgs]
theorem asgqs_cons {C : Cfg} {t : MT} {ts : MTs} {v : MV} {vs : List MV} {ρ : Env} {h : MH} : asgs C (.cons t ts) (v :: vs) ρ h = (match asg C t v ρ h with
    | .next ρ1 h1 => asgs C ts vs ρ1 h1
    | _ => .bad) := by rw [asgs]; try rfl
theorem asgq_sub {C : Cfg} {a i : ME} {v : MV} {ρ : Env} {h : MH} : asg C (.sub a i) v ρ h = (match ev C a ρ h with
    | .ok o h1 => match ev C i ρ h1 with
      | .ok k h2 => match setM o k v h2 with
        | some h3 => .next ρ h3
        | none => .bad
      | .exc c fs h2 => .exc c fs ρ h2
      | .bad => .bad
    | .exc c fs h1 => .exc c fs ρ h1
    | .bad => .bad) := by rw [asg]; try rfl
/-! ### texts of signs -/
abbrev sgn (c : Nat) : MV := .str (S [c])
theorem joinL_nil : ∀ ps : List (List Nat), TL.joinL [] ps = ps.flatten
  | [] => rfl
  | [x] => by simp [TL.joinL]
  | x :: y :: r => by
    have := joinL_nil (y :: r)
    show x ++ ([] ++ TL.joinL [] (y :: r)) = _
    rw [this]
    simp
theorem flat_one (l : List Nat) : (l.map fun c => [c]).flatten = l := by
  induction l with
  | nil => rfl
  | cons c l ih => simp [ih]
theorem strsM_sgn : ∀ l : List Nat, strsM (l.map sgn) = some (l.map fun c => S [c])
  | [] => rfl
  | c :: l => by
    rw [List.map_cons, strsM, strsM_sgn l]
    rfl
theorem sum_one (l : List Nat) : ((l.map fun c => S [c]).map (·.length)).sum = l.length := by
  induction l with
  | nil => rfl
  | cons c l ih =>
    rw [List.map_cons, List.map_cons, List.sum_cons, ih, S_len]
    simp only [List.length_cons, List.length_nil]
    omega
theorem S_nil : Str.ofString "" = S [] := by decide +kernel
theorem join_sgn {l : List Nat} {v : MV} {h : MH} (e : seqM h v = some (l.map sgn)) (hl : l.length ≤ line) : mthM .join (.str (S [])) [v] h = .ok (.str (S l)) h := by
  unfold mthM
  dsimp only
  rw [e]
  dsimp only
  rw [strsM_sgn]
  dsimp only
  rw [sum_one, S_len, List.length_map, if_pos (by show l.length + l.length * 0 ≤ 16777216; have : l.length ≤ 16777216 := hl; omega)]
  have : l.map (fun c => S [c]) = (l.map fun c => [c]).map S := by rw [List.map_map]; rfl
  rw [this, join_S, joinL_nil, flat_one]
theorem upper_1 {c : Nat} {h : MH} (hc : c < 128) : mthM .upper (.str (S [c])) [] h = .ok (.str (S [PyProof.Rows.up1 c])) h := by
  unfold mthM
  dsimp only
  rw [S_len, if_pos (by show 1 ≤ 5592405; omega), upper_S (by simp [hc])]
  rfl
theorem mthR_str {m : Mth} {x : Str} {h : MH} : mthR m (.str x) h = !m.ofList := by cases m <;> rfl
theorem up1_up1 (c : Nat) : PyProof.Rows.up1 (PyProof.Rows.up1 c) = PyProof.Rows.up1 c := by
  unfold PyProof.Rows.up1
  split
  · rw [if_neg (by omega)]
  · rfl
theorem seq_lst {h : MH} {r : Nat} {xs : List MV} (e : h[r]? = some (.lst xs)) : seqM h (.ref r) = some xs := by
  unfold seqM
  dsimp only
  rw [e]
/-- the same text with capitals at these places -/
def slw (l : List Nat) (ps : List Int) : List Nat := l.zipIdx.map fun p => if (p.2 : Int) ∈ ps then PyProof.Rows.up1 p.1 else p.1
theorem slw_len (l : List Nat) (ps : List Int) : (slw l ps).length = l.length := by unfold slw; simp
theorem slw_at (l : List Nat) (ps : List Int) (j : Nat) : (slw l ps)[j]? = l[j]?.map fun c => if (j : Int) ∈ ps then PyProof.Rows.up1 c else c := by
  unfold slw
  rw [List.getElem?_map, List.getElem?_zipIdx]
  cases l[j]? <;> simp
theorem slw_nil (l : List Nat) : slw l [] = l := by
  apply List.ext_getElem?
  intro j
  rw [slw_at]
  cases l[j]? <;> simp
theorem slw_snoc {l : List Nat} {ps : List Int} {k c : Nat} (e : l[k]? = some c) : (slw l ps).set k (PyProof.Rows.up1 c) = slw l (ps ++ [(k : Int)]) := by
  apply List.ext_getElem?
  intro j
  have hk := (List.getElem?_eq_some_iff.mp e).1
  by_cases hj : k = j
  · subst hj
    rw [List.getElem?_set_self (by rw [slw_len]; exact hk), slw_at, e]
    simp
  · rw [List.getElem?_set_ne hj, slw_at, slw_at]
    have : ((j : Int) ∈ ps ++ [(k : Int)]) ↔ (j : Int) ∈ ps := by
      simp only [List.mem_append, List.mem_singleton]
      constructor
      · rintro (h | h)
        · exact h
        · exact absurd (by omega) hj
      · exact .inl
    simp only [this]
theorem slw_up {l : List Nat} {ps : List Int} {k c d : Nat} (e : l[k]? = some c) (e2 : (slw l ps)[k]? = some d) : PyProof.Rows.up1 d = PyProof.Rows.up1 c := by
  rw [slw_at, e] at e2
  simp only [Option.map_some, Option.some.injEq] at e2
  subst e2
  split
  · exact up1_up1 c
  · rfl
theorem it_seq {h : MH} {v : MV} {xs : List MV} (e : seqM h v = some xs) : ∃ I, (∀ t, itV v (h ++ t) = some I) ∧ ∀ t i, Mi.It.at_ I i (h ++ t) = some xs[i]? := by
  cases v with
  | tup ys =>
    cases e
    exact ⟨.tup xs, fun t => rfl, fun t i => rfl⟩
  | ref r =>
    unfold seqM at e
    dsimp only at e
    split at e
    · rename_i ys q
      cases e
      refine ⟨.lst r, fun t => ?_, fun t i => ?_⟩
      · unfold itV; dsimp only; rw [hp_get q]
      · unfold Mi.It.at_; dsimp only; rw [hp_get q]
    · rename_i ys q
      cases e
      refine ⟨.lst r, fun t => ?_, fun t i => ?_⟩
      · unfold itV; dsimp only; rw [hp_get q]
      · unfold Mi.It.at_; dsimp only; rw [hp_get q]
    · cases e
  | _ => cases e
theorem seq_app {h t : MH} {v : MV} {xs : List MV} (e : seqM h v = some xs) : seqM (h ++ t) v = some xs := by
  cases v with
  | tup ys => exact e
  | ref r =>
    unfold seqM at e ⊢
    dsimp only at e ⊢
    split at e
    · rename_i ys q; rw [hp_get q]; exact e
    · rename_i ys q; rw [hp_get q]; exact e
    · cases e
  | _ => cases e
theorem cfg_call {P : Prog} {c : Nat → List MV → MH → Out MV} {f : Nat} {vs : List MV} {h : MH} : (P.cfg c).call f vs h = c f vs h := by cases P; exact Eq.trans rfl rfl
theorem Drawn.get : ∀ {ds zs : List Int} {i : Nat} {z : Int}, Drawn ds zs → zs[i]? = some z → ∃ m : Nat, ds[i]? = some (m : Int) ∧ (m : Int) < z
  | [], [], i, z, _, e => by simp at e
  | [], _ :: _, _, _, h, _ => h.elim
  | _ :: _, [], _, _, h, _ => h.elim
  | d :: ds, y :: zs, 0, z, h, e => by
    simp at e
    subst e
    exact ⟨d.toNat, by have := h.1.1; simp; omega, by have := h.1; omega⟩
  | d :: ds, y :: zs, i + 1, z, h, e => by
    obtain ⟨m, h1, h2⟩ := Drawn.get (i := i) h.2 (by simpa using e)
    exact ⟨m, by simpa using h1, h2⟩
theorem sub_d {ds : List Int} {i : Nat} {d k : Int} {r : Nat} {h : MH} (e : h[r]? = some (.lst (ds.map .int))) (hk : k = (i : Int)) (hd : ds[i]? = some d) : subM (.ref r) (.int k) h = some (.int d) := by
  subst hk
  unfold subM
  dsimp only
  rw [e]
  exact atI_nat (by rw [List.getElem?_map, hd]; rfl)
theorem ex_asg {C : Cfg} {i : Nat} {e : ME} {ρ : Env} {h h1 : MH} {v : MV} (hv : ev C e ρ h = .ok v h1) : ex C (.asg (.name i) e) ρ h = .next (ρ.set i (some v)) h1 := by
  rw [ex, hv]
  dsimp only
  rw [asg]
theorem ev_mth1 {C : Cfg} {m : Mth} {a b : ME} {ρ : Env} {h h1 h2 h3 : MH} {v w z : MV} (ha : ev C a ρ h = .ok v h1) (hm : mthR m v h1 = true) (hb : ev C b ρ h1 = .ok w h2) (hz : mthM m v [w] h2 = .ok z h3) : ev C (.mth a m (.cons b .nil)) ρ h = .ok z h3 := by
  rw [ev, ha, bind_ok, hm, if_pos rfl, evs, hb, bind_ok, evs, bind_ok, bind_ok]
  exact hz
/-- a display over range(n), nothing else changes -/
theorem ev_lc {C : Cfg} {e : ME} {i : Nat} {x : Str} {it : MI} {ρ : Env} {h : MH} {m : Nat} (f : Nat → MV) (hit : evI C it ρ h = .ok (.rng 0 m) h) (hf : m < C.fuel) (hm : m ≤ line) (he : ∀ k, k < m → ev C e ((ρ.set i none).set i (some (.int (k : Int)))) h = .ok (f k) h) :
    ev C (.lc e (.name i) it .nil [(x, i)]) ρ h = .ok (.ref h.length) (h ++ [.lst ((List.range m).map f)]) := by
  rw [ev, hit, bind_ok, lcM_map (len := m) f ?s ?l C.fuel 0 [] (by omega) (Nat.zero_le _) (by simp; exact hm), bind_ok]
  case s =>
    intro k hk
    rw [at_rng hk]
    dsimp only
    rw [asg]
    dsimp only
    rw [evA, bind_ok, if_pos rfl]
    show (ev C e ((ρ.set i none).set i (some (.int (k : Int)))) h).bind _ = _
    rw [he k hk, bind_ok]
  case l => rw [at_rngE]
  simp [alloc, List.range_eq_range']
theorem b_addL {xs ys : List MV} {a b : Nat} {h : MH} (ha : h[a]? = some (.lst xs)) (hb : h[b]? = some (.lst ys)) (hl : xs.length + ys.length ≤ line) : binM .Add (.ref a) (.ref b) h = .ok (.ref h.length) (h ++ [.lst (xs ++ ys)]) := by
  unfold binM
  dsimp only
  rw [ha, hb]
  dsimp only
  rw [if_pos hl]
  rfl
theorem b_mulL {xs : List MV} {a : Nat} {k : Nat} {i : Int} {h : MH} (ha : h[a]? = some (.lst xs)) (hi : i = (k : Int)) (hk : k < 1000000) (hl : xs.length * k ≤ line) : binM .Mult (.ref a) (.int i) h = .ok (.ref h.length) (h ++ [.lst (List.replicate k xs).flatten]) := by
  subst hi
  unfold binM
  dsimp only
  rw [ha]
  dsimp only
  rw [if_pos ⟨by omega, by omega, by simpa using hl⟩]
  simp [alloc]
theorem b_addS {x y : List Nat} {h : MH} (hl : x.length + y.length ≤ line) : binM .Add (.str (S x)) (.str (S y)) h = .ok (.str (S (x ++ y))) h := by
  unfold binM
  dsimp only
  rw [S_len, S_len, if_pos hl, S_cat]
theorem b_mulS {x : List Nat} {k : Nat} {i : Int} {h : MH} (hi : i = (k : Int)) (hk : k < 1000000) (hl : x.length * k ≤ line) : binM .Mult (.str (S x)) (.int i) h = .ok (.str (S (List.replicate k x).flatten)) h := by
  subst hi
  unfold binM
  dsimp only
  rw [S_len, if_pos ⟨by omega, by omega, by simpa using hl⟩]
  simp [strRep, S]
/-- a part of a list of code points -/
def cutN {α : Type} (xs : List α) (lo hi : Option Int) : List α := (xs.drop (HT.sIx xs.length 0 lo)).take (HT.sIx xs.length xs.length hi - HT.sIx xs.length 0 lo)
theorem cutN_len {α : Type} (xs : List α) (lo hi : Option Int) : (cutN xs lo hi).length ≤ xs.length := by
  unfold cutN
  rw [List.length_take, List.length_drop]
  omega
theorem slc_S {x : List Nat} {lo hi : Option Int} {h : MH} (hl : x.length ≤ line) : slcM (.str (S x)) lo hi h = .ok (.str (S (cutN x lo hi))) h := by
  unfold slcM
  dsimp only
  rw [S_len, if_pos hl]
  have : L2.cutS (S x) lo hi = S (cutN x lo hi) := by
    unfold L2.cutS cutN
    rw [S_len]
  rw [this]
theorem slc_L {xs : List Int} {lo hi : Option Int} {a : Nat} {h : MH} (ha : h[a]? = some (.lst (xs.map .int))) : slcM (.ref a) lo hi h = .ok (.ref h.length) (h ++ [.lst ((cutN xs lo hi).map .int)]) := by
  unfold slcM
  dsimp only
  rw [ha]
  have : cutM (xs.map MV.int) lo hi = (cutN xs lo hi).map MV.int := by
    unfold cutM cutN
    rw [List.length_map, List.map_take, List.map_drop]
  dsimp only
  rw [this]
  rfl
theorem len_L {xs : List MV} {a : Nat} {h : MH} (ha : h[a]? = some (.lst xs)) : lenM h (.ref a) = some xs.length := by
  unfold lenM
  dsimp only
  rw [ha]
theorem blt_int {C : Cfg} {i : Int} {h : MH} : bltM C .int [.int i] h = .ok (.int i) h := rfl
theorem blt_intb {C : Cfg} {b : Bool} {h : MH} : bltM C .int [.bl b] h = .ok (.int (if b then 1 else 0)) h := rfl
theorem blt_listL {C : Cfg} {xs : List MV} {v : MV} {h : MH} (e : seqM h v = some xs) : bltM C .list [v] h = .ok (.ref h.length) (h ++ [.lst xs]) := by
  unfold bltM
  dsimp only
  rw [e]
  rfl
theorem blt_tupL {C : Cfg} {xs : List MV} {v : MV} {h : MH} (e : seqM h v = some xs) : bltM C .tuple [v] h = .ok (.tup xs) h := by
  unfold bltM
  dsimp only
  rw [e]
theorem sok_ints (ps : List Int) : (ps.map MV.int).all sok = true := by simp [sok]
theorem cmulB_l {i j : Int} (h1 : -(2 ^ 64) < i) (h2 : i < 2 ^ 64) : cmulB i j = true := by
  unfold cmulB
  rw [decide_eq_true h1, decide_eq_true h2]
  rfl
theorem cmulB_r {i j : Int} (h1 : -(2 ^ 64) < j) (h2 : j < 2 ^ 64) : cmulB i j = true := by
  unfold cmulB
  rw [decide_eq_true h1, decide_eq_true h2, Bool.and_self, Bool.or_true]
theorem ev_str {C : Cfg} {x : Str} {ρ : Env} {h : MH} : ev C (.str x) ρ h = .ok (.str x) h := by rw [ev]
theorem exs_at {C : Cfg} {s : MS} {ss : MSs} {ρ ρ1 : Env} {h h1 : MH} (e : ex C s ρ h = .next ρ1 h1) : exs C (.cons s ss) ρ h = exs C ss ρ1 h1 := by rw [exs, e]
end Mi

set_option Elab.async false
set_option linter.all false
set_option maxRecDepth 100000
set_option maxHeartbeats 0
namespace Rw
open Mi
structure Ix where
  c_HarmError : Nat
  c_InvalidRow : Nat
  c_RowTooLong : Nat
  c_NoStep : Nat
  c_Row : Nat
  f_Row___init__ : Nat
  f_Row_paced : Nat
  f_Row_text : Nat
  f_Row_kinds : Nat
  f_Row_quick : Nat
  f_Row_slow : Nat
  f_Row_hastens : Nat
  f_Row___len__ : Nat
  f_Row___iter__ : Nat
  f_Row___getitem__ : Nat
  f_Row___contains__ : Nat
  f_Row___add__ : Nat
  f_Row___mul__ : Nat
  f_Row___rmul__ : Nat
  f_Row___iadd__ : Nat
  f_Row___lshift__ : Nat
  f_Row___eq__ : Nat
  f_Row___lt__ : Nat
def p_Row___init___0 (x : Ix) : MSs :=
  (.cons (.ifs (.bop .And (.cons (.cmp .NotIn (.var 3) (.glb (PySem.Str.ofString "QUICK") (.str (PySem.Str.ofString "abc")))) (.cons (.cmp .NotIn (.var 3) (.glb (PySem.Str.ofString "SLOW") (.str (PySem.Str.ofString "CBA")))) .nil))) (.cons (.raise (PySem.Str.ofString "InvalidRow") x.c_InvalidRow (.var 2)) .nil) .nil) .nil)
def b_Row___init__ (x : Ix) : MSs :=
  (.cons (.ifs (.cmp .Gt (.blt .len (.cons (.var 1) .nil)) (.fld (.var 0) (PySem.Str.ofString "MOST"))) (.cons (.raise (PySem.Str.ofString "RowTooLong") x.c_RowTooLong (.blt .len (.cons (.var 1) .nil))) .nil) .nil) (.cons (.for_ (.tup (.cons (.name 2) (.cons (.name 3) .nil))) (.enm (.cons (.var 1) .nil)) (p_Row___init___0 x)) (.cons (.setf (.var 0) (PySem.Str.ofString "_text") (.var 1)) .nil)))
def f_Row___init__ (x : Ix) : Fn := { name := (PySem.Str.ofString "__init__"), qual := (PySem.Str.ofString "Row.__init__"), at_ := (.mth (PySem.Str.ofString "Row") (PySem.Str.ofString "__init__")), params := [(PySem.Str.ofString "self"), (PySem.Str.ofString "text")], N := [(PySem.Str.ofString "self"), (PySem.Str.ofString "text"), (PySem.Str.ofString "index"), (PySem.Str.ofString "char")], body := b_Row___init__ x, dfl := [(.str (PySem.Str.ofString ""))] }
def p_Row_paced_0 (x : Ix) : MSs :=
  (.cons (.ifs (.cmp .NotIn (.var 4) (.glb (PySem.Str.ofString "QUICK") (.str (PySem.Str.ofString "abc")))) (.cons (.raise (PySem.Str.ofString "InvalidRow") x.c_InvalidRow (.var 3)) .nil) .nil) .nil)
def p_Row_paced_1 (x : Ix) : MSs :=
  (.cons (.ifs (.bop .Or (.cons (.cmp .Lt (.var 3) (.int 0)) (.cons (.cmp .GtE (.var 3) (.blt .len (.cons (.var 5) .nil))) .nil))) (.cons (.raise (PySem.Str.ofString "NoStep") x.c_NoStep (.var 3)) .nil) .nil) (.cons (.asg (.sub (.var 5) (.var 3)) (.mth (.sub (.var 5) (.var 3)) .upper .nil)) .nil))
def b_Row_paced (x : Ix) : MSs :=
  (.cons (.ifs (.cmp .Gt (.blt .len (.cons (.var 1) .nil)) (.fld (.var 0) (PySem.Str.ofString "MOST"))) (.cons (.raise (PySem.Str.ofString "RowTooLong") x.c_RowTooLong (.blt .len (.cons (.var 1) .nil))) .nil) .nil) (.cons (.for_ (.tup (.cons (.name 3) (.cons (.name 4) .nil))) (.enm (.cons (.var 1) .nil)) (p_Row_paced_0 x)) (.cons (.asg (.name 5) (.blt .list (.cons (.var 1) .nil))) (.cons (.for_ (.name 3) (.val (.var 2)) (p_Row_paced_1 x)) (.cons (.ret (.callv 0 (.cons (.mth (.str (PySem.Str.ofString "")) .join (.cons (.var 5) .nil)) .nil))) .nil)))))
def f_Row_paced (x : Ix) : Fn := { name := (PySem.Str.ofString "paced"), qual := (PySem.Str.ofString "Row.paced"), at_ := (.cmt (PySem.Str.ofString "Row") (PySem.Str.ofString "paced")), params := [(PySem.Str.ofString "cls"), (PySem.Str.ofString "kinds"), (PySem.Str.ofString "slow")], N := [(PySem.Str.ofString "cls"), (PySem.Str.ofString "kinds"), (PySem.Str.ofString "slow"), (PySem.Str.ofString "index"), (PySem.Str.ofString "char"), (PySem.Str.ofString "steps")], body := b_Row_paced x, dfl := [(.tup [])] }
def b_Row_text (x : Ix) : MSs :=
  (.cons (.ret (.fld (.var 0) (PySem.Str.ofString "_text"))) .nil)
def f_Row_text (x : Ix) : Fn := { name := (PySem.Str.ofString "text"), qual := (PySem.Str.ofString "Row.text"), at_ := (.prp (PySem.Str.ofString "Row") (PySem.Str.ofString "text")), params := [(PySem.Str.ofString "self")], N := [(PySem.Str.ofString "self")], body := b_Row_text x, dfl := [] }
def b_Row_kinds (x : Ix) : MSs :=
  (.cons (.ret (.mth (.fld (.var 0) (PySem.Str.ofString "_text")) .lower .nil)) .nil)
def f_Row_kinds (x : Ix) : Fn := { name := (PySem.Str.ofString "kinds"), qual := (PySem.Str.ofString "Row.kinds"), at_ := (.prp (PySem.Str.ofString "Row") (PySem.Str.ofString "kinds")), params := [(PySem.Str.ofString "self")], N := [(PySem.Str.ofString "self")], body := b_Row_kinds x, dfl := [] }
def b_Row_quick (x : Ix) : MSs :=
  (.cons (.ret (.mk (PySem.Str.ofString "Row") x.c_Row (.cons (.mth (.fld (.var 0) (PySem.Str.ofString "_text")) .lower .nil) .nil))) .nil)
def f_Row_quick (x : Ix) : Fn := { name := (PySem.Str.ofString "quick"), qual := (PySem.Str.ofString "Row.quick"), at_ := (.prp (PySem.Str.ofString "Row") (PySem.Str.ofString "quick")), params := [(PySem.Str.ofString "self")], N := [(PySem.Str.ofString "self")], body := b_Row_quick x, dfl := [] }
def b_Row_slow (x : Ix) : MSs :=
  (.cons (.ret (.mk (PySem.Str.ofString "Row") x.c_Row (.cons (.mth (.fld (.var 0) (PySem.Str.ofString "_text")) .upper .nil) .nil))) .nil)
def f_Row_slow (x : Ix) : Fn := { name := (PySem.Str.ofString "slow"), qual := (PySem.Str.ofString "Row.slow"), at_ := (.prp (PySem.Str.ofString "Row") (PySem.Str.ofString "slow")), params := [(PySem.Str.ofString "self")], N := [(PySem.Str.ofString "self")], body := b_Row_slow x, dfl := [] }
def p_Row_hastens_0 (x : Ix) : MSs :=
  (.cons (.ifs (.bop .And (.cons (.cmp .In (.var 2) (.glb (PySem.Str.ofString "SLOW") (.str (PySem.Str.ofString "CBA")))) (.cons (.cmp .In (.var 3) (.glb (PySem.Str.ofString "QUICK") (.str (PySem.Str.ofString "abc")))) .nil))) (.cons (.ret (.bl false)) .nil) .nil) .nil)
def b_Row_hastens (x : Ix) : MSs :=
  (.cons (.ifs (.cmp .NotEq (.fld (.var 0) (PySem.Str.ofString "kinds")) (.fld (.var 1) (PySem.Str.ofString "kinds"))) (.cons (.ret (.bl false)) .nil) .nil) (.cons (.for_ (.tup (.cons (.name 2) (.cons (.name 3) .nil))) (.zip (.cons (.fld (.var 0) (PySem.Str.ofString "_text")) (.cons (.fld (.var 1) (PySem.Str.ofString "text")) .nil))) (p_Row_hastens_0 x)) (.cons (.ret (.bl true)) .nil)))
def f_Row_hastens (x : Ix) : Fn := { name := (PySem.Str.ofString "hastens"), qual := (PySem.Str.ofString "Row.hastens"), at_ := (.mth (PySem.Str.ofString "Row") (PySem.Str.ofString "hastens")), params := [(PySem.Str.ofString "self"), (PySem.Str.ofString "other")], N := [(PySem.Str.ofString "self"), (PySem.Str.ofString "other"), (PySem.Str.ofString "one"), (PySem.Str.ofString "two")], body := b_Row_hastens x, dfl := [] }
def b_Row___len__ (x : Ix) : MSs :=
  (.cons (.ret (.blt .len (.cons (.fld (.var 0) (PySem.Str.ofString "_text")) .nil))) .nil)
def f_Row___len__ (x : Ix) : Fn := { name := (PySem.Str.ofString "__len__"), qual := (PySem.Str.ofString "Row.__len__"), at_ := (.mth (PySem.Str.ofString "Row") (PySem.Str.ofString "__len__")), params := [(PySem.Str.ofString "self")], N := [(PySem.Str.ofString "self")], body := b_Row___len__ x, dfl := [] }
-- f_Row___iter__: unk: call iter: return iter(self._text)
def b_Row___iter__ (x : Ix) : MSs :=
  (.cons .unk .nil)
def f_Row___iter__ (x : Ix) : Fn := { name := (PySem.Str.ofString "__iter__"), qual := (PySem.Str.ofString "Row.__iter__"), at_ := (.mth (PySem.Str.ofString "Row") (PySem.Str.ofString "__iter__")), params := [(PySem.Str.ofString "self")], N := [(PySem.Str.ofString "self")], body := b_Row___iter__ x, dfl := [] }
def b_Row___getitem__ (x : Ix) : MSs :=
  (.cons (.ifs (.bop .Or (.cons (.cmp .Lt (.var 1) (.int 0)) (.cons (.cmp .GtE (.var 1) (.blt .len (.cons (.fld (.var 0) (PySem.Str.ofString "_text")) .nil))) .nil))) (.cons (.raise (PySem.Str.ofString "NoStep") x.c_NoStep (.var 1)) .nil) .nil) (.cons (.ret (.sub (.fld (.var 0) (PySem.Str.ofString "_text")) (.var 1))) .nil))
def f_Row___getitem__ (x : Ix) : Fn := { name := (PySem.Str.ofString "__getitem__"), qual := (PySem.Str.ofString "Row.__getitem__"), at_ := (.mth (PySem.Str.ofString "Row") (PySem.Str.ofString "__getitem__")), params := [(PySem.Str.ofString "self"), (PySem.Str.ofString "index")], N := [(PySem.Str.ofString "self"), (PySem.Str.ofString "index")], body := b_Row___getitem__ x, dfl := [] }
def b_Row___contains__ (x : Ix) : MSs :=
  (.cons (.ret (.bop .And (.cons (.cmp .Eq (.blt .len (.cons (.var 1) .nil)) (.int 1)) (.cons (.cmp .In (.var 1) (.fld (.var 0) (PySem.Str.ofString "_text"))) .nil)))) .nil)
def f_Row___contains__ (x : Ix) : Fn := { name := (PySem.Str.ofString "__contains__"), qual := (PySem.Str.ofString "Row.__contains__"), at_ := (.mth (PySem.Str.ofString "Row") (PySem.Str.ofString "__contains__")), params := [(PySem.Str.ofString "self"), (PySem.Str.ofString "text")], N := [(PySem.Str.ofString "self"), (PySem.Str.ofString "text")], body := b_Row___contains__ x, dfl := [] }
def b_Row___add__ (x : Ix) : MSs :=
  (.cons (.ret (.mk (PySem.Str.ofString "Row") x.c_Row (.cons (.bin .Add (.fld (.var 0) (PySem.Str.ofString "_text")) (.fld (.var 1) (PySem.Str.ofString "text"))) .nil))) .nil)
def f_Row___add__ (x : Ix) : Fn := { name := (PySem.Str.ofString "__add__"), qual := (PySem.Str.ofString "Row.__add__"), at_ := (.mth (PySem.Str.ofString "Row") (PySem.Str.ofString "__add__")), params := [(PySem.Str.ofString "self"), (PySem.Str.ofString "other")], N := [(PySem.Str.ofString "self"), (PySem.Str.ofString "other")], body := b_Row___add__ x, dfl := [] }
def b_Row___mul__ (x : Ix) : MSs :=
  (.cons (.asg (.name 2) (.bin .Mult (.blt .len (.cons (.fld (.var 0) (PySem.Str.ofString "_text")) .nil)) (.var 1))) (.cons (.ifs (.cmp .Gt (.var 2) (.fld (.var 0) (PySem.Str.ofString "MOST"))) (.cons (.raise (PySem.Str.ofString "RowTooLong") x.c_RowTooLong (.var 2)) .nil) .nil) (.cons (.ifs (.cmp .LtE (.var 2) (.int 0)) (.cons (.ret (.mk (PySem.Str.ofString "Row") x.c_Row .nil)) .nil) .nil) (.cons (.ret (.mk (PySem.Str.ofString "Row") x.c_Row (.cons (.bin .Mult (.fld (.var 0) (PySem.Str.ofString "_text")) (.var 1)) .nil))) .nil))))
def f_Row___mul__ (x : Ix) : Fn := { name := (PySem.Str.ofString "__mul__"), qual := (PySem.Str.ofString "Row.__mul__"), at_ := (.mth (PySem.Str.ofString "Row") (PySem.Str.ofString "__mul__")), params := [(PySem.Str.ofString "self"), (PySem.Str.ofString "times")], N := [(PySem.Str.ofString "self"), (PySem.Str.ofString "times"), (PySem.Str.ofString "steps")], body := b_Row___mul__ x, dfl := [] }
def b_Row___rmul__ (x : Ix) : MSs :=
  (.cons (.ret (.bin .Mult (.var 0) (.var 1))) .nil)
def f_Row___rmul__ (x : Ix) : Fn := { name := (PySem.Str.ofString "__rmul__"), qual := (PySem.Str.ofString "Row.__rmul__"), at_ := (.mth (PySem.Str.ofString "Row") (PySem.Str.ofString "__rmul__")), params := [(PySem.Str.ofString "self"), (PySem.Str.ofString "times")], N := [(PySem.Str.ofString "self"), (PySem.Str.ofString "times")], body := b_Row___rmul__ x, dfl := [] }
def b_Row___iadd__ (x : Ix) : MSs :=
  (.cons (.asg (.name 2) (.bin .Add (.blt .len (.cons (.fld (.var 0) (PySem.Str.ofString "_text")) .nil)) (.blt .len (.cons (.fld (.var 1) (PySem.Str.ofString "text")) .nil)))) (.cons (.ifs (.cmp .Gt (.var 2) (.fld (.var 0) (PySem.Str.ofString "MOST"))) (.cons (.raise (PySem.Str.ofString "RowTooLong") x.c_RowTooLong (.var 2)) .nil) .nil) (.cons (.setf (.var 0) (PySem.Str.ofString "_text") (.bin .Add (.fld (.var 0) (PySem.Str.ofString "_text")) (.fld (.var 1) (PySem.Str.ofString "text")))) (.cons (.ret (.var 0)) .nil))))
def f_Row___iadd__ (x : Ix) : Fn := { name := (PySem.Str.ofString "__iadd__"), qual := (PySem.Str.ofString "Row.__iadd__"), at_ := (.mth (PySem.Str.ofString "Row") (PySem.Str.ofString "__iadd__")), params := [(PySem.Str.ofString "self"), (PySem.Str.ofString "other")], N := [(PySem.Str.ofString "self"), (PySem.Str.ofString "other"), (PySem.Str.ofString "steps")], body := b_Row___iadd__ x, dfl := [] }
def b_Row___lshift__ (x : Ix) : MSs :=
  (.cons (.ifs (.cmp .Eq (.fld (.var 0) (PySem.Str.ofString "_text")) (.str (PySem.Str.ofString ""))) (.cons (.ret (.mk (PySem.Str.ofString "Row") x.c_Row .nil)) .nil) .nil) (.cons (.asg (.name 2) (.bin .Mod (.var 1) (.blt .len (.cons (.fld (.var 0) (PySem.Str.ofString "_text")) .nil)))) (.cons (.ret (.mk (PySem.Str.ofString "Row") x.c_Row (.cons (.bin .Add (.slc (.fld (.var 0) (PySem.Str.ofString "_text")) (.some (.var 2)) .none) (.slc (.fld (.var 0) (PySem.Str.ofString "_text")) .none (.some (.var 2)))) .nil))) .nil)))
def f_Row___lshift__ (x : Ix) : Fn := { name := (PySem.Str.ofString "__lshift__"), qual := (PySem.Str.ofString "Row.__lshift__"), at_ := (.mth (PySem.Str.ofString "Row") (PySem.Str.ofString "__lshift__")), params := [(PySem.Str.ofString "self"), (PySem.Str.ofString "count")], N := [(PySem.Str.ofString "self"), (PySem.Str.ofString "count"), (PySem.Str.ofString "index")], body := b_Row___lshift__ x, dfl := [] }
def b_Row___eq__ (x : Ix) : MSs :=
  (.cons (.ifs (.not (.blt .isi (.cons (.var 1) (.cons (.glb (PySem.Str.ofString "Row") (.cls x.c_Row)) .nil)))) (.cons (.ret (.bl false)) .nil) .nil) (.cons (.ret (.cmp .Eq (.tup (.cons (.blt .len (.cons (.fld (.var 0) (PySem.Str.ofString "_text")) .nil)) (.cons (.fld (.var 0) (PySem.Str.ofString "_text")) .nil))) (.tup (.cons (.blt .len (.cons (.fld (.var 1) (PySem.Str.ofString "_text")) .nil)) (.cons (.fld (.var 1) (PySem.Str.ofString "_text")) .nil))))) .nil))
def f_Row___eq__ (x : Ix) : Fn := { name := (PySem.Str.ofString "__eq__"), qual := (PySem.Str.ofString "Row.__eq__"), at_ := (.mth (PySem.Str.ofString "Row") (PySem.Str.ofString "__eq__")), params := [(PySem.Str.ofString "self"), (PySem.Str.ofString "other")], N := [(PySem.Str.ofString "self"), (PySem.Str.ofString "other")], body := b_Row___eq__ x, dfl := [] }
-- f_Row___lt__: unk: name NotImplemented: return NotImplemented
def b_Row___lt__ (x : Ix) : MSs :=
  (.cons (.ifs (.not (.blt .isi (.cons (.var 1) (.cons (.glb (PySem.Str.ofString "Row") (.cls x.c_Row)) .nil)))) (.cons .unk .nil) .nil) (.cons (.ret (.cmp .Lt (.tup (.cons (.blt .len (.cons (.fld (.var 0) (PySem.Str.ofString "_text")) .nil)) (.cons (.fld (.var 0) (PySem.Str.ofString "_text")) .nil))) (.tup (.cons (.blt .len (.cons (.fld (.var 1) (PySem.Str.ofString "_text")) .nil)) (.cons (.fld (.var 1) (PySem.Str.ofString "_text")) .nil))))) .nil))
def f_Row___lt__ (x : Ix) : Fn := { name := (PySem.Str.ofString "__lt__"), qual := (PySem.Str.ofString "Row.__lt__"), at_ := (.mth (PySem.Str.ofString "Row") (PySem.Str.ofString "__lt__")), params := [(PySem.Str.ofString "self"), (PySem.Str.ofString "other")], N := [(PySem.Str.ofString "self"), (PySem.Str.ofString "other")], body := b_Row___lt__ x, dfl := [] }
def c_HarmError (x : Ix) : Mi.Cls := { name := (PySem.Str.ofString "HarmError"), init := none, mems := [], ups := [], atts := [], exc := some none }
def c_InvalidRow (x : Ix) : Mi.Cls := { name := (PySem.Str.ofString "InvalidRow"), init := none, mems := [], ups := [x.c_HarmError], atts := [], exc := some (some (PySem.Str.ofString "index")) }
def c_RowTooLong (x : Ix) : Mi.Cls := { name := (PySem.Str.ofString "RowTooLong"), init := none, mems := [], ups := [x.c_HarmError], atts := [], exc := some (some (PySem.Str.ofString "steps")) }
def c_NoStep (x : Ix) : Mi.Cls := { name := (PySem.Str.ofString "NoStep"), init := none, mems := [], ups := [x.c_HarmError], atts := [], exc := some (some (PySem.Str.ofString "index")) }
def c_Row (x : Ix) : Mi.Cls := { name := (PySem.Str.ofString "Row"), init := (some x.f_Row___init__), mems := [⟨(PySem.Str.ofString "text"), x.f_Row_text, true⟩, ⟨(PySem.Str.ofString "kinds"), x.f_Row_kinds, true⟩, ⟨(PySem.Str.ofString "quick"), x.f_Row_quick, true⟩, ⟨(PySem.Str.ofString "slow"), x.f_Row_slow, true⟩, ⟨(PySem.Str.ofString "hastens"), x.f_Row_hastens, false⟩, ⟨(PySem.Str.ofString "__len__"), x.f_Row___len__, false⟩, ⟨(PySem.Str.ofString "__iter__"), x.f_Row___iter__, false⟩, ⟨(PySem.Str.ofString "__getitem__"), x.f_Row___getitem__, false⟩, ⟨(PySem.Str.ofString "__contains__"), x.f_Row___contains__, false⟩, ⟨(PySem.Str.ofString "__add__"), x.f_Row___add__, false⟩, ⟨(PySem.Str.ofString "__mul__"), x.f_Row___mul__, false⟩, ⟨(PySem.Str.ofString "__rmul__"), x.f_Row___rmul__, false⟩, ⟨(PySem.Str.ofString "__iadd__"), x.f_Row___iadd__, false⟩, ⟨(PySem.Str.ofString "__lshift__"), x.f_Row___lshift__, false⟩, ⟨(PySem.Str.ofString "__eq__"), x.f_Row___eq__, false⟩, ⟨(PySem.Str.ofString "__lt__"), x.f_Row___lt__, false⟩], ups := [], atts := [(PySem.Str.ofString "_text")], cons := [((PySem.Str.ofString "MOST"), (.int 10000))], cmts := [((PySem.Str.ofString "paced"), x.f_Row_paced)] }
end Rw

set_option Elab.async false
set_option linter.all false
set_option maxRecDepth 100000
set_option maxHeartbeats 2000000
/-! RwL: what the methods of a row do. -/
namespace Rw
open Mi PySem _root_.SX
structure RowP (P : Prog) (x : Ix) : Prop where
  row : P.cls[x.c_Row]? = some (c_Row x)
  long : P.cls[x.c_RowTooLong]? = some (c_RowTooLong x)
  inv : P.cls[x.c_InvalidRow]? = some (c_InvalidRow x)
  nost : P.cls[x.c_NoStep]? = some (c_NoStep x)
  fuel : P.fuel = 1000000
/-- a row with this text -/
def rowO (x : Ix) (l : List Nat) : MO := .ins x.c_Row [(Str.ofString "_text", .str (S l))]
section
variable {P : Prog} {x : Ix} {call : Nat → List MV → MH → Out MV} {h : MH} {r : Nat} {l : List Nat}
theorem RowP.icl (R : RowP P x) : icl (P.cfg call).cls x.c_Row = some (c_Row x) := by
  unfold Mi.icl
  show (match P.cls[x.c_Row]? with | some K => _ | none => _) = _
  rw [R.row]
  dsimp only
  rw [if_pos (by rfl)]
theorem fld_MOST_c (R : RowP P x) : fldM (P.cfg call) (Str.ofString "MOST") (.cls x.c_Row) h = .ok (.int 10000) h := by
  unfold fldM
  dsimp only
  rw [R.icl]
  dsimp only
  have : (c_Row x).cons.lookup (Str.ofString "MOST") = some (.int 10000) := by kernel_rfl
  rw [this]
  rfl
theorem fld_MOST_n (R : RowP P x) (e : h[r]? = some (.ins x.c_Row [])) : fldM (P.cfg call) (Str.ofString "MOST") (.ref r) h = .ok (.int 10000) h := by
  unfold fldM
  dsimp only
  rw [e]
  dsimp only
  rw [R.icl]
  dsimp only
  have h1 : (c_Row x).atts.contains (Str.ofString "MOST") = false := by kernel_rfl
  have h2 : ((c_Row x).mems.find? fun m => m.prop && decide (m.name = Str.ofString "MOST")) = none := by kernel_rfl
  have h3 : (c_Row x).cons.lookup (Str.ofString "MOST") = some (.int 10000) := by kernel_rfl
  rw [h1, h2, h3]
  rfl
theorem fld_MOST (R : RowP P x) (e : h[r]? = some (rowO x l)) : fldM (P.cfg call) (Str.ofString "MOST") (.ref r) h = .ok (.int 10000) h := by
  unfold fldM
  dsimp only
  rw [e]
  dsimp only [rowO]
  rw [R.icl]
  dsimp only
  have h1 : (c_Row x).atts.contains (Str.ofString "MOST") = false := by kernel_rfl
  have h2 : ((c_Row x).mems.find? fun m => m.prop && decide (m.name = Str.ofString "MOST")) = none := by kernel_rfl
  have h3 : (c_Row x).cons.lookup (Str.ofString "MOST") = some (.int 10000) := by kernel_rfl
  have h4 : (fget [(Str.ofString "_text", MV.str (S l))] (Str.ofString "MOST")).isNone = true := by kernel_rfl
  rw [h1, h2, h3]
  dsimp only
  rw [if_neg (by decide), if_pos h4]
  rfl
theorem fld__text (R : RowP P x) (e : h[r]? = some (rowO x l)) : fldM (P.cfg call) (Str.ofString "_text") (.ref r) h = .ok (.str (S l)) h := by
  unfold fldM
  dsimp only
  rw [e]
  dsimp only [rowO]
  rw [R.icl]
  dsimp only
  have h1 : (c_Row x).atts.contains (Str.ofString "_text") = true := by kernel_rfl
  have h4 : fget [(Str.ofString "_text", MV.str (S l))] (Str.ofString "_text") = some (.str (S l)) := by kernel_rfl
  rw [h1, if_pos rfl, h4]
  rfl
theorem fld_text {n : Nat} (R : RowP P x) (hf : P.fns[x.f_Row_text]? = some (f_Row_text x)) (e : h[r]? = some (rowO x l)) : fldM (P.cfg (callM P (n + 1))) (Str.ofString "text") (.ref r) h = .ok (.str (S l)) h := by
  have cal : callM P (n + 1) x.f_Row_text [.ref r] h = .ok (.str (S l)) h := by
    rw [callM_at hf (fill_self rfl)]
    show endF (exs (P.cfg (callM P n)) (b_Row_text x) [some (.ref r)] h) = _
    unfold b_Row_text
    simp -implicitDefEqProofs only [exs, ex, evT, ev, evs, evO, evI, evA, evB_1, evB_a, evB_o, asgq_name, asgq_tup, asgqs_nil, asgqs_cons, asgq_sub, slotO_0, slotO_n, slotO_s, List.set_cons_zero, List.set_cons_succ, bind_ok, bind_exc, bind_bad, of_some, of_none, Option.map_some, Option.map_none, truth_bl, cmp_gt, cmp_ge, cmp_lt, cmp_le, cmp_in, cmp_ni, cmp_eq, cmp_ne, b_add, b_sub, fld__text R e]
    rfl
  unfold fldM
  dsimp only
  rw [e]
  dsimp only [rowO]
  rw [R.icl]
  dsimp only
  have h1 : (c_Row x).atts.contains (Str.ofString "text") = false := by kernel_rfl
  have h2 : ((c_Row x).mems.find? fun m => m.prop && decide (m.name = Str.ofString "text")) = some ⟨Str.ofString "text", x.f_Row_text, true⟩ := by kernel_rfl
  rw [h1, h2]
  dsimp only
  rw [if_neg (by decide)]
  show (match callM P (n + 1) x.f_Row_text [.ref r] h with | .ok w h1 => Out.ok w h1 | _ => .bad) = _
  rw [cal]
/-- the signs of a row -/
def six (c : Nat) : Bool := decide (c ∈ [97, 98, 99]) || decide (c ∈ [67, 66, 65])
theorem S_abc : Str.ofString "abc" = S [97, 98, 99] := by decide +kernel
theorem S_CBA : Str.ofString "CBA" = S [67, 66, 65] := by decide +kernel
/-- a row's making -/
def made (x : Ix) (r : Nat) (l : List Nat) (h : MH) : Out MV := if 10000 < l.length then .exc x.c_RowTooLong [(Str.ofString "steps", .int (l.length : Int))] h else match bad six l with
  | some k => .exc x.c_InvalidRow [(Str.ofString "index", .int (k : Int))] h
  | none => .ok .non (h.set r (rowO x l))
theorem raise_long {v : MV} {ρ : Mi.Env} (R : RowP P x) (hv : smp v = true) : raiseM (P.cfg call) x.c_RowTooLong v ρ h = .exc x.c_RowTooLong [(Str.ofString "steps", v)] ρ h := by
  unfold raiseM
  show (match P.cls[x.c_RowTooLong]? with | some K => _ | none => _) = _
  rw [R.long]
  dsimp only [c_RowTooLong]
  rw [if_pos hv]
theorem raise_inv {v : MV} {ρ : Mi.Env} (R : RowP P x) (hv : smp v = true) : raiseM (P.cfg call) x.c_InvalidRow v ρ h = .exc x.c_InvalidRow [(Str.ofString "index", v)] ρ h := by
  unfold raiseM
  show (match P.cls[x.c_InvalidRow]? with | some K => _ | none => _) = _
  rw [R.inv]
  dsimp only [c_InvalidRow]
  rw [if_pos hv]
theorem raise_no {v : MV} {ρ : Mi.Env} (R : RowP P x) (hv : smp v = true) : raiseM (P.cfg call) x.c_NoStep v ρ h = .exc x.c_NoStep [(Str.ofString "index", v)] ρ h := by
  unfold raiseM
  show (match P.cls[x.c_NoStep]? with | some K => _ | none => _) = _
  rw [R.nost]
  dsimp only [c_NoStep]
  rw [if_pos hv]
theorem set_text {fs : List (Str × MV)} (R : RowP P x) (e : h[r]? = some (.ins x.c_Row fs)) (hf : fs = [] ∨ ∃ v, fs = [(Str.ofString "_text", v)]) : setF (P.cfg call) (Str.ofString "_text") (.ref r) (.str (S l)) h = some (h.set r (rowO x l)) := by
  unfold setF
  dsimp only
  rw [e]
  dsimp only
  rw [R.icl]
  dsimp only
  have h1 : (c_Row x).atts.contains (Str.ofString "_text") = true := by kernel_rfl
  rw [h1]
  rcases hf with rfl | ⟨v, rfl⟩
  · rfl
  · have : fput [(Str.ofString "_text", v)] (Str.ofString "_text") (.str (S l)) = [(Str.ofString "_text", .str (S l))] := by simp [fput]
    simp only [List.length_cons, List.length_nil, this, rowO]
    rfl
theorem init_loop {n : Nat} (R : RowP P x) (hl : l.length ≤ 100000) : ∃ x1 x2, forM (.enm (.str (S l))) (asg (P.cfg (callM P n)) (.tup (.cons (.name 2) (.cons (.name 3) .nil)))) (exs (P.cfg (callM P n)) (p_Row___init___0 x)) 1000000 0 [some (.ref r), some (.str (S l)), none, none] h = match bad six l with
    | some k => .exc x.c_InvalidRow [(Str.ofString "index", .int (k : Int))] [some (.ref r), some (.str (S l)), x1, x2] h
    | none => .next [some (.ref r), some (.str (S l)), x1, x2] h := by
  refine forM_run (len := l.length) (fun i ρ h' => h' = h ∧ (∃ x1 x2, ρ = [some (.ref r), some (.str (S l)), x1, x2]) ∧ ∀ j, j < i → ∀ c, l[j]? = some c → six c = true)
    (fun o => ∃ x1 x2, o = match bad six l with
      | some k => .exc x.c_InvalidRow [(Str.ofString "index", .int (k : Int))] [some (.ref r), some (.str (S l)), x1, x2] h
      | none => .next [some (.ref r), some (.str (S l)), x1, x2] h) ?_ ?_ _ 0 _ h (by omega) (Nat.zero_le _) ⟨rfl, ⟨none, none, rfl⟩, fun j hj => absurd hj (Nat.not_lt_zero _)⟩
  · rintro ρ h' ⟨rfl, ⟨x1, x2, rfl⟩, hg⟩
    exact ⟨at_enmSE, x1, x2, by rw [bad_none hg]⟩
  · rintro i ρ h' hi ⟨rfl, ⟨x1, x2, rfl⟩, hg⟩
    obtain ⟨c, hc⟩ := at_lt hi
    refine ⟨_, at_enmS hc, [some (.ref r), some (.str (S l)), some (.int (i : Int)), some (.str (S [c]))], h', ?_, ?_⟩
    · simp -implicitDefEqProofs only [exs, ex, evT, ev, evs, evO, evI, evA, evB_1, evB_a, evB_o, asgq_name, asgq_tup, asgqs_nil, asgqs_cons, asgq_sub, slotO_0, slotO_n, slotO_s, List.set_cons_zero, List.set_cons_succ, bind_ok, bind_exc, bind_bad, of_some, of_none, Option.map_some, Option.map_none, truth_bl, cmp_gt, cmp_ge, cmp_lt, cmp_le, cmp_in, cmp_ni, cmp_eq, cmp_ne, b_add, b_sub]
    · cases hs : six c with
      | true =>
        refine .inl ⟨[some (.ref r), some (.str (S l)), some (.int (i : Int)), some (.str (S [c]))], h', .inl ?_, rfl, ⟨_, _, rfl⟩, fun j hj c' hc' => ?_⟩
        · unfold p_Row___init___0
          unfold six at hs
          simp -implicitDefEqProofs only [exs, ex, evT, ev, evs, evO, evI, evA, evB_1, evB_a, evB_o, asgq_name, asgq_tup, asgqs_nil, asgqs_cons, asgq_sub, slotO_0, slotO_n, slotO_s, List.set_cons_zero, List.set_cons_succ, bind_ok, bind_exc, bind_bad, of_some, of_none, Option.map_some, Option.map_none, truth_bl, cmp_gt, cmp_ge, cmp_lt, cmp_le, cmp_in, cmp_ni, cmp_eq, cmp_ne, b_add, b_sub, S_abc, S_CBA, in_sign]
          cases h1 : decide (c ∈ [97, 98, 99]) with
          | true => simp -implicitDefEqProofs only [exs, ex, evT, ev, evs, evO, evI, evA, evB_1, evB_a, evB_o, asgq_name, asgq_tup, asgqs_nil, asgqs_cons, asgq_sub, slotO_0, slotO_n, slotO_s, List.set_cons_zero, List.set_cons_succ, bind_ok, bind_exc, bind_bad, of_some, of_none, Option.map_some, Option.map_none, truth_bl, cmp_gt, cmp_ge, cmp_lt, cmp_le, cmp_in, cmp_ni, cmp_eq, cmp_ne, b_add, b_sub, h1, Bool.not_true, Bool.not_false]
          | false =>
            rw [h1, Bool.false_or] at hs
            simp -implicitDefEqProofs only [exs, ex, evT, ev, evs, evO, evI, evA, evB_1, evB_a, evB_o, asgq_name, asgq_tup, asgqs_nil, asgqs_cons, asgq_sub, slotO_0, slotO_n, slotO_s, List.set_cons_zero, List.set_cons_succ, bind_ok, bind_exc, bind_bad, of_some, of_none, Option.map_some, Option.map_none, truth_bl, cmp_gt, cmp_ge, cmp_lt, cmp_le, cmp_in, cmp_ni, cmp_eq, cmp_ne, b_add, b_sub, h1, hs, S_CBA, in_sign, Bool.not_true, Bool.not_false]
        · rcases Nat.lt_succ_iff_lt_or_eq.mp hj with hj | rfl
          · exact hg j hj c' hc'
          · rw [hc] at hc'; cases hc'; exact hs
      | false =>
        refine .inr (.inr (.inr ⟨x.c_InvalidRow, [(Str.ofString "index", .int (i : Int))], [some (.ref r), some (.str (S l)), some (.int (i : Int)), some (.str (S [c]))], h', ?_, some (.int (i : Int)), some (.str (S [c])), by rw [bad_some hc hs hg]⟩))
        unfold p_Row___init___0
        unfold six at hs
        rw [Bool.or_eq_false_iff] at hs
        simp -implicitDefEqProofs only [exs, ex, evT, ev, evs, evO, evI, evA, evB_1, evB_a, evB_o, asgq_name, asgq_tup, asgqs_nil, asgqs_cons, asgq_sub, slotO_0, slotO_n, slotO_s, List.set_cons_zero, List.set_cons_succ, bind_ok, bind_exc, bind_bad, of_some, of_none, Option.map_some, Option.map_none, truth_bl, cmp_gt, cmp_ge, cmp_lt, cmp_le, cmp_in, cmp_ni, cmp_eq, cmp_ne, b_add, b_sub, S_abc, S_CBA, in_sign, hs.1, hs.2, Bool.not_true, Bool.not_false, raise_inv R (v := .int _) rfl]
theorem init_ok {n f : Nat} (R : RowP P x) (hf : P.fns[f]? = some (f_Row___init__ x)) (e : h[r]? = some (.ins x.c_Row [])) (hl : l.length ≤ 100000) : callM P (n + 1) f [.ref r, .str (S l)] h = made x r l h := by
  rw [callM_at hf (fill_self rfl)]
  show endF (exs (P.cfg (callM P n)) (b_Row___init__ x) [some (.ref r), some (.str (S l)), none, none] h) = _
  have hlen : lenM h (.str (S l)) = some l.length := len_S (by show l.length ≤ 16777216; omega)
  obtain ⟨x1, x2, lo⟩ := init_loop (l := l) (h := h) (r := r) (n := n) R hl
  have hfu : (P.cfg (callM P n)).fuel = 1000000 := R.fuel
  unfold b_Row___init__ made
  simp -implicitDefEqProofs only [exs, ex, evT, ev, evs, evO, evI, evA, evB_1, evB_a, evB_o, asgq_name, asgq_tup, asgqs_nil, asgqs_cons, asgq_sub, slotO_0, slotO_n, slotO_s, List.set_cons_zero, List.set_cons_succ, bind_ok, bind_exc, bind_bad, of_some, of_none, Option.map_some, Option.map_none, truth_bl, cmp_gt, cmp_ge, cmp_lt, cmp_le, cmp_in, cmp_ni, cmp_eq, cmp_ne, b_add, b_sub, blt_len hlen, fld_MOST_n R e, enm_S, hfu]
  by_cases hb : 10000 < l.length
  · have hb' : (10000 : Int) < (l.length : Int) := by omega
    simp -implicitDefEqProofs only [exs, ex, evT, ev, evs, evO, evI, evA, evB_1, evB_a, evB_o, asgq_name, asgq_tup, asgqs_nil, asgqs_cons, asgq_sub, slotO_0, slotO_n, slotO_s, List.set_cons_zero, List.set_cons_succ, bind_ok, bind_exc, bind_bad, of_some, of_none, Option.map_some, Option.map_none, truth_bl, cmp_gt, cmp_ge, cmp_lt, cmp_le, cmp_in, cmp_ni, cmp_eq, cmp_ne, b_add, b_sub, hb, hb', decide_true, if_true, blt_len hlen, raise_long R (v := .int _) rfl, endF]
  · have hb' : ¬ (10000 : Int) < (l.length : Int) := by omega
    simp -implicitDefEqProofs only [exs, ex, evT, ev, evs, evO, evI, evA, evB_1, evB_a, evB_o, asgq_name, asgq_tup, asgqs_nil, asgqs_cons, asgq_sub, slotO_0, slotO_n, slotO_s, List.set_cons_zero, List.set_cons_succ, bind_ok, bind_exc, bind_bad, of_some, of_none, Option.map_some, Option.map_none, truth_bl, cmp_gt, cmp_ge, cmp_lt, cmp_le, cmp_in, cmp_ni, cmp_eq, cmp_ne, b_add, b_sub, hb, hb', decide_false, if_false, enm_S, lo, hfu]
    cases q : bad six l with
    | some k => rfl
    | none => simp -implicitDefEqProofs only [exs, ex, evT, ev, evs, evO, evI, evA, evB_1, evB_a, evB_o, asgq_name, asgq_tup, asgqs_nil, asgqs_cons, asgq_sub, slotO_0, slotO_n, slotO_s, List.set_cons_zero, List.set_cons_succ, bind_ok, bind_exc, bind_bad, of_some, of_none, Option.map_some, Option.map_none, truth_bl, cmp_gt, cmp_ge, cmp_lt, cmp_le, cmp_in, cmp_ni, cmp_eq, cmp_ne, b_add, b_sub, set_text R e (.inl rfl), endF]
/-- Row(text) -/
theorem mk_row {n : Nat} (R : RowP P x) (hf : P.fns[x.f_Row___init__]? = some (f_Row___init__ x)) (hl : l.length ≤ 100000) : mkM (P.cfg (callM P (n + 1))) x.c_Row [.str (S l)] h = if 10000 < l.length then .exc x.c_RowTooLong [(Str.ofString "steps", .int (l.length : Int))] (h ++ [.ins x.c_Row []]) else match bad six l with
  | some k => .exc x.c_InvalidRow [(Str.ofString "index", .int (k : Int))] (h ++ [.ins x.c_Row []])
  | none => .ok (.ref h.length) (h ++ [rowO x l]) := by
  unfold mkM
  rw [R.icl]
  dsimp only [c_Row]
  have e := init_ok (n := n) (l := l) (h := h ++ [.ins x.c_Row []]) (r := h.length) R hf hp_last hl
  show (match callM P (n + 1) x.f_Row___init__ [MV.ref h.length, .str (S l)] (h ++ [.ins x.c_Row []]) with
    | .ok .non h1 => Out.ok (MV.ref h.length) h1
    | .ok _ _ => .bad
    | .exc k fs h1 => .exc k fs h1
    | .bad => .bad) = _
  rw [e]
  unfold made
  by_cases hb : 10000 < l.length
  · rw [if_pos hb, if_pos hb]
  · rw [if_neg hb, if_neg hb]
    cases bad six l with
    | some k => rfl
    | none =>
      have : (h ++ [MO.ins x.c_Row []]).set h.length (rowO x l) = h ++ [rowO x l] := by simp
      dsimp only
      rw [this]
/-- a small letter of a kind -/
def sm (c : Nat) : Bool := decide (c ∈ [97, 98, 99])
theorem sm_lt {c : Nat} (h : sm c = true) : c < 128 := by
  unfold sm at h
  have := of_decide_eq_true h
  simp at this
  omega
/-- an index that the row has -/
def inR (n : Nat) (i : Int) : Bool := decide (0 ≤ i) && decide (i < (n : Int))
theorem paced_loop1 {n : Nat} {v : MV} (R : RowP P x) (hl : l.length ≤ 100000) : ∃ x1 x2, forM (.enm (.str (S l))) (asg (P.cfg (callM P n)) (.tup (.cons (.name 3) (.cons (.name 4) .nil)))) (exs (P.cfg (callM P n)) (p_Row_paced_0 x)) 1000000 0 [some (.cls x.c_Row), some (.str (S l)), some v, none, none, none] h = match bad sm l with
    | some k => .exc x.c_InvalidRow [(Str.ofString "index", .int (k : Int))] [some (.cls x.c_Row), some (.str (S l)), some v, x1, x2, none] h
    | none => .next [some (.cls x.c_Row), some (.str (S l)), some v, x1, x2, none] h := by
  refine forM_run (len := l.length) (fun i ρ h' => h' = h ∧ (∃ x1 x2, ρ = [some (.cls x.c_Row), some (.str (S l)), some v, x1, x2, none]) ∧ ∀ j, j < i → ∀ c, l[j]? = some c → sm c = true)
    (fun o => ∃ x1 x2, o = match bad sm l with
      | some k => .exc x.c_InvalidRow [(Str.ofString "index", .int (k : Int))] [some (.cls x.c_Row), some (.str (S l)), some v, x1, x2, none] h
      | none => .next [some (.cls x.c_Row), some (.str (S l)), some v, x1, x2, none] h) ?_ ?_ _ 0 _ h (by omega) (Nat.zero_le _) ⟨rfl, ⟨none, none, rfl⟩, fun j hj => absurd hj (Nat.not_lt_zero _)⟩
  · rintro ρ h' ⟨rfl, ⟨x1, x2, rfl⟩, hg⟩
    exact ⟨at_enmSE, x1, x2, by rw [bad_none hg]⟩
  · rintro i ρ h' hi ⟨rfl, ⟨x1, x2, rfl⟩, hg⟩
    obtain ⟨c, hc⟩ := at_lt hi
    refine ⟨_, at_enmS hc, [some (.cls x.c_Row), some (.str (S l)), some v, some (.int (i : Int)), some (.str (S [c])), none], h', ?_, ?_⟩
    · simp -implicitDefEqProofs only [exs, ex, evT, ev, evs, evO, evI, evA, evB_1, evB_a, evB_o, asgq_name, asgq_tup, asgqs_nil, asgqs_cons, asgq_sub, slotO_0, slotO_n, slotO_s, List.set_cons_zero, List.set_cons_succ, bind_ok, bind_exc, bind_bad, of_some, of_none, Option.map_some, Option.map_none, truth_bl, cmp_gt, cmp_ge, cmp_lt, cmp_le, cmp_in, cmp_ni, cmp_eq, cmp_ne, b_add, b_sub]
    · cases hs : sm c with
      | true =>
        refine .inl ⟨[some (.cls x.c_Row), some (.str (S l)), some v, some (.int (i : Int)), some (.str (S [c])), none], h', .inl ?_, rfl, ⟨_, _, rfl⟩, fun j hj c' hc' => ?_⟩
        · unfold p_Row_paced_0
          unfold sm at hs
          simp -implicitDefEqProofs only [exs, ex, evT, ev, evs, evO, evI, evA, evB_1, evB_a, evB_o, asgq_name, asgq_tup, asgqs_nil, asgqs_cons, asgq_sub, slotO_0, slotO_n, slotO_s, List.set_cons_zero, List.set_cons_succ, bind_ok, bind_exc, bind_bad, of_some, of_none, Option.map_some, Option.map_none, truth_bl, cmp_gt, cmp_ge, cmp_lt, cmp_le, cmp_in, cmp_ni, cmp_eq, cmp_ne, b_add, b_sub, S_abc, in_sign, hs, Bool.not_true, Bool.not_false]
        · rcases Nat.lt_succ_iff_lt_or_eq.mp hj with hj | rfl
          · exact hg j hj c' hc'
          · rw [hc] at hc'; cases hc'; exact hs
      | false =>
        refine .inr (.inr (.inr ⟨x.c_InvalidRow, [(Str.ofString "index", .int (i : Int))], [some (.cls x.c_Row), some (.str (S l)), some v, some (.int (i : Int)), some (.str (S [c])), none], h', ?_, some (.int (i : Int)), some (.str (S [c])), by rw [bad_some hc hs hg]⟩))
        unfold p_Row_paced_0
        unfold sm at hs
        simp -implicitDefEqProofs only [exs, ex, evT, ev, evs, evO, evI, evA, evB_1, evB_a, evB_o, asgq_name, asgq_tup, asgqs_nil, asgqs_cons, asgq_sub, slotO_0, slotO_n, slotO_s, List.set_cons_zero, List.set_cons_succ, bind_ok, bind_exc, bind_bad, of_some, of_none, Option.map_some, Option.map_none, truth_bl, cmp_gt, cmp_ge, cmp_lt, cmp_le, cmp_in, cmp_ni, cmp_eq, cmp_ne, b_add, b_sub, S_abc, in_sign, hs, Bool.not_true, Bool.not_false, raise_inv R (v := .int _) rfl]
theorem paced_loop2 {n : Nat} {v : MV} {ps : List Int} {I : Mi.It} {x3 x4 : Option MV} (R : RowP P x) (hl : l.length ≤ 100000) (hp : ps.length ≤ 100000) (hs : ∀ c ∈ l, sm c = true) (hI : ∀ t i, Mi.It.at_ I i (h ++ t) = some (ps.map MV.int)[i]?) :
    ∃ x1 t, forM I (asg (P.cfg (callM P n)) (.name 3)) (exs (P.cfg (callM P n)) (p_Row_paced_1 x)) 1000000 0 [some (.cls x.c_Row), some (.str (S l)), some v, x3, x4, some (.ref h.length)] (h ++ [.lst (l.map sgn)]) = match ps.find? (fun i => !inR l.length i) with
    | some k => .exc x.c_NoStep [(Str.ofString "index", .int k)] [some (.cls x.c_Row), some (.str (S l)), some v, x1, x4, some (.ref h.length)] (h ++ t)
    | none => .next [some (.cls x.c_Row), some (.str (S l)), some v, x1, x4, some (.ref h.length)] (h ++ [.lst ((slw l ps).map sgn)]) := by
  refine forM_run (len := ps.length) (fun i ρ h' => h' = h ++ [.lst ((slw l (ps.take i)).map sgn)] ∧ (∃ x1, ρ = [some (.cls x.c_Row), some (.str (S l)), some v, x1, x4, some (.ref h.length)]) ∧ ∀ j, j < i → ∀ c, ps[j]? = some c → inR l.length c = true)
    (fun o => ∃ x1 t, o = match ps.find? (fun i => !inR l.length i) with
    | some k => .exc x.c_NoStep [(Str.ofString "index", .int k)] [some (.cls x.c_Row), some (.str (S l)), some v, x1, x4, some (.ref h.length)] (h ++ t)
    | none => .next [some (.cls x.c_Row), some (.str (S l)), some v, x1, x4, some (.ref h.length)] (h ++ [.lst ((slw l ps).map sgn)])) ?_ ?_ _ 0 _ _ (by omega) (Nat.zero_le _) ⟨by rw [List.take_zero, slw_nil], ⟨x3, rfl⟩, fun j hj => absurd hj (Nat.not_lt_zero _)⟩
  · rintro ρ h' ⟨rfl, ⟨x1, rfl⟩, hg⟩
    have : ps.find? (fun i => !inR l.length i) = none := by
      rw [List.find?_eq_none]
      intro c hc
      obtain ⟨j, hj⟩ := List.mem_iff_getElem?.mp hc
      simp [hg j (List.getElem?_eq_some_iff.mp hj).1 c hj]
    refine ⟨by rw [hI, List.getElem?_eq_none (by simp)], x1, [], ?_⟩
    rw [this, List.take_length]
  · rintro i ρ h' hi ⟨rfl, ⟨x1, rfl⟩, hg⟩
    obtain ⟨k, hk⟩ := at_lt hi
    refine ⟨.int k, by rw [hI, List.getElem?_map, hk]; rfl, [some (.cls x.c_Row), some (.str (S l)), some v, some (.int k), x4, some (.ref h.length)], h ++ [.lst ((slw l (ps.take i)).map sgn)], by simp -implicitDefEqProofs only [exs, ex, evT, ev, evs, evO, evI, evA, evB_1, evB_a, evB_o, asgq_name, asgq_tup, asgqs_nil, asgqs_cons, asgq_sub, slotO_0, slotO_n, slotO_s, List.set_cons_zero, List.set_cons_succ, bind_ok, bind_exc, bind_bad, of_some, of_none, Option.map_some, Option.map_none, truth_bl, cmp_gt, cmp_ge, cmp_lt, cmp_le, cmp_in, cmp_ni, cmp_eq, cmp_ne, b_add, b_sub], ?_⟩
    have hlen : lenM (h ++ [.lst ((slw l (ps.take i)).map sgn)]) (.ref h.length) = some l.length := by
      unfold lenM
      dsimp only
      rw [hp_last]
      dsimp only
      rw [List.length_map, slw_len]
    cases hr : inR l.length k with
    | true =>
      have hr' := hr
      unfold inR at hr'
      simp only [Bool.and_eq_true, decide_eq_true_eq] at hr'
      obtain ⟨m, rfl⟩ : ∃ m : Nat, k = (m : Int) := ⟨k.toNat, by omega⟩
      have hm : m < l.length := by omega
      obtain ⟨c, hc⟩ := at_lt hm
      obtain ⟨d, hd⟩ := at_lt (l := slw l (ps.take i)) (i := m) (by rw [slw_len]; exact hm)
      have hc8 : d < 128 := by
        have := hd
        rw [slw_at, hc] at this
        simp only [Option.map_some, Option.some.injEq] at this
        have h8 := sm_lt (hs c (List.mem_of_getElem? hc))
        subst this
        split
        · unfold PyProof.Rows.up1; split <;> omega
        · exact h8
      have n1 : ¬ ((m : Int) < 0) := by omega
      have n2 : ¬ ((l.length : Int) ≤ (m : Int)) := by omega
      have sb : subM (.ref h.length) (.int (m : Int)) (h ++ [.lst ((slw l (ps.take i)).map sgn)]) = some (sgn d) := by
        unfold subM
        dsimp only
        rw [hp_last]
        exact atI_nat (by rw [List.getElem?_map, hd]; rfl)
      have st : setM (.ref h.length) (.int (m : Int)) (sgn (PyProof.Rows.up1 d)) (h ++ [.lst ((slw l (ps.take i)).map sgn)]) = some (h ++ [.lst ((slw l (ps.take (i + 1))).map sgn)]) := by
        unfold setM
        dsimp only
        rw [hp_last]
        dsimp only
        rw [ixN_nat (by rw [List.length_map, slw_len]; exact hm)]
        dsimp only
        have : ((slw l (ps.take i)).map sgn).set m (sgn (PyProof.Rows.up1 d)) = (slw l (ps.take (i + 1))).map sgn := by
          rw [← List.map_set, slw_up hc hd, slw_snoc hc]
          congr 2
          rw [List.take_add_one, hk]
          rfl
        rw [this]
        simp
      refine .inl ⟨[some (.cls x.c_Row), some (.str (S l)), some v, some (.int (m : Int)), x4, some (.ref h.length)], _, .inl ?_, rfl, ⟨_, rfl⟩, fun j hj c' hc' => ?_⟩
      · unfold p_Row_paced_1
        simp -implicitDefEqProofs only [exs, ex, evT, ev, evs, evO, evI, evA, evB_1, evB_a, evB_o, asgq_name, asgq_tup, asgqs_nil, asgqs_cons, asgq_sub, slotO_0, slotO_n, slotO_s, List.set_cons_zero, List.set_cons_succ, bind_ok, bind_exc, bind_bad, of_some, of_none, Option.map_some, Option.map_none, truth_bl, cmp_gt, cmp_ge, cmp_lt, cmp_le, cmp_in, cmp_ni, cmp_eq, cmp_ne, b_add, b_sub, n1, n2, decide_false, blt_len hlen, sb, mthR_str, Mth.ofList, Bool.not_false, if_true, upper_1 hc8, st]
      · rcases Nat.lt_succ_iff_lt_or_eq.mp hj with hj | rfl
        · exact hg j hj c' hc'
        · rw [hk] at hc'; cases hc'; exact hr
    | false =>
      have hfind : ps.find? (fun i => !inR l.length i) = some k := by
        rw [List.find?_eq_some_iff_getElem]
        obtain ⟨h1, h2⟩ := List.getElem?_eq_some_iff.mp hk
        refine ⟨by rw [hr]; rfl, i, h1, h2, fun j hj => ?_⟩
        rw [hg j hj ps[j] (List.getElem?_eq_getElem (by omega))]
        rfl
      refine .inr (.inr (.inr ⟨x.c_NoStep, [(Str.ofString "index", .int k)], [some (.cls x.c_Row), some (.str (S l)), some v, some (.int k), x4, some (.ref h.length)], _, ?_, some (.int k), [.lst ((slw l (ps.take i)).map sgn)], by rw [hfind]⟩))
      unfold inR at hr
      rw [Bool.and_eq_false_iff] at hr
      unfold p_Row_paced_1
      by_cases n1 : k < 0
      · simp -implicitDefEqProofs only [exs, ex, evT, ev, evs, evO, evI, evA, evB_1, evB_a, evB_o, asgq_name, asgq_tup, asgqs_nil, asgqs_cons, asgq_sub, slotO_0, slotO_n, slotO_s, List.set_cons_zero, List.set_cons_succ, bind_ok, bind_exc, bind_bad, of_some, of_none, Option.map_some, Option.map_none, truth_bl, cmp_gt, cmp_ge, cmp_lt, cmp_le, cmp_in, cmp_ni, cmp_eq, cmp_ne, b_add, b_sub, n1, decide_true, raise_no R (v := .int _) rfl]
      · have n2 : (l.length : Int) ≤ k := by
          rcases hr with hr | hr
          · have := of_decide_eq_false hr; omega
          · have := of_decide_eq_false hr; omega
        simp -implicitDefEqProofs only [exs, ex, evT, ev, evs, evO, evI, evA, evB_1, evB_a, evB_o, asgq_name, asgq_tup, asgqs_nil, asgqs_cons, asgq_sub, slotO_0, slotO_n, slotO_s, List.set_cons_zero, List.set_cons_succ, bind_ok, bind_exc, bind_bad, of_some, of_none, Option.map_some, Option.map_none, truth_bl, cmp_gt, cmp_ge, cmp_lt, cmp_le, cmp_in, cmp_ni, cmp_eq, cmp_ne, b_add, b_sub, n1, n2, decide_true, decide_false, blt_len hlen, raise_no R (v := .int _) rfl]
/-- what Row.paced hands back; t: what else it has laid -/
def pacedR (x : Ix) (l : List Nat) (ps : List Int) (h t : MH) : Out MV := if 10000 < l.length then .exc x.c_RowTooLong [(Str.ofString "steps", .int (l.length : Int))] (h ++ t) else match bad sm l with
  | some k => .exc x.c_InvalidRow [(Str.ofString "index", .int (k : Int))] (h ++ t)
  | none => match ps.find? (fun i => !inR l.length i) with
    | some k => .exc x.c_NoStep [(Str.ofString "index", .int k)] (h ++ t)
    | none => .ok (.ref (h.length + 1)) (h ++ [.lst ((slw l ps).map sgn), rowO x (slw l ps)])
theorem six_slw {ps : List Int} (hs : ∀ c ∈ l, sm c = true) : bad six (slw l ps) = none := by
  refine bad_none fun j hj c hc => ?_
  rw [slw_at] at hc
  cases q : l[j]? with
  | none => rw [q] at hc; cases hc
  | some d =>
    rw [q] at hc
    have h8 := hs d (List.mem_of_getElem? q)
    unfold sm at h8
    have h9 := of_decide_eq_true h8
    simp only [List.mem_cons, List.not_mem_nil, or_false] at h9
    simp only [Option.map_some, Option.some.injEq] at hc
    subst hc
    split
    · rcases h9 with rfl | rfl | rfl <;> decide
    · rcases h9 with rfl | rfl | rfl <;> decide
theorem paced_ok {n f : Nat} {v : MV} {ps : List Int} (R : RowP P x) (hf : P.fns[x.f_Row___init__]? = some (f_Row___init__ x)) (hp : P.fns[f]? = some (f_Row_paced x)) (hl : l.length ≤ 100000) (hps : ps.length ≤ 100000) (hv : seqM h v = some (ps.map .int)) :
    ∃ t, callM P (n + 2) f [.cls x.c_Row, .str (S l), v] h = pacedR x l ps h t := by
  rw [callM_at hp (fill_self rfl)]
  show ∃ t, endF (exs (P.cfg (callM P (n + 1))) (b_Row_paced x) [some (.cls x.c_Row), some (.str (S l)), some v, none, none, none] h) = _
  have hlen : lenM h (.str (S l)) = some l.length := len_S (by show l.length ≤ 16777216; omega)
  obtain ⟨x1, x2, lo⟩ := paced_loop1 (l := l) (h := h) (v := v) (n := n + 1) R hl
  have hfu : (P.cfg (callM P (n + 1))).fuel = 1000000 := R.fuel
  unfold b_Row_paced pacedR
  by_cases hb : 10000 < l.length
  · have hb' : (10000 : Int) < (l.length : Int) := by omega
    refine ⟨[], ?_⟩
    simp -implicitDefEqProofs only [exs, ex, evT, ev, evs, evO, evI, evA, evB_1, evB_a, evB_o, asgq_name, asgq_tup, asgqs_nil, asgqs_cons, asgq_sub, slotO_0, slotO_n, slotO_s, List.set_cons_zero, List.set_cons_succ, bind_ok, bind_exc, bind_bad, of_some, of_none, Option.map_some, Option.map_none, truth_bl, cmp_gt, cmp_ge, cmp_lt, cmp_le, cmp_in, cmp_ni, cmp_eq, cmp_ne, b_add, b_sub, hb, hb', decide_true, if_true, blt_len hlen, fld_MOST_c R, raise_long R (v := .int _) rfl, endF, List.append_nil]
  · have hb' : ¬ (10000 : Int) < (l.length : Int) := by omega
    cases q : bad sm l with
    | some k =>
      refine ⟨[], ?_⟩
      simp -implicitDefEqProofs only [exs, ex, evT, ev, evs, evO, evI, evA, evB_1, evB_a, evB_o, asgq_name, asgq_tup, asgqs_nil, asgqs_cons, asgq_sub, slotO_0, slotO_n, slotO_s, List.set_cons_zero, List.set_cons_succ, bind_ok, bind_exc, bind_bad, of_some, of_none, Option.map_some, Option.map_none, truth_bl, cmp_gt, cmp_ge, cmp_lt, cmp_le, cmp_in, cmp_ni, cmp_eq, cmp_ne, b_add, b_sub, hb, hb', decide_false, if_false, blt_len hlen, fld_MOST_c R, enm_S, lo, hfu, q, endF, List.append_nil]
    | none =>
      have hs := bad_all q
      obtain ⟨I, i1, i2⟩ := it_seq hv
      obtain ⟨x3, t, lo2⟩ := paced_loop2 (n := n + 1) (v := v) (I := I) (x3 := x1) (x4 := x2) (h := h) R hl hps hs i2
      have hl2 : l.length ≤ line := by show l.length ≤ 16777216; omega
      cases q2 : ps.find? (fun i => !inR l.length i) with
      | some k =>
        refine ⟨t, ?_⟩
        simp -implicitDefEqProofs only [exs, ex, evT, ev, evs, evO, evI, evA, evB_1, evB_a, evB_o, asgq_name, asgq_tup, asgqs_nil, asgqs_cons, asgq_sub, slotO_0, slotO_n, slotO_s, List.set_cons_zero, List.set_cons_succ, bind_ok, bind_exc, bind_bad, of_some, of_none, Option.map_some, Option.map_none, truth_bl, cmp_gt, cmp_ge, cmp_lt, cmp_le, cmp_in, cmp_ni, cmp_eq, cmp_ne, b_add, b_sub, hb, hb', decide_false, if_false, blt_len hlen, fld_MOST_c R, enm_S, lo, hfu, q, blt_listS hl2, i1, lo2, q2, endF]
      | none =>
        refine ⟨[], ?_⟩
        have hany : ((Mi.icl (P.cfg (callM P (n + 1))).cls x.c_Row).any fun K => K.init.isSome) = true := by rw [R.icl]; rfl
        have hsl : (slw l ps).length ≤ 100000 := by rw [slw_len]; exact hl
        have hsq : seqM (h ++ [.lst ((slw l ps).map sgn)]) (.ref h.length) = some ((slw l ps).map sgn) := seq_lst hp_last
        have hj := join_sgn hsq (by rw [slw_len]; exact hl2)
        have mk := mk_row (n := n) (l := slw l ps) (h := h ++ [.lst ((slw l ps).map sgn)]) R hf hsl
        rw [six_slw hs, slw_len, if_neg hb] at mk
        simp -implicitDefEqProofs only [exs, ex, evT, ev, evs, evO, evI, evA, evB_1, evB_a, evB_o, asgq_name, asgq_tup, asgqs_nil, asgqs_cons, asgq_sub, slotO_0, slotO_n, slotO_s, List.set_cons_zero, List.set_cons_succ, bind_ok, bind_exc, bind_bad, of_some, of_none, Option.map_some, Option.map_none, truth_bl, cmp_gt, cmp_ge, cmp_lt, cmp_le, cmp_in, cmp_ni, cmp_eq, cmp_ne, b_add, b_sub, hb, hb', decide_false, if_false, blt_len hlen, fld_MOST_c R, enm_S, lo, hfu, q, blt_listS hl2, i1, lo2, q2, hany, if_true, S_nil, mthR_str, Mth.ofList, Bool.not_false, hj, mk, endF, List.append_assoc, List.length_append, List.length_cons, List.length_nil]
        rfl
theorem isi_row (R : RowP P x) (e : h[r]? = some (rowO x l)) : bltM (P.cfg call) .isi [.ref r, .cls x.c_Row] h = .ok (.bl true) h := by
  have hc : x.c_Row < (P.cfg call).cls.length := (List.getElem?_eq_some_iff.mp R.row).1
  unfold bltM
  dsimp only
  unfold isiM tyM
  dsimp only
  rw [e]
  dsimp only [rowO]
  rw [R.icl]
  dsimp only
  rw [if_pos hc]
  simp
theorem cm_paced : (c_Row x).cmts.lookup (Str.ofString "paced") = some x.f_Row_paced := by kernel_rfl
end
end Rw

set_option Elab.async false
set_option linter.all false
set_option maxRecDepth 100000
set_option maxHeartbeats 0
namespace K05
open Mi
def rx : Rw.Ix := { c_HarmError := 0, c_InvalidRow := 1, c_RowTooLong := 2, c_NoStep := 3, c_Row := 4, f_Row___init__ := 0, f_Row_paced := 1, f_Row_text := 2, f_Row_kinds := 3, f_Row_quick := 4, f_Row_slow := 5, f_Row_hastens := 6, f_Row___len__ := 7, f_Row___iter__ := 8, f_Row___getitem__ := 9, f_Row___contains__ := 10, f_Row___add__ := 11, f_Row___mul__ := 12, f_Row___rmul__ := 13, f_Row___iadd__ := 14, f_Row___lshift__ := 15, f_Row___eq__ := 16, f_Row___lt__ := 17 }
def f_Row___init__ : Fn := Rw.f_Row___init__ rx
def f_Row_paced : Fn := Rw.f_Row_paced rx
def f_Row_text : Fn := Rw.f_Row_text rx
def f_Row_kinds : Fn := Rw.f_Row_kinds rx
def f_Row_quick : Fn := Rw.f_Row_quick rx
def f_Row_slow : Fn := Rw.f_Row_slow rx
def f_Row_hastens : Fn := { Rw.f_Row_hastens rx with body := .cons .unk .nil }
def f_Row___len__ : Fn := Rw.f_Row___len__ rx
def f_Row___iter__ : Fn := Rw.f_Row___iter__ rx
def f_Row___getitem__ : Fn := Rw.f_Row___getitem__ rx
def f_Row___contains__ : Fn := Rw.f_Row___contains__ rx
def f_Row___add__ : Fn := Rw.f_Row___add__ rx
def f_Row___mul__ : Fn := Rw.f_Row___mul__ rx
def f_Row___rmul__ : Fn := Rw.f_Row___rmul__ rx
def f_Row___iadd__ : Fn := Rw.f_Row___iadd__ rx
def f_Row___lshift__ : Fn := Rw.f_Row___lshift__ rx
def f_Row___eq__ : Fn := Rw.f_Row___eq__ rx
def f_Row___lt__ : Fn := Rw.f_Row___lt__ rx
def p__law_draws_0 : ME :=
  (.int 0)
def p__law_draws_1 : MSs :=
  (.cons (.exp (.mth (.var 5) .append (.cons (.bin .Mod (.blt .int (.cons (.var 6) .nil)) (.var 3)) .nil))) (.cons (.asg (.name 6) (.bin .FloorDiv (.var 6) (.var 3))) .nil))
def p__law_draws_2 : MSs :=
  (.cons (.exp (.mth (.var 5) .append (.cons (.bin .Mod (.blt .int (.cons (.bin .FloorDiv (.bin .Add (.bin .Add (.bin .Mult (.var 4) (.int 211)) (.bin .Mult (.var 7) (.int 137))) (.bin .Mult (.var 1) (.int 59))) (.bin .Add (.var 7) (.int 2))) .nil)) (.sub (.var 2) (.var 7))) .nil))) .nil)
def b__law_draws : MSs :=
  (.cons (.ifs (.cmp .Eq (.var 0) (.lst .nil)) (.cons (.ret (.lc p__law_draws_0 (.name 3) (.val (.var 2)) .nil [((PySem.Str.ofString "_law_size"), 3)])) .nil) .nil) (.cons (.asg (.name 4) (.sub (.var 0) (.bin .Mod (.var 1) (.blt .len (.cons (.var 0) .nil))))) (.cons (.asg (.name 5) (.lst .nil)) (.cons (.ifs (.cmp .GtE (.var 4) (.bin .Pow (.int 10) (.int 18))) (.cons (.asg (.name 6) (.bin .Sub (.var 4) (.bin .Pow (.int 10) (.int 18)))) (.cons (.for_ (.name 3) (.val (.var 2)) p__law_draws_1) (.cons (.ret (.var 5)) .nil))) .nil) (.cons (.for_ (.name 7) (.rng (.cons (.blt .len (.cons (.var 2) .nil)) .nil)) p__law_draws_2) (.cons (.ret (.var 5)) .nil))))))
def f__law_draws : Fn := { name := (PySem.Str.ofString "_law_draws"), qual := (PySem.Str.ofString "_law_draws"), at_ := (.glo (PySem.Str.ofString "_law_draws")), params := [(PySem.Str.ofString "_law_script"), (PySem.Str.ofString "_law_k"), (PySem.Str.ofString "_law_sizes")], N := [(PySem.Str.ofString "_law_script"), (PySem.Str.ofString "_law_k"), (PySem.Str.ofString "_law_sizes"), (PySem.Str.ofString "_law_size"), (PySem.Str.ofString "_law_cell"), (PySem.Str.ofString "_law_drawn"), (PySem.Str.ofString "_law_rest"), (PySem.Str.ofString "_law_j")], body := b__law_draws, dfl := [] }
def p__law_told_0 : MSs :=
  (.cons (.asg (.name 4) (.cmth (.glb (PySem.Str.ofString "Row") (.cls 4)) (PySem.Str.ofString "paced") (.cons (.var 0) .nil))) (.cons (.ifs (.not (.var 2)) (.cons (.asg (.name 4) (.cmth (.glb (PySem.Str.ofString "Row") (.cls 4)) (PySem.Str.ofString "paced") (.cons (.var 0) (.cons (.var 1) .nil)))) .nil) .nil) (.cons (.ret (.tup (.cons (.sub (.lst (.cons (.str (PySem.Str.ofString "none")) (.cons (.str (PySem.Str.ofString "row")) .nil))) (.blt .int (.cons (.blt .isi (.cons (.var 4) (.cons (.glb (PySem.Str.ofString "Row") (.cls 4)) .nil))) .nil))) (.cons (.fld (.var 4) (PySem.Str.ofString "text")) .nil)))) .nil)))
def b__law_told : MSs :=
  (.cons (.try_ p__law_told_0 [⟨(PySem.Str.ofString "RowTooLong"), (.own 2), (some 3), (.tup (.cons (.lit (.str (PySem.Str.ofString "long"))) (.cons (.xf (PySem.Str.ofString "steps")) (.cons (.xis (.own 0)) .nil))))⟩, ⟨(PySem.Str.ofString "InvalidRow"), (.own 1), (some 3), (.tup (.cons (.lit (.str (PySem.Str.ofString "invalid"))) (.cons (.xf (PySem.Str.ofString "index")) (.cons (.xis (.own 0)) .nil))))⟩, ⟨(PySem.Str.ofString "NoStep"), (.own 3), (some 3), (.tup (.cons (.lit (.str (PySem.Str.ofString "none"))) (.cons (.xf (PySem.Str.ofString "index")) (.cons (.xis (.own 0)) .nil))))⟩]) .nil)
def f__law_told : Fn := { name := (PySem.Str.ofString "_law_told"), qual := (PySem.Str.ofString "_law_told"), at_ := (.glo (PySem.Str.ofString "_law_told")), params := [(PySem.Str.ofString "_law_kinds"), (PySem.Str.ofString "_law_places"), (PySem.Str.ofString "_law_plain")], N := [(PySem.Str.ofString "_law_kinds"), (PySem.Str.ofString "_law_places"), (PySem.Str.ofString "_law_plain"), (PySem.Str.ofString "e"), (PySem.Str.ofString "_law_told_here")], body := b__law_told, dfl := [] }
def p__law_due_0 : MSs :=
  (.cons (.ifs (.cmp .NotIn (.sub (.var 0) (.var 2)) (.str (PySem.Str.ofString "abc"))) (.cons (.ret (.tup (.cons (.str (PySem.Str.ofString "invalid")) (.cons (.var 2) (.cons (.bl true) .nil))))) .nil) .nil) .nil)
def p__law_due_1 : MSs :=
  (.cons (.ifs (.bop .Or (.cons (.cmp .Lt (.var 3) (.int 0)) (.cons (.cmp .GtE (.var 3) (.blt .len (.cons (.var 0) .nil))) .nil))) (.cons (.ret (.tup (.cons (.str (PySem.Str.ofString "none")) (.cons (.var 3) (.cons (.bl true) .nil))))) .nil) .nil) .nil)
def p__law_due_2 : MSs :=
  (.cons (.asg (.sub (.var 4) (.var 3)) (.mth (.sub (.var 0) (.var 3)) .upper .nil)) .nil)
def b__law_due : MSs :=
  (.cons (.ifs (.cmp .Gt (.blt .len (.cons (.var 0) .nil)) (.int 10000)) (.cons (.ret (.tup (.cons (.str (PySem.Str.ofString "long")) (.cons (.blt .len (.cons (.var 0) .nil)) (.cons (.bl true) .nil))))) .nil) .nil) (.cons (.for_ (.name 2) (.rng (.cons (.blt .len (.cons (.var 0) .nil)) .nil)) p__law_due_0) (.cons (.for_ (.name 3) (.val (.var 1)) p__law_due_1) (.cons (.asg (.name 4) (.blt .list (.cons (.var 0) .nil))) (.cons (.for_ (.name 3) (.val (.var 1)) p__law_due_2) (.cons (.ret (.tup (.cons (.str (PySem.Str.ofString "row")) (.cons (.mth (.str (PySem.Str.ofString "")) .join (.cons (.var 4) .nil)) .nil)))) .nil))))))
def f__law_due : Fn := { name := (PySem.Str.ofString "_law_due"), qual := (PySem.Str.ofString "_law_due"), at_ := (.glo (PySem.Str.ofString "_law_due")), params := [(PySem.Str.ofString "_law_kinds"), (PySem.Str.ofString "_law_places")], N := [(PySem.Str.ofString "_law_kinds"), (PySem.Str.ofString "_law_places"), (PySem.Str.ofString "_law_k"), (PySem.Str.ofString "_law_index"), (PySem.Str.ofString "_law_steps")], body := b__law_due, dfl := [] }
def p_law_0 : ME :=
  (.sub (.str (PySem.Str.ofString "abc")) (.sub (.var 1) (.bin .Add (.int 19) (.var 2))))
def p_law_1 : ME :=
  (.bin .Mod (.blt .int (.cons (.bin .Mult (.sub (.var 1) (.bin .Add (.int 9) (.var 2))) (.int 251)) .nil)) (.blt .len (.cons (.var 3) .nil)))
def b_law : MSs :=
  (.cons (.asg (.name 1) (.call (PySem.Str.ofString "_law_draws") 18 (.cons (.var 0) (.cons (.int 0) (.cons (.bin .Add (.bin .Add (.lst (.cons (.int 40) (.cons (.int 10) (.cons (.int 4) (.cons (.int 4) (.cons (.int 40) (.cons (.int 10) (.cons (.int 5) (.cons (.int 3) (.cons (.int 4) .nil)))))))))) (.bin .Mult (.lst (.cons (.int 40) .nil)) (.int 10))) (.bin .Mult (.lst (.cons (.int 3) .nil)) (.int 40))) .nil))))) (.cons (.asg (.name 3) (.mth (.str (PySem.Str.ofString "")) .join (.cons (.lc p_law_0 (.name 2) (.rng (.cons (.sub (.var 1) (.int 0)) .nil)) .nil [((PySem.Str.ofString "_law_k"), 2)]) .nil))) (.cons (.ifs (.cmp .Eq (.sub (.var 1) (.int 8)) (.int 1)) (.cons (.asg (.name 3) (.slc (.bin .Mult (.str (PySem.Str.ofString "abcb")) (.int 2600)) .none (.some (.bin .Add (.int 9999) (.sub (.var 1) (.int 2)))))) .nil) .nil) (.cons (.asg (.name 4) (.lc p_law_1 (.name 2) (.rng (.cons (.bin .Mult (.sub (.var 1) (.int 1)) (.blt .int (.cons (.cmp .Gt (.blt .len (.cons (.var 3) .nil)) (.int 0)) .nil))) .nil)) .nil [((PySem.Str.ofString "_law_k"), 2)])) (.cons (.ifs (.cmp .Eq (.sub (.var 1) (.int 2)) (.int 1)) (.cons (.asg (.name 5) (.bin .Mod (.blt .int (.cons (.sub (.var 1) (.int 5)) .nil)) (.bin .Add (.blt .len (.cons (.var 4) .nil)) (.int 1)))) (.cons (.asg (.name 6) (.sub (.lst (.cons (.neg (.int 1)) (.cons (.blt .len (.cons (.var 3) .nil)) (.cons (.bin .Sub (.neg (.int 2)) (.sub (.var 1) (.int 4))) (.cons (.bin .Add (.blt .len (.cons (.var 3) .nil)) (.sub (.var 1) (.int 4))) (.cons (.int 100000) .nil)))))) (.sub (.var 1) (.int 6)))) (.cons (.asg (.name 4) (.bin .Add (.bin .Add (.bin .Add (.slc (.var 4) .none (.some (.var 5))) (.lst (.cons (.var 6) .nil))) (.slc (.var 4) (.some (.var 5)) .none)) (.lst (.cons (.bin .Add (.blt .len (.cons (.var 3) .nil)) (.int 7)) .nil)))) .nil))) .nil) (.cons (.ifs (.cmp .Eq (.sub (.var 1) (.int 3)) (.int 1)) (.cons (.asg (.name 5) (.bin .Mod (.blt .int (.cons (.sub (.var 1) (.int 4)) .nil)) (.bin .Add (.blt .len (.cons (.var 3) .nil)) (.int 1)))) (.cons (.asg (.name 3) (.bin .Add (.bin .Add (.bin .Add (.slc (.var 3) .none (.some (.var 5))) (.sub (.str (PySem.Str.ofString "ABd")) (.sub (.var 1) (.int 7)))) (.slc (.var 3) (.some (.var 5)) .none)) (.str (PySem.Str.ofString "Z")))) .nil)) .nil) (.cons (.asg (.name 7) (.blt .list (.cons (.var 4) .nil))) (.cons (.ifs (.bop .Or (.cons (.cmp .NotEq (.call (PySem.Str.ofString "_law_told") 19 (.cons (.var 3) (.cons (.var 7) (.cons (.bl false) .nil)))) (.call (PySem.Str.ofString "_law_due") 20 (.cons (.var 3) (.cons (.var 4) .nil)))) (.cons (.cmp .NotEq (.var 7) (.var 4)) .nil))) (.cons (.ret (.bl false)) .nil) .nil) (.cons (.ifs (.cmp .NotEq (.call (PySem.Str.ofString "_law_told") 19 (.cons (.var 3) (.cons (.blt .tuple (.cons (.var 4) .nil)) (.cons (.bl false) .nil)))) (.call (PySem.Str.ofString "_law_due") 20 (.cons (.var 3) (.cons (.var 4) .nil)))) (.cons (.ret (.bl false)) .nil) .nil) (.cons (.ret (.cmp .Eq (.call (PySem.Str.ofString "_law_told") 19 (.cons (.var 3) (.cons (.var 4) (.cons (.bl true) .nil)))) (.call (PySem.Str.ofString "_law_due") 20 (.cons (.var 3) (.cons (.lst .nil) .nil))))) .nil))))))))))
def f_law : Fn := { name := (PySem.Str.ofString "law"), qual := (PySem.Str.ofString "law"), at_ := (.glo (PySem.Str.ofString "law")), params := [(PySem.Str.ofString "_law_script")], N := [(PySem.Str.ofString "_law_script"), (PySem.Str.ofString "_law_d"), (PySem.Str.ofString "_law_k"), (PySem.Str.ofString "_law_kinds"), (PySem.Str.ofString "_law_places"), (PySem.Str.ofString "_law_at"), (PySem.Str.ofString "_law_wrong"), (PySem.Str.ofString "_law_given")], body := b_law, dfl := [] }
def c_HarmError : Mi.Cls := Rw.c_HarmError rx
def c_InvalidRow : Mi.Cls := Rw.c_InvalidRow rx
def c_RowTooLong : Mi.Cls := Rw.c_RowTooLong rx
def c_NoStep : Mi.Cls := Rw.c_NoStep rx
def c_Row : Mi.Cls := Rw.c_Row rx
def prog : Prog := { fns := [f_Row___init__, f_Row_paced, f_Row_text, f_Row_kinds, f_Row_quick, f_Row_slow, f_Row_hastens, f_Row___len__, f_Row___iter__, f_Row___getitem__, f_Row___contains__, f_Row___add__, f_Row___mul__, f_Row___rmul__, f_Row___iadd__, f_Row___lshift__, f_Row___eq__, f_Row___lt__, f__law_draws, f__law_told, f__law_due, f_law], cls := [c_HarmError, c_InvalidRow, c_RowTooLong, c_NoStep, c_Row], fuel := 1000000, glb := [((PySem.Str.ofString "HarmError"), (.cls 0)), ((PySem.Str.ofString "InvalidRow"), (.cls 1)), ((PySem.Str.ofString "NoStep"), (.cls 3)), ((PySem.Str.ofString "QUICK"), (.str (PySem.Str.ofString "abc"))), ((PySem.Str.ofString "Row"), (.cls 4)), ((PySem.Str.ofString "RowTooLong"), (.cls 2)), ((PySem.Str.ofString "SLOW"), (.str (PySem.Str.ofString "CBA")))], free := [(PySem.Str.ofString "enumerate"), (PySem.Str.ofString "int"), (PySem.Str.ofString "isinstance"), (PySem.Str.ofString "len"), (PySem.Str.ofString "list"), (PySem.Str.ofString "range"), (PySem.Str.ofString "tuple")] }
end K05

set_option Elab.async false
set_option linter.all false
set_option maxRecDepth 100000
set_option maxHeartbeats 0
namespace K05
open Mi
abbrev pw : PySem.Program := PySem.Challenge.pw_quickharm_k05_row_paced
def top (i : Nat) : PySem.Stmt := pw.main.body.getD i (.Pass ⟨0, 0, 0, 0⟩)
def sub (i j : Nat) : PySem.Stmt := match top i with
  | .ClassDef (body := b) .. => b.getD j (.Pass ⟨0, 0, 0, 0⟩)
  | _ => .Pass ⟨0, 0, 0, 0⟩
def d_Row___init__ : DefP := ⟨(PySem.Str.ofString "__init__"), (PySem.Str.ofString "Row.__init__"), L2.defArgs (sub 9 1), L2.defBody (sub 9 1), L2.defScope (sub 9 1)⟩
def d_Row_paced : DefP := ⟨(PySem.Str.ofString "paced"), (PySem.Str.ofString "Row.paced"), L2.defArgs (sub 9 2), L2.defBody (sub 9 2), L2.defScope (sub 9 2)⟩
def d_Row_text : DefP := ⟨(PySem.Str.ofString "text"), (PySem.Str.ofString "Row.text"), L2.defArgs (sub 9 3), L2.defBody (sub 9 3), L2.defScope (sub 9 3)⟩
def d_Row_kinds : DefP := ⟨(PySem.Str.ofString "kinds"), (PySem.Str.ofString "Row.kinds"), L2.defArgs (sub 9 4), L2.defBody (sub 9 4), L2.defScope (sub 9 4)⟩
def d_Row_quick : DefP := ⟨(PySem.Str.ofString "quick"), (PySem.Str.ofString "Row.quick"), L2.defArgs (sub 9 5), L2.defBody (sub 9 5), L2.defScope (sub 9 5)⟩
def d_Row_slow : DefP := ⟨(PySem.Str.ofString "slow"), (PySem.Str.ofString "Row.slow"), L2.defArgs (sub 9 6), L2.defBody (sub 9 6), L2.defScope (sub 9 6)⟩
def d_Row_hastens : DefP := ⟨(PySem.Str.ofString "hastens"), (PySem.Str.ofString "Row.hastens"), L2.defArgs (sub 9 7), L2.defBody (sub 9 7), L2.defScope (sub 9 7)⟩
def d_Row___len__ : DefP := ⟨(PySem.Str.ofString "__len__"), (PySem.Str.ofString "Row.__len__"), L2.defArgs (sub 9 8), L2.defBody (sub 9 8), L2.defScope (sub 9 8)⟩
def d_Row___iter__ : DefP := ⟨(PySem.Str.ofString "__iter__"), (PySem.Str.ofString "Row.__iter__"), L2.defArgs (sub 9 9), L2.defBody (sub 9 9), L2.defScope (sub 9 9)⟩
def d_Row___getitem__ : DefP := ⟨(PySem.Str.ofString "__getitem__"), (PySem.Str.ofString "Row.__getitem__"), L2.defArgs (sub 9 10), L2.defBody (sub 9 10), L2.defScope (sub 9 10)⟩
def d_Row___contains__ : DefP := ⟨(PySem.Str.ofString "__contains__"), (PySem.Str.ofString "Row.__contains__"), L2.defArgs (sub 9 11), L2.defBody (sub 9 11), L2.defScope (sub 9 11)⟩
def d_Row___add__ : DefP := ⟨(PySem.Str.ofString "__add__"), (PySem.Str.ofString "Row.__add__"), L2.defArgs (sub 9 12), L2.defBody (sub 9 12), L2.defScope (sub 9 12)⟩
def d_Row___mul__ : DefP := ⟨(PySem.Str.ofString "__mul__"), (PySem.Str.ofString "Row.__mul__"), L2.defArgs (sub 9 13), L2.defBody (sub 9 13), L2.defScope (sub 9 13)⟩
def d_Row___rmul__ : DefP := ⟨(PySem.Str.ofString "__rmul__"), (PySem.Str.ofString "Row.__rmul__"), L2.defArgs (sub 9 14), L2.defBody (sub 9 14), L2.defScope (sub 9 14)⟩
def d_Row___iadd__ : DefP := ⟨(PySem.Str.ofString "__iadd__"), (PySem.Str.ofString "Row.__iadd__"), L2.defArgs (sub 9 15), L2.defBody (sub 9 15), L2.defScope (sub 9 15)⟩
def d_Row___lshift__ : DefP := ⟨(PySem.Str.ofString "__lshift__"), (PySem.Str.ofString "Row.__lshift__"), L2.defArgs (sub 9 16), L2.defBody (sub 9 16), L2.defScope (sub 9 16)⟩
def d_Row___eq__ : DefP := ⟨(PySem.Str.ofString "__eq__"), (PySem.Str.ofString "Row.__eq__"), L2.defArgs (sub 9 17), L2.defBody (sub 9 17), L2.defScope (sub 9 17)⟩
def d_Row___lt__ : DefP := ⟨(PySem.Str.ofString "__lt__"), (PySem.Str.ofString "Row.__lt__"), L2.defArgs (sub 9 18), L2.defBody (sub 9 18), L2.defScope (sub 9 18)⟩
def d__law_draws : DefP := ⟨(PySem.Str.ofString "_law_draws"), (PySem.Str.ofString "_law_draws"), L2.defArgs (top 11), L2.defBody (top 11), L2.defScope (top 11)⟩
def d__law_told : DefP := ⟨(PySem.Str.ofString "_law_told"), (PySem.Str.ofString "_law_told"), L2.defArgs (top 12), L2.defBody (top 12), L2.defScope (top 12)⟩
def d__law_due : DefP := ⟨(PySem.Str.ofString "_law_due"), (PySem.Str.ofString "_law_due"), L2.defArgs (top 13), L2.defBody (top 13), L2.defScope (top 13)⟩
def d_law : DefP := ⟨(PySem.Str.ofString "law"), (PySem.Str.ofString "law"), L2.defArgs (top 14), L2.defBody (top 14), L2.defScope (top 14)⟩
def ds : List DefP := [d_Row___init__, d_Row_paced, d_Row_text, d_Row_kinds, d_Row_quick, d_Row_slow, d_Row_hastens, d_Row___len__, d_Row___iter__, d_Row___getitem__, d_Row___contains__, d_Row___add__, d_Row___mul__, d_Row___rmul__, d_Row___iadd__, d_Row___lshift__, d_Row___eq__, d_Row___lt__, d__law_draws, d__law_told, d__law_due, d_law]
theorem bnd_Row___init__ : BndOk d_Row___init__ f_Row___init__ := .inr ⟨List.cons_ne_nil _ _, by decide, fun j hj => match j, hj with | 0, _ => (fun _ _ _ _ _ _ _ us its h1 h2 => match us, its, h1, h2 with | [_], [_], _, _ => ⟨_, rfl, rfl⟩) | 1, _ => (fun _ _ _ _ _ _ _ us its h1 h2 => match us, its, h1, h2 with | [_, _], [_], _, _ => ⟨_, rfl, rfl⟩) | j + 2, h => absurd h (by show ¬ (j + 2 ≤ 1); omega)⟩
theorem bnd_Row_paced : BndOk d_Row_paced f_Row_paced := .inr ⟨List.cons_ne_nil _ _, by decide, fun j hj => match j, hj with | 0, _ => (fun _ _ _ _ _ _ _ us its h1 h2 => match us, its, h1, h2 with | [_, _], [_], _, _ => ⟨_, rfl, rfl⟩) | 1, _ => (fun _ _ _ _ _ _ _ us its h1 h2 => match us, its, h1, h2 with | [_, _, _], [_], _, _ => ⟨_, rfl, rfl⟩) | j + 2, h => absurd h (by show ¬ (j + 2 ≤ 1); omega)⟩
theorem bnd_Row_text : BndOk d_Row_text f_Row_text := .inl ⟨rfl, fun _ _ _ _ _ _ us hl => match us, hl with | [_], _ => rfl⟩
theorem bnd_Row_kinds : BndOk d_Row_kinds f_Row_kinds := .inl ⟨rfl, fun _ _ _ _ _ _ us hl => match us, hl with | [_], _ => rfl⟩
theorem bnd_Row_quick : BndOk d_Row_quick f_Row_quick := .inl ⟨rfl, fun _ _ _ _ _ _ us hl => match us, hl with | [_], _ => rfl⟩
theorem bnd_Row_slow : BndOk d_Row_slow f_Row_slow := .inl ⟨rfl, fun _ _ _ _ _ _ us hl => match us, hl with | [_], _ => rfl⟩
theorem bnd_Row_hastens : BndOk d_Row_hastens f_Row_hastens := .inl ⟨rfl, fun _ _ _ _ _ _ us hl => match us, hl with | [_, _], _ => rfl⟩
theorem bnd_Row___len__ : BndOk d_Row___len__ f_Row___len__ := .inl ⟨rfl, fun _ _ _ _ _ _ us hl => match us, hl with | [_], _ => rfl⟩
theorem bnd_Row___iter__ : BndOk d_Row___iter__ f_Row___iter__ := .inl ⟨rfl, fun _ _ _ _ _ _ us hl => match us, hl with | [_], _ => rfl⟩
theorem bnd_Row___getitem__ : BndOk d_Row___getitem__ f_Row___getitem__ := .inl ⟨rfl, fun _ _ _ _ _ _ us hl => match us, hl with | [_, _], _ => rfl⟩
theorem bnd_Row___contains__ : BndOk d_Row___contains__ f_Row___contains__ := .inl ⟨rfl, fun _ _ _ _ _ _ us hl => match us, hl with | [_, _], _ => rfl⟩
theorem bnd_Row___add__ : BndOk d_Row___add__ f_Row___add__ := .inl ⟨rfl, fun _ _ _ _ _ _ us hl => match us, hl with | [_, _], _ => rfl⟩
theorem bnd_Row___mul__ : BndOk d_Row___mul__ f_Row___mul__ := .inl ⟨rfl, fun _ _ _ _ _ _ us hl => match us, hl with | [_, _], _ => rfl⟩
theorem bnd_Row___rmul__ : BndOk d_Row___rmul__ f_Row___rmul__ := .inl ⟨rfl, fun _ _ _ _ _ _ us hl => match us, hl with | [_, _], _ => rfl⟩
theorem bnd_Row___iadd__ : BndOk d_Row___iadd__ f_Row___iadd__ := .inl ⟨rfl, fun _ _ _ _ _ _ us hl => match us, hl with | [_, _], _ => rfl⟩
theorem bnd_Row___lshift__ : BndOk d_Row___lshift__ f_Row___lshift__ := .inl ⟨rfl, fun _ _ _ _ _ _ us hl => match us, hl with | [_, _], _ => rfl⟩
theorem bnd_Row___eq__ : BndOk d_Row___eq__ f_Row___eq__ := .inl ⟨rfl, fun _ _ _ _ _ _ us hl => match us, hl with | [_, _], _ => rfl⟩
theorem bnd_Row___lt__ : BndOk d_Row___lt__ f_Row___lt__ := .inl ⟨rfl, fun _ _ _ _ _ _ us hl => match us, hl with | [_, _], _ => rfl⟩
theorem bnd__law_draws : BndOk d__law_draws f__law_draws := .inl ⟨rfl, fun _ _ _ _ _ _ us hl => match us, hl with | [_, _, _], _ => rfl⟩
theorem bnd__law_told : BndOk d__law_told f__law_told := .inl ⟨rfl, fun _ _ _ _ _ _ us hl => match us, hl with | [_, _, _], _ => rfl⟩
theorem bnd__law_due : BndOk d__law_due f__law_due := .inl ⟨rfl, fun _ _ _ _ _ _ us hl => match us, hl with | [_, _], _ => rfl⟩
theorem bnd_law : BndOk d_law f_law := .inl ⟨rfl, fun _ _ _ _ _ _ us hl => match us, hl with | [_], _ => rfl⟩
theorem bnd : BndAll prog.fns ds := ⟨bnd_Row___init__, bnd_Row_paced, bnd_Row_text, bnd_Row_kinds, bnd_Row_quick, bnd_Row_slow, bnd_Row_hastens, bnd_Row___len__, bnd_Row___iter__, bnd_Row___getitem__, bnd_Row___contains__, bnd_Row___add__, bnd_Row___mul__, bnd_Row___rmul__, bnd_Row___iadd__, bnd_Row___lshift__, bnd_Row___eq__, bnd_Row___lt__, bnd__law_draws, bnd__law_told, bnd__law_due, bnd_law, True.intro⟩
theorem ck : chkFs prog prog.fns ds = true := by decide +kernel
theorem cg : chkG prog = true := by decide +kernel
end K05

set_option Elab.async false
set_option linter.all false
set_option maxRecDepth 100000
set_option maxHeartbeats 2000000
/-! K05r: the law of paced rows. -/
namespace K05
open Mi PySem _root_.SX Rw
/-- what is asked of the program (told apart, so that no run of it is tried) -/
structure LP (P : Prog) : Prop where
  rp : RowP P rx
  cls : P.cls = [c_HarmError, c_InvalidRow, c_RowTooLong, c_NoStep, c_Row]
  fi : P.fns[0]? = some (f_Row___init__ : Fn)
  fp : P.fns[1]? = some f_Row_paced
  ft : P.fns[2]? = some f_Row_text
  dr : P.fns[18]? = some f__law_draws
  to : P.fns[19]? = some f__law_told
  du : P.fns[20]? = some f__law_due
  la : P.fns[21]? = some f_law
theorem LPp : LP prog := ⟨⟨rfl, rfl, rfl, rfl, rfl⟩, rfl, rfl, rfl, rfl, rfl, rfl, rfl, rfl⟩
abbrev C (P : Prog) (n : Nat) : Cfg := P.cfg (callM P n)
def long : List Nat := [108, 111, 110, 103]
def invalid : List Nat := [105, 110, 118, 97, 108, 105, 100]
def nons : List Nat := [110, 111, 110, 101]
def row : List Nat := [114, 111, 119]
theorem S_long : Str.ofString "long" = S long := by decide +kernel
theorem S_invalid : Str.ofString "invalid" = S invalid := by decide +kernel
theorem S_nons : Str.ofString "none" = S nons := by decide +kernel
theorem S_row : Str.ofString "row" = S row := by decide +kernel
/-- what is due -/
def dueV (l : List Nat) (ps : List Int) : List MV := if 10000 < l.length then [.str (S long), .int (l.length : Int), .bl true] else match bad sm l with
  | some k => [.str (S invalid), .int (k : Int), .bl true]
  | none => match ps.find? (fun i => !inR l.length i) with
    | some k => [.str (S nons), .int k, .bl true]
    | none => [.str (S row), .str (S (slw l ps))]
section
variable {P : Prog} {n : Nat} {l : List Nat} {ps : List Int} {v : MV} {h : MH}
theorem due_loop1 (hl : l.length ≤ 100000) : ∃ x1, forM (.rng 0 l.length) (asg (C P n) (.name 2)) (exs (C P n) p__law_due_0) 1000000 0 [some (.str (S l)), some v, none, none, none] h = match bad sm l with
    | some k => .ret (.tup [.str (S invalid), .int (k : Int), .bl true]) h
    | none => .next [some (.str (S l)), some v, x1, none, none] h := by
  refine forM_run (len := l.length) (fun i ρ h' => h' = h ∧ (∃ x1, ρ = [some (.str (S l)), some v, x1, none, none]) ∧ ∀ j, j < i → ∀ c, l[j]? = some c → sm c = true)
    (fun o => ∃ x1, o = match bad sm l with
    | some k => .ret (.tup [.str (S invalid), .int (k : Int), .bl true]) h
    | none => .next [some (.str (S l)), some v, x1, none, none] h) ?_ ?_ _ 0 _ h (by omega) (Nat.zero_le _) ⟨rfl, ⟨none, rfl⟩, fun j hj => absurd hj (Nat.not_lt_zero _)⟩
  · rintro ρ h' ⟨rfl, ⟨x1, rfl⟩, hg⟩
    exact ⟨at_rngE, x1, by rw [bad_none hg]⟩
  · rintro i ρ h' hi ⟨rfl, ⟨x1, rfl⟩, hg⟩
    obtain ⟨c, hc⟩ := at_lt hi
    refine ⟨_, at_rng hi, [some (.str (S l)), some v, some (.int (i : Int)), none, none], h', by simp -implicitDefEqProofs only [exs, ex, evT, ev, evs, evO, evI, evA, evB_1, evB_a, evB_o, asgq_name, asgq_tup, asgqs_nil, asgqs_cons, asgq_sub, slotO_0, slotO_n, slotO_s, List.set_cons_zero, List.set_cons_succ, bind_ok, bind_exc, bind_bad, of_some, of_none, Option.map_some, Option.map_none, truth_bl, cmp_gt, cmp_ge, cmp_lt, cmp_le, cmp_in, cmp_ni, cmp_eq, cmp_ne, b_add, b_sub], ?_⟩
    have hz : ([MV.str (S invalid), .int (i : Int), .bl true] : List MV).length ≤ line := by show 3 ≤ 16777216; omega
    have sb := at_S (h := h') (show l.length ≤ 16777216 by omega) hc
    cases hs : sm c with
    | true =>
      refine .inl ⟨[some (.str (S l)), some v, some (.int (i : Int)), none, none], h', .inl ?_, rfl, ⟨_, rfl⟩, fun j hj c' hc' => ?_⟩
      · unfold p__law_due_0
        unfold sm at hs
        simp -implicitDefEqProofs only [exs, ex, evT, ev, evs, evO, evI, evA, evB_1, evB_a, evB_o, asgq_name, asgq_tup, asgqs_nil, asgqs_cons, asgq_sub, slotO_0, slotO_n, slotO_s, List.set_cons_zero, List.set_cons_succ, bind_ok, bind_exc, bind_bad, of_some, of_none, Option.map_some, Option.map_none, truth_bl, cmp_gt, cmp_ge, cmp_lt, cmp_le, cmp_in, cmp_ni, cmp_eq, cmp_ne, b_add, b_sub, sb, S_abc, in_sign, hs, Bool.not_true, Bool.not_false]
      · rcases Nat.lt_succ_iff_lt_or_eq.mp hj with hj | rfl
        · exact hg j hj c' hc'
        · rw [hc] at hc'; cases hc'; exact hs
    | false =>
      refine .inr (.inr (.inl ⟨.tup [.str (S invalid), .int (i : Int), .bl true], h', ?_, none, by rw [bad_some hc hs hg]⟩))
      unfold p__law_due_0
      unfold sm at hs
      simp -implicitDefEqProofs only [exs, ex, evT, ev, evs, evO, evI, evA, evB_1, evB_a, evB_o, asgq_name, asgq_tup, asgqs_nil, asgqs_cons, asgq_sub, slotO_0, slotO_n, slotO_s, List.set_cons_zero, List.set_cons_succ, bind_ok, bind_exc, bind_bad, of_some, of_none, Option.map_some, Option.map_none, truth_bl, cmp_gt, cmp_ge, cmp_lt, cmp_le, cmp_in, cmp_ni, cmp_eq, cmp_ne, b_add, b_sub, sb, S_abc, in_sign, hs, Bool.not_true, Bool.not_false, S_invalid, hz, if_true]
theorem due_loop2 {x1 : Option MV} {I : Mi.It} (hl : l.length ≤ 100000) (hp : ps.length ≤ 100000) (hI : ∀ t i, Mi.It.at_ I i (h ++ t) = some (ps.map MV.int)[i]?) : ∃ x2, forM I (asg (C P n) (.name 3)) (exs (C P n) p__law_due_1) 1000000 0 [some (.str (S l)), some v, x1, none, none] h = match ps.find? (fun i => !inR l.length i) with
    | some k => .ret (.tup [.str (S nons), .int k, .bl true]) h
    | none => .next [some (.str (S l)), some v, x1, x2, none] h := by
  have hI0 : ∀ i, Mi.It.at_ I i h = some (ps.map MV.int)[i]? := fun i => by have := hI [] i; rwa [List.append_nil] at this
  refine forM_run (len := ps.length) (fun i ρ h' => h' = h ∧ (∃ x2, ρ = [some (.str (S l)), some v, x1, x2, none]) ∧ ∀ j, j < i → ∀ c, ps[j]? = some c → inR l.length c = true)
    (fun o => ∃ x2, o = match ps.find? (fun i => !inR l.length i) with
    | some k => .ret (.tup [.str (S nons), .int k, .bl true]) h
    | none => .next [some (.str (S l)), some v, x1, x2, none] h) ?_ ?_ _ 0 _ h (by omega) (Nat.zero_le _) ⟨rfl, ⟨none, rfl⟩, fun j hj => absurd hj (Nat.not_lt_zero _)⟩
  · rintro ρ h' ⟨rfl, ⟨x2, rfl⟩, hg⟩
    have : ps.find? (fun i => !inR l.length i) = none := by
      rw [List.find?_eq_none]
      intro c hc
      obtain ⟨j, hj⟩ := List.mem_iff_getElem?.mp hc
      simp [hg j (List.getElem?_eq_some_iff.mp hj).1 c hj]
    exact ⟨by rw [hI0, List.getElem?_eq_none (by simp)], x2, by rw [this]⟩
  · rintro i ρ h' hi ⟨rfl, ⟨x2, rfl⟩, hg⟩
    obtain ⟨k, hk⟩ := at_lt hi
    refine ⟨.int k, by rw [hI0, List.getElem?_map, hk]; rfl, [some (.str (S l)), some v, x1, some (.int k), none], h', by simp -implicitDefEqProofs only [exs, ex, evT, ev, evs, evO, evI, evA, evB_1, evB_a, evB_o, asgq_name, asgq_tup, asgqs_nil, asgqs_cons, asgq_sub, slotO_0, slotO_n, slotO_s, List.set_cons_zero, List.set_cons_succ, bind_ok, bind_exc, bind_bad, of_some, of_none, Option.map_some, Option.map_none, truth_bl, cmp_gt, cmp_ge, cmp_lt, cmp_le, cmp_in, cmp_ni, cmp_eq, cmp_ne, b_add, b_sub], ?_⟩
    have hlen : lenM h' (.str (S l)) = some l.length := len_S (by show l.length ≤ 16777216; omega)
    have hz : ([MV.str (S nons), .int k, .bl true] : List MV).length ≤ line := by show 3 ≤ 16777216; omega
    cases hr : inR l.length k with
    | true =>
      have hr' := hr
      unfold inR at hr'
      simp only [Bool.and_eq_true, decide_eq_true_eq] at hr'
      have n1 : ¬ (k < 0) := by omega
      have n2 : ¬ ((l.length : Int) ≤ k) := by omega
      refine .inl ⟨[some (.str (S l)), some v, x1, some (.int k), none], h', .inl ?_, rfl, ⟨_, rfl⟩, fun j hj c' hc' => ?_⟩
      · unfold p__law_due_1
        simp -implicitDefEqProofs only [exs, ex, evT, ev, evs, evO, evI, evA, evB_1, evB_a, evB_o, asgq_name, asgq_tup, asgqs_nil, asgqs_cons, asgq_sub, slotO_0, slotO_n, slotO_s, List.set_cons_zero, List.set_cons_succ, bind_ok, bind_exc, bind_bad, of_some, of_none, Option.map_some, Option.map_none, truth_bl, cmp_gt, cmp_ge, cmp_lt, cmp_le, cmp_in, cmp_ni, cmp_eq, cmp_ne, b_add, b_sub, n1, n2, decide_false, blt_len hlen]
      · rcases Nat.lt_succ_iff_lt_or_eq.mp hj with hj | rfl
        · exact hg j hj c' hc'
        · rw [hk] at hc'; cases hc'; exact hr
    | false =>
      have hfind : ps.find? (fun i => !inR l.length i) = some k := by
        rw [List.find?_eq_some_iff_getElem]
        obtain ⟨h1, h2⟩ := List.getElem?_eq_some_iff.mp hk
        refine ⟨by rw [hr]; rfl, i, h1, h2, fun j hj => ?_⟩
        rw [hg j hj ps[j] (List.getElem?_eq_getElem (by omega))]
        rfl
      refine .inr (.inr (.inl ⟨.tup [.str (S nons), .int k, .bl true], h', ?_, none, by rw [hfind]⟩))
      unfold inR at hr
      rw [Bool.and_eq_false_iff] at hr
      unfold p__law_due_1
      by_cases n1 : k < 0
      · simp -implicitDefEqProofs only [exs, ex, evT, ev, evs, evO, evI, evA, evB_1, evB_a, evB_o, asgq_name, asgq_tup, asgqs_nil, asgqs_cons, asgq_sub, slotO_0, slotO_n, slotO_s, List.set_cons_zero, List.set_cons_succ, bind_ok, bind_exc, bind_bad, of_some, of_none, Option.map_some, Option.map_none, truth_bl, cmp_gt, cmp_ge, cmp_lt, cmp_le, cmp_in, cmp_ni, cmp_eq, cmp_ne, b_add, b_sub, n1, decide_true, S_nons, hz, if_true]
      · have n2 : (l.length : Int) ≤ k := by
          rcases hr with hr | hr
          · have := of_decide_eq_false hr; omega
          · have := of_decide_eq_false hr; omega
        simp -implicitDefEqProofs only [exs, ex, evT, ev, evs, evO, evI, evA, evB_1, evB_a, evB_o, asgq_name, asgq_tup, asgqs_nil, asgqs_cons, asgq_sub, slotO_0, slotO_n, slotO_s, List.set_cons_zero, List.set_cons_succ, bind_ok, bind_exc, bind_bad, of_some, of_none, Option.map_some, Option.map_none, truth_bl, cmp_gt, cmp_ge, cmp_lt, cmp_le, cmp_in, cmp_ni, cmp_eq, cmp_ne, b_add, b_sub, n1, n2, decide_true, decide_false, blt_len hlen, S_nons, hz, if_true]
theorem due_loop3 {x1 x2 : Option MV} {I : Mi.It} (hl : l.length ≤ 100000) (hp : ps.length ≤ 100000) (hs : ∀ c ∈ l, sm c = true) (hr : ∀ k ∈ ps, inR l.length k = true) (hI : ∀ t i, Mi.It.at_ I i (h ++ t) = some (ps.map MV.int)[i]?) :
    ∃ x4, forM I (asg (C P n) (.name 3)) (exs (C P n) p__law_due_2) 1000000 0 [some (.str (S l)), some v, x1, x2, some (.ref h.length)] (h ++ [.lst (l.map sgn)]) = .next [some (.str (S l)), some v, x1, x4, some (.ref h.length)] (h ++ [.lst ((slw l ps).map sgn)]) := by
  refine forM_run (len := ps.length) (fun i ρ h' => h' = h ++ [.lst ((slw l (ps.take i)).map sgn)] ∧ ∃ x4, ρ = [some (.str (S l)), some v, x1, x4, some (.ref h.length)])
    (fun o => ∃ x4, o = .next [some (.str (S l)), some v, x1, x4, some (.ref h.length)] (h ++ [.lst ((slw l ps).map sgn)])) ?_ ?_ 1000000 0 _ _ (by omega) (Nat.zero_le _) ⟨by rw [List.take_zero, slw_nil], ⟨x2, rfl⟩⟩
  · rintro ρ h' ⟨rfl, ⟨x4, rfl⟩⟩
    refine ⟨by rw [hI, List.getElem?_eq_none (by simp)], x4, ?_⟩
    rw [List.take_length]
  · rintro i ρ h' hi ⟨rfl, ⟨x4, rfl⟩⟩
    obtain ⟨k, hk⟩ := at_lt hi
    refine ⟨.int k, by rw [hI, List.getElem?_map, hk]; rfl, [some (.str (S l)), some v, x1, some (.int k), some (.ref h.length)], h ++ [.lst ((slw l (ps.take i)).map sgn)], by simp -implicitDefEqProofs only [exs, ex, evT, ev, evs, evO, evI, evA, evB_1, evB_a, evB_o, asgq_name, asgq_tup, asgqs_nil, asgqs_cons, asgq_sub, slotO_0, slotO_n, slotO_s, List.set_cons_zero, List.set_cons_succ, bind_ok, bind_exc, bind_bad, of_some, of_none, Option.map_some, Option.map_none, truth_bl, cmp_gt, cmp_ge, cmp_lt, cmp_le, cmp_in, cmp_ni, cmp_eq, cmp_ne, b_add, b_sub], ?_⟩
    have hr' := hr k (List.mem_of_getElem? hk)
    unfold inR at hr'
    simp only [Bool.and_eq_true, decide_eq_true_eq] at hr'
    obtain ⟨m, rfl⟩ : ∃ m : Nat, k = (m : Int) := ⟨k.toNat, by omega⟩
    have hm : m < l.length := by omega
    obtain ⟨c, hc⟩ := at_lt hm
    have h8 := sm_lt (hs c (List.mem_of_getElem? hc))
    have sb := at_S (h := h ++ [.lst ((slw l (ps.take i)).map sgn)]) (show l.length ≤ 16777216 by omega) hc
    have st : setM (.ref h.length) (.int (m : Int)) (sgn (PyProof.Rows.up1 c)) (h ++ [.lst ((slw l (ps.take i)).map sgn)]) = some (h ++ [.lst ((slw l (ps.take (i + 1))).map sgn)]) := by
      unfold setM
      dsimp only
      rw [hp_last]
      dsimp only
      rw [ixN_nat (by rw [List.length_map, slw_len]; exact hm)]
      dsimp only
      have : ((slw l (ps.take i)).map sgn).set m (sgn (PyProof.Rows.up1 c)) = (slw l (ps.take (i + 1))).map sgn := by
        rw [← List.map_set, slw_snoc hc]
        congr 2
        rw [List.take_add_one, hk]
        rfl
      rw [this]
      simp
    refine .inl ⟨[some (.str (S l)), some v, x1, some (.int (m : Int)), some (.ref h.length)], h ++ [.lst ((slw l (ps.take (i + 1))).map sgn)], .inl ?_, rfl, ⟨_, rfl⟩⟩
    unfold p__law_due_2
    simp -implicitDefEqProofs only [exs, ex, evT, ev, evs, evO, evI, evA, evB_1, evB_a, evB_o, asgq_name, asgq_tup, asgqs_nil, asgqs_cons, asgq_sub, slotO_0, slotO_n, slotO_s, List.set_cons_zero, List.set_cons_succ, bind_ok, bind_exc, bind_bad, of_some, of_none, Option.map_some, Option.map_none, truth_bl, cmp_gt, cmp_ge, cmp_lt, cmp_le, cmp_in, cmp_ni, cmp_eq, cmp_ne, b_add, b_sub, sb, mthR_str, Mth.ofList, Bool.not_false, if_true, upper_1 h8, st]
theorem due_body (L : LP P) (hl : l.length ≤ 100000) (hp : ps.length ≤ 100000) (hv : seqM h v = some (ps.map .int)) : ∃ t, endF (exs (C P n) b__law_due [some (.str (S l)), some v, none, none, none] h) = .ok (.tup (dueV l ps)) (h ++ t) := by
  have hlen : lenM h (.str (S l)) = some l.length := len_S (by show l.length ≤ 16777216; omega)
  obtain ⟨x1, lo⟩ := due_loop1 (P := P) (n := n) (v := v) (h := h) hl
  have hfu : (C P n).fuel = 1000000 := L.rp.fuel
  have z3 : ∀ a b c : MV, ([a, b, c] : List MV).length ≤ line := fun a b c => by show 3 ≤ 16777216; omega
  have z2 : ∀ a b : MV, ([a, b] : List MV).length ≤ line := fun a b => by show 2 ≤ 16777216; omega
  unfold b__law_due dueV
  by_cases hb : 10000 < l.length
  · have hb' : (10000 : Int) < (l.length : Int) := by omega
    refine ⟨[], ?_⟩
    simp -implicitDefEqProofs only [exs, ex, evT, ev, evs, evO, evI, evA, evB_1, evB_a, evB_o, asgq_name, asgq_tup, asgqs_nil, asgqs_cons, asgq_sub, slotO_0, slotO_n, slotO_s, List.set_cons_zero, List.set_cons_succ, bind_ok, bind_exc, bind_bad, of_some, of_none, Option.map_some, Option.map_none, truth_bl, cmp_gt, cmp_ge, cmp_lt, cmp_le, cmp_in, cmp_ni, cmp_eq, cmp_ne, b_add, b_sub, hb, hb', decide_true, if_true, blt_len hlen, endF, List.append_nil, S_long, z3]
  · have hb' : ¬ (10000 : Int) < (l.length : Int) := by omega
    have rg := rng_nat (show l.length < 1000000 by omega)
    cases q : bad sm l with
    | some k =>
      refine ⟨[], ?_⟩
      simp -implicitDefEqProofs only [exs, ex, evT, ev, evs, evO, evI, evA, evB_1, evB_a, evB_o, asgq_name, asgq_tup, asgqs_nil, asgqs_cons, asgq_sub, slotO_0, slotO_n, slotO_s, List.set_cons_zero, List.set_cons_succ, bind_ok, bind_exc, bind_bad, of_some, of_none, Option.map_some, Option.map_none, truth_bl, cmp_gt, cmp_ge, cmp_lt, cmp_le, cmp_in, cmp_ni, cmp_eq, cmp_ne, b_add, b_sub, hb, hb', decide_false, if_false, blt_len hlen, rg, lo, hfu, q, endF, List.append_nil]
    | none =>
      have hs := bad_all q
      obtain ⟨I, i1, i2⟩ := it_seq hv
      have i0 : itV v h = some I := by have := i1 []; rwa [List.append_nil] at this
      obtain ⟨x2, lo2⟩ := due_loop2 (P := P) (n := n) (v := v) (x1 := x1) (I := I) (h := h) hl hp i2
      cases q2 : ps.find? (fun i => !inR l.length i) with
      | some k =>
        refine ⟨[], ?_⟩
        simp -implicitDefEqProofs only [exs, ex, evT, ev, evs, evO, evI, evA, evB_1, evB_a, evB_o, asgq_name, asgq_tup, asgqs_nil, asgqs_cons, asgq_sub, slotO_0, slotO_n, slotO_s, List.set_cons_zero, List.set_cons_succ, bind_ok, bind_exc, bind_bad, of_some, of_none, Option.map_some, Option.map_none, truth_bl, cmp_gt, cmp_ge, cmp_lt, cmp_le, cmp_in, cmp_ni, cmp_eq, cmp_ne, b_add, b_sub, hb, hb', decide_false, if_false, blt_len hlen, rg, lo, hfu, q, i0, lo2, q2, endF, List.append_nil]
      | none =>
        have hr : ∀ k ∈ ps, inR l.length k = true := fun k hk => by
          rw [List.find?_eq_none] at q2
          simpa using q2 k hk
        have hl2 : l.length ≤ line := by show l.length ≤ 16777216; omega
        obtain ⟨x3, lo3⟩ := due_loop3 (P := P) (n := n) (v := v) (x1 := x1) (x2 := x2) (I := I) (h := h) hl hp hs hr i2
        have hsq : seqM (h ++ [.lst ((slw l ps).map sgn)]) (.ref h.length) = some ((slw l ps).map sgn) := seq_lst hp_last
        have hj := join_sgn hsq (by rw [slw_len]; exact hl2)
        refine ⟨[.lst ((slw l ps).map sgn)], ?_⟩
        simp -implicitDefEqProofs only [exs, ex, evT, ev, evs, evO, evI, evA, evB_1, evB_a, evB_o, asgq_name, asgq_tup, asgqs_nil, asgqs_cons, asgq_sub, slotO_0, slotO_n, slotO_s, List.set_cons_zero, List.set_cons_succ, bind_ok, bind_exc, bind_bad, of_some, of_none, Option.map_some, Option.map_none, truth_bl, cmp_gt, cmp_ge, cmp_lt, cmp_le, cmp_in, cmp_ni, cmp_eq, cmp_ne, b_add, b_sub, hb, hb', decide_false, if_false, blt_len hlen, rg, lo, hfu, q, i0, lo2, q2, blt_listS hl2, i1, lo3, S_nil, mthR_str, Mth.ofList, Bool.not_false, if_true, hj, S_row, z2, endF]
theorem due_ok (L : LP P) (hl : l.length ≤ 100000) (hp : ps.length ≤ 100000) (hv : seqM h v = some (ps.map .int)) : ∃ t, callM P (n + 1) 20 [.str (S l), v] h = .ok (.tup (dueV l ps)) (h ++ t) := by
  rw [callM_at L.du (fill_self rfl)]
  exact due_body L hl hp hv
/-! ### told -/
def HS : List Hd := match b__law_told with
  | .cons (.try_ _ hs) _ => hs
  | _ => []
theorem told_b : b__law_told = .cons (.try_ p__law_told_0 HS) .nil := rfl
theorem catch_long (L : LP P) {k : Int} {x4 : Option MV} {a b c d : Option MV} : catchM (C P n) HS (.exc 2 [(Str.ofString "steps", .int k)] [a, b, c, d, x4] h) = .ret (.tup [.str (S long), .int k, .bl true]) h := by
  have h1 : hdX [c_HarmError, c_InvalidRow, c_RowTooLong, c_NoStep, c_Row] 2 HS = some (HS[0]?) := by kernel_rfl
  have h2 : evX [c_HarmError, c_InvalidRow, c_RowTooLong, c_NoStep, c_Row] 2 [(Str.ofString "steps", .int k)] [a, b, c, none, x4] (match HS[0]? with | some d => d.e | none => .lit .non) = some (.tup [.str (Str.ofString "long"), .int k, .bl true]) := by kernel_rfl
  unfold catchM
  dsimp only
  show (match hdX P.cls 2 HS with | some (some d) => _ | some none => _ | none => _) = _
  rw [L.cls, h1]
  show (match evX P.cls 2 [(Str.ofString "steps", .int k)] [a, b, c, none, x4] (match HS[0]? with | some d => d.e | none => .lit .non) with | some v => SOut.ret v h | none => .bad) = _
  rw [L.cls, h2, S_long]
theorem catch_inv (L : LP P) {k : Int} {x4 : Option MV} {a b c d : Option MV} : catchM (C P n) HS (.exc 1 [(Str.ofString "index", .int k)] [a, b, c, d, x4] h) = .ret (.tup [.str (S invalid), .int k, .bl true]) h := by
  have h1 : hdX [c_HarmError, c_InvalidRow, c_RowTooLong, c_NoStep, c_Row] 1 HS = some (HS[1]?) := by kernel_rfl
  have h2 : evX [c_HarmError, c_InvalidRow, c_RowTooLong, c_NoStep, c_Row] 1 [(Str.ofString "index", .int k)] [a, b, c, none, x4] (match HS[1]? with | some d => d.e | none => .lit .non) = some (.tup [.str (Str.ofString "invalid"), .int k, .bl true]) := by kernel_rfl
  unfold catchM
  dsimp only
  show (match hdX P.cls 1 HS with | some (some d) => _ | some none => _ | none => _) = _
  rw [L.cls, h1]
  show (match evX P.cls 1 [(Str.ofString "index", .int k)] [a, b, c, none, x4] (match HS[1]? with | some d => d.e | none => .lit .non) with | some v => SOut.ret v h | none => .bad) = _
  rw [L.cls, h2, S_invalid]
theorem catch_no (L : LP P) {k : Int} {x4 : Option MV} {a b c d : Option MV} : catchM (C P n) HS (.exc 3 [(Str.ofString "index", .int k)] [a, b, c, d, x4] h) = .ret (.tup [.str (S nons), .int k, .bl true]) h := by
  have h1 : hdX [c_HarmError, c_InvalidRow, c_RowTooLong, c_NoStep, c_Row] 3 HS = some (HS[2]?) := by kernel_rfl
  have h2 : evX [c_HarmError, c_InvalidRow, c_RowTooLong, c_NoStep, c_Row] 3 [(Str.ofString "index", .int k)] [a, b, c, none, x4] (match HS[2]? with | some d => d.e | none => .lit .non) = some (.tup [.str (Str.ofString "none"), .int k, .bl true]) := by kernel_rfl
  unfold catchM
  dsimp only
  show (match hdX P.cls 3 HS with | some (some d) => _ | some none => _ | none => _) = _
  rw [L.cls, h1]
  show (match evX P.cls 3 [(Str.ofString "index", .int k)] [a, b, c, none, x4] (match HS[2]? with | some d => d.e | none => .lit .non) with | some v => SOut.ret v h | none => .bad) = _
  rw [L.cls, h2, S_nons]
def told_e : MS := match p__law_told_0 with
  | .cons _ (.cons _ (.cons s .nil)) => s
  | _ => .unk
theorem told_end (L : LP P) {a b c d : Option MV} {r : Nat} {l' : List Nat} (e : h[r]? = some (rowO rx l')) : ex (C P (n + 1)) told_e [a, b, c, d, some (.ref r)] h = .ret (.tup [.str (S row), .str (S l')]) (h ++ [.lst [.str (S nons), .str (S row)]]) := by
  have z2 : ∀ a b : MV, ([a, b] : List MV).length ≤ line := fun a b => by show 2 ≤ 16777216; omega
  have e2 : (h ++ [MO.lst [.str (S nons), .str (S row)]])[r]? = some (rowO rx l') := hp_get e
  have i1 := isi_row (call := callM P (n + 1)) L.rp e2
  have i2 : bltM (C P (n + 1)) .int [.bl true] (h ++ [MO.lst [.str (S nons), .str (S row)]]) = .ok (.int 1) (h ++ [MO.lst [.str (S nons), .str (S row)]]) := rfl
  have i3 : subM (.ref h.length) (.int 1) (h ++ [MO.lst [.str (S nons), .str (S row)]]) = some (.str (S row)) := by
    unfold subM; dsimp only; rw [hp_last]; rfl
  have i4 := fld_text (n := n) L.rp L.ft e2
  have al : ∀ o : MO, alloc o h = .ok (.ref h.length) (h ++ [o]) := fun o => rfl
  show ex (C P (n + 1)) (.ret (.tup (.cons (.sub (.lst (.cons (.str (Str.ofString "none")) (.cons (.str (Str.ofString "row")) .nil))) (.blt .int (.cons (.blt .isi (.cons (.var 4) (.cons (.glb (Str.ofString "Row") (.cls 4)) .nil))) .nil))) (.cons (.fld (.var 4) (Str.ofString "text")) .nil)))) [a, b, c, d, some (.ref r)] h = _
  have i1 : bltM (C P (n + 1)) .isi [.ref r, .cls 4] (h ++ [MO.lst [.str (S nons), .str (S row)]]) = .ok (.bl true) (h ++ [MO.lst [.str (S nons), .str (S row)]]) := i1
  simp -implicitDefEqProofs only [exs, ex, evT, ev, evs, evO, evI, evA, evB_1, evB_a, evB_o, asgq_name, asgq_tup, asgqs_nil, asgqs_cons, asgq_sub, slotO_0, slotO_n, slotO_s, List.set_cons_zero, List.set_cons_succ, bind_ok, bind_exc, bind_bad, of_some, of_none, Option.map_some, Option.map_none, truth_bl, cmp_gt, cmp_ge, cmp_lt, cmp_le, cmp_in, cmp_ni, cmp_eq, cmp_ne, b_add, b_sub, S_nons, S_row, z2, if_true, al, i1, i2, i3, i4]
/-- what is told, the clauses ahead -/
def toldR (l : List Nat) (ps : List Int) (ρ : Mi.Env) (h : MH) : SOut := if 10000 < l.length then .exc 2 [(Str.ofString "steps", .int (l.length : Int))] ρ h else match bad sm l with
  | some k => .exc 1 [(Str.ofString "index", .int (k : Int))] ρ h
  | none => match ps.find? (fun i => !inR l.length i) with
    | some k => .exc 3 [(Str.ofString "index", .int k)] ρ h
    | none => .ret (.tup [.str (S row), .str (S (slw l ps))]) h
theorem told_p (L : LP P) {plain : Bool} (hl : l.length ≤ 100000) (hp : ps.length ≤ 100000) (hv : seqM h v = some (ps.map .int)) : ∃ t x4, exs (C P (n + 2)) p__law_told_0 [some (.str (S l)), some v, some (.bl plain), none, none] h = toldR l (if plain then [] else ps) [some (.str (S l)), some v, some (.bl plain), none, x4] (h ++ t) := by
  obtain ⟨t1, e1⟩ := paced_ok (n := n) (v := .tup []) (ps := []) (h := h) (l := l) L.rp L.fi L.fp hl (by show 0 ≤ 100000; omega) rfl
  have e1 : callM P (n + 2) 1 [.cls 4, .str (S l)] h = pacedR rx l [] h t1 := by
    rw [callM_fill (ws := [.cls 4, .str (S l), .tup []]) L.fp rfl]; exact e1
  have hicl : icl (P.cfg (callM P (n + 2))).cls 4 = some (Rw.c_Row rx) := L.rp.icl
  have cm : (Rw.c_Row rx).cmts.lookup (Str.ofString "paced") = some 1 := cm_paced
  have sp : p__law_told_0 = .cons (.asg (.name 4) (.cmth (.glb (Str.ofString "Row") (.cls 4)) (Str.ofString "paced") (.cons (.var 0) .nil))) (.cons (.ifs (.not (.var 2)) (.cons (.asg (.name 4) (.cmth (.glb (Str.ofString "Row") (.cls 4)) (Str.ofString "paced") (.cons (.var 0) (.cons (.var 1) .nil)))) .nil) .nil) (.cons told_e .nil)) := rfl
  rw [sp]
  unfold pacedR at e1
  unfold toldR
  by_cases hb : 10000 < l.length
  · rw [if_pos hb] at e1
    refine ⟨t1, none, ?_⟩
    simp -implicitDefEqProofs only [exs, ex, evT, ev, evs, evO, evI, evA, evB_1, evB_a, evB_o, asgq_name, asgq_tup, asgqs_nil, asgqs_cons, asgq_sub, slotO_0, slotO_n, slotO_s, List.set_cons_zero, List.set_cons_succ, bind_ok, bind_exc, bind_bad, of_some, of_none, Option.map_some, Option.map_none, truth_bl, cmp_gt, cmp_ge, cmp_lt, cmp_le, cmp_in, cmp_ni, cmp_eq, cmp_ne, b_add, b_sub, hicl, cm, cfg_call, e1, hb, if_true]
    rfl
  · rw [if_neg hb] at e1
    cases q : bad sm l with
    | some k =>
      rw [q] at e1
      refine ⟨t1, none, ?_⟩
      simp -implicitDefEqProofs only [exs, ex, evT, ev, evs, evO, evI, evA, evB_1, evB_a, evB_o, asgq_name, asgq_tup, asgqs_nil, asgqs_cons, asgq_sub, slotO_0, slotO_n, slotO_s, List.set_cons_zero, List.set_cons_succ, bind_ok, bind_exc, bind_bad, of_some, of_none, Option.map_some, Option.map_none, truth_bl, cmp_gt, cmp_ge, cmp_lt, cmp_le, cmp_in, cmp_ni, cmp_eq, cmp_ne, b_add, b_sub, hicl, cm, cfg_call, e1, hb, if_false]
      rfl
    | none =>
      rw [q] at e1
      dsimp only [List.find?_nil] at e1
      cases plain with
      | true =>
        have te := told_end (n := n + 1) L (h := h ++ [.lst ((slw l []).map sgn), rowO rx (slw l [])]) (r := h.length + 1) (l' := slw l []) (a := some (.str (S l))) (b := some v) (c := some (.bl true)) (d := none) (hp_new (i := 1))
        refine ⟨[.lst ((slw l []).map sgn), rowO rx (slw l []), .lst [.str (S nons), .str (S row)]], none, ?_⟩
        simp -implicitDefEqProofs only [exs, ex, evT, ev, evs, evO, evI, evA, evB_1, evB_a, evB_o, asgq_name, asgq_tup, asgqs_nil, asgqs_cons, asgq_sub, slotO_0, slotO_n, slotO_s, List.set_cons_zero, List.set_cons_succ, bind_ok, bind_exc, bind_bad, of_some, of_none, Option.map_some, Option.map_none, truth_bl, cmp_gt, cmp_ge, cmp_lt, cmp_le, cmp_in, cmp_ni, cmp_eq, cmp_ne, b_add, b_sub, hicl, cm, cfg_call, e1, hb, if_false, if_true, Bool.not_true, te, List.find?_nil, List.append_assoc, List.cons_append, List.nil_append]
      | false =>
        obtain ⟨t2, e2⟩ := paced_ok (n := n) (v := v) (ps := ps) (h := h ++ [.lst ((slw l []).map sgn), rowO rx (slw l [])]) (l := l) L.rp L.fi L.fp hl hp (seq_app hv)
        have e2 : callM P (n + 2) 1 [.cls 4, .str (S l), v] (h ++ [.lst ((slw l []).map sgn), rowO rx (slw l [])]) = _ := e2
        unfold pacedR at e2
        rw [if_neg hb, q] at e2
        dsimp only at e2
        cases q2 : ps.find? (fun i => !inR l.length i) with
        | some k =>
          rw [q2] at e2
          refine ⟨[.lst ((slw l []).map sgn), rowO rx (slw l [])] ++ t2, some (.ref (h.length + 1)), ?_⟩
          simp -implicitDefEqProofs only [exs, ex, evT, ev, evs, evO, evI, evA, evB_1, evB_a, evB_o, asgq_name, asgq_tup, asgqs_nil, asgqs_cons, asgq_sub, slotO_0, slotO_n, slotO_s, List.set_cons_zero, List.set_cons_succ, bind_ok, bind_exc, bind_bad, of_some, of_none, Option.map_some, Option.map_none, truth_bl, cmp_gt, cmp_ge, cmp_lt, cmp_le, cmp_in, cmp_ni, cmp_eq, cmp_ne, b_add, b_sub, hicl, cm, cfg_call, e1, hb, if_false, if_true, Bool.not_false, e2, q2, List.append_assoc, Bool.false_eq_true]
          rfl
        | none =>
          rw [q2] at e2
          have te := told_end (n := n + 1) L (h := h ++ [.lst ((slw l []).map sgn), rowO rx (slw l [])] ++ [.lst ((slw l ps).map sgn), rowO rx (slw l ps)]) (r := (h ++ [MO.lst ((slw l []).map sgn), rowO rx (slw l [])]).length + 1) (l' := slw l ps) (a := some (.str (S l))) (b := some v) (c := some (.bl false)) (d := none) (hp_new (i := 1))
          refine ⟨[.lst ((slw l []).map sgn), rowO rx (slw l []), .lst ((slw l ps).map sgn), rowO rx (slw l ps), .lst [.str (S nons), .str (S row)]], none, ?_⟩
          simp -implicitDefEqProofs only [exs, ex, evT, ev, evs, evO, evI, evA, evB_1, evB_a, evB_o, asgq_name, asgq_tup, asgqs_nil, asgqs_cons, asgq_sub, slotO_0, slotO_n, slotO_s, List.set_cons_zero, List.set_cons_succ, bind_ok, bind_exc, bind_bad, of_some, of_none, Option.map_some, Option.map_none, truth_bl, cmp_gt, cmp_ge, cmp_lt, cmp_le, cmp_in, cmp_ni, cmp_eq, cmp_ne, b_add, b_sub, hicl, cm, cfg_call, e1, hb, if_false, if_true, Bool.not_false, e2, q2, te, Bool.false_eq_true]
          simp
theorem told_ok (L : LP P) {plain : Bool} (hl : l.length ≤ 100000) (hp : ps.length ≤ 100000) (hv : seqM h v = some (ps.map .int)) : ∃ t, callM P (n + 3) 19 [.str (S l), v, .bl plain] h = .ok (.tup (dueV l (if plain then [] else ps))) (h ++ t) := by
  obtain ⟨t, x4, e⟩ := told_p (n := n) (plain := plain) L hl hp hv
  refine ⟨t, ?_⟩
  rw [callM_at L.to (fill_self rfl)]
  show endF (exs (C P (n + 2)) b__law_told [some (.str (S l)), some v, some (.bl plain), none, none] h) = _
  rw [told_b, exs, ex, e]
  unfold toldR dueV
  by_cases hb : 10000 < l.length
  · rw [if_pos hb, if_pos hb, catch_long L]
    rfl
  · rw [if_neg hb, if_neg hb]
    cases q : bad sm l with
    | some k =>
      dsimp only
      rw [catch_inv L]
      rfl
    | none =>
      dsimp only
      cases q2 : (if plain then [] else ps).find? (fun i => !inR l.length i) with
      | some k =>
        dsimp only
        rw [catch_no L]
        rfl
      | none => rfl
/-! ### the law -/
theorem due_sok : (dueV l ps).all sok = true := by
  have fl : ∀ x : List Nat, x.all (· < 128) = true → PyData.strOk (S x) = true := fun x hx => by
    unfold PyData.strOk
    rw [← Array.all_toList]
    refine List.all_eq_true.mpr fun c hc => ?_
    have := List.all_eq_true.mp hx c hc
    simp at this ⊢
    omega
  unfold dueV
  split
  · simp only [List.all_cons, List.all_nil, sok, Bool.and_true]; exact fl long rfl
  · split
    · simp only [List.all_cons, List.all_nil, sok, Bool.and_true]; exact fl invalid rfl
    · rename_i q
      split
      · simp only [List.all_cons, List.all_nil, sok, Bool.and_true]; exact fl nons rfl
      · simp only [List.all_cons, List.all_nil, sok, Bool.and_true, Bool.and_eq_true]
        refine ⟨fl row rfl, fl _ (List.all_eq_true.mpr fun c hc => ?_)⟩
        obtain ⟨j, hj⟩ := List.mem_iff_getElem?.mp hc
        rw [slw_at] at hj
        cases e : l[j]? with
        | none => rw [e] at hj; cases hj
        | some d =>
          rw [e] at hj
          have h8 := sm_lt (bad_all q d (List.mem_of_getElem? e))
          simp only [Option.map_some, Option.some.injEq] at hj
          subst hj
          split
          · unfold PyProof.Rows.up1; split <;> simp <;> omega
          · simpa using h8
def dropS : Nat → MSs → MSs
  | 0, ss => ss
  | n + 1, .cons _ ss => dropS n ss
  | _, .nil => .nil
theorem law_end (L : LP P) {d k a w : Option MV} {p : Nat} (hl : l.length ≤ 100000) (hp : ps.length ≤ 100000) (e : h[p]? = some (MO.lst (ps.map MV.int))) :
    ∃ h', exs (C P (n + 3)) (dropS 6 b_law) [some (.ref 0), d, k, some (.str (S l)), some (.ref p), a, w, none] h = .ret (.bl true) h' := by
  have s0 : seqM h (.ref p) = some (ps.map .int) := seq_lst e
  have e1 : (h ++ [MO.lst (ps.map MV.int)])[p]? = some (MO.lst (ps.map MV.int)) := hp_get e
  obtain ⟨t1, a1⟩ := told_ok (n := n) (plain := false) (v := .ref h.length) (h := h ++ [MO.lst (ps.map MV.int)]) (ps := ps) L hl hp (seq_lst hp_last)
  obtain ⟨t2, a2⟩ := due_ok (n := n + 2) (v := .ref p) (h := h ++ [MO.lst (ps.map MV.int)] ++ t1) (ps := ps) L hl hp (seq_lst (hp_get e1))
  have q1 := eqM_tup (h := h ++ [MO.lst (ps.map MV.int)] ++ t1 ++ t2) (due_sok (l := l) (ps := ps))
  have q2 := eqM_lst (h := h ++ [MO.lst (ps.map MV.int)] ++ t1 ++ t2) (r := h.length) (t := p) (.inl (hp_get (hp_get hp_last))) (.inl (hp_get (hp_get e1))) (sok_ints ps)
  have e2 : (h ++ [MO.lst (ps.map MV.int)] ++ t1 ++ t2)[p]? = some (MO.lst (ps.map MV.int)) := hp_get (hp_get e1)
  obtain ⟨t3, a3⟩ := told_ok (n := n) (plain := false) (v := .tup (ps.map .int)) (h := h ++ [MO.lst (ps.map MV.int)] ++ t1 ++ t2) (ps := ps) L hl hp rfl
  obtain ⟨t4, a4⟩ := due_ok (n := n + 2) (v := .ref p) (h := h ++ [MO.lst (ps.map MV.int)] ++ t1 ++ t2 ++ t3) (ps := ps) L hl hp (seq_lst (hp_get e2))
  have q3 := eqM_tup (h := h ++ [MO.lst (ps.map MV.int)] ++ t1 ++ t2 ++ t3 ++ t4) (due_sok (l := l) (ps := ps))
  have e3 : (h ++ [MO.lst (ps.map MV.int)] ++ t1 ++ t2 ++ t3 ++ t4)[p]? = some (MO.lst (ps.map MV.int)) := hp_get (hp_get e2)
  obtain ⟨t5, a5⟩ := told_ok (n := n) (plain := true) (v := .ref p) (h := h ++ [MO.lst (ps.map MV.int)] ++ t1 ++ t2 ++ t3 ++ t4) (ps := ps) L hl hp (seq_lst e3)
  obtain ⟨t6, a6⟩ := due_ok (n := n + 2) (v := .ref (h ++ [MO.lst (ps.map MV.int)] ++ t1 ++ t2 ++ t3 ++ t4 ++ t5).length) (h := h ++ [MO.lst (ps.map MV.int)] ++ t1 ++ t2 ++ t3 ++ t4 ++ t5 ++ [MO.lst []]) (ps := []) L hl (by show 0 ≤ 100000; omega) (seq_lst hp_last)
  have q4 := eqM_tup (h := h ++ [MO.lst (ps.map MV.int)] ++ t1 ++ t2 ++ t3 ++ t4 ++ t5 ++ [MO.lst []] ++ t6) (due_sok (l := l) (ps := []))
  have tp := blt_tupL (C := C P (n + 3)) (seq_lst e2)
  have al : ∀ (o : MO) (h : MH), alloc o h = .ok (.ref h.length) (h ++ [o]) := fun o h => rfl
  have z0 : ([] : List MV).length ≤ line := by show 0 ≤ 16777216; omega
  simp only [Bool.false_eq_true, if_false, if_true] at a1 a3 a5
  refine ⟨h ++ [MO.lst (ps.map MV.int)] ++ t1 ++ t2 ++ t3 ++ t4 ++ t5 ++ [MO.lst []] ++ t6, ?_⟩
  simp only [b_law, dropS]
  simp -implicitDefEqProofs only [exs, ex, evT, ev, evs, evO, evI, evA, evB_1, evB_a, evB_o, asgq_name, asgq_tup, asgqs_nil, asgqs_cons, asgq_sub, slotO_0, slotO_n, slotO_s, List.set_cons_zero, List.set_cons_succ, bind_ok, bind_exc, bind_bad, of_some, of_none, Option.map_some, Option.map_none, truth_bl, cmp_gt, cmp_ge, cmp_lt, cmp_le, cmp_in, cmp_ni, cmp_eq, cmp_ne, b_add, b_sub, blt_listL s0, cfg_call, a1, a2, q1, q2, tp, a3, a4, q3, a5, al, z0, if_true, a6, q4, Bool.not_true]
def stN (i : Nat) : MS := match dropS i b_law with
  | .cons s _ => s
  | .nil => .unk
def sizes : List Int := [40, 10, 4, 4, 40, 10, 5, 3, 4] ++ List.replicate 10 40 ++ List.replicate 40 3
theorem S_abcb : Str.ofString "abcb" = S [97, 98, 99, 98] := by decide +kernel
theorem S_ABd : Str.ofString "ABd" = S [65, 66, 100] := by decide +kernel
theorem S_Z : Str.ofString "Z" = S [90] := by decide +kernel
/-- what the draws are -/
structure Dr (h : MH) (dr : Nat) (ds : List Int) : Prop where
  at_ : h[dr]? = some (.lst (ds.map .int))
  dn : Drawn ds sizes
theorem Dr.app {ds : List Int} {dr : Nat} {t : MH} (D : Dr h dr ds) : Dr (h ++ t) dr ds := ⟨hp_get D.at_, D.dn⟩
theorem Dr.sub {ds : List Int} {dr i : Nat} {z k : Int} (D : Dr h dr ds) (hk : k = (i : Int)) (hz : sizes[i]? = some z) : ∃ m : Nat, subM (.ref dr) (.int k) h = some (.int (m : Int)) ∧ (m : Int) < z := by
  obtain ⟨m, h1, h2⟩ := D.dn.get hz
  exact ⟨m, sub_d D.at_ hk h1, h2⟩
theorem abc_at {m : Nat} {x y z : Nat} (hm : (m : Int) < 3) : subM (.str (S [x, y, z])) (.int (m : Int)) h = some (sgn ([x, y, z].getD m 0)) := by
  refine at_S (by show 3 ≤ 16777216; omega) ?_
  match m, hm with
  | 0, _ => rfl
  | 1, _ => rfl
  | 2, _ => rfl
  | m + 3, hm => omega
theorem stage2 {ds : List Int} {dr : Nat} (L : LP P) (D : Dr h dr ds) : ∃ l t, ex (C P n) (stN 1) [some (.ref 0), some (.ref dr), none, none, none, none, none, none] h = .next [some (.ref 0), some (.ref dr), none, some (.str (S l)), none, none, none, none] (h ++ t) ∧ l.length ≤ 40 := by
  have hfu : (C P n).fuel = 1000000 := L.rp.fuel
  obtain ⟨m, e0, hm⟩ := D.sub (i := 0) (k := 0) rfl rfl
  have each : ∀ k : Nat, ∃ c, k < m → ev (C P n) p_law_0 [some (.ref 0), some (.ref dr), some (.int (k : Int)), none, none, none, none, none] h = .ok (sgn c) h := fun k => by
    by_cases hk : k < m
    · obtain ⟨c, e1, hc⟩ := D.sub (i := 19 + k) (k := 19 + (k : Int)) (by omega) (z := 3) (by
        have : 19 + k < 59 := by omega
        unfold sizes
        rw [List.getElem?_append_right (by first | (simp; done) | (simp; omega)), List.getElem?_replicate, if_pos (by first | (simp; done) | (simp; omega))])
      have e2 := abc_at (h := h) (x := 97) (y := 98) (z := 99) hc
      refine ⟨[97, 98, 99].getD c 0, fun _ => ?_⟩
      unfold p_law_0
      simp -implicitDefEqProofs only [exs, ex, evT, ev, evs, evO, evI, evA, evB_1, evB_a, evB_o, asgq_name, asgq_tup, asgqs_nil, asgqs_cons, asgq_sub, slotO_0, slotO_n, slotO_s, List.set_cons_zero, List.set_cons_succ, bind_ok, bind_exc, bind_bad, of_some, of_none, Option.map_some, Option.map_none, truth_bl, cmp_gt, cmp_ge, cmp_lt, cmp_le, cmp_in, cmp_ni, cmp_eq, cmp_ne, b_add, b_sub, S_abc, e1, e2]
    · exact ⟨0, fun z => absurd z hk⟩
  let code : Nat → Nat := fun k => Classical.choose (each k)
  have hcode := fun k => Classical.choose_spec (each k)
  have it : evI (C P n) (.rng (.cons (.sub (.var 1) (.int 0)) .nil)) [some (.ref 0), some (.ref dr), none, none, none, none, none, none] h = .ok (.rng 0 m) h := by
    have rg := rng_nat (show m < 1000000 by omega)
    simp -implicitDefEqProofs only [exs, ex, evT, ev, evs, evO, evI, evA, evB_1, evB_a, evB_o, asgq_name, asgq_tup, asgqs_nil, asgqs_cons, asgq_sub, slotO_0, slotO_n, slotO_s, List.set_cons_zero, List.set_cons_succ, bind_ok, bind_exc, bind_bad, of_some, of_none, Option.map_some, Option.map_none, truth_bl, cmp_gt, cmp_ge, cmp_lt, cmp_le, cmp_in, cmp_ni, cmp_eq, cmp_ne, b_add, b_sub, e0, rg]
  have lc := ev_lc (C := C P n) (x := Str.ofString "_law_k") (i := 2) (e := p_law_0) (ρ := [some (.ref 0), some (.ref dr), none, none, none, none, none, none]) (fun k => sgn (code k)) it (by rw [hfu]; omega) (by show m ≤ 16777216; omega) (fun k hk => hcode k hk)
  have sq : seqM (h ++ [MO.lst ((List.range m).map fun k => sgn (code k))]) (.ref h.length) = some (((List.range m).map code).map sgn) := by
    rw [seq_lst hp_last, List.map_map]
    rfl
  have hj := join_sgn sq (by simp; show m ≤ 16777216; omega)
  rw [← S_nil] at hj
  exact ⟨(List.range m).map code, _, ex_asg (ev_mth1 ev_str mthR_str lc hj), by simp; omega⟩
theorem stage3 {ds : List Int} {dr : Nat} (D : Dr h dr ds) (hl : l.length ≤ 40) : ∃ l' : List Nat, ex (C P n) (stN 2) [some (.ref 0), some (.ref dr), none, some (.str (S l)), none, none, none, none] h = .next [some (.ref 0), some (.ref dr), none, some (.str (S l')), none, none, none, none] h ∧ l'.length ≤ 20000 := by
  obtain ⟨m, e8, hm⟩ := D.sub (i := 8) (k := 8) rfl rfl
  obtain ⟨m2, e2, hm2⟩ := D.sub (i := 2) (k := 2) rfl rfl
  show ∃ l' : List Nat, ex (C P n) (.ifs (.cmp .Eq (.sub (.var 1) (.int 8)) (.int 1)) (.cons (.asg (.name 3) (.slc (.bin .Mult (.str (Str.ofString "abcb")) (.int 2600)) .none (.some (.bin .Add (.int 9999) (.sub (.var 1) (.int 2)))))) .nil) .nil) _ h = _ ∧ _
  have bm := b_mulS (x := [97, 98, 99, 98]) (k := 2600) (i := 2600) (h := h) rfl (by omega) (by show 4 * 2600 ≤ 16777216; omega)
  have bl : (List.replicate 2600 [97, 98, 99, 98]).flatten.length = 10400 := by simp
  have sl := fun hi => slc_S (x := (List.replicate 2600 [97, 98, 99, 98]).flatten) (lo := none) (hi := hi) (h := h) (by rw [bl]; show 10400 ≤ 16777216; omega)
  cases hb : ((m : Int) == 1) with
  | true =>
    refine ⟨cutN (List.replicate 2600 [97, 98, 99, 98]).flatten none (some (9999 + (m2 : Int))), ?_, ?_⟩
    · simp -implicitDefEqProofs only [exs, ex, evT, ev, evs, evO, evI, evA, evB_1, evB_a, evB_o, asgq_name, asgq_tup, asgqs_nil, asgqs_cons, asgq_sub, slotO_0, slotO_n, slotO_s, List.set_cons_zero, List.set_cons_succ, bind_ok, bind_exc, bind_bad, of_some, of_none, Option.map_some, Option.map_none, truth_bl, cmp_gt, cmp_ge, cmp_lt, cmp_le, cmp_in, cmp_ni, cmp_eq, cmp_ne, b_add, b_sub, e8, e2, eqM_int, hb, S_abcb, bm, sl]
    · have := cutN_len (List.replicate 2600 [97, 98, 99, 98]).flatten none (some (9999 + (m2 : Int)))
      rw [bl] at this
      omega
  | false =>
    refine ⟨l, ?_, by omega⟩
    simp -implicitDefEqProofs only [exs, ex, evT, ev, evs, evO, evI, evA, evB_1, evB_a, evB_o, asgq_name, asgq_tup, asgqs_nil, asgqs_cons, asgq_sub, slotO_0, slotO_n, slotO_s, List.set_cons_zero, List.set_cons_succ, bind_ok, bind_exc, bind_bad, of_some, of_none, Option.map_some, Option.map_none, truth_bl, cmp_gt, cmp_ge, cmp_lt, cmp_le, cmp_in, cmp_ni, cmp_eq, cmp_ne, b_add, b_sub, e8, e2, eqM_int, hb]
theorem stage4 {ds : List Int} {dr : Nat} (L : LP P) (D : Dr h dr ds) (hl : l.length ≤ 20000) : ∃ (ps : List Int) (t : MH), ex (C P n) (stN 3) [some (.ref 0), some (.ref dr), none, some (.str (S l)), none, none, none, none] h = .next [some (.ref 0), some (.ref dr), none, some (.str (S l)), some (.ref h.length), none, none, none] (h ++ [.lst (ps.map .int)]) ∧ ps.length ≤ 10 := by
  have hfu : (C P n).fuel = 1000000 := L.rp.fuel
  have hlen : lenM h (.str (S l)) = some l.length := len_S (by show l.length ≤ 16777216; omega)
  obtain ⟨m1, e1, hm1⟩ := D.sub (i := 1) (k := 1) rfl rfl
  obtain ⟨m, hmul, hm, hz⟩ : ∃ m : Nat, ((m1 : Int) * (if decide ((0 : Int) < (l.length : Int)) then 1 else 0)) = (m : Int) ∧ m ≤ m1 ∧ (0 < m → 0 < l.length) := by
    by_cases hp : 0 < l.length
    · refine ⟨m1, ?_, Nat.le_refl _, fun _ => hp⟩
      rw [decide_eq_true (by omega)]
      simp
    · refine ⟨0, ?_, Nat.zero_le _, fun z => absurd z (by omega)⟩
      rw [decide_eq_false (by omega)]
      simp
  have it : evI (C P n) (.rng (.cons (.bin .Mult (.sub (.var 1) (.int 1)) (.blt .int (.cons (.cmp .Gt (.blt .len (.cons (.var 3) .nil)) (.int 0)) .nil))) .nil)) [some (.ref 0), some (.ref dr), none, some (.str (S l)), none, none, none, none] h = .ok (.rng 0 m) h := by
    have rg := rng_nat (show m < 1000000 by omega)
    have cb := b_mul (h := h) (cmulB_l (i := (m1 : Int)) (j := if decide ((0 : Int) < (l.length : Int)) then 1 else 0) (by omega) (by omega))
    rw [hmul] at cb
    simp -implicitDefEqProofs only [exs, ex, evT, ev, evs, evO, evI, evA, evB_1, evB_a, evB_o, asgq_name, asgq_tup, asgqs_nil, asgqs_cons, asgq_sub, slotO_0, slotO_n, slotO_s, List.set_cons_zero, List.set_cons_succ, bind_ok, bind_exc, bind_bad, of_some, of_none, Option.map_some, Option.map_none, truth_bl, cmp_gt, cmp_ge, cmp_lt, cmp_le, cmp_in, cmp_ni, cmp_eq, cmp_ne, b_add, b_sub, e1, blt_len hlen, blt_intb, cb, rg]
  have each : ∀ k : Nat, ∃ v : Int, k < m → ev (C P n) p_law_1 [some (.ref 0), some (.ref dr), some (.int (k : Int)), some (.str (S l)), none, none, none, none] h = .ok (.int v) h := fun k => by
    by_cases hk : k < m
    · obtain ⟨c, ec, hc⟩ := D.sub (i := 9 + k) (k := 9 + (k : Int)) (by omega) (z := 40) (by
        unfold sizes
        rw [List.getElem?_append_left (by first | (simp; done) | (simp; omega)), List.getElem?_append_right (by simp), List.getElem?_replicate, if_pos (by first | (simp; done) | (simp; omega))])
      have cb := b_mul (h := h) (cmulB_r (i := (c : Int)) (j := 251) (by omega) (by omega))
      have md := b_mod (i := (c : Int) * 251) (j := (l.length : Int)) (h := h) (by have := hz (by omega); omega)
      refine ⟨((c : Int) * 251).fmod (l.length : Int), fun _ => ?_⟩
      unfold p_law_1
      simp -implicitDefEqProofs only [exs, ex, evT, ev, evs, evO, evI, evA, evB_1, evB_a, evB_o, asgq_name, asgq_tup, asgqs_nil, asgqs_cons, asgq_sub, slotO_0, slotO_n, slotO_s, List.set_cons_zero, List.set_cons_succ, bind_ok, bind_exc, bind_bad, of_some, of_none, Option.map_some, Option.map_none, truth_bl, cmp_gt, cmp_ge, cmp_lt, cmp_le, cmp_in, cmp_ni, cmp_eq, cmp_ne, b_add, b_sub, ec, cb, blt_int, blt_len hlen, md]
    · exact ⟨0, fun z => absurd z hk⟩
  let f : Nat → Int := fun k => Classical.choose (each k)
  have hf := fun k => Classical.choose_spec (each k)
  have lc := ev_lc (C := C P n) (x := Str.ofString "_law_k") (i := 2) (e := p_law_1) (ρ := [some (.ref 0), some (.ref dr), none, some (.str (S l)), none, none, none, none]) (fun k => .int (f k)) it (by rw [hfu]; omega) (by show m ≤ 16777216; omega) (fun k hk => hf k hk)
  refine ⟨(List.range m).map f, [], ?_, by simp; omega⟩
  rw [List.map_map]
  exact ex_asg lc
theorem stage5 {ds ps : List Int} {dr p : Nat} (D : Dr h dr ds) (hl : l.length ≤ 20000) (e : h[p]? = some (.lst (ps.map .int))) (hp : ps.length ≤ 10) : ∃ (ps' : List Int) (p' : Nat) (t : MH) (a w : Option MV), ex (C P n) (stN 4) [some (.ref 0), some (.ref dr), none, some (.str (S l)), some (.ref p), none, none, none] h = .next [some (.ref 0), some (.ref dr), none, some (.str (S l)), some (.ref p'), a, w, none] (h ++ t) ∧ (h ++ t)[p']? = some (.lst (ps'.map .int)) ∧ ps'.length ≤ 100 := by
  have hlen : ∀ h : MH, lenM h (.str (S l)) = some l.length := fun h => len_S (by show l.length ≤ 16777216; omega)
  obtain ⟨m, e2, hm⟩ := D.sub (i := 2) (k := 2) rfl rfl
  obtain ⟨m5, e5, hm5⟩ := D.sub (i := 5) (k := 5) rfl rfl
  cases hb : ((m : Int) == 1) with
  | false =>
    refine ⟨ps, p, [], none, none, ?_, by rw [List.append_nil]; exact e, by omega⟩
    show ex (C P n) (.ifs (.cmp .Eq (.sub (.var 1) (.int 2)) (.int 1)) _ .nil) _ h = _
    simp -implicitDefEqProofs only [exs, ex, evT, ev, evs, evO, evI, evA, evB_1, evB_a, evB_o, asgq_name, asgq_tup, asgqs_nil, asgqs_cons, asgq_sub, slotO_0, slotO_n, slotO_s, List.set_cons_zero, List.set_cons_succ, bind_ok, bind_exc, bind_bad, of_some, of_none, Option.map_some, Option.map_none, truth_bl, cmp_gt, cmp_ge, cmp_lt, cmp_le, cmp_in, cmp_ni, cmp_eq, cmp_ne, b_add, b_sub, e2, eqM_int, hb, List.append_nil]
  | true =>
    have md := b_mod (i := (m5 : Int)) (j := (ps.length : Int) + 1) (h := h) (by omega)
    have ln : lenM h (.ref p) = some ps.length := by rw [len_L e, List.length_map]
    obtain ⟨m4, e4, hm4⟩ := D.sub (i := 4) (k := 4) rfl rfl
    obtain ⟨m6, e6, hm6⟩ := D.sub (i := 6) (k := 6) rfl rfl
    obtain ⟨at_, hat⟩ : ∃ at_, at_ = (m5 : Int).fmod ((ps.length : Int) + 1) := ⟨_, rfl⟩
    rw [← hat] at md
    have z5 : ∀ a b c d e : MV, ([a, b, c, d, e] : List MV).length ≤ line := fun a b c d e => by show 5 ≤ 16777216; omega
    have z1 : ∀ a : MV, ([a] : List MV).length ≤ line := fun a => by show 1 ≤ 16777216; omega
    have al : ∀ (o : MO) (h : MH), alloc o h = .ok (.ref h.length) (h ++ [o]) := fun o h => rfl
    obtain ⟨W, hW⟩ : ∃ W : List Int, W = [-1, (l.length : Int), -2 - (m4 : Int), (l.length : Int) + (m4 : Int), 100000] := ⟨_, rfl⟩
    obtain ⟨w, hw⟩ : ∃ w, W[m6]? = some w := at_lt (by rw [hW]; show m6 < 5; omega)
    have aW : alloc (.lst [.int (-1), .int (l.length : Int), .int (-2 - (m4 : Int)), .int ((l.length : Int) + (m4 : Int)), .int 100000]) h = .ok (.ref h.length) (h ++ [.lst (W.map .int)]) := by rw [hW]; rfl
    obtain ⟨H1, hH1⟩ : ∃ H1, H1 = h ++ [MO.lst (W.map .int)] := ⟨_, rfl⟩
    rw [← hH1] at aW
    have D1 : Dr H1 dr ds := by rw [hH1]; exact D.app
    obtain ⟨m6', e6', _⟩ := D1.sub (i := 6) (k := 6) rfl rfl
    have em : m6' = m6 := by
      obtain ⟨z, h1, h2⟩ := D.dn.get (show sizes[6]? = some 5 from rfl)
      have a1 := sub_d D.at_ (k := 6) rfl h1
      have a2 := sub_d D1.at_ (k := 6) rfl h1
      rw [a1] at e6
      rw [a2] at e6'
      cases e6; cases e6'; rfl
    subst em
    have sW : subM (.ref h.length) (.int (m6' : Int)) H1 = some (.int w) := sub_d (by rw [hH1]; exact hp_last) rfl hw
    have p1 : H1[p]? = some (.lst (ps.map .int)) := by rw [hH1]; exact hp_get e
    obtain ⟨H2, hH2⟩ : ∃ H2, H2 = H1 ++ [MO.lst ((cutN ps none (some at_)).map .int)] := ⟨_, rfl⟩
    have s2 := slc_L (lo := none) (hi := some at_) p1
    rw [← hH2] at s2
    obtain ⟨H3, hH3⟩ : ∃ H3, H3 = H2 ++ [MO.lst [MV.int w]] := ⟨_, rfl⟩
    have s3 := al (.lst [.int w]) H2
    rw [← hH3] at s3
    have g3a : H3[H1.length]? = some (.lst ((cutN ps none (some at_)).map .int)) := by rw [hH3, hH2]; exact hp_get hp_last
    have g3b : H3[H2.length]? = some (.lst [.int w]) := by rw [hH3]; exact hp_last
    have p3 : H3[p]? = some (.lst (ps.map .int)) := by rw [hH3, hH2]; exact hp_get (hp_get p1)
    have c1 := cutN_len ps none (some at_)
    have c2 := cutN_len ps (some at_) none
    have s4 := b_addL g3a g3b (by simp; show _ + 1 ≤ 16777216; omega)
    obtain ⟨H4, hH4⟩ : ∃ H4, H4 = H3 ++ [MO.lst ((cutN ps none (some at_)).map MV.int ++ [MV.int w])] := ⟨_, rfl⟩
    rw [← hH4] at s4
    have p4 : H4[p]? = some (.lst (ps.map .int)) := by rw [hH4]; exact hp_get p3
    have s5 := slc_L (lo := some at_) (hi := none) p4
    obtain ⟨H5, hH5⟩ : ∃ H5, H5 = H4 ++ [MO.lst ((cutN ps (some at_) none).map .int)] := ⟨_, rfl⟩
    rw [← hH5] at s5
    have g5a : H5[H3.length]? = some (.lst ((cutN ps none (some at_)).map MV.int ++ [MV.int w])) := by rw [hH5, hH4]; exact hp_get hp_last
    have g5b : H5[H4.length]? = some (.lst ((cutN ps (some at_) none).map .int)) := by rw [hH5]; exact hp_last
    have s6 := b_addL g5a g5b (by simp; show _ + 1 + _ ≤ 16777216; omega)
    obtain ⟨H6, hH6⟩ : ∃ H6, H6 = H5 ++ [MO.lst ((cutN ps none (some at_)).map MV.int ++ [MV.int w] ++ (cutN ps (some at_) none).map MV.int)] := ⟨_, rfl⟩
    rw [← hH6] at s6
    have s7 := al (.lst [.int ((l.length : Int) + 7)]) H6
    obtain ⟨H7, hH7⟩ : ∃ H7, H7 = H6 ++ [MO.lst [MV.int ((l.length : Int) + 7)]] := ⟨_, rfl⟩
    rw [← hH7] at s7
    have g7a : H7[H5.length]? = some (.lst ((cutN ps none (some at_)).map MV.int ++ [MV.int w] ++ (cutN ps (some at_) none).map MV.int)) := by rw [hH7, hH6]; exact hp_get hp_last
    have g7b : H7[H6.length]? = some (.lst [.int ((l.length : Int) + 7)]) := by rw [hH7]; exact hp_last
    have s8 := b_addL g7a g7b (by simp; show _ + (_ + 1) + 1 ≤ 16777216; omega)
    refine ⟨cutN ps none (some at_) ++ [w] ++ cutN ps (some at_) none ++ [(l.length : Int) + 7], H7.length, [MO.lst (W.map .int), MO.lst ((cutN ps none (some at_)).map .int), MO.lst [MV.int w], MO.lst ((cutN ps none (some at_)).map MV.int ++ [MV.int w]), MO.lst ((cutN ps (some at_) none).map .int), MO.lst ((cutN ps none (some at_)).map MV.int ++ [MV.int w] ++ (cutN ps (some at_) none).map MV.int), MO.lst [MV.int ((l.length : Int) + 7)], MO.lst ((cutN ps none (some at_)).map MV.int ++ [MV.int w] ++ (cutN ps (some at_) none).map MV.int ++ [MV.int ((l.length : Int) + 7)])], some (.int at_), some (.int w), ?_, ?_, by simp only [List.length_append, List.length_cons, List.length_nil]; omega⟩
    · show ex (C P n) (.ifs (.cmp .Eq (.sub (.var 1) (.int 2)) (.int 1)) (.cons (.asg (.name 5) (.bin .Mod (.blt .int (.cons (.sub (.var 1) (.int 5)) .nil)) (.bin .Add (.blt .len (.cons (.var 4) .nil)) (.int 1)))) (.cons (.asg (.name 6) (.sub (.lst (.cons (.neg (.int 1)) (.cons (.blt .len (.cons (.var 3) .nil)) (.cons (.bin .Sub (.neg (.int 2)) (.sub (.var 1) (.int 4))) (.cons (.bin .Add (.blt .len (.cons (.var 3) .nil)) (.sub (.var 1) (.int 4))) (.cons (.int 100000) .nil)))))) (.sub (.var 1) (.int 6)))) (.cons (.asg (.name 4) (.bin .Add (.bin .Add (.bin .Add (.slc (.var 4) .none (.some (.var 5))) (.lst (.cons (.var 6) .nil))) (.slc (.var 4) (.some (.var 5)) .none)) (.lst (.cons (.bin .Add (.blt .len (.cons (.var 3) .nil)) (.int 7)) .nil)))) .nil))) .nil) _ h = _
      simp -implicitDefEqProofs only [exs, ex, evT, ev, evs, evO, evI, evA, evB_1, evB_a, evB_o, asgq_name, asgq_tup, asgqs_nil, asgqs_cons, asgq_sub, slotO_0, slotO_n, slotO_s, List.set_cons_zero, List.set_cons_succ, bind_ok, bind_exc, bind_bad, of_some, of_none, Option.map_some, Option.map_none, truth_bl, cmp_gt, cmp_ge, cmp_lt, cmp_le, cmp_in, cmp_ni, cmp_eq, cmp_ne, b_add, b_sub, e2, eqM_int, hb, e5, blt_int, blt_len ln, md, blt_len (hlen h), e4, z5, if_true, aW, e6', sW, s2, z1, s3, s4, s5, s6, blt_len (hlen H6), s7, s8]
      subst hH7 hH6 hH5 hH4 hH3 hH2 hH1
      simp
    · subst hH7 hH6 hH5 hH4 hH3 hH2 hH1
      rw [show (h ++ [MO.lst (W.map .int), MO.lst ((cutN ps none (some at_)).map .int), MO.lst [MV.int w], MO.lst ((cutN ps none (some at_)).map MV.int ++ [MV.int w]), MO.lst ((cutN ps (some at_) none).map .int), MO.lst ((cutN ps none (some at_)).map MV.int ++ [MV.int w] ++ (cutN ps (some at_) none).map MV.int), MO.lst [MV.int ((l.length : Int) + 7)], MO.lst ((cutN ps none (some at_)).map MV.int ++ [MV.int w] ++ (cutN ps (some at_) none).map MV.int ++ [MV.int ((l.length : Int) + 7)])] : MH) = (h ++ [MO.lst (W.map .int)] ++ [MO.lst ((cutN ps none (some at_)).map .int)] ++ [MO.lst [MV.int w]] ++ [MO.lst ((cutN ps none (some at_)).map MV.int ++ [MV.int w])] ++ [MO.lst ((cutN ps (some at_) none).map .int)] ++ [MO.lst ((cutN ps none (some at_)).map MV.int ++ [MV.int w] ++ (cutN ps (some at_) none).map MV.int)] ++ [MO.lst [MV.int ((l.length : Int) + 7)]]) ++ [MO.lst ((cutN ps none (some at_)).map MV.int ++ [MV.int w] ++ (cutN ps (some at_) none).map MV.int ++ [MV.int ((l.length : Int) + 7)])] by simp, hp_last]
      simp
theorem stage6 {ds : List Int} {dr : Nat} {p a w : Option MV} (D : Dr h dr ds) (hl : l.length ≤ 20000) : ∃ (l' : List Nat) (a' : Option MV), ex (C P n) (stN 5) [some (.ref 0), some (.ref dr), none, some (.str (S l)), p, a, w, none] h = .next [some (.ref 0), some (.ref dr), none, some (.str (S l')), p, a', w, none] h ∧ l'.length ≤ 100000 := by
  have hlen : ∀ h : MH, lenM h (.str (S l)) = some l.length := fun h => len_S (by show l.length ≤ 16777216; omega)
  obtain ⟨m, e3, hm⟩ := D.sub (i := 3) (k := 3) rfl rfl
  obtain ⟨m4, e4, hm4⟩ := D.sub (i := 4) (k := 4) rfl rfl
  obtain ⟨m7, e7, hm7⟩ := D.sub (i := 7) (k := 7) rfl rfl
  cases hb : ((m : Int) == 1) with
  | false =>
    refine ⟨l, a, ?_, by omega⟩
    show ex (C P n) (.ifs (.cmp .Eq (.sub (.var 1) (.int 3)) (.int 1)) _ .nil) _ h = _
    simp -implicitDefEqProofs only [exs, ex, evT, ev, evs, evO, evI, evA, evB_1, evB_a, evB_o, asgq_name, asgq_tup, asgqs_nil, asgqs_cons, asgq_sub, slotO_0, slotO_n, slotO_s, List.set_cons_zero, List.set_cons_succ, bind_ok, bind_exc, bind_bad, of_some, of_none, Option.map_some, Option.map_none, truth_bl, cmp_gt, cmp_ge, cmp_lt, cmp_le, cmp_in, cmp_ni, cmp_eq, cmp_ne, b_add, b_sub, e3, eqM_int, hb]
  | true =>
    have md := b_mod (i := (m4 : Int)) (j := (l.length : Int) + 1) (h := h) (by omega)
    have at7 := abc_at (h := h) (x := 65) (y := 66) (z := 100) hm7
    have sl := fun lo hi => slc_S (x := l) (lo := lo) (hi := hi) (h := h) (by show l.length ≤ 16777216; omega)
    have c1 := cutN_len l none (some ((m4 : Int).fmod ((l.length : Int) + 1)))
    have c2 := cutN_len l (some ((m4 : Int).fmod ((l.length : Int) + 1))) none
    have b1 := b_addS (x := cutN l none (some ((m4 : Int).fmod ((l.length : Int) + 1)))) (y := [[65, 66, 100].getD m7 0]) (h := h) (by show _ + 1 ≤ 16777216; omega)
    have b2 := b_addS (x := cutN l none (some ((m4 : Int).fmod ((l.length : Int) + 1))) ++ [[65, 66, 100].getD m7 0]) (y := cutN l (some ((m4 : Int).fmod ((l.length : Int) + 1))) none) (h := h) (by rw [List.length_append]; show _ + 1 + _ ≤ 16777216; omega)
    have b3 := b_addS (x := cutN l none (some ((m4 : Int).fmod ((l.length : Int) + 1))) ++ [[65, 66, 100].getD m7 0] ++ cutN l (some ((m4 : Int).fmod ((l.length : Int) + 1))) none) (y := [90]) (h := h) (by rw [List.length_append, List.length_append]; show _ + 1 + _ + 1 ≤ 16777216; omega)
    refine ⟨cutN l none (some ((m4 : Int).fmod ((l.length : Int) + 1))) ++ [[65, 66, 100].getD m7 0] ++ cutN l (some ((m4 : Int).fmod ((l.length : Int) + 1))) none ++ [90], some (.int ((m4 : Int).fmod ((l.length : Int) + 1))), ?_, by simp only [List.length_append, List.length_cons, List.length_nil]; omega⟩
    show ex (C P n) (.ifs (.cmp .Eq (.sub (.var 1) (.int 3)) (.int 1)) (.cons (.asg (.name 5) (.bin .Mod (.blt .int (.cons (.sub (.var 1) (.int 4)) .nil)) (.bin .Add (.blt .len (.cons (.var 3) .nil)) (.int 1)))) (.cons (.asg (.name 3) (.bin .Add (.bin .Add (.bin .Add (.slc (.var 3) .none (.some (.var 5))) (.sub (.str (Str.ofString "ABd")) (.sub (.var 1) (.int 7)))) (.slc (.var 3) (.some (.var 5)) .none)) (.str (Str.ofString "Z")))) .nil)) .nil) _ h = _
    simp -implicitDefEqProofs only [exs, ex, evT, ev, evs, evO, evI, evA, evB_1, evB_a, evB_o, asgq_name, asgq_tup, asgqs_nil, asgqs_cons, asgq_sub, slotO_0, slotO_n, slotO_s, List.set_cons_zero, List.set_cons_succ, bind_ok, bind_exc, bind_bad, of_some, of_none, Option.map_some, Option.map_none, truth_bl, cmp_gt, cmp_ge, cmp_lt, cmp_le, cmp_in, cmp_ni, cmp_eq, cmp_ne, b_add, b_sub, e3, eqM_int, hb, e4, blt_int, blt_len (hlen h), md, sl, S_ABd, e7, at7, b1, b2, S_Z, b3]
def SZ : ME := match stN 0 with
  | .asg _ (.call _ _ (.cons _ (.cons _ (.cons e _)))) => e
  | _ => .unk
theorem sz_ok {xs : List MV} : ∃ t, ev (C P n) SZ [some (.ref 0), none, none, none, none, none, none, none] [.rol xs] = .ok (.ref 7) (MO.rol xs :: t) ∧ t[6]? = some (.lst (sizes.map .int)) := by
  refine ⟨[.lst (([40, 10, 4, 4, 40, 10, 5, 3, 4] : List Int).map MV.int), .lst [.int 40], .lst ((List.replicate 10 (40 : Int)).map MV.int), .lst ((([40, 10, 4, 4, 40, 10, 5, 3, 4] : List Int) ++ List.replicate 10 (40 : Int)).map MV.int), .lst [.int 3], .lst ((List.replicate 40 (3 : Int)).map MV.int), .lst (sizes.map MV.int)], ?_, rfl⟩
  kernel_rfl
theorem law_ok (L : LP P) (ns : List Int) : ∃ h', callM P (n + 4) 21 [.ref 0] (scrM ns) = .ok (.bl true) h' := by
  rw [callM_at L.la (fill_self rfl)]
  show ∃ h', endF (exs (C P (n + 3)) b_law [some (.ref 0), none, none, none, none, none, none, none] [.rol (ns.map .int)]) = .ok (.bl true) h'
  obtain ⟨t0, z1, z2⟩ := sz_ok (P := P) (n := n + 3) (xs := ns.map .int)
  obtain ⟨ds, dn, dc⟩ := draw_call (P := P) (n := n + 2) (f := 18) (r := 0) (s := 7) (k := 0) (x := Str.ofString "_law_size") (h0 := MO.rol (ns.map .int) :: t0) (ns := ns) (sizes := sizes) L.dr rfl rfl rfl (by rw [L.rp.fuel]; omega) rfl (by simpa using z2) (by decide) (by decide)
  have e0 : ex (C P (n + 3)) (stN 0) [some (.ref 0), none, none, none, none, none, none, none] [.rol (ns.map .int)] = .next [some (.ref 0), some (.ref ((MO.rol (ns.map .int) :: t0).length + 1)), none, none, none, none, none, none] (MO.rol (ns.map .int) :: t0 ++ [.lst [], .lst (ds.map .int)]) := by
    show ex (C P (n + 3)) (.asg (.name 1) (.call (Str.ofString "_law_draws") 18 (.cons (.var 0) (.cons (.int 0) (.cons SZ .nil))))) _ _ = _
    simp -implicitDefEqProofs only [exs, ex, evT, ev, evs, evO, evI, evA, evB_1, evB_a, evB_o, asgq_name, asgq_tup, asgqs_nil, asgqs_cons, asgq_sub, slotO_0, slotO_n, slotO_s, List.set_cons_zero, List.set_cons_succ, bind_ok, bind_exc, bind_bad, of_some, of_none, Option.map_some, Option.map_none, truth_bl, cmp_gt, cmp_ge, cmp_lt, cmp_le, cmp_in, cmp_ni, cmp_eq, cmp_ne, b_add, b_sub, z1, cfg_call, dc]
  have D : Dr (MO.rol (ns.map .int) :: t0 ++ [.lst [], .lst (ds.map .int)]) ((MO.rol (ns.map .int) :: t0).length + 1) ds := ⟨hp_new (i := 1), dn⟩
  obtain ⟨l1, t1, s2, hl1⟩ := stage2 (n := n + 3) L D
  obtain ⟨l2, s3, hl2⟩ := stage3 (P := P) (n := n + 3) (l := l1) (D.app (t := t1)) hl1
  obtain ⟨ps, _, s4, hp⟩ := stage4 (n := n + 3) (l := l2) L (D.app (t := t1)) hl2
  obtain ⟨ps', p', t2, a, w, s5, g5, hp'⟩ := stage5 (P := P) (n := n + 3) (l := l2) (ps := ps) ((D.app (t := t1)).app (t := [.lst (ps.map .int)])) hl2 hp_last hp
  obtain ⟨l3, a', s6, hl3⟩ := stage6 (P := P) (n := n + 3) (l := l2) (p := some (.ref p')) (a := a) (w := w) (((D.app (t := t1)).app (t := [.lst (ps.map .int)])).app (t := t2)) hl2
  obtain ⟨h', s7⟩ := law_end (n := n) L (d := some (.ref ((MO.rol (ns.map .int) :: t0).length + 1))) (k := none) (a := a') (w := w) hl3 (by omega) g5
  refine ⟨h', ?_⟩
  have sp : b_law = .cons (stN 0) (.cons (stN 1) (.cons (stN 2) (.cons (stN 3) (.cons (stN 4) (.cons (stN 5) (dropS 6 b_law)))))) := rfl
  rw [sp, exs_at e0, exs_at s2, exs_at s3, exs_at s4, exs_at s5, exs_at s6, s7]
  rfl
end
theorem runs (ns : List Int) : ∃ h', callM prog 22 21 [.ref 0] (scrM ns) = .ok (.bl true) h' := law_ok (n := 18) LPp ns
end K05

set_option Elab.async false
set_option linter.all false
set_option maxRecDepth 100000
set_option maxHeartbeats 0
open PySem PySem.W PySem.Calls PyProof.Rows
namespace K05
abbrev R : PySem.W.OpenRow := PySem.W.OpenLaw.row PySem.Challenge.rw_quickharm_k05_row_paced
def file : PySem.Str := PySem.Challenge.rw_quickharm_k05_row_paced.prog.main.file
abbrev hk : PySem.W.Hook := Mi.hookM 6 file prog ds
def ob (s : PySem.W.SharedT) : Mi.AlM := Mi.obsM 6 file prog (HandSHeadRun.getT s)
theorem ob_eq (s : PySem.W.SharedT) : ob s = hk.obs s.abs := Mi.obsM_eq (HandSHeadRun.getT_eq s)
def loose : List PySem.Str := [(PySem.Str.ofString "_wall"), (PySem.Str.ofString "HarmError"), (PySem.Str.ofString "InvalidRow"), (PySem.Str.ofString "RowTooLong"), (PySem.Str.ofString "NoStep"), (PySem.Str.ofString "QUICK"), (PySem.Str.ofString "SLOW"), (PySem.Str.ofString "Row"), (PySem.Str.ofString "_law_draws"), (PySem.Str.ofString "_law_told"), (PySem.Str.ofString "_law_due")]
theorem run (w : World) : HandSHeadRun.RunEq R (PySem.W.view R.prog [14]) hk ob 4000 loose w := by
  intro os
  kernel_rfl
end K05
theorem PySem.Challenge.cw_quickharm_k05_row_paced_holds : PySem.Challenge.rw_quickharm_k05_row_paced.Holds := by
  w_on; o_law
  refine HandSHeadRun.head_any (r := OpenLaw.row PySem.Challenge.rw_quickharm_k05_row_paced) (q := view (OpenLaw.row PySem.Challenge.rw_quickharm_k05_row_paced).prog [14]) (H := K05.hk) (ob := K05.ob) (M := 4000) (loose := K05.loose) (d := HandSHeadRun.topDef (OpenLaw.row PySem.Challenge.rw_quickharm_k05_row_paced).prog 14) (kwd := []) K05.ob_eq
    (by kernel_rfl) (fun s => by kernel_rfl) K05.run (by kernel_rfl) (by kernel_rfl) (by kernel_rfl) (by rfl) (by first | assumption | decide +kernel) (by decide +kernel) ⟨rfl, rfl, rfl, rfl, rfl, by decide +kernel⟩ ?hw ?hc
  case hw => w_witness2
  case hc =>
    refine L2.walk_ofE (l := PySem.Challenge.rw_quickharm_k05_row_paced) (n := 63) (k := 2 * 21 + 3) (x := "_law_script") (CX := L2.CX0) rfl (by decide) (by kernel_rfl) ⟨rfl, by decide, by decide⟩ ?F (fun _ _ _ _ z => z)
    intro w mg fa h Y G hmg0
    obtain ⟨K, KX, c⟩ := Y
    have hmg : mg (PySem.Str.ofString "law") = some (.ref fa) := by
      have e : (HandSHeadRun.topDef (OpenLaw.row PySem.Challenge.rw_quickharm_k05_row_paced).prog 14).name = PySem.Str.ofString "law" := by kernel_rfl
      rw [← e]
      exact hmg0
    obtain ⟨fd, sp, hb, h1, h2⟩ := Mi.head_fn (P := K05.prog) (ds := K05.ds) (n := 21) (li := 21) (most := 63) (F := K05.f_law) (x := "_law_script") (y := PySem.Str.ofString "law") (file := K05.file) (Pr := (PySem.Challenge.rw_quickharm_k05_row_paced).prog) (w := w) rfl (by kernel_rfl) K05.ck K05.cg K05.bnd rfl rfl rfl (fun ns _ => K05.runs ns) KX G c rfl hmg
    exact ⟨K, fd, sp, KX, hb, h1, h2⟩

