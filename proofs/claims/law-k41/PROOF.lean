import PyProof.Rows.All
import Wide.All
import OpenK.AllK
import Wide.FinOn
import HandS.ForMost
import HandS.Walk
import HandS.Evl
import HandS.TupMul
import HandS.TupAny
import HandS.IsInst
import KE.GoesEnum
import KE.GoesMore
import KE.GoesZip
import KE.GoesDict
import KE.SortData
import HandS.Defaults
import KE.KDictDisplayH
import KE.KStateDown
import Lean
import HandS.Head0
import HandS.Head1
import HandS.Head2
import HandS.HeadEnd
import HandS.HeadHook1
import HandS.HeadHook2
import HandS.HeadHook3
import HandS.HeadHook4
import PySem.Challenge.RW_owncause_k41_whole_rules_are_couplings
set_option Elab.async false
set_option linter.all false
set_option maxRecDepth 100000
set_option maxHeartbeats 5000000
/-! walks over sources of several kinds: enumerate, zip -/
namespace K41
open PySem PySem.Spec PyProof.Rows L2

/-- what is walked: a list, a tuple, a text -/
inductive Kd where
  | lst (a : Addr)
  | tup (a : Addr)
  | txt (z : Str)
def Kd.v : Kd → V
  | .lst a => .ref a
  | .tup a => .ref a
  | .txt z => .str z
def Kd.its (K : PySem.W.Frag) (H : Hp) : Kd → List V → Prop
  | .lst a, xs => SqL K H a xs
  | .tup a, xs => SqT K H a xs
  | .txt z, xs => xs = z.cps.toList.map fun c => V.str ⟨#[c]⟩
def Kd.st (it : Addr) (i : Nat) (h : Heap) : Kd → Prop
  | .lst a => h.IsListIter it a i
  | .tup a => h.IsTupleIter it a i
  | .txt z => ∃ t, h.IsStrIter it (strIterType z) z t i
def Kd.adr : Kd → Option Addr
  | .lst a => some a
  | .tup a => some a
  | .txt _ => none

section
variable {X : Cx} {H : Hp} {σ : L2.St} {s : Shared} {pins : List (Addr × Obj)}
theorem sql_ne {a b : Addr} {xs : List V} (I : Inv X pins σ H s) (h : SqL X.K H a xs) (f : FpOk X pins H b) : a ≠ b := by
  intro e
  subst e
  rcases h with (h | ⟨o, h⟩) | ⟨o, its, n, hk, _⟩
  · rw [f.1] at h; cases h
  · rw [f.1] at h; cases h
  · have hb := I.mod.kin a o hk
    obtain ⟨h0, _⟩ := I.ok.bs a o hb
    rcases f.2.2.2.1 with q | q
    · exact I.ok.noex a o hb q
    · exact absurd (Nat.lt_of_lt_of_le (Heap.lt_size h0) q) (Nat.lt_irrefl _)
theorem sqt_ne {a b : Addr} {xs : List V} (I : Inv X pins σ H s) (h : SqT X.K H a xs) (f : FpOk X pins H b) : a ≠ b := by
  intro e
  subst e
  rcases h with (h | ⟨o, h⟩) | ⟨o, its, n, hk, _⟩
  · rw [f.1] at h; cases h
  · rw [f.1] at h; cases h
  · have hb := I.mod.kin a o hk
    obtain ⟨h0, _⟩ := I.ok.bs a o hb
    rcases f.2.2.2.1 with q | q
    · exact I.ok.noex a o hb q
    · exact absurd (Nat.lt_of_lt_of_le (Heap.lt_size h0) q) (Nat.lt_irrefl _)
theorem Kd.inj {k : Kd} {xs ys : List V} (I : Inv X pins σ H s) (h : k.its X.K H xs) (h' : k.its X.K H ys) : xs = ys := by
  cases k with
  | lst a => exact I.list_inj h h'
  | tup a => exact I.tuple_inj h h'
  | txt z => exact (show xs = _ from h).trans (show ys = _ from h').symm
/-- its iterator draws its items -/
theorem Kd.draw {k : Kd} {xs : List V} {it : Addr} {i : Nat} (I : Inv X pins σ H s) (hc : X.calm = true) (hi : k.its X.K H xs) (st : k.st it i s.heap) (f : FpOk X pins H it) :
    ∃ (fp : List Addr) (Pp : Nat → Value → Prop) (St : Nat → Heap → Prop), Draws X.prog X.w X.A.in1 it fp xs.length Pp St ∧ St i s.heap ∧ it ∈ fp ∧ (∀ j h', St j h' → k.st it j h') ∧
      (∀ j v, Pp j v → ∃ x, xs[j]? = some x ∧ RelV x v) ∧ ∀ b, FpOk X pins H b → b ≠ it → b ∉ fp := by
  have hh : X.A.in1.handled = none := I.ok.hd hc
  cases k with
  | lst a =>
    obtain ⟨its, rv, p, hz⟩ := I.list hi
    have hne : a ≠ it := sql_ne I hi f
    have e := rv.length
    refine ⟨[it, a], (fun i v => its.toArray[i]? = some v), (fun i h => h.IsListIter it a i ∧ h.IsList a its.toArray), ?_, ⟨st, p.isList⟩, ?_, fun j h' q => q.1, fun j v q => ?_, fun b fb nb hb => ?_⟩
    · have D := Draws.list (prog := X.prog) (w := X.w) hh it a hne its.toArray
      rw [List.size_toArray, ← e] at D
      exact D
    · simp
    · have q' : its[j]? = some v := by simpa using q
      have hj : j < its.length := (List.getElem?_eq_some_iff.mp q').1
      have hj2 : j < xs.length := by omega
      obtain ⟨u, hu, ru⟩ := rv.get (List.getElem?_eq_getElem hj2)
      rw [q'] at hu
      cases hu
      exact ⟨_, List.getElem?_eq_getElem hj2, ru⟩
    · have e' : b = it ∨ b = a := by simpa using hb
      rcases e' with z | z
      · exact nb z
      · exact sql_ne I hi fb z.symm
  | tup a =>
    obtain ⟨its, rv, p, hz⟩ := I.tuple hi
    have hne : a ≠ it := sqt_ne I hi f
    have e := rv.length
    refine ⟨[it, a], (fun i v => its.toArray[i]? = some v), (fun i h => h.IsTupleIter it a i ∧ h.IsTuple a its.toArray), ?_, ⟨st, p⟩, ?_, fun j h' q => q.1, fun j v q => ?_, fun b fb nb hb => ?_⟩
    · have D := Draws.tuple (prog := X.prog) (w := X.w) hh it a hne its.toArray
      rw [List.size_toArray, ← e] at D
      exact D
    · simp
    · have q' : its[j]? = some v := by simpa using q
      have hj : j < its.length := (List.getElem?_eq_some_iff.mp q').1
      have hj2 : j < xs.length := by omega
      obtain ⟨u, hu, ru⟩ := rv.get (List.getElem?_eq_getElem hj2)
      rw [q'] at hu
      cases hu
      exact ⟨_, List.getElem?_eq_getElem hj2, ru⟩
    · have e' : b = it ∨ b = a := by simpa using hb
      rcases e' with z | z
      · exact nb z
      · exact sqt_ne I hi fb z.symm
  | txt z =>
    obtain ⟨t, st⟩ := st
    have hi' : xs = z.cps.toList.map fun c => V.str ⟨#[c]⟩ := hi
    subst hi'
    refine ⟨[it], (fun i v => ∃ c u, z.cps[i]? = some c ∧ v = .str ⟨#[c]⟩ u), (fun i h => h.IsStrIter it (strIterType z) z t i), ?_, st, ?_, fun j h' q => ⟨t, q⟩, fun j v q => ?_, fun b fb nb hb => ?_⟩
    · have D := Draws.text (prog := X.prog) (w := X.w) hh it z t
      have e : (z.cps.toList.map fun c => V.str ⟨#[c]⟩).length = z.cps.size := by simp
      rw [← e] at D
      exact D
    · simp
    · obtain ⟨c, u, hcx, rfl⟩ := q
      refine ⟨.str ⟨#[c]⟩, ?_, ⟨u, rfl⟩⟩
      simp [hcx]
    · exact nb (by simpa using hb)
end

/-- tuples that are made turn by turn -/
def Jt (go : Nat → Hp → Prop) (Y : Nat → Hp → List V → Prop) (stop : Nat → Hp → Prop) : It :=
  ⟨go, fun i H v H' => ∃ T xs, v = .ref T ∧ H T = none ∧ H' = upd H T (.tup xs) ∧ Y i H xs, stop⟩
/-- a turn, from what the library says of its iterator -/
theorem turn_W {P : Program} {w : World} {K : PySem.W.Frag} {elts : List Expr} {kk : Nat} {tpos : Pos} {it : Addr} {fp : List Addr} {go stop : Nat → Hp → Prop} {Y : Nat → Hp → List V → Prop} {tn : Nat → Heap → Prop}
    (mem : it ∈ fp) (obj : ∀ i h, tn i h → ∀ b ∈ fp, ∃ o, h.get? b = some o ∧ ∀ v, o.data ≠ .cell v) (keep : ∀ i h h', tn i h → (∀ b ∈ fp, ∀ o, h.get? b = some o → h'.get? b = some o) → tn i h')
    (B : ∀ (X : Cx), X.prog = P → X.w = w → X.K = K → X.calm = true → ∀ (i : Nat) (pins : List (Addr × Obj)) (s : Shared) (σ : L2.St) (H : Hp), Inv X pins σ H s → (∀ b ∈ fp, FpOk X pins H b) → tn i s.heap → (go i H ∨ stop i H) →
      ∃ (fp' wr : List Addr) (n : Nat) (Pt : Nat → Array Value → Prop) (St : Nat → Heap → Prop) (Mid : Nat → Addr → Heap → Prop), WalksT P w X.A it fp' wr n Pt St Mid ∧ (∀ b ∈ wr, b ∈ fp) ∧ St i s.heap ∧ (go i H → i < n) ∧ (stop i H → i = n) ∧
        (∀ h', St (i + 1) h' → tn (i + 1) h') ∧ ∀ vals, i < n → Pt i vals → ∃ xs, xs.length ≤ sizeLine ∧ Vals xs vals.toList ∧ Y i H xs)
    (self : ∀ (A : Around) (i : Nat) (s : Shared) (Q : Value → Shared → Prop) (E : Value → Shared → Prop), tn i s.heap → Q (.ref it) s → wpAny (model P w) A (pyIter (.ref it)) Q E s) :
    Turn P w K (.Tuple elts kk tpos) (Jt go Y stop) fp it tn where
  mem := mem
  obj := obj
  keep := keep
  self := self
  item := by
    intro X pe we ke calm i pins s σ H _ I hf st hg
    obtain ⟨fp', wr, n, Pt, St, Mid, W, hwr, hst, h1, h2, h3, h4⟩ := B X pe we ke calm i pins s σ H I hf st (.inl hg)
    subst pe we ke
    have hb : ∀ b ∈ fp, b < s.heap.objs.size := fun b hb => by
      obtain ⟨o, e, _⟩ := obj i _ st b hb
      exact Heap.lt_size e
    refine wpAny_with_toks (n := s.toks) (Nat.le_refl _) (W.item i s _ _ (h1 hg) hst fun T vals h' tk hP hT hTv hm hk htk => ?_)
    refine ⟨.ref T, rfl, W.go elts kk tpos i T { s with heap := h', toks := tk } _ _ hm fun h2' st2 hk2 => ?_⟩
    obtain ⟨xs, hxl, hxv, hy⟩ := h4 vals (h1 hg) hP
    have hT2 : IsTup h2' T vals := hTv.at fun o e => hk2 T o (W.apart i T h' hm) e
    have new : ObjOk X.prog X.w (upd H T (.tup xs)) h2' T (.tup xs) := ⟨hxl, vals.toList, hxv, by simpa using hT2⟩
    have I1 : Inv X pins σ (upd H T (.tup xs)) { s with heap := h2', toks := tk } :=
      I.turnedNew (ch := fp) (fun b ob hb' q => hk2 b ob (fun z => hb' (hwr b z)) (hk b ob (fun z => hb' (hwr b z)) q)) hf hT new
    refine ⟨.ref T, _, I1, rfl, ⟨T, xs, rfl, I.hok.fresh hT, rfl, hy⟩, h3 _ st2, fun b hbm => ?_⟩
    rw [upd_ne (Nat.ne_of_lt (Nat.lt_of_lt_of_le (hb b hbm) hT))]
    exact (hf b hbm).1
  done := by
    intro X pe we ke calm i pins s σ H _ I hf st hg
    obtain ⟨fp', wr, n, Pt, St, Mid, W, hwr, hst, h1, h2, h3, h4⟩ := B X pe we ke calm i pins s σ H I hf st (.inr hg)
    subst pe we ke
    have e := h2 hg
    subst e
    exact W.done s _ _ hst fun h' tk hk => ⟨rfl, I.turnedL (t' := tk) (ch := fp) (fun b ob hb' q => hk b ob (fun z => hb' (hwr b z)) q) hf⟩

/-! ### enumerate -/
theorem noCell {h : Heap} {a : Addr} {o : Obj} (at_ : h.get? a = some o) (n : ∀ v, o.data ≠ .cell v) : ∃ o, h.get? a = some o ∧ ∀ v, o.data ≠ .cell v := ⟨o, at_, n⟩
def Jen (K : PySem.W.Frag) (k : Kd) : It :=
  Jt (fun i H => ∃ xs, k.its K H xs ∧ i < xs.length) (fun i H ys => ∃ x, ys = [.int (i : Nat), x] ∧ ∀ xs, k.its K H xs → xs[i]? = some x) (fun i H => ∃ xs, k.its K H xs ∧ i = xs.length)
theorem Kd.st_obj {k : Kd} {it : Addr} {i : Nat} {h : Heap} (st : k.st it i h) : ∃ o, h.get? it = some o ∧ ∀ v, o.data ≠ .cell v := by
  cases k with
  | lst a => obtain ⟨o, ho, hc, hd⟩ := st; exact ⟨o, ho, fun v q => by rw [hd] at q; cases q⟩
  | tup a => obtain ⟨o, ho, hc, hd⟩ := st; exact ⟨o, ho, fun v q => by rw [hd] at q; cases q⟩
  | txt z => obtain ⟨t, o, ho, hc, hd⟩ := st; exact ⟨o, ho, fun v q => by rw [hd] at q; cases q⟩
theorem Kd.st_keep {k : Kd} {it : Addr} {i : Nat} {h h' : Heap} (st : k.st it i h) (e : ∀ o, h.get? it = some o → h'.get? it = some o) : k.st it i h' := by
  cases k with
  | lst a => obtain ⟨o, ho, r⟩ := st; exact ⟨o, e o ho, r⟩
  | tup a => obtain ⟨o, ho, r⟩ := st; exact ⟨o, e o ho, r⟩
  | txt z => obtain ⟨t, o, ho, r⟩ := st; exact ⟨t, o, e o ho, r⟩
theorem turn_en {P : Program} {w : World} {K : PySem.W.Frag} {elts : List Expr} {kk : Nat} {tpos : Pos} (k : Kd) (e it : Addr) (hne : e ≠ it) :
    Turn P w K (.Tuple elts kk tpos) (Jen K k) [e, it] e (fun i h => (∃ old, IsEnum h e it ((0 : Int) + (i : Int)) old) ∧ k.st it i h) := by
  refine turn_W (by simp) (fun i h st b hb => ?_) (fun i h h' st kp => ?_) (fun X hP hw hK hc i pins s σ H I hf st hg => ?_) (fun A i s Q E st h => ?_)
  · obtain ⟨⟨old, he⟩, hk⟩ := st
    rcases (show b = e ∨ b = it by simpa using hb) with rfl | rfl
    · exact noCell he fun v => by intro q; cases q
    · exact Kd.st_obj hk
  · obtain ⟨⟨old, he⟩, hk⟩ := st
    exact ⟨⟨old, kp e (by simp) _ he⟩, Kd.st_keep hk fun o q => kp it (by simp) o q⟩
  · subst hP hw hK
    obtain ⟨⟨old, he⟩, hk⟩ := st
    have hx : ∃ xs, k.its X.K H xs := by
      rcases hg with ⟨xs, h, _⟩ | ⟨xs, h, _⟩ <;> exact ⟨xs, h⟩
    obtain ⟨xs, hx⟩ := hx
    obtain ⟨fp, Pp, St, D, hst, hm, h1, h2, h3⟩ := Kd.draw I hc hx hk (hf it (by simp))
    refine ⟨_, _, _, _, _, _, WalksT.enumFrom 0 D e hne (h3 e (hf e (by simp)) hne) hm, fun b hb => hb, ⟨⟨old, he⟩, hst⟩, fun g => ?_, fun g => ?_, fun h' st' => ⟨st'.1, h1 _ _ st'.2⟩, fun vals hi hv => ?_⟩
    · obtain ⟨ys, hy, hl⟩ := g
      rw [Kd.inj I hx hy]
      exact hl
    · obtain ⟨ys, hy, hl⟩ := g
      rw [Kd.inj I hx hy]
      exact hl
    · obtain ⟨t, v, hp, rfl⟩ := hv
      obtain ⟨x, hxx, rx⟩ := h2 _ _ hp
      refine ⟨[.int (i : Nat), x], (by show 2 ≤ sizeLine; decide), .cons ⟨t, by rw [Int.zero_add]⟩ (.cons rx .nil), x, rfl, fun ys hy => ?_⟩
      rw [← Kd.inj I hx hy]
      exact hxx
  · obtain ⟨⟨old, he⟩, _⟩ := st
    exact wpAny_pyIter_enum he h
theorem walk_en {K : PySem.W.Frag} {k : Kd} {xs : List V} : Walk (Jen K k) xs.length (fun H => k.its K H xs) (YPair (fun i => some (.int (i : Nat))) (fun i => xs[i]?)) :=
  ⟨fun i H hi g => ⟨xs, g, hi⟩, fun H g => ⟨xs, g, rfl⟩, fun i H v H' hi g y => by
    obtain ⟨T, ys, e1, e2, e3, x, e4, e5⟩ := y
    subst e4
    exact ⟨T, _, x, e1, e2, e3, rfl, e5 xs g⟩⟩

/-! ### zip -/
def Jz2 (K : PySem.W.Frag) (k1 k2 : Kd) : It :=
  Jt (fun i H => ∃ xs ys, k1.its K H xs ∧ k2.its K H ys ∧ i < min xs.length ys.length) (fun i H zs => ∃ x y, zs = [x, y] ∧ (∀ xs, k1.its K H xs → xs[i]? = some x) ∧ ∀ ys, k2.its K H ys → ys[i]? = some y)
    (fun i H => ∃ xs ys, k1.its K H xs ∧ k2.its K H ys ∧ i = min xs.length ys.length)
theorem turn_z2 {P : Program} {w : World} {K : PySem.W.Frag} {elts : List Expr} {kk : Nat} {tpos : Pos} (k1 k2 : Kd) (z TI TO i1 i2 : Addr) (nd : [z, TI, TO, i1, i2].Nodup) :
    Turn P w K (.Tuple elts kk tpos) (Jz2 K k1 k2) [z, TI, TO, i1, i2] z (fun i h => IsZip h z TI TO .none ∧ IsTupOf2 h TI (.ref i1) (.ref i2) ∧ (∃ a1 a2, IsTupOf2 h TO a1 a2) ∧ k1.st i1 i h ∧ k2.st i2 i h) := by
  have nd' := nd
  simp only [List.nodup_cons, List.mem_cons, List.not_mem_nil, or_false, not_or, List.nodup_nil, and_true] at nd'
  obtain ⟨⟨n1, n2, n3, n4⟩, ⟨n5, n6, n7⟩, ⟨n8, n9⟩, n10⟩ := nd'
  refine turn_W (by simp) (fun i h st b hb => ?_) (fun i h h' st kp => ?_) (fun X hP hw hK hc i pins s σ H I hf st hg => ?_) (fun A i s Q E st h => ?_)
  · obtain ⟨hz, hTI, ⟨a1, a2, hTO⟩, s1, s2⟩ := st
    rcases (show b = z ∨ b = TI ∨ b = TO ∨ b = i1 ∨ b = i2 by simpa using hb) with rfl | rfl | rfl | rfl | rfl
    · exact noCell hz fun v => by intro q; cases q
    · exact noCell hTI fun v => by intro q; cases q
    · exact noCell hTO fun v => by intro q; cases q
    · exact Kd.st_obj s1
    · exact Kd.st_obj s2
  · obtain ⟨hz, hTI, ⟨a1, a2, hTO⟩, s1, s2⟩ := st
    exact ⟨kp z (by simp) _ hz, kp TI (by simp) _ hTI, ⟨a1, a2, kp TO (by simp) _ hTO⟩, Kd.st_keep s1 fun o q => kp i1 (by simp) o q, Kd.st_keep s2 fun o q => kp i2 (by simp) o q⟩
  · subst hP hw hK
    obtain ⟨hz, hTI, ⟨a1, a2, hTO⟩, s1, s2⟩ := st
    have hx : ∃ xs ys, k1.its X.K H xs ∧ k2.its X.K H ys := by
      rcases hg with ⟨xs, ys, h, h', _⟩ | ⟨xs, ys, h, h', _⟩ <;> exact ⟨xs, ys, h, h'⟩
    obtain ⟨xs, ys, hx, hy⟩ := hx
    obtain ⟨fp1, P1, St1, D1, hst1, hm1, u1, u2, u3⟩ := Kd.draw I hc hx s1 (hf i1 (by simp))
    obtain ⟨fp2, P2, St2, D2, hst2, hm2, v1, v2, v3⟩ := Kd.draw I hc hy s2 (hf i2 (by simp))
    have fz := hf z (by simp)
    have fTO := hf TO (by simp)
    have f1 := hf i1 (by simp)
    have f2 := hf i2 (by simp)
    have S : ZipSep2 z TI TO i1 i2 fp1 fp2 :=
      { TIz := Ne.symm n1, TOz := Ne.symm n2, TITO := n5, TIi1 := n6, mem1 := hm1, zf1 := u3 z fz n3, Tf1 := u3 TO fTO n8, TIi2 := n7, mem2 := hm2, zf2 := v3 z fz n4, Tf2 := v3 TO fTO n9,
        sep1_2 := v3 i1 f1 n10.1, sep2_1 := u3 i2 f2 (Ne.symm n10.1) }
    refine ⟨_, _, _, _, _, _, WalksT.zipD2 S D1 D2, fun b hb => by simp at hb ⊢; rcases hb with q | q | q | q <;> simp [q], ⟨hz, hTI, ⟨a1, a2, hTO⟩, hst1, hst2⟩, fun g => ?_, fun g => ?_,
      fun h' st' => ⟨st'.1, st'.2.1, st'.2.2.1, u1 _ _ st'.2.2.2.1, v1 _ _ st'.2.2.2.2⟩, fun vals hi hv => ?_⟩
    · obtain ⟨xs', ys', hx', hy', hl⟩ := g
      rw [Kd.inj I hx hx', Kd.inj I hy hy']
      exact hl
    · obtain ⟨xs', ys', hx', hy', hl⟩ := g
      rw [Kd.inj I hx hx', Kd.inj I hy hy']
      exact hl
    · obtain ⟨x1, x2, p1, p2, rfl⟩ := hv
      obtain ⟨x, hxx, rx⟩ := u2 _ _ p1
      obtain ⟨y, hyy, ry⟩ := v2 _ _ p2
      refine ⟨[x, y], (by show 2 ≤ sizeLine; decide), .cons rx (.cons ry .nil), x, y, rfl, fun ys' hy' => ?_, fun ys' hy' => ?_⟩
      · rw [← Kd.inj I hx hy']
        exact hxx
      · rw [← Kd.inj I hy hy']
        exact hyy
  · exact wpAny_pyIter_zip st.1 h
theorem walk_z2 {K : PySem.W.Frag} {k1 k2 : Kd} {xs ys : List V} : Walk (Jz2 K k1 k2) (min xs.length ys.length) (fun H => k1.its K H xs ∧ k2.its K H ys) (YPair (fun i => xs[i]?) (fun i => ys[i]?)) :=
  ⟨fun i H hi g => ⟨xs, ys, g.1, g.2, hi⟩, fun H g => ⟨xs, ys, g.1, g.2, rfl⟩, fun i H v H' hi g y => by
    obtain ⟨T, zs, e1, e2, e3, x, y, e4, e5, e6⟩ := y
    subst e4
    exact ⟨T, x, y, e1, e2, e3, e5 xs g.1, e6 ys g.2⟩⟩

def Jz3 (K : PySem.W.Frag) (k1 k2 k3 : Kd) : It :=
  Jt (fun i H => ∃ xs ys zs, k1.its K H xs ∧ k2.its K H ys ∧ k3.its K H zs ∧ i < min (min xs.length ys.length) zs.length)
    (fun i H ws => ∃ x y z, ws = [x, y, z] ∧ (∀ xs, k1.its K H xs → xs[i]? = some x) ∧ (∀ ys, k2.its K H ys → ys[i]? = some y) ∧ ∀ zs, k3.its K H zs → zs[i]? = some z)
    (fun i H => ∃ xs ys zs, k1.its K H xs ∧ k2.its K H ys ∧ k3.its K H zs ∧ i = min (min xs.length ys.length) zs.length)
theorem turn_z3 {P : Program} {w : World} {K : PySem.W.Frag} {elts : List Expr} {kk : Nat} {tpos : Pos} (k1 k2 k3 : Kd) (z TI TO i1 i2 i3 : Addr) (nd : [z, TI, TO, i1, i2, i3].Nodup) :
    Turn P w K (.Tuple elts kk tpos) (Jz3 K k1 k2 k3) [z, TI, TO, i1, i2, i3] z (fun i h => IsZip h z TI TO .none ∧ IsTupOf3 h TI (.ref i1) (.ref i2) (.ref i3) ∧ (∃ a1 a2 a3, IsTupOf3 h TO a1 a2 a3) ∧ k1.st i1 i h ∧ k2.st i2 i h ∧ k3.st i3 i h) := by
  have nd' := nd
  simp only [List.nodup_cons, List.mem_cons, List.not_mem_nil, or_false, not_or, List.nodup_nil, and_true] at nd'
  obtain ⟨⟨n1, n2, n3, n4, n4'⟩, ⟨n5, n6, n7, n7'⟩, ⟨n8, n9, n9'⟩, ⟨n10, n11⟩, n12⟩ := nd'
  refine turn_W (by simp) (fun i h st b hb => ?_) (fun i h h' st kp => ?_) (fun X hP hw hK hc i pins s σ H I hf st hg => ?_) (fun A i s Q E st h => ?_)
  · obtain ⟨hz, hTI, ⟨a1, a2, a3, hTO⟩, s1, s2, s3⟩ := st
    rcases (show b = z ∨ b = TI ∨ b = TO ∨ b = i1 ∨ b = i2 ∨ b = i3 by simpa using hb) with rfl | rfl | rfl | rfl | rfl | rfl
    · exact noCell hz fun v => by intro q; cases q
    · exact noCell hTI fun v => by intro q; cases q
    · exact noCell hTO fun v => by intro q; cases q
    · exact Kd.st_obj s1
    · exact Kd.st_obj s2
    · exact Kd.st_obj s3
  · obtain ⟨hz, hTI, ⟨a1, a2, a3, hTO⟩, s1, s2, s3⟩ := st
    exact ⟨kp z (by simp) _ hz, kp TI (by simp) _ hTI, ⟨a1, a2, a3, kp TO (by simp) _ hTO⟩, Kd.st_keep s1 fun o q => kp i1 (by simp) o q, Kd.st_keep s2 fun o q => kp i2 (by simp) o q, Kd.st_keep s3 fun o q => kp i3 (by simp) o q⟩
  · subst hP hw hK
    obtain ⟨hz, hTI, ⟨a1, a2, a3, hTO⟩, s1, s2, s3⟩ := st
    have hx : ∃ xs ys zs, k1.its X.K H xs ∧ k2.its X.K H ys ∧ k3.its X.K H zs := by
      rcases hg with ⟨xs, ys, zs, h, h', h'', _⟩ | ⟨xs, ys, zs, h, h', h'', _⟩ <;> exact ⟨xs, ys, zs, h, h', h''⟩
    obtain ⟨xs, ys, zs, hx, hy, hw⟩ := hx
    obtain ⟨fp1, P1, St1, D1, hst1, hm1, u1, u2, u3⟩ := Kd.draw I hc hx s1 (hf i1 (by simp))
    obtain ⟨fp2, P2, St2, D2, hst2, hm2, v1, v2, v3⟩ := Kd.draw I hc hy s2 (hf i2 (by simp))
    obtain ⟨fp3, P3, St3, D3, hst3, hm3, w1, w2, w3⟩ := Kd.draw I hc hw s3 (hf i3 (by simp))
    have fz := hf z (by simp)
    have fTO := hf TO (by simp)
    have f1 := hf i1 (by simp)
    have f2 := hf i2 (by simp)
    have f3 := hf i3 (by simp)
    have S : ZipSep3 z TI TO i1 i2 i3 fp1 fp2 fp3 :=
      { TIz := Ne.symm n1, TOz := Ne.symm n2, TITO := n5, TIi1 := n6, mem1 := hm1, zf1 := u3 z fz n3, Tf1 := u3 TO fTO n8, TIi2 := n7, mem2 := hm2, zf2 := v3 z fz n4, Tf2 := v3 TO fTO n9,
        TIi3 := n7', mem3 := hm3, zf3 := w3 z fz n4', Tf3 := w3 TO fTO n9', sep1_2 := v3 i1 f1 n10, sep1_3 := w3 i1 f1 n11, sep2_1 := u3 i2 f2 (Ne.symm n10), sep2_3 := w3 i2 f2 n12.1,
        sep3_1 := u3 i3 f3 (Ne.symm n11), sep3_2 := v3 i3 f3 (Ne.symm n12.1) }
    refine ⟨_, _, _, _, _, _, WalksT.zipD3 S D1 D2 D3, fun b hb => by simp at hb ⊢; rcases hb with q | q | q | q | q <;> simp [q], ⟨hz, hTI, ⟨a1, a2, a3, hTO⟩, hst1, hst2, hst3⟩, fun g => ?_, fun g => ?_,
      fun h' st' => ⟨st'.1, st'.2.1, st'.2.2.1, u1 _ _ st'.2.2.2.1, v1 _ _ st'.2.2.2.2.1, w1 _ _ st'.2.2.2.2.2⟩, fun vals hi hv => ?_⟩
    · obtain ⟨xs', ys', zs', hx', hy', hz', hl⟩ := g
      rw [Kd.inj I hx hx', Kd.inj I hy hy', Kd.inj I hw hz']
      exact hl
    · obtain ⟨xs', ys', zs', hx', hy', hz', hl⟩ := g
      rw [Kd.inj I hx hx', Kd.inj I hy hy', Kd.inj I hw hz']
      exact hl
    · obtain ⟨x1, x2, x3, p1, p2, p3, rfl⟩ := hv
      obtain ⟨x, hxx, rx⟩ := u2 _ _ p1
      obtain ⟨y, hyy, ry⟩ := v2 _ _ p2
      obtain ⟨zz, hzz, rz⟩ := w2 _ _ p3
      refine ⟨[x, y, zz], (by show 3 ≤ sizeLine; decide), .cons rx (.cons ry (.cons rz .nil)), x, y, zz, rfl, fun ys' hy' => ?_, fun ys' hy' => ?_, fun ys' hy' => ?_⟩
      · rw [← Kd.inj I hx hy']
        exact hxx
      · rw [← Kd.inj I hy hy']
        exact hyy
      · rw [← Kd.inj I hw hy']
        exact hzz
  · exact wpAny_pyIter_zip st.1 h
def YTri (xs ys zs : Nat → Option V) : Nat → Hp → V → Hp → Prop := fun i H v H' => ∃ T x y z, v = .ref T ∧ H T = none ∧ H' = upd H T (.tup [x, y, z]) ∧ xs i = some x ∧ ys i = some y ∧ zs i = some z
theorem walk_z3 {K : PySem.W.Frag} {k1 k2 k3 : Kd} {xs ys zs : List V} : Walk (Jz3 K k1 k2 k3) (min (min xs.length ys.length) zs.length) (fun H => k1.its K H xs ∧ k2.its K H ys ∧ k3.its K H zs) (YTri (fun i => xs[i]?) (fun i => ys[i]?) (fun i => zs[i]?)) :=
  ⟨fun i H hi g => ⟨xs, ys, zs, g.1, g.2.1, g.2.2, hi⟩, fun H g => ⟨xs, ys, zs, g.1, g.2.1, g.2.2, rfl⟩, fun i H v H' hi g y => by
    obtain ⟨T, ws, e1, e2, e3, x, y, z, e4, e5, e6, e7⟩ := y
    subst e4
    exact ⟨T, x, y, z, e1, e2, e3, e5 xs g.1, e6 ys g.2.1, e7 zs g.2.2⟩⟩
end K41
set_option Elab.async false
set_option linter.all false
set_option maxRecDepth 100000
set_option maxHeartbeats 5000000
/-! rules that the layer lacks -/
namespace K41
open PySem PySem.Spec PyProof.Rows L2

/-- enumerate(v): what the class's own rule makes, over anything that can be begun -/
theorem meets_enum1 {v : Value} {o : Obj} {Hh : Heap → Prop} (B : Begins v o Hh) :
    Meets (Builtin.«enumerate.__new__» ⟨[.type "enumerate", v], []⟩) (fun _ R s => Hh s.heap ∧
      R (.ok (.ret (.ref (s.heap.push o).objs.size))) { s with heap := (s.heap.push o).push { cls := .type "enumerate", data := .fields #[.none, .bool false, .ref s.heap.objs.size, rawInt 0, .none, .none] } }) := by
  refine .of_wp fun prog w A R s want => ?_
  rcases s with ⟨hp, g, dr, tk, os⟩
  rcases want with ⟨holds, fin⟩
  have hsub := sub_enumerate
  have begun : ∀ {A' : Around} {E' Q' : Value → Shared → Prop}, Q' (.ref hp.objs.size) ⟨hp.push o, g, dr, tk, os⟩ → wpAny (model prog w) A' (pyIter v) Q' E' ⟨hp, g, dr, tk, os⟩ := by
    intro A' E' Q' done
    exact B.iter prog w _ _ _ _ holds done
  wp_walk using begun
  apply wpAny_stack_any
  intro sk
  apply wpAny_pure
  split
  · rename_i c _ _ _ _ _
    by_cases hc : (c == Value.type "enumerate") = true
    · rw [hc]
      wp_walk using begun
      exact ⟨_, rfl, fin⟩
    · rw [Bool.eq_false_iff.mpr hc]
      wp_walk using begun
      exact ⟨_, rfl, fin⟩
  · wp_walk using begun
    exact ⟨_, rfl, fin⟩
section
variable {prog : Program} {w : World} {E Q : Value → Shared → Prop} {A : Around} {s : Shared}
theorem enum1_begins {v : Value} {o : Obj} {Hh : Heap → Prop} (B : Begins v o Hh) (holds : Hh s.heap)
    (next : ∀ h', IsEnum h' (s.heap.objs.size + 1) s.heap.objs.size 0 .none → h'.get? s.heap.objs.size = some o → (∀ a ob, s.heap.get? a = some ob → h'.get? a = some ob) →
      Q (.ref (s.heap.objs.size + 1)) { s with heap := h' }) : wpAny (model prog w) A (call (.type "enumerate") [v]) Q E s := by
  have size : (s.heap.push o).objs.size = s.heap.objs.size + 1 := Heap.size_push ..
  refine callType_new F.called_enumerate (by decide) (F.typeCall_enumerate_1 _) (F.newCall_enumerate_1 _)
    (fun ob => F.args_object_init_2 ob _) F.entry_enumerate_new (meets_enum1 B) ⟨holds, ?_⟩
  have made := Heap.get?_push_size (s.heap.push o) (o := { cls := .type "enumerate", data := .fields #[.none, .bool false, .ref s.heap.objs.size, rawInt 0, .none, .none] }) rfl
  rw [size] at made
  change _ ∧ _
  rw [size]
  refine ⟨⟨_, made, rfl⟩, next _ made (Heap.get?_push_of_some _ (Heap.get?_push_size _ B.free)) fun a ob at_ => ?_⟩
  exact Heap.get?_push_of_some _ (Heap.get?_push_of_some _ at_)
end

section
variable {X : Cx} {H : Hp} {σ : L2.St} {s : Shared} {pins : List (Addr × Obj)}
theorem fpNew {b : Addr} (I : Inv X pins σ H s) (far : s.heap.objs.size ≤ b) : FpOk X pins H b := I.fpOk far (I.hok.fresh far)
theorem Kd.begins {k : Kd} {xs : List V} {u : Value} (I : Inv X pins σ H s) (hi : k.its X.K H xs) (r : RelV k.v u) :
    ∃ (o : Obj) (Hh : Heap → Prop), Begins u o Hh ∧ Hh s.heap ∧ ∀ h' it, h'.get? it = some o → k.st it 0 h' := by
  cases k with
  | lst a =>
    cases (show u = Value.ref a from r)
    obtain ⟨its, rv, p, hz⟩ := I.list hi
    exact ⟨_, _, begins_list a its.toArray, p.isList, fun h' it e => ⟨_, e, rfl, rfl⟩⟩
  | tup a =>
    cases (show u = Value.ref a from r)
    obtain ⟨its, rv, p, hz⟩ := I.tuple hi
    exact ⟨_, _, begins_tuple a its.toArray, p, fun h' it e => ⟨_, e, rfl, rfl⟩⟩
  | txt z =>
    obtain ⟨t, rfl⟩ := (show ∃ t, u = Value.str z t from r)
    exact ⟨_, _, begins_text z t, trivial, fun h' it e => ⟨t, _, e, rfl, rfl⟩⟩
end
theorem vals1 {a : V} {us : List Value} (all : Vals [a] us) : ∃ u, us = [u] ∧ RelV a u := by
  cases all with
  | cons a t => cases t; exact ⟨_, rfl, a⟩
theorem vals2 {x y : V} {us : List Value} (r : Vals [x, y] us) : ∃ u v, us = [u, v] ∧ RelV x u ∧ RelV y v := by
  cases r with
  | cons a t =>
    obtain ⟨v, rfl, b⟩ := vals1 t
    exact ⟨_, v, rfl, a, b⟩
theorem vals3 {x y z : V} {us : List Value} (r : Vals [x, y, z] us) : ∃ u v w, us = [u, v, w] ∧ RelV x u ∧ RelV y v ∧ RelV z w := by
  cases r with
  | cons a t =>
    obtain ⟨v, w, rfl, b, c⟩ := vals2 t
    exact ⟨_, v, w, rfl, a, b, c⟩
def iEn (K : PySem.W.Frag) (ta : TA) : TI := fun σ H R => ta σ H fun vs H1 => ∃ k xs, vs = [Kd.v k] ∧ k.its K H1 xs ∧ R (Jen K k) H1
theorem pi_en {X : Cx} {c : Expr} {ta : TA} {p pos tpos : Pos} {elts : List Expr} {kk : Nat} (hg : Gl X "enumerate") (hm : X.mg "enumerate" = none) (ha : PA X [c] ta) (one : starEach [c] X.env = [(false, eval c X.env)] := by rfl) :
    PI X (.Tuple elts kk tpos) (.Call (.Name "enumerate" p) [c] [] pos) (iEn X.K ta) := by
  constructor
  intro pins s σ H R I h
  have args := ha.run pos pins s σ H _ I h
  refine Call_ (ld_blt I hg hm boot_enumerate (PyProof.Rows.callWith_type1 (thn args fun us s1 got => ?_) one rfl))
  obtain ⟨vs, H1, I1, r1, k, xs, rfl, hq, q⟩ := got
  obtain ⟨u, rfl, r⟩ := vals1 r1
  obtain ⟨o, Hh, B, hB, hst⟩ := Kd.begins I1 hq r
  refine enum1_begins B hB fun h' he ho hk => wpAny_pyIter_enum he ?_
  refine ⟨s1.heap.objs.size + 1, [s1.heap.objs.size + 1, s1.heap.objs.size], _, _, H1, rfl, I1.kept (t' := s1.toks) hk, turn_en k _ _ (Nat.succ_ne_self _), ⟨⟨.none, he⟩, hst _ _ ho⟩, fun b hb => fpNew I1 ?_, q⟩
  rcases (show b = s1.heap.objs.size + 1 ∨ b = s1.heap.objs.size by simpa using hb) with rfl | rfl <;> simp
def iZ2 (K : PySem.W.Frag) (ta : TA) : TI := fun σ H R => ta σ H fun vs H1 => ∃ k1 k2 xs ys, vs = [Kd.v k1, Kd.v k2] ∧ k1.its K H1 xs ∧ k2.its K H1 ys ∧ R (Jz2 K k1 k2) H1
theorem pi_z2 {X : Cx} {c d : Expr} {ta : TA} {p pos tpos : Pos} {elts : List Expr} {kk : Nat} (hg : Gl X "zip") (hm : X.mg "zip" = none) (ha : PA X [c, d] ta)
    (two : starEach [c, d] X.env = (false, eval c X.env) :: starEach [d] X.env := by rfl) (pl : (backTo pos (starEach [d] X.env)).any (·.1) = false := by rfl) :
    PI X (.Tuple elts kk tpos) (.Call (.Name "zip" p) [c, d] [] pos) (iZ2 X.K ta) := by
  constructor
  intro pins s σ H R I h
  have args := ha.run pos pins s σ H _ I h
  refine Call_ (ld_blt I hg hm PyProof.Rows.boot_zip (PyProof.Rows.callWith_type1 (thn args fun us s1 got => ?_) two pl))
  obtain ⟨vs, H1, I1, r1, k1, k2, xs, ys, rfl, hqx, hqy, q⟩ := got
  obtain ⟨u1, u2, rfl, ra, rb⟩ := vals2 r1
  obtain ⟨o1, H1h, B1, hB1, hs1⟩ := Kd.begins I1 hqx ra
  obtain ⟨o2, H2h, B2, hB2, hs2⟩ := Kd.begins I1 hqy rb
  refine zip_begins2 B1 B2 hB1 hB2 fun h' hz hTI hTO h1 h2 hsz hk => wpAny_pyIter_zip hz ?_
  have apart : ∀ n : Nat, List.Nodup [n + 4, n + 2, n + 3, n, n + 1] := fun n => by simp
  refine ⟨s1.heap.objs.size + 4, [s1.heap.objs.size + 4, s1.heap.objs.size + 2, s1.heap.objs.size + 3, s1.heap.objs.size, s1.heap.objs.size + 1], _, _, H1, rfl, I1.kept (t' := s1.toks) hk,
    turn_z2 k1 k2 _ _ _ _ _ (apart _), ⟨hz, hTI, ⟨_, _, hTO⟩, hs1 _ _ h1, hs2 _ _ h2⟩, fun c hcm => fpNew I1 ?_, q⟩
  simp only [List.mem_cons, List.not_mem_nil, or_false] at hcm
  rcases hcm with rfl | rfl | rfl | rfl | rfl <;> simp
def iZ3 (K : PySem.W.Frag) (ta : TA) : TI := fun σ H R => ta σ H fun vs H1 => ∃ k1 k2 k3 xs ys zs, vs = [Kd.v k1, Kd.v k2, Kd.v k3] ∧ k1.its K H1 xs ∧ k2.its K H1 ys ∧ k3.its K H1 zs ∧ R (Jz3 K k1 k2 k3) H1
theorem pi_z3 {X : Cx} {c d f : Expr} {ta : TA} {p pos tpos : Pos} {elts : List Expr} {kk : Nat} (hg : Gl X "zip") (hm : X.mg "zip" = none) (ha : PA X [c, d, f] ta)
    (three : starEach [c, d, f] X.env = (false, eval c X.env) :: starEach [d, f] X.env := by rfl) (pl : (backTo pos (starEach [d, f] X.env)).any (·.1) = false := by rfl) :
    PI X (.Tuple elts kk tpos) (.Call (.Name "zip" p) [c, d, f] [] pos) (iZ3 X.K ta) := by
  constructor
  intro pins s σ H R I h
  have args := ha.run pos pins s σ H _ I h
  refine Call_ (ld_blt I hg hm PyProof.Rows.boot_zip (PyProof.Rows.callWith_type1 (thn args fun us s1 got => ?_) three pl))
  obtain ⟨vs, H1, I1, r1, k1, k2, k3, xs, ys, zs, rfl, hqx, hqy, hqz, q⟩ := got
  obtain ⟨u1, u2, u3, rfl, ra, rb, rc⟩ := vals3 r1
  obtain ⟨o1, H1h, B1, hB1, hs1⟩ := Kd.begins I1 hqx ra
  obtain ⟨o2, H2h, B2, hB2, hs2⟩ := Kd.begins I1 hqy rb
  obtain ⟨o3, H3h, B3, hB3, hs3⟩ := Kd.begins I1 hqz rc
  refine zip_begins3 B1 B2 B3 hB1 hB2 hB3 fun h' hz hTI hTO h1 h2 h3 hsz hk => wpAny_pyIter_zip hz ?_
  have apart : ∀ n : Nat, List.Nodup [n + 5, n + 3, n + 4, n, n + 1, n + 2] := fun n => by simp
  refine ⟨s1.heap.objs.size + 5, [s1.heap.objs.size + 5, s1.heap.objs.size + 3, s1.heap.objs.size + 4, s1.heap.objs.size, s1.heap.objs.size + 1, s1.heap.objs.size + 2], _, _, H1, rfl, I1.kept (t' := s1.toks) hk,
    turn_z3 k1 k2 k3 _ _ _ _ _ _ (apart _), ⟨hz, hTI, ⟨_, _, _, hTO⟩, hs1 _ _ h1, hs2 _ _ h2, hs3 _ _ h3⟩, fun c hcm => fpNew I1 ?_, q⟩
  simp only [List.mem_cons, List.not_mem_nil, or_false] at hcm
  rcases hcm with rfl | rfl | rfl | rfl | rfl | rfl <;> simp

/-! ### l[i], read ahead of a store by an operator -/
def rGetL : V → V → Hp → VK → Prop := fun o i H Q => ∃ (p : Addr) (xs : List V) (j : Nat) (v : V), o = .ref p ∧ i = .int (j : Int) ∧ H p = some (.lst xs) ∧ xs[j]? = some v ∧ Q v H
theorem get_list {X : Cx} : PGet X rGetL := by
  intro pins s σ H o i ov iv Q I ro ri h
  obtain ⟨p, xs, j, v, rfl, rfl, hp, hj, q⟩ := h
  cases ro
  obtain ⟨t, rfl⟩ := ri
  obtain ⟨its, r, pl, hz⟩ := I.list (SqL.of hp)
  obtain ⟨u, hu, ru⟩ := r.get hj
  have hl := r.length
  have hn := line63
  have hjl : j < xs.length := (List.getElem?_eq_some_iff.mp hj).1
  exact wpAny_getItem_list pl.isList (by omega) (by omega) (by simpa using hu) ⟨v, H, I, ru, q⟩

/-! ### text * int -/
def rep1 (c n : Nat) : Str := ⟨(List.replicate n c).toArray⟩
theorem rep1_fold (c : Nat) : ∀ (n : Nat) (acc : Array Nat), (List.replicate n #[c]).foldl (· ++ ·) acc = acc ++ (List.replicate n c).toArray
  | 0, acc => by simp
  | n + 1, acc => by
    rw [List.replicate_succ, List.foldl_cons, rep1_fold c n, List.replicate_succ]
    apply Array.toList_inj.mp
    simp
def rMulS : R2 := fun x y H Q => ∃ c n, x = .str ⟨#[c]⟩ ∧ y = .int n ∧ 1 ≤ n ∧ n ≤ 1000 ∧ Q (.str (rep1 c n.toNat)) H
theorem op_mulS {X : Cx} : OpR X (binaryOp .Mult) rMulS := by
  intro _ s σ H _ _ _ _ Q I rx ry want
  obtain ⟨c, n, rfl, rfl, h1, h2, q⟩ := want
  obtain ⟨t, rfl⟩ := rx
  obtain ⟨t', rfl⟩ := ry
  have hz : (⟨#[c]⟩ : Str).length = 1 := rfl
  have hlen : (decide (n < -(2 ^ 63 : Int)) || decide (n ≥ 2 ^ 63)) = false := by
    have a : ¬ n < -(2 ^ 63 : Int) := by omega
    have b : ¬ n ≥ (2 ^ 63 : Int) := by omega
    rw [decide_eq_false a, decide_eq_false b]; rfl
  have hz0 : ((⟨#[c]⟩ : Str).length == 0) = false := rfl
  refine PySem.P.mul_str hlen (fun _ _ => ?_) (fun _ _ => ?_) ?_
  · rw [hz]
    have hq : (1000 : Int) ≤ (2 ^ 63 - 1) / n := by
      refine Int.le_ediv_of_mul_le (by omega) ?_
      omega
    omega
  · rw [hz]
    show decide (1 * n.toNat > sizeLine) = false
    rw [sizeLine_eq]
    refine decide_eq_false ?_
    omega
  · rw [if_neg (by omega)]
    by_cases hn : n = 1
    · subst hn
      rw [if_pos (by rw [hz0]; rfl)]
      exact ⟨.str (rep1 c 1), H, I, ⟨t, rfl⟩, q⟩
    · have hb : (n == 1 || (⟨#[c]⟩ : Str).length == 0) = false := by
        rw [hz0, Bool.or_false]
        exact beq_eq_false_iff_ne.mpr hn
      rw [if_neg (fun z => Bool.false_ne_true (hb.symm.trans z))]
      have e : ((⟨List.foldl (· ++ ·) #[] (List.replicate n.toNat (⟨#[c]⟩ : Str).cps)⟩ : Str)) = rep1 c n.toNat := by
        unfold rep1
        rw [rep1_fold c n.toNat #[]]
        simp
      rw [e]
      refine ⟨?_, ⟨.str (rep1 c n.toNat), H, I.tok _, ⟨_, rfl⟩, q⟩⟩
      show (List.replicate n.toNat c).toArray.size ≤ sizeLine
      rw [List.size_toArray, List.length_replicate, sizeLine_eq]
      omega

/-! ### sorted, of data -/
def rSortedD (K : PySem.W.Frag) : List V → Hp → VK → Prop := fun vs H Q => ∃ (a : Addr) (xs : List V) (ds : List PyData), vs = [V.ref a] ∧ SqL K H a xs ∧ DpAll K H xs ds ∧ PySem.W.AllAlike ds ∧ PySem.W.Sortable ds ∧ (∀ d, d ∈ ds → d.depth ≤ 8) ∧
  ∀ (p : Addr) (ys : List V), H p = none → DpAll K (upd H p (.lst ys)) ys (ds.mergeSort (PySem.W.dataLe false id)) → Q (.ref p) (upd H p (.lst ys))
end K41
set_option Elab.async false
set_option linter.all false
set_option maxRecDepth 100000
set_option maxHeartbeats 5000000
/-! data: how it is kept; sorted of data -/
namespace L2
open PySem PySem.Spec PyProof.Rows Evl K41

/-- lists, tuples that may be read stay so -/
structure Kx (K : PySem.W.Frag) (H H' : Hp) : Prop where
  l : ∀ a xs, SqL K H a xs → SqL K H' a xs
  t : ∀ a xs, SqT K H a xs → SqT K H' a xs
section
variable {K : PySem.W.Frag} {H H' H'' : Hp}
theorem Ex.kx (e : Ex H H') : Kx K H H' := ⟨fun _ _ h => ex_l e h, fun _ _ h => ex_t e h⟩
mutual
theorem Dp.kx (e : Kx K H H') : ∀ (d : PyData) (v : V), Dp K H v d → Dp K H' v d
  | .none, _, h => by cases h; exact .non
  | .bool b, _, h => by cases h; exact .bl b
  | .int i, _, h => by cases h; exact .int i
  | .str x, _, h => by cases h; exact .str x
  | .list ds, _, h => by
    cases h with
    | lst hs ha => exact .lst (e.l _ _ hs) (DpAll.kx e ds _ ha)
  | .tuple ds, _, h => by
    cases h with
    | tup hs ha => exact .tup (e.t _ _ hs) (DpAll.kx e ds _ ha)
  | .dict _, _, h => by cases h
theorem DpAll.kx (e : Kx K H H') : ∀ (ds : List PyData) (vs : List V), DpAll K H vs ds → DpAll K H' vs ds
  | [], _, h => by cases h; exact .nil
  | d :: ds, _, h => by
    cases h with
    | cons h1 h2 => exact .cons (Dp.kx e d _ h1) (DpAll.kx e ds _ h2)
end
theorem dx {d : PyData} {v : V} (e : Ex H H') (h : Dp K H v d) : Dp K H' v d := Dp.kx (Ex.kx e) d v h
theorem dxs {ds : List PyData} {vs : List V} (e : Ex H H') (h : DpAll K H vs ds) : DpAll K H' vs ds := DpAll.kx (Ex.kx e) ds vs h

/-- tuples that may be read stay so -/
def Tx (K : PySem.W.Frag) (H H' : Hp) : Prop := ∀ a xs, SqT K H a xs → SqT K H' a xs
theorem Tx.refl : Tx K H H := fun _ _ h => h
theorem Tx.trans (a : Tx K H H') (b : Tx K H' H'') : Tx K H H'' := fun c xs h => b c xs (a c xs h)
theorem Ex.tx (e : Ex H H') : Tx K H H' := fun _ _ h => ex_t e h
/-- a thing that is no tuple, and not locked, is changed; or a new thing is made -/
theorem Tx.upd {p : Addr} {o : HO} (h : ∀ xs, H p ≠ some (.tup xs)) (h2 : ∀ ob u, H p ≠ some (.frz ob u)) : Tx K H (upd H p o) := fun a xs hs => by
  rcases hs with (q | ⟨ob, q⟩) | q
  · refine .inl (.inl ?_)
    rw [upd_ne (fun e => h xs (by rw [← e]; exact q))]
    exact q
  · refine .inl (.inr ⟨ob, ?_⟩)
    rw [upd_ne (fun e => h2 ob _ (by rw [← e]; exact q))]
    exact q
  · exact .inr q
theorem Tx.updL {p : Addr} {o : HO} {ys : List V} (h : H p = some (.lst ys)) : Tx K H (L2.upd H p o) := Tx.upd (fun _ q => by rw [h] at q; cases q) (fun _ _ q => by rw [h] at q; cases q)
theorem Tx.updD {p : Addr} {o : HO} {ys : List (List Key × V)} (h : H p = some (.dT ys)) : Tx K H (L2.upd H p o) := Tx.upd (fun _ q => by rw [h] at q; cases q) (fun _ _ q => by rw [h] at q; cases q)
theorem Tx.new {p : Addr} {o : HO} (h : H p = none) : Tx K H (L2.upd H p o) := Ex.tx (Ex.new h)
mutual
/-- no list within -/
def noL : PyData → Bool
  | .list _ => false
  | .tuple ds => noLs ds
  | _ => true
def noLs : List PyData → Bool
  | [] => true
  | d :: ds => noL d && noLs ds
end
mutual
theorem Dp.tx (e : Tx K H H') : ∀ (d : PyData) (v : V), noL d = true → Dp K H v d → Dp K H' v d
  | .none, _, _, h => by cases h; exact .non
  | .bool b, _, _, h => by cases h; exact .bl b
  | .int i, _, _, h => by cases h; exact .int i
  | .str x, _, _, h => by cases h; exact .str x
  | .list ds, _, q, h => by simp [noL] at q
  | .tuple ds, _, q, h => by
    cases h with
    | tup hs ha => exact .tup (e _ _ hs) (DpAll.tx e ds _ (by rw [noL] at q; exact q) ha)
  | .dict _, _, _, h => by cases h
theorem DpAll.tx (e : Tx K H H') : ∀ (ds : List PyData) (vs : List V), noLs ds = true → DpAll K H vs ds → DpAll K H' vs ds
  | [], _, _, h => by cases h; exact .nil
  | d :: ds, _, q, h => by
    rw [noLs, Bool.and_eq_true] at q
    cases h with
    | cons h1 h2 => exact .cons (Dp.tx e d _ q.1 h1) (DpAll.tx e ds _ q.2 h2)
end
theorem noLs_all {ds : List PyData} (h : ∀ d, d ∈ ds → noL d = true) : noLs ds = true := by
  induction ds with
  | nil => rfl
  | cons d ds ih =>
    rw [noLs, Bool.and_eq_true]
    exact ⟨h d (by simp), ih fun x hx => h x (by simp [hx])⟩
theorem noLs_mem {ds : List PyData} (h : noLs ds = true) : ∀ d, d ∈ ds → noL d = true := by
  induction ds with
  | nil => intro d hd; cases hd
  | cons x ds ih =>
    rw [noLs, Bool.and_eq_true] at h
    intro d hd
    rcases List.mem_cons.mp hd with e | e
    · rw [e]; exact h.1
    · exact ih h.2 d e

/-! ### lists of data by place -/
theorem DpAll.length : ∀ {ds : List PyData} {vs : List V}, DpAll K H vs ds → vs.length = ds.length
  | [], _, h => by cases h; rfl
  | d :: ds, _, h => by
    cases h with
    | cons _ h2 => rw [List.length_cons, List.length_cons, DpAll.length h2]
theorem DpAll.get : ∀ {ds : List PyData} {vs : List V} {i : Nat} {d : PyData}, DpAll K H vs ds → ds[i]? = some d → ∃ v, vs[i]? = some v ∧ Dp K H v d
  | [], _, _, _, _, e => by simp at e
  | x :: ds, _, 0, d, h, e => by
    cases h with
    | cons h1 h2 =>
      simp at e
      subst e
      exact ⟨_, rfl, h1⟩
  | x :: ds, _, i + 1, d, h, e => by
    cases h with
    | cons h1 h2 =>
      obtain ⟨v, q1, q2⟩ := DpAll.get (i := i) (d := d) h2 (by simpa using e)
      exact ⟨v, by simpa using q1, q2⟩
theorem DpAll.getV {ds : List PyData} {vs : List V} {i : Nat} {v : V} (h : DpAll K H vs ds) (e : vs[i]? = some v) : ∃ d, ds[i]? = some d ∧ Dp K H v d := by
  have hi : i < ds.length := by
    have := (List.getElem?_eq_some_iff.mp e).1
    have := DpAll.length h
    omega
  obtain ⟨u, q1, q2⟩ := DpAll.get h (List.getElem?_eq_getElem hi)
  rw [e] at q1
  cases q1
  exact ⟨_, List.getElem?_eq_getElem hi, q2⟩
theorem DpAll.append : ∀ {ds es : List PyData} {vs ws : List V}, DpAll K H vs ds → DpAll K H ws es → DpAll K H (vs ++ ws) (ds ++ es)
  | [], _, _, _, h, h' => by cases h; exact h'
  | d :: ds, es, _, ws, h, h' => by
    cases h with
    | cons h1 h2 => exact .cons h1 (DpAll.append h2 h')
theorem DpAll.one {v : V} {d : PyData} (h : Dp K H v d) : DpAll K H [v] [d] := .cons h .nil
theorem DpAll.mk : ∀ {ds : List PyData} {vs : List V}, vs.length = ds.length → (∀ (i : Nat) (v : V) (d : PyData), vs[i]? = some v → ds[i]? = some d → Dp K H v d) → DpAll K H vs ds
  | [], [], _, _ => .nil
  | [], _ :: _, len, _ => nomatch len
  | _ :: _, [], len, _ => nomatch len
  | d :: ds, v :: vs, h, q => .cons (q 0 v d rfl rfl) (DpAll.mk (by simpa using h) fun i u e hu he => q (i + 1) u e (by simpa using hu) (by simpa using he))
theorem DpAll.ints : ∀ (ns : List Int), DpAll K H (ns.map V.int) (ns.map PyData.int)
  | [] => .nil
  | n :: ns => .cons (.int n) (DpAll.ints ns)
theorem DpAll.intsV : ∀ {ns : List Int} {vs : List V}, DpAll K H vs (ns.map PyData.int) → vs = ns.map V.int
  | [], _, h => by cases h; rfl
  | n :: ns, _, h => by
    cases h with
    | cons h1 h2 =>
      cases h1
      rw [DpAll.intsV h2]
      rfl
theorem Dp.intV {v : V} {i : Int} (h : Dp K H v (.int i)) : v = .int i := by cases h; rfl
theorem Dp.blV {v : V} {b : Bool} (h : Dp K H v (.bool b)) : v = .bl b := by cases h; rfl
theorem Dp.strV {v : V} {x : Str} (h : Dp K H v (.str x)) : v = .str x := by cases h; rfl
theorem Dp.nonV {v : V} (h : Dp K H v .none) : v = .non := by cases h; rfl
theorem Dp.tupV {v : V} {ds : List PyData} (h : Dp K H v (.tuple ds)) : ∃ a xs, v = .ref a ∧ SqT K H a xs ∧ DpAll K H xs ds := by
  cases h with
  | tup hs ha => exact ⟨_, _, rfl, hs, ha⟩
theorem Dp.lstV {v : V} {ds : List PyData} (h : Dp K H v (.list ds)) : ∃ a xs, v = .ref a ∧ SqL K H a xs ∧ DpAll K H xs ds := by
  cases h with
  | lst hs ha => exact ⟨_, _, rfl, hs, ha⟩
end

/-! ### sorted -/
theorem each_of {K : PySem.W.Frag} {H : Hp} : ∀ {ds : List PyData} {xs : List V} {us : List Value}, DpAll K H xs ds → Vals xs us → PySem.W.EachIs (fun u d => ∃ x, RelV x u ∧ Dp K H x d) us ds
  | [], _, _, h, r => by
    cases h
    cases r
    exact .nil
  | d :: ds, _, _, h, r => by
    cases h with
    | cons h1 h2 =>
      cases r with
      | cons r1 r2 => exact .cons ⟨_, r1, h1⟩ (each_of h2 r2)
theorem of_each {K : PySem.W.Frag} {H : Hp} : ∀ {ds : List PyData} {us : List Value}, PySem.W.EachIs (fun u d => ∃ x, RelV x u ∧ Dp K H x d) us ds → ∃ xs, Vals xs us ∧ DpAll K H xs ds
  | _, _, .nil => ⟨[], .nil, .nil⟩
  | _, _, .cons ⟨x, r, h⟩ t => by
    obtain ⟨xs, r2, h2⟩ := of_each t
    exact ⟨x :: xs, .cons r r2, .cons h h2⟩
theorem cr_sortedD {X : Cx} (hu : X.A.units + 64 < cLine) : CallR X (.builtin "sorted") (rSortedD X.K) := by
  intro _ s _ H _ _ _ I r want
  obtain ⟨a, xs, ds, rfl, hs, hd, hal, hk, hdep, q⟩ := want
  rcases I.list hs with ⟨its, rv, hl, hz⟩
  rw [Vals.ref1 r]
  have e : PySem.W.EachIs (fun u d => ∃ x, RelV x u ∧ Dp X.K H x d) its ds := each_of hd rv
  have er : PySem.W.EachIs (fun v b => ∃ as, Reads s.heap v (id b) as) its ds := e.mono fun u d ⟨x, r1, h1⟩ => Dp.reads I d x u h1 r1
  have hlen := DpAll.length hd
  refine PySem.W.sorted_data (enc := id) (bs := ds) (R := fun u d => ∃ x, RelV x u ∧ Dp X.K H x d) hl.isList e er (by rw [List.map_id]; exact hal) (by rw [List.map_id]; exact hk) (by omega)
    (fun b hb => by have := hdep b hb; show X.A.units + 2 + b.depth < cLine; omega) fun out ho hout => ?_
  obtain ⟨ys, r2, h2⟩ := of_each hout
  rcases PyProof.Rows.sortedAll_at s.heap its out.toArray with ⟨ep, at_⟩
  have hn : H (s.heap.objs.size + 1) = none := I.hok.fresh (Nat.le_succ _)
  have hlen2 : ys.length ≤ sizeLine := by
    rw [r2.length, ho, ← hlen]
    exact hz
  exact ⟨.ref _, upd H (s.heap.objs.size + 1) (.lst ys), I.laid (t' := s.toks) (fun _ _ => PyProof.Rows.sortedAll_old) (Nat.le_succ _) ⟨hlen2, out, ep, r2, by simpa using at_⟩, rfl, q _ ys hn (dxs (Ex.new hn) h2)⟩
end L2
set_option Elab.async false
set_option linter.all false
set_option maxRecDepth 100000
set_option maxHeartbeats 5000000
/-! what evaluates to which data -/
namespace K41
open PySem PySem.Spec PyProof.Rows L2 Evl

/-! ### defs by name -/
structure Cal (P : Program) (w : World) (K : PySem.W.Frag) (mg : Str → Option Value) (base : Heap) (x : Str) (k : Nat) (ps : List Str) (dvs : List V) (sp : Sp) : Prop where
  ex : ∃ (f : Addr) (fd : FuncData) (ds : List Value), FnOk P w K mg base CX0 k f fd ps sp ∧ mg x = some (.ref f) ∧ PySem.W.keepIn K (.ref f) = true ∧ Binds K fd ps ds ∧ Vals dvs ds
theorem pe_cal {X : Cx} {x : Str} {k : Nat} {ps : List Str} {dvs : List V} {sp : Sp} {a : Expr} {as : List Expr} {t : TA} {pos p : Pos} (C : Cal X.prog X.w X.K X.mg X.base x k ps dvs sp) (hr : Room k X.A) (hg : Gl X x) (ha : PA X (a :: as) t)
    (hdb : (x == ("__debug__" : Str)) = false := by decide) (first : starEach (a :: as) X.env = (false, eval a X.env) :: starEach as X.env := by rfl) (pl : (backTo pos (starEach as X.env)).any (·.1) = false := by rfl) :
    PE X (.Call (.Name x p) (a :: as) [] pos) (tCall sp dvs E0 t) := by
  obtain ⟨f, fd, ds, F, hm, hk, hb, hd⟩ := C.ex
  exact pe_call F hr hg hm hk hb hd pass0 ha hdb first pl
/-- a def of the text, by its name -/
structure Def (K : PySem.W.Frag) (mg : Str → Option Value) (x : Str) (st : Stmt) : Prop where
  ex : ∃ (f : Addr) (fd : FuncData), Fun K x x st f fd ∧ mg x = some (.ref f)
theorem Def.ok {P : Program} {w : World} {K : PySem.W.Frag} {mg : Str → Option Value} {base : Heap} {x : Str} {st : Stmt} {N ps : List Str} {k : Nat} {sp : Sp} (D : Def K mg x st) (S : FnScope N ps (defScope st))
    (hb : ∀ (kV doc pm : Value) (an : Option Addr) (cdv ct : Value) (us : List Value), us.length = ps.length → bindArgs (PySem.W.fnOf x x (defArgs st) (defBody st) (defScope st) .none kV doc pm an cdv ct) ⟨us, []⟩ = pure (ps.zip us))
    (many : ∀ vs H Q E, sp vs H Q E → vs.length = ps.length)
    (hbody : ∀ (f : Addr) (cdv : Value) (A : Around) (outer : List Env) (s : Shared) (H : Hp) (vs : List V) (Q : VK) (E : XK), Room k (A.deeper (envOfC x (defScope st) s.heap.objs.size f cdv)) → sp vs H Q E →
      ∃ t, PSs (cxOf CX0 P w K mg base N x (defScope st) f cdv A outer s H E).nox (defBody st) t ∧ t { nx := fun _ H' => Q .non H', rt := Q } (start N vs) H) : Cal P w K mg base x (k + 1) ps [] sp := by
  obtain ⟨f, fd, F, hm⟩ := D.ex
  exact ⟨f, fd, [], F.ok S many (fun cdv A outer s H vs Q E hr h => hbody f cdv A outer s H vs Q E hr h), hm, F.kp, F.binds hb, .nil⟩
/-- a module's number, tuple -/
theorem pe_gI {X : Cx} {x : Str} {n : Int} {pos : Pos} (h : ∃ t, X.mg x = some (.int n t)) (hg : Gl X x) (hd : (x == ("__debug__" : Str)) = false := by decide) : PE X (.Name x pos) (tC (.int n)) := by
  obtain ⟨t, h⟩ := h
  exact pe_glob hg h ⟨t, rfl⟩ hd
def tGT (K : PySem.W.Frag) (xs : List V) : TE := fun _ H Q => ∀ a, (∀ H', SqT K H' a xs) → Q (.ref a) H
theorem pe_gT {X : Cx} {x : Str} {xs : List V} {pos : Pos} (h : ∃ a, X.mg x = some (.ref a) ∧ ∀ H', SqT X.K H' a xs) (hg : Gl X x) (hd : (x == ("__debug__" : Str)) = false := by decide) : PE X (.Name x pos) (tGT X.K xs) := by
  obtain ⟨a, h, hs⟩ := h
  have q := pe_glob (X := X) (x := x) (v := .ref a) (pos := pos) hg h rfl hd
  exact ⟨fun pins s σ H Q I hw => q.run pins s σ H Q I (hw a hs)⟩

/-! ### values as data -/
def EvD (K : PySem.W.Frag) (te : TE) (σ : L2.St) (H : Hp) (d : PyData) : Prop := ∀ H1, Ex H H1 → ∀ Q : VK, (∀ v H2, Ex H1 H2 → Dp K H2 v d → Q v H2) → te σ H1 Q
def EvDs (K : PySem.W.Frag) (ta : TA) (σ : L2.St) (H : Hp) (ds : List PyData) : Prop := ∀ H1, Ex H H1 → ∀ Q : List V → Hp → Prop, (∀ vs H2, Ex H1 H2 → DpAll K H2 vs ds → Q vs H2) → ta σ H1 Q
/-- a new list of data -/
def EvDL (K : PySem.W.Frag) (te : TE) (σ : L2.St) (H : Hp) (ds : List PyData) : Prop := ∀ H1, Ex H H1 → ∀ Q : VK, (∀ p xs H2, H1 p = none → Ex H1 H2 → H2 p = some (.lst xs) → DpAll K H2 xs ds → Q (.ref p) H2) → te σ H1 Q
def RD (K : PySem.W.Frag) (r : R2) (x y : PyData) (H : Hp) (z : PyData) : Prop := ∀ vx vy H1, Ex H H1 → Dp K H1 vx x → Dp K H1 vy y → ∀ Q : VK, (∀ v H2, Ex H1 H2 → Dp K H2 v z → Q v H2) → r vx vy H1 Q
def RCD (K : PySem.W.Frag) (r : List V → Hp → VK → Prop) (ds : List PyData) (H : Hp) (z : PyData) : Prop := ∀ vs H1, Ex H H1 → DpAll K H1 vs ds → ∀ Q : VK, (∀ v H2, Ex H1 H2 → Dp K H2 v z → Q v H2) → r vs H1 Q
/-- a pure def, by data -/
def spD (K : PySem.W.Frag) (R : List PyData → PyData → Prop) : Sp := fun vs H Q _ => ∃ ds d, DpAll K H vs ds ∧ R ds d ∧ ∀ v H', Ex H H' → Dp K H' v d → Q v H'
/-- a def that hands back a new list of data -/
def spL (K : PySem.W.Frag) (R : List PyData → List PyData → Prop) : Sp := fun vs H Q _ => ∃ ds es, DpAll K H vs ds ∧ R ds es ∧ ∀ p xs H', H p = none → Ex H H' → H' p = some (.lst xs) → DpAll K H' xs es → Q (.ref p) H'

section
variable {K : PySem.W.Frag} {σ : L2.St} {H H' : Hp} {ta tb tc te tl : TE} {t u : TT} {x y z d : PyData} {v : V} {r r' : R2} {D : Ends} {tz tu tw : TS}
theorem EvD.mono (e : Ex H H') (h : EvD K te σ H d) : EvD K te σ H' d := fun H1 a Q q => h H1 (e.trans a) Q q
theorem evd_var {i : Nat} (h : σ[i]? = some (some v)) (hd : Dp K H v d) : EvD K (tVar i) σ H d := fun H1 e _ q => ⟨v, h, q v H1 (Ex.refl _) (dx e hd)⟩
theorem evd_int {i : Int} : EvD K (tC (.int i)) σ H (.int i) := fun H1 _ _ q => q _ H1 (Ex.refl _) (.int i)
theorem evd_bl {b : Bool} : EvD K (tC (.bl b)) σ H (.bool b) := fun H1 _ _ q => q _ H1 (Ex.refl _) (.bl b)
theorem evd_str {s : Str} : EvD K (tC (.str s)) σ H (.str s) := fun H1 _ _ q => q _ H1 (Ex.refl _) (.str s)
theorem evd_non : EvD K (tC .non) σ H .none := fun H1 _ _ q => q _ H1 (Ex.refl _) .non
theorem evd_gT {xs : List V} {ds : List PyData} (h : ∀ H', DpAll K H' xs ds) : EvD K (tGT K xs) σ H (.tuple ds) := fun H1 _ _ q a hs => q _ H1 (Ex.refl _) (.tup (hs H1) (h H1))
theorem evd_ev (h : Ev te σ H v) (hd : Dp K H v d) : EvD K te σ H d := fun H1 e Q q => h H1 e Q fun H2 e2 => q v H2 e2 (dx (e.trans e2) hd)
theorem ev_int {i : Int} (h : EvD K te σ H (.int i)) : Ev te σ H (.int i) := fun H1 e Q q => h H1 e Q fun v H2 e2 hd => by
  rw [hd.intV]
  exact q H2 e2
theorem ev_bool {b : Bool} (h : EvD K te σ H (.bool b)) : Ev te σ H (.bl b) := fun H1 e Q q => h H1 e Q fun v H2 e2 hd => by
  rw [hd.blV]
  exact q H2 e2
theorem evd_op (ha : EvD K ta σ H x) (hb : EvD K tb σ H y) (hr : RD K r x y H z) : EvD K (tOp r ta tb) σ H z := fun H1 e Q q =>
  ha H1 e _ fun vx H2 e2 dx' => hb H2 (e.trans e2) _ fun vy H3 e3 dy => hr vx vy H3 ((e.trans e2).trans e3) (dx e3 dx') dy Q fun v H4 e4 dz => q v H4 ((e2.trans e3).trans e4) dz
theorem evd_is (h : EvD K te σ H x) (e : x = y) : EvD K te σ H y := e ▸ h
theorem evd_chain {p q : Bool} (ha : EvD K ta σ H x) (hb : EvD K tb σ H y) (hr : RD K r x y H (.bool p)) (hc : EvD K tc σ H z) (hr' : p = true → RD K r' y z H (.bool q)) : EvD K (tChain r r' ta tb tc) σ H (.bool (p && q)) := fun H1 e Q k =>
  ha H1 e _ fun vx H2 e2 dx' => hb H2 (e.trans e2) _ fun vy H3 e3 dy => hr vx vy H3 ((e.trans e2).trans e3) (dx e3 dx') dy _ fun v H4 e4 dp => by
    rw [dp.blV]
    refine ⟨p, rfl, ?_⟩
    cases p with
    | true =>
      show tc σ H4 fun w' H5 => r' vy w' H5 Q
      exact hc H4 (((e.trans e2).trans e3).trans e4) _ fun vz H5 e5 dz => hr' rfl vy vz H5 ((((e.trans e2).trans e3).trans e4).trans e5) (dx (e4.trans e5) dy) dz Q fun v H6 e6 dq => k v H6 ((((e2.trans e3).trans e4).trans e5).trans e6) dq
    | false =>
      show Q (.bl false) H4
      exact k _ H4 ((e2.trans e3).trans e4) (.bl false)
theorem et_D {b : Bool} (h : EvD K te σ H (.bool b)) : EvT (tTest te) σ H b := et_test (ev_bool h)
theorem et_DB {b : Bool} (h : EvD K te σ H (.bool b)) : EvT (tB te) σ H b := et_B (ev_bool h)
theorem evd_and {a b : Bool} (h1 : EvD K ta σ H (.bool a)) (h2 : a = true → EvD K tb σ H (.bool b)) : EvD K (tAndV ta tb) σ H (.bool (a && b)) := evd_ev (ev_andV (ev_bool h1) fun q => ev_bool (h2 q)) (.bl _)
theorem evd_or {a b : Bool} (h1 : EvD K ta σ H (.bool a)) (h2 : a = false → EvD K tb σ H (.bool b)) : EvD K (tOrV ta tb) σ H (.bool (a || b)) := evd_ev (ev_orV (ev_bool h1) fun q => ev_bool (h2 q)) (.bl _)
theorem evd_not {a : Bool} (h1 : EvD K ta σ H (.bool a)) : EvD K (tNotV ta) σ H (.bool (!a)) := evd_ev (ev_notV (ev_bool h1)) (.bl _)
theorem evd_if {b : Bool} (h : EvT t σ H b) (h1 : b = true → EvD K ta σ H d) (h2 : b = false → EvD K tb σ H d) : EvD K (tIf t ta tb) σ H d := fun H1 e Q q => h H1 e _ fun H2 e2 => by
  cases b with
  | true =>
    show ta σ H2 Q
    exact h1 rfl H2 (e.trans e2) Q fun v H3 e3 hd => q v H3 (e2.trans e3) hd
  | false =>
    show tb σ H2 Q
    exact h2 rfl H2 (e.trans e2) Q fun v H3 e3 hd => q v H3 (e2.trans e3) hd
theorem evds_nil : EvDs K tNil σ H [] := fun H1 _ _ q => q _ H1 (Ex.refl _) .nil
theorem evds_cons {tr : TA} {ds : List PyData} (h : EvD K ta σ H x) (hr : EvDs K tr σ H ds) : EvDs K (tCons ta tr) σ H (x :: ds) := fun H1 e _ q =>
  h H1 e _ fun v H2 e2 hd => hr H2 (e.trans e2) _ fun vs H3 e3 hds => q _ H3 (e2.trans e3) (.cons (dx e3 hd) hds)
theorem evd_tup {tr : TA} {ds : List PyData} (h : EvDs K tr σ H ds) (hl : ds.length ≤ 100000) : EvD K (tTup tr) σ H (.tuple ds) := fun H1 e _ q =>
  h H1 e _ fun vs H2 e2 hds => ⟨by rw [DpAll.length hds]; exact sz_of hl, fun p hp => q _ _ (e2.trans (Ex.new hp)) (.tup (SqT.of upd_same) (dxs (Ex.new hp) hds))⟩
theorem evdl_lst {tr : TA} {ds : List PyData} (h : EvDs K tr σ H ds) (hl : ds.length ≤ 100000) : EvDL K (tLst tr) σ H ds := fun H1 e _ q =>
  h H1 e _ fun vs H2 e2 hds => ⟨by rw [DpAll.length hds]; exact sz_of hl, fun p hp => q p _ _ (fresh_back e2 hp) (e2.trans (Ex.new hp)) upd_same (dxs (Ex.new hp) hds)⟩
theorem evd_of_l {ds : List PyData} (h : EvDL K te σ H ds) : EvD K te σ H (.list ds) := fun H1 e Q q => h H1 e Q fun p xs H2 hp e2 h2 hd => q _ H2 e2 (.lst (SqL.of h2) hd)
theorem evd_cb {rr : List V → Hp → VK → Prop} {tr : TA} {ds : List PyData} (h : EvDs K tr σ H ds) (hr : RCD K rr ds H z) : EvD K (tCB rr tr) σ H z := fun H1 e Q q =>
  h H1 e _ fun vs H2 e2 hds => hr vs H2 (e.trans e2) hds Q fun v H3 e3 hd => q v H3 (e2.trans e3) hd
theorem evd_call {R : List PyData → PyData → Prop} {E : XK} {tr : TA} {ds : List PyData} (h : EvDs K tr σ H ds) (hr : R ds z) : EvD K (tCall (spD K R) [] E tr) σ H z := fun H1 e Q q =>
  h H1 e _ fun vs H2 e2 hds => ⟨ds, z, by rw [List.append_nil]; exact hds, hr, fun v H3 e3 hd => q v H3 (e2.trans e3) hd⟩
theorem evdl_call {R : List PyData → List PyData → Prop} {E : XK} {tr : TA} {ds es : List PyData} (h : EvDs K tr σ H ds) (hr : R ds es) : EvDL K (tCall (spL K R) [] E tr) σ H es := fun H1 e Q q =>
  h H1 e _ fun vs H2 e2 hds => ⟨ds, es, by rw [List.append_nil]; exact hds, hr, fun p xs H3 hp e3 h3 hd => q p xs H3 (fresh_back e2 hp) (e2.trans e3) h3 hd⟩
theorem evd_fld {b C dx : Addr} {fs : List (Str × V)} {f : Str} (h : Ev ta σ H (.ref b)) (hb : H b = some (.ins C dx fs)) (c : Cls K C) (n : NoAttr K C f) (l : fs.lookup f = some v) (hd : Dp K H v d) : EvD K (tFld K ta f) σ H d := fun H1 e Q q =>
  h H1 e _ fun H2 e2 => ⟨b, C, dx, fs, v, rfl, e2 _ _ (e _ _ hb), c, n, l, q v H2 e2 (L2.dx (e.trans e2) hd)⟩

/-! ### operations -/
theorem rd_I0 {g : Int → Int → V} {i j : Int} (h : ∀ H', Dp K H' (g i j) z) : RD K (rI0 g) (.int i) (.int j) H z := fun vx vy H1 e dx' dy Q q => ⟨i, j, dx'.intV, dy.intV, q _ H1 (Ex.refl _) (h H1)⟩
theorem rd_I {C : Int → Int → Prop} {g : Int → Int → V} {i j : Int} (hc : C i j) (h : ∀ H', Dp K H' (g i j) z) : RD K (rI C g) (.int i) (.int j) H z := fun vx vy H1 e dx' dy Q q => ⟨i, j, dx'.intV, dy.intV, hc, q _ H1 (Ex.refl _) (h H1)⟩
theorem rd_add {i j : Int} : RD K (rI0 fun i j => .int (i + j)) (.int i) (.int j) H (.int (i + j)) := rd_I0 fun _ => .int _
theorem rd_sub {i j : Int} : RD K (rI0 fun i j => .int (i - j)) (.int i) (.int j) H (.int (i - j)) := rd_I0 fun _ => .int _
theorem rd_mul {i j : Int} (h : CMul i j) : RD K (rI CMul fun i j => .int (i * j)) (.int i) (.int j) H (.int (i * j)) := rd_I h fun _ => .int _
theorem rd_fdiv {i j : Int} (h : CDiv i j) : RD K (rI CDiv fun i j => .int (i / j)) (.int i) (.int j) H (.int (i / j)) := rd_I h fun _ => .int _
theorem rd_mod {i j : Int} (h : 0 < j) : RD K (rI (fun _ j => 0 < j) fun i j => .int (i % j)) (.int i) (.int j) H (.int (i % j)) := rd_I h fun _ => .int _
theorem rd_pow {i j : Int} (h : CPow i j) : RD K (rI CPow fun i j => .int (i ^ j.toNat)) (.int i) (.int j) H (.int (i ^ j.toNat)) := rd_I h fun _ => .int _
theorem rd_lt {i j : Int} : RD K (rI0 fun i j => .bl (decide (i < j))) (.int i) (.int j) H (.bool (decide (i < j))) := rd_I0 fun _ => .bl _
theorem rd_le {i j : Int} : RD K (rI0 fun i j => .bl (decide (i ≤ j))) (.int i) (.int j) H (.bool (decide (i ≤ j))) := rd_I0 fun _ => .bl _
theorem rd_gt {i j : Int} : RD K (rI0 fun i j => .bl (decide (j < i))) (.int i) (.int j) H (.bool (decide (j < i))) := rd_I0 fun _ => .bl _
theorem rd_ge {i j : Int} : RD K (rI0 fun i j => .bl (decide (j ≤ i))) (.int i) (.int j) H (.bool (decide (j ≤ i))) := rd_I0 fun _ => .bl _
theorem rd_eqI {i j : Int} : RD K rEq (.int i) (.int j) H (.bool (decide (i = j))) := fun vx vy H1 e dx' dy Q q => by
  rw [dx'.intV, dy.intV]
  refine ⟨rfl, ?_⟩
  have : decide (V.int i = V.int j) = decide (i = j) := by simp
  rw [this]
  exact q _ H1 (Ex.refl _) (.bl _)
theorem rd_neI {i j : Int} : RD K rNe (.int i) (.int j) H (.bool (!decide (i = j))) := fun vx vy H1 e dx' dy Q q => by
  rw [dx'.intV, dy.intV]
  refine ⟨rfl, ?_⟩
  have : decide (V.int i = V.int j) = decide (i = j) := by simp
  rw [this]
  exact q _ H1 (Ex.refl _) (.bl _)
theorem rd_eqB {i j : Bool} : RD K rEq (.bool i) (.bool j) H (.bool (decide (i = j))) := fun vx vy H1 e dx' dy Q q => by
  rw [dx'.blV, dy.blV]
  refine ⟨rfl, ?_⟩
  have : decide (V.bl i = V.bl j) = decide (i = j) := by simp
  rw [this]
  exact q _ H1 (Ex.refl _) (.bl _)
theorem rd_neB {i j : Bool} : RD K rNe (.bool i) (.bool j) H (.bool (!decide (i = j))) := fun vx vy H1 e dx' dy Q q => by
  rw [dx'.blV, dy.blV]
  refine ⟨rfl, ?_⟩
  have : decide (V.bl i = V.bl j) = decide (i = j) := by simp
  rw [this]
  exact q _ H1 (Ex.refl _) (.bl _)
theorem rd_eqS {i j : Str} : RD K rEq (.str i) (.str j) H (.bool (decide (i = j))) := fun vx vy H1 e dx' dy Q q => by
  rw [dx'.strV, dy.strV]
  refine ⟨rfl, ?_⟩
  have : decide (V.str i = V.str j) = decide (i = j) := by simp
  rw [this]
  exact q _ H1 (Ex.refl _) (.bl _)
theorem rd_neS {i j : Str} : RD K rNe (.str i) (.str j) H (.bool (!decide (i = j))) := fun vx vy H1 e dx' dy Q q => by
  rw [dx'.strV, dy.strV]
  refine ⟨rfl, ?_⟩
  have : decide (V.str i = V.str j) = decide (i = j) := by simp
  rw [this]
  exact q _ H1 (Ex.refl _) (.bl _)
def isNon : PyData → Bool
  | .none => true
  | _ => false
theorem isNon_of {v : V} (h : Dp K H v d) : decide (v = .non) = isNon d := by cases h <;> rfl
theorem rd_isN : RD K (fun x y H Q => y = .non ∧ Q (.bl (decide (x = .non))) H) d .none H (.bool (isNon d)) := fun vx vy H1 e dx' dy Q q => ⟨dy.nonV, by rw [isNon_of dx']; exact q _ H1 (Ex.refl _) (.bl _)⟩
theorem rd_notN : RD K (fun x y H Q => y = .non ∧ Q (.bl (!decide (x = .non))) H) d .none H (.bool (!isNon d)) := fun vx vy H1 e dx' dy Q q => ⟨dy.nonV, by rw [isNon_of dx']; exact q _ H1 (Ex.refl _) (.bl _)⟩
theorem atI_n {α : Type} {xs : List α} {j : Nat} {x : α} (h : xs[j]? = some x) : atI xs (j : Int) = some x := atI_nat h
theorem rd_ixT {ds : List PyData} {j : Nat} (h : ds[j]? = some z) : RD K (rIxT K) (.tuple ds) (.int (j : Int)) H z := fun vx vy H1 e dx' dy Q q => by
  obtain ⟨a, xs, rfl, hs, ha⟩ := dx'.tupV
  obtain ⟨v, h1, h2⟩ := DpAll.get ha h
  exact ⟨a, xs, (j : Int), v, rfl, dy.intV, hs, atI_n h1, q v H1 (Ex.refl _) h2⟩
theorem rd_ixL {ds : List PyData} {j : Nat} (h : ds[j]? = some z) : RD K (rIxL K) (.list ds) (.int (j : Int)) H z := fun vx vy H1 e dx' dy Q q => by
  obtain ⟨a, xs, rfl, hs, ha⟩ := dx'.lstV
  obtain ⟨v, h1, h2⟩ := DpAll.get ha h
  exact ⟨a, xs, (j : Int), v, rfl, dy.intV, hs, atI_n h1, q v H1 (Ex.refl _) h2⟩
theorem rd_catA {as bs : List PyData} (hl : as.length + bs.length ≤ 100000) : RD K (rCatA K) (.tuple as) (.tuple bs) H (.tuple (as ++ bs)) := fun vx vy H1 e dx' dy Q q => by
  obtain ⟨a, xs, rfl, hs, ha⟩ := dx'.tupV
  obtain ⟨b, ys, rfl, ht, hb⟩ := dy.tupV
  have l1 := DpAll.length ha
  have l2 := DpAll.length hb
  have fresh : ∀ p, H1 p = none → Q (.ref p) (L2.upd H1 p (.tup (xs ++ ys))) := fun p hp => q _ _ (Ex.new hp) (.tup (SqT.of upd_same) (dxs (Ex.new hp) (DpAll.append ha hb)))
  refine ⟨a, b, xs, ys, rfl, rfl, hs, ht, by rw [l1, l2]; exact sz_of hl, ?_⟩
  refine ⟨fun h0 => ?_, fun h0 => ?_, fun _ _ p hp => fresh p hp⟩
  · subst h0
    have : as = [] := by cases as <;> simp_all
    subst this
    exact q _ H1 (Ex.refl _) (.tup ht hb)
  · intro h1
    subst h1
    have : bs = [] := by cases bs <;> simp_all
    subst this
    rw [List.append_nil] at q
    exact q _ H1 (Ex.refl _) (.tup hs ha)
end
end K41
set_option Elab.async false
set_option linter.all false
set_option maxRecDepth 100000
set_option maxHeartbeats 5000000
/-! more of what evaluates to which data: calls of built-ins, statements, what is walked, comprehensions -/
namespace K41
open PySem PySem.Spec PyProof.Rows L2 Evl

section
variable {K : PySem.W.Frag} {σ : L2.St} {H H' : Hp} {ta tb tc te tl : TE} {t u : TT} {x y z d : PyData} {v : V} {r r' : R2} {D : Ends} {tz tu tw : TS}

/-! ### calls of built-ins -/
theorem rc_len {ds : List PyData} : RCD K (fun xs H Q => ∃ p ys, xs = [.ref p] ∧ (SqL K H p ys ∨ SqT K H p ys) ∧ Q (.int ys.length) H) [.tuple ds] H (.int ds.length) := fun vs H1 e h Q q => by
  cases h with
  | cons h1 h2 =>
    cases h2
    obtain ⟨a, xs, rfl, hs, ha⟩ := h1.tupV
    refine ⟨a, xs, rfl, .inr hs, ?_⟩
    rw [DpAll.length ha]
    exact q _ H1 (Ex.refl _) (.int _)
theorem rc_lenL {ds : List PyData} : RCD K (fun xs H Q => ∃ p ys, xs = [.ref p] ∧ (SqL K H p ys ∨ SqT K H p ys) ∧ Q (.int ys.length) H) [.list ds] H (.int ds.length) := fun vs H1 e h Q q => by
  cases h with
  | cons h1 h2 =>
    cases h2
    obtain ⟨a, xs, rfl, hs, ha⟩ := h1.lstV
    refine ⟨a, xs, rfl, .inl hs, ?_⟩
    rw [DpAll.length ha]
    exact q _ H1 (Ex.refl _) (.int _)
theorem rc_lenS {s : Str} (hl : s.length ≤ 1000) : RCD K (fun xs H Q => ∃ x n, xs = [x] ∧ LenV K x H n ∧ Q (.int n) H) [.str s] H (.int s.length) := fun vs H1 e h Q q => by
  cases h with
  | cons h1 h2 =>
    cases h2
    rw [h1.strV]
    exact ⟨_, s.length, rfl, ⟨Nat.le_trans hl (by decide), rfl⟩, q _ H1 (Ex.refl _) (.int _)⟩
theorem rc_int {i : Int} : RCD K (fun xs H Q => (∃ i, xs = [.int i] ∧ Q (.int i) H) ∨ ∃ k, xs = [.bl k] ∧ Q (.int (if k then 1 else 0)) H) [.int i] H (.int i) := fun vs H1 e h Q q => by
  cases h with
  | cons h1 h2 =>
    cases h2
    rw [h1.intV]
    exact .inl ⟨i, rfl, q _ H1 (Ex.refl _) (.int _)⟩
theorem rc_intB {b : Bool} : RCD K (fun xs H Q => (∃ i, xs = [.int i] ∧ Q (.int i) H) ∨ ∃ k, xs = [.bl k] ∧ Q (.int (if k then 1 else 0)) H) [.bool b] H (.int (if b then 1 else 0)) := fun vs H1 e h Q q => by
  cases h with
  | cons h1 h2 =>
    cases h2
    rw [h1.blV]
    exact .inr ⟨b, rfl, q _ H1 (Ex.refl _) (.int _)⟩
theorem rc_abs {i : Int} : RCD K (fun xs H Q => ∃ i, xs = [.int i] ∧ Q (.int (if i < 0 then -i else i)) H) [.int i] H (.int (if i < 0 then -i else i)) := fun vs H1 e h Q q => by
  cases h with
  | cons h1 h2 =>
    cases h2
    rw [h1.intV]
    exact ⟨i, rfl, q _ H1 (Ex.refl _) (.int _)⟩
theorem bools_of : ∀ {bs : List Bool} {vs : List V}, DpAll K H vs (bs.map PyData.bool) → vs = bs.map V.bl
  | [], _, h => by cases h; rfl
  | b :: bs, _, h => by
    cases h with
    | cons h1 h2 =>
      rw [h1.blV, bools_of h2]
      rfl
theorem rc_all {bs : List Bool} : RCD K (rAll K) [.list (bs.map PyData.bool)] H (.bool (bs.all id)) := fun vs H1 e h Q q => by
  cases h with
  | cons h1 h2 =>
    cases h2
    obtain ⟨a, xs, rfl, hs, ha⟩ := h1.lstV
    have e := bools_of ha
    subst e
    exact ⟨a, bs, rfl, hs, q _ H1 (Ex.refl _) (.bl _)⟩
theorem rc_tuple {ds : List PyData} : RCD K (fun xs H Q => ∃ p ys, xs = [.ref p] ∧ ((SqL K H p ys ∧ ∀ l, H l = none → Q (.ref l) (upd H l (.tup ys))) ∨ (SqT K H p ys ∧ Q (.ref p) H))) [.list ds] H (.tuple ds) := fun vs H1 e h Q q => by
  cases h with
  | cons h1 h2 =>
    cases h2
    obtain ⟨a, xs, rfl, hs, ha⟩ := h1.lstV
    exact ⟨a, xs, rfl, .inl ⟨hs, fun l hl => q _ _ (Ex.new hl) (.tup (SqT.of upd_same) (dxs (Ex.new hl) ha))⟩⟩
theorem rc_sortedD {ds : List PyData} (h1 : PySem.W.AllAlike ds) (h2 : PySem.W.Sortable ds) (h3 : ∀ d, d ∈ ds → d.depth ≤ 8) : RCD K (rSortedD K) [.list ds] H (.list (ds.mergeSort (PySem.W.dataLe false id))) := fun vs H1 e h Q q => by
  cases h with
  | cons h4 h5 =>
    cases h5
    obtain ⟨a, xs, rfl, hs, ha⟩ := h4.lstV
    exact ⟨a, xs, ds, rfl, hs, ha, h1, h2, h3, fun p ys hp hd => q _ _ (Ex.new hp) (.lst (SqL.of upd_same) hd)⟩
/-- list(t) -/
theorem evdl_listT {ds : List PyData} (h : EvD K ta σ H (.tuple ds)) : EvDL K (tCB (fun xs H Q => ∃ p ys, xs = [.ref p] ∧ (SqL K H p ys ∨ SqT K H p ys) ∧ ∀ l, H l = none → Q (.ref l) (upd H l (.lst ys))) (tCons ta tNil)) σ H ds := fun H1 e Q q =>
  h H1 e _ fun v H2 e2 hd => by
    obtain ⟨a, xs, rfl, hs, ha⟩ := hd.tupV
    exact ⟨a, xs, rfl, .inr hs, fun l hl => q l _ _ (fresh_back e2 hl) (e2.trans (Ex.new hl)) upd_same (dxs (Ex.new hl) ha)⟩
theorem evdl_listL {ds : List PyData} (h : EvD K ta σ H (.list ds)) : EvDL K (tCB (fun xs H Q => ∃ p ys, xs = [.ref p] ∧ (SqL K H p ys ∨ SqT K H p ys) ∧ ∀ l, H l = none → Q (.ref l) (upd H l (.lst ys))) (tCons ta tNil)) σ H ds := fun H1 e Q q =>
  h H1 e _ fun v H2 e2 hd => by
    obtain ⟨a, xs, rfl, hs, ha⟩ := hd.lstV
    exact ⟨a, xs, rfl, .inl hs, fun l hl => q l _ _ (fresh_back e2 hl) (e2.trans (Ex.new hl)) upd_same (dxs (Ex.new hl) ha)⟩

/-! ### isinstance -/
def tyN : PyData → String
  | .none => "NoneType"
  | .bool _ => "bool"
  | .int _ => "int"
  | .str _ => "str"
  | .list _ => "list"
  | .tuple _ => "tuple"
  | .dict _ => "dict"
theorem tyx_of {H : Hp} {v : V} (h : Dp K H v d) (nl : ∀ ds, d ≠ .list ds) (nn : d ≠ .none) : TyX K H v (.type (tyN d)) := by
  cases h with
  | non => exact absurd rfl nn
  | bl b => exact .base (.bl b)
  | int i => exact .base (.int i)
  | str s => exact .base (.str s)
  | lst hs ha => exact absurd rfl (nl _)
  | tup hs ha =>
    rcases hs with (q | ⟨o, q⟩) | ⟨o, its, n, q, hc, _⟩
    · exact .base (.tup q)
    · exact .fTuple q
    · exact .kTuple q hc
theorem evd_isi {T : String} {b : Bool} (h : EvD K ta σ H d) (nl : ∀ ds, d ≠ .list ds) (nn : d ≠ .none) (hk : kitB (tyN d) T = some b) : EvD K (tCB (rIsi K) (tCons ta (tCons (tC (.ty T)) tNil))) σ H (.bool b) := fun H1 e Q q =>
  h H1 e _ fun v H2 e2 hd => ⟨v, .ty T, .type (tyN d), .type T, b, rfl, .ty T, tyx_of hd nl nn, kit_ty hk, q _ H2 e2 (.bl b)⟩

/-! ### in, of ints; of texts -/
theorem inV_ints (m : Int) : ∀ ns : List Int, inV (.int m) (ns.map V.int) = decide (m ∈ ns)
  | [] => by simp [inV]
  | n :: ns => by
    have h := inV_ints m ns
    unfold inV at h ⊢
    rw [List.map_cons, List.any_cons, h]
    have e : eqV (V.int n) (V.int m) = decide (n = m) := by
      show (n == m) = decide (n = m)
      by_cases q : n = m <;> simp [q]
    rw [e]
    by_cases q : n = m
    · subst q; simp
    · have q' : ¬ m = n := fun z => q z.symm
      simp [q, q']
theorem flat_ints (ns : List Int) : (ns.map V.int).all flatV = true := by
  induction ns with
  | nil => rfl
  | cons n ns ih => rw [List.map_cons, List.all_cons, ih]; rfl
theorem rd_inI {m : Int} {ns : List Int} : RD K (rIn K false) (.int m) (.tuple (ns.map PyData.int)) H (.bool (decide (m ∈ ns))) := fun vx vy H1 e dx' dy Q q => by
  obtain ⟨a, xs, rfl, hs, ha⟩ := dy.tupV
  rw [dx'.intV]
  have e := DpAll.intsV ha
  subst e
  refine ⟨a, _, rfl, .inr hs, rfl, flat_ints ns, ?_⟩
  show Q (.bl (inV (.int m) (ns.map V.int))) H1
  rw [inV_ints]
  exact q _ H1 (Ex.refl _) (.bl _)

/-! ### statements -/
theorem q_asgD {i : Nat} (h : EvD K te σ H d) (k : ∀ v H1, Ex H H1 → Dp K H1 v d → tz D (σ.set i (some v)) H1) : tSeq (tAsg te (gName i)) tz D σ H := h H (Ex.refl H) _ fun v H1 e hd => k v H1 e hd
theorem s_asgD {i : Nat} (h : EvD K te σ H d) (k : ∀ v H1, Ex H H1 → Dp K H1 v d → D.nx (σ.set i (some v)) H1) : tAsg te (gName i) D σ H := h H (Ex.refl H) _ fun v H1 e hd => k v H1 e hd
theorem q_asgDL {i : Nat} {ds : List PyData} (h : EvDL K te σ H ds) (k : ∀ p xs H1, H p = none → Ex H H1 → H1 p = some (.lst xs) → DpAll K H1 xs ds → tz D (σ.set i (some (.ref p))) H1) : tSeq (tAsg te (gName i)) tz D σ H := h H (Ex.refl H) _ fun p xs H1 hp e h1 hd => k p xs H1 hp e h1 hd
theorem s_retD (h : EvD K te σ H d) (k : ∀ v H1, Ex H H1 → Dp K H1 v d → D.rt v H1) : tRet te D σ H := h H (Ex.refl H) _ fun v H1 e hd => k v H1 e hd
theorem s_retDL {ds : List PyData} (h : EvDL K te σ H ds) (k : ∀ p xs H1, H p = none → Ex H H1 → H1 p = some (.lst xs) → DpAll K H1 xs ds → D.rt (.ref p) H1) : tRet te D σ H := h H (Ex.refl H) _ fun p xs H1 hp e h1 hd => k p xs H1 hp e h1 hd
/-- the targets of a tuple, two and three names -/
theorem g_tup2 {i j : Nat} {v : V} {d e : PyData} {Q : L2.St → Hp → Prop} (h : Dp K H v (.tuple [d, e])) (k : ∀ x y, Dp K H x d → Dp K H y e → Q ((σ.set i (some x)).set j (some y)) H) : gTup K 2 (gCons (gName i) (gCons (gName j) gNil)) v σ H Q := by
  obtain ⟨a, xs, rfl, hs, ha⟩ := h.tupV
  cases ha with
  | cons h1 h2 =>
    cases h2 with
    | cons h2 h3 =>
      cases h3
      exact ⟨a, _, rfl, hs, rfl, _, _, rfl, _, _, rfl, rfl, k _ _ h1 h2⟩
theorem g_tup3 {i j l : Nat} {v : V} {d e f : PyData} {Q : L2.St → Hp → Prop} (h : Dp K H v (.tuple [d, e, f])) (k : ∀ x y z, Dp K H x d → Dp K H y e → Dp K H z f → Q (((σ.set i (some x)).set j (some y)).set l (some z)) H) :
    gTup K 3 (gCons (gName i) (gCons (gName j) (gCons (gName l) gNil))) v σ H Q := by
  obtain ⟨a, xs, rfl, hs, ha⟩ := h.tupV
  cases ha with
  | cons h1 h2 =>
    cases h2 with
    | cons h2 h3 =>
      cases h3 with
      | cons h3 h4 =>
        cases h4
        exact ⟨a, _, rfl, hs, rfl, _, _, rfl, _, _, rfl, _, _, rfl, rfl, k _ _ _ h1 h2 h3⟩
theorem q_tup2 {i j : Nat} {d e : PyData} (h : EvD K te σ H (.tuple [d, e])) (k : ∀ x y H1, Ex H H1 → Dp K H1 x d → Dp K H1 y e → tz D ((σ.set i (some x)).set j (some y)) H1) : tSeq (tAsg te (gTup K 2 (gCons (gName i) (gCons (gName j) gNil)))) tz D σ H :=
  h H (Ex.refl H) _ fun v H1 e1 hd => g_tup2 hd fun x y hx hy => k x y H1 e1 hx hy
theorem q_tup3 {i j l : Nat} {d e f : PyData} (h : EvD K te σ H (.tuple [d, e, f])) (k : ∀ x y z H1, Ex H H1 → Dp K H1 x d → Dp K H1 y e → Dp K H1 z f → tz D (((σ.set i (some x)).set j (some y)).set l (some z)) H1) :
    tSeq (tAsg te (gTup K 3 (gCons (gName i) (gCons (gName j) (gCons (gName l) gNil))))) tz D σ H :=
  h H (Ex.refl H) _ fun v H1 e1 hd => g_tup3 hd fun x y z hx hy hz => k x y z H1 e1 hx hy hz
/-- xs.append(e) -/
theorem q_appD {l : Addr} {xs : List V} (hl : H l = some (.lst xs)) (ha : Ev ta σ H (.ref l)) (h : EvD K te σ H d) (hz : xs.length < 100000) (k : ∀ v H1, Ex H H1 → Dp K H1 v d → tz D σ (upd H1 l (.lst (xs ++ [v])))) :
    tSeq (tDrop (tBM K "list" rAppend ta (tCons te tNil))) tz D σ H := ha H (Ex.refl H) _ fun H1 e1 =>
  ⟨Or.inl ⟨rfl, xs, sq_of (e1 l _ hl)⟩, h H1 e1 _ fun v H2 e2 hd => ⟨l, xs, v, rfl, rfl, e2 l _ (e1 l _ hl), sz_lt hz, k v H2 (e1.trans e2) hd⟩⟩
theorem s_appD {l : Addr} {xs : List V} (hl : H l = some (.lst xs)) (ha : Ev ta σ H (.ref l)) (h : EvD K te σ H d) (hz : xs.length < 100000) (k : ∀ v H1, Ex H H1 → Dp K H1 v d → D.nx σ (upd H1 l (.lst (xs ++ [v])))) :
    tDrop (tBM K "list" rAppend ta (tCons te tNil)) D σ H := q_appD (D := D) (tz := fun D σ H => D.nx σ H) hl ha h hz k
/-- xs[i] = e -/
theorem q_setD {l : Addr} {xs : List V} {j : Nat} (hl : H l = some (.lst xs)) (h : EvD K te σ H d) (ho : Ev ta σ H (.ref l)) (hi : EvD K tb σ H (.int (j : Int))) (hj : j < xs.length) (k : ∀ v H1, Ex H H1 → Dp K H1 v d → tz D σ (upd H1 l (.lst (xs.set j v)))) :
    tSeq (tAsg te (gSub ta tb rSetL)) tz D σ H := h H (Ex.refl H) _ fun v H1 e1 hd => ho H1 e1 _ fun H2 e2 => (ev_int hi) H2 (e1.trans e2) _ fun H3 e3 =>
  ⟨l, xs, (j : Int), j, rfl, rfl, ((e1.trans e2).trans e3) l _ hl, ixN_nat hj, k v H3 ((e1.trans e2).trans e3) (dx (e2.trans e3) hd)⟩
theorem s_setD {l : Addr} {xs : List V} {j : Nat} (hl : H l = some (.lst xs)) (h : EvD K te σ H d) (ho : Ev ta σ H (.ref l)) (hi : EvD K tb σ H (.int (j : Int))) (hj : j < xs.length) (k : ∀ v H1, Ex H H1 → Dp K H1 v d → D.nx σ (upd H1 l (.lst (xs.set j v)))) :
    tAsg te (gSub ta tb rSetL) D σ H := h H (Ex.refl H) _ fun v H1 e1 hd => ho H1 e1 _ fun H2 e2 => (ev_int hi) H2 (e1.trans e2) _ fun H3 e3 =>
  ⟨l, xs, (j : Int), j, rfl, rfl, ((e1.trans e2).trans e3) l _ hl, ixN_nat hj, k v H3 ((e1.trans e2).trans e3) (dx (e2.trans e3) hd)⟩
/-- xs[i] += e, ints -/
theorem q_augD {l : Addr} {xs : List V} {j : Nat} {a b : Int} {f : Int → Int → Int} (hl : H l = some (.lst xs)) (ho : Ev ta σ H (.ref l)) (hi : EvD K tb σ H (.int (j : Int))) (hj : xs[j]? = some (.int a)) (h : EvD K te σ H (.int b)) (k : ∀ H1, Ex H H1 → tz D σ (upd H1 l (.lst (xs.set j (.int (f a b)))))) :
    tSeq (tAugS ta tb te rGetL (ipI f) rSetL) tz D σ H := ho H (Ex.refl H) _ fun H1 e1 => (ev_int hi) H1 e1 _ fun H2 e2 =>
  ⟨l, xs, j, .int a, rfl, rfl, (e1.trans e2) l _ hl, hj, (ev_int h) H2 (e1.trans e2) _ fun H3 e3 => ⟨a, b, rfl, rfl, l, xs, (j : Int), j, rfl, rfl, ((e1.trans e2).trans e3) l _ hl, ixN_nat (List.getElem?_eq_some_iff.mp hj).1, k H3 ((e1.trans e2).trans e3)⟩⟩
theorem s_augD {l : Addr} {xs : List V} {j : Nat} {a b : Int} {f : Int → Int → Int} (hl : H l = some (.lst xs)) (ho : Ev ta σ H (.ref l)) (hi : EvD K tb σ H (.int (j : Int))) (hj : xs[j]? = some (.int a)) (h : EvD K te σ H (.int b)) (k : ∀ H1, Ex H H1 → D.nx σ (upd H1 l (.lst (xs.set j (.int (f a b)))))) :
    tAugS ta tb te rGetL (ipI f) rSetL D σ H := ho H (Ex.refl H) _ fun H1 e1 => (ev_int hi) H1 e1 _ fun H2 e2 =>
  ⟨l, xs, j, .int a, rfl, rfl, (e1.trans e2) l _ hl, hj, (ev_int h) H2 (e1.trans e2) _ fun H3 e3 => ⟨a, b, rfl, rfl, l, xs, (j : Int), j, rfl, rfl, ((e1.trans e2).trans e3) l _ hl, ixN_nat (List.getElem?_eq_some_iff.mp hj).1, k H3 ((e1.trans e2).trans e3)⟩⟩

/-! ### what is walked: n turns, at turn i a value of item i, as long as Kp stands between the walk's start and now -/
def SrcD (K : PySem.W.Frag) (wi : TI) (σ : L2.St) (H : Hp) (n : Nat) (item : Nat → PyData) (Kp : Hp → Hp → Prop) : Prop :=
  ∀ H1, Ex H H1 → ∀ R : It → Hp → Prop, (∀ (J : It) (H2 : Hp) (G : Hp → Prop) (Y : Nat → Hp → V → Hp → Prop), Ex H1 H2 → Walk J n G Y → (∀ Hi, Kp H2 Hi → G Hi) → (∀ i Hi x Hi', i < n → Kp H2 Hi → Y i Hi x Hi' → Ex Hi Hi' ∧ Dp K Hi' x (item i)) → R J H2) → wi σ H1 R
theorem q_for {wi : TI} {n : Nat} {item : Nat → PyData} {Kp : Hp → Hp → Prop} {g : TG} {tb : TS} (S : SrcD K wi σ H n item Kp) (Pv : Hp → Nat → L2.St → Hp → Prop) (h0 : ∀ H1, Ex H H1 → Pv H1 0 σ H1)
    (hk : ∀ H1 i σ' H', i ≤ n → Pv H1 i σ' H' → Kp H1 H') (hm : ∀ H1 i σ' Hi Hi', Pv H1 i σ' Hi → Ex Hi Hi' → Pv H1 i σ' Hi')
    (hs : ∀ H1 i σ' Hi x, i < n → Pv H1 i σ' Hi → Dp K Hi x (item i) → g x σ' Hi fun σ2 H2 => tb { D with nx := Pv H1 (i + 1), ct := Pv H1 (i + 1), bk := tz D } σ2 H2)
    (hd : ∀ H1 σ' H', Pv H1 n σ' H' → tz D σ' H') : tSeq (tFor wi g tb) tz D σ H :=
  S H (Ex.refl H) _ fun J H2 G Y e W hG hY => for_it W (g := g) (tb := tb) (D := { D with nx := tz D }) (Pv H2) (h0 H2 e) (fun i σ' H' hi p => hG H' (hk H2 i σ' H' hi p))
    (fun i x σ' Hi Hi' hi p y => by
      obtain ⟨ee, hd'⟩ := hY i Hi x Hi' hi (hk H2 i σ' Hi (Nat.le_of_lt hi) p) y
      exact hs H2 i σ' Hi' x hi (hm H2 i σ' Hi Hi' p ee) hd') (hd H2)
theorem s_for {wi : TI} {n : Nat} {item : Nat → PyData} {Kp : Hp → Hp → Prop} {g : TG} {tb : TS} (S : SrcD K wi σ H n item Kp) (Pv : Hp → Nat → L2.St → Hp → Prop) (h0 : ∀ H1, Ex H H1 → Pv H1 0 σ H1)
    (hk : ∀ H1 i σ' H', i ≤ n → Pv H1 i σ' H' → Kp H1 H') (hm : ∀ H1 i σ' Hi Hi', Pv H1 i σ' Hi → Ex Hi Hi' → Pv H1 i σ' Hi')
    (hs : ∀ H1 i σ' Hi x, i < n → Pv H1 i σ' Hi → Dp K Hi x (item i) → g x σ' Hi fun σ2 H2 => tb { D with nx := Pv H1 (i + 1), ct := Pv H1 (i + 1), bk := D.nx } σ2 H2)
    (hd : ∀ H1 σ' H', Pv H1 n σ' H' → D.nx σ' H') : tFor wi g tb D σ H :=
  q_for (tz := fun D σ H => D.nx σ H) (D := D) S Pv h0 hk hm hs hd
theorem src_tup {ss : List PyData} (h : EvD K tl σ H (.tuple ss)) (hn : noLs ss = true) : SrcD K (iTup K tl) σ H ss.length (fun i => ss.getD i .none) (Tx K) := fun H1 e R q =>
  h H1 e _ fun v H2 e2 hd => by
    obtain ⟨a, xs, rfl, hs, ha⟩ := hd.tupV
    have hl := DpAll.length ha
    have W := walk_tup (K := K) (a := a) (xs := xs)
    rw [hl] at W
    refine ⟨a, rfl, ⟨xs, hs⟩, q _ H2 _ _ e2 W (fun Hi k => k a xs hs) fun i Hi x Hi' hi k y => ?_⟩
    obtain ⟨rfl, hx⟩ := y
    obtain ⟨d, hd1, hd2⟩ := DpAll.getV (DpAll.tx k ss xs hn ha) hx
    refine ⟨Ex.refl _, ?_⟩
    show Dp K _ x (ss.getD i .none)
    rw [List.getD_eq_getElem?_getD, hd1]
    exact hd2
/-- a list; no list changes meanwhile -/
theorem src_lst {ss : List PyData} (h : EvD K tl σ H (.list ss)) : SrcD K (iList K tl) σ H ss.length (fun i => ss.getD i .none) (Kx K) := fun H1 e R q =>
  h H1 e _ fun v H2 e2 hd => by
    obtain ⟨a, xs, rfl, hs, ha⟩ := hd.lstV
    have hl := DpAll.length ha
    have W := walk_list (K := K) (a := a) (xs := xs)
    rw [hl] at W
    refine ⟨a, rfl, ⟨xs, hs⟩, q _ H2 _ _ e2 W (fun Hi k => k.l a xs hs) fun i Hi x Hi' hi k y => ?_⟩
    obtain ⟨rfl, hx⟩ := y
    obtain ⟨d, hd1, hd2⟩ := DpAll.getV (DpAll.kx k ss xs ha) hx
    refine ⟨Ex.refl _, ?_⟩
    show Dp K _ x (ss.getD i .none)
    rw [List.getD_eq_getElem?_getD, hd1]
    exact hd2
/-- the list at a, which stays -/
theorem src_lstA {a : Addr} {xs : List V} {ss : List PyData} (h : Ev tl σ H (.ref a)) (hs : SqL K H a xs) (ha : DpAll K H xs ss) (hn : noLs ss = true) : SrcD K (iList K tl) σ H ss.length (fun i => ss.getD i .none) (fun H1 H' => Tx K H1 H' ∧ SqL K H' a xs) := fun H1 e R q =>
  h H1 e _ fun H2 e2 => by
    have hl := DpAll.length ha
    have W := walk_list (K := K) (a := a) (xs := xs)
    rw [hl] at W
    refine ⟨a, rfl, ⟨xs, ex_l (e.trans e2) hs⟩, q _ H2 _ _ e2 W (fun Hi k => k.2) fun i Hi x Hi' hi k y => ?_⟩
    obtain ⟨rfl, hx⟩ := y
    obtain ⟨d, hd1, hd2⟩ := DpAll.getV (DpAll.tx k.1 ss xs hn (dxs (e.trans e2) ha)) hx
    refine ⟨Ex.refl _, ?_⟩
    show Dp K _ x (ss.getD i .none)
    rw [List.getD_eq_getElem?_getD, hd1]
    exact hd2
theorem src_rng {tr : TA} {n : Int} (h : EvDs K tr σ H [.int n]) (h1 : 0 ≤ n) (h2 : n ≤ 100000) : SrcD K (iRng1 tr) σ H n.toNat (fun i => .int (i : Int)) (fun _ _ => True) := fun H1 e R q =>
  h H1 e _ fun vs H2 e2 hd => by
    cases hd with
    | cons a b =>
      cases b
      rw [a.intV]
      refine ⟨n, rfl, by omega, by omega, q _ H2 _ _ e2 walk_range (fun _ _ => trivial) fun i Hi x Hi' hi _ y => ?_⟩
      obtain ⟨rfl, rfl⟩ := y
      refine ⟨Ex.refl _, ?_⟩
      show Dp K _ (V.int (0 + (i : Int))) (.int (i : Int))
      rw [Int.zero_add]
      exact .int _
def signs (z : Str) : List PyData := z.cps.toList.map fun c => .str ⟨#[c]⟩
theorem src_str {z : Str} (h : EvD K tl σ H (.str z)) (wi : TI) (hw : ∀ H1 (R : It → Hp → Prop), tl σ H1 (fun x H2 => ∃ s, x = .str s ∧ R (Its s) H2) → wi σ H1 R) : SrcD K wi σ H (signs z).length (fun i => (signs z).getD i .none) (fun _ _ => True) := fun H1 e R q =>
  hw H1 R (h H1 e _ fun v H2 e2 hd => by
    have W := walk_str (z := z)
    have hl : z.cps.size = (signs z).length := by simp [signs]
    rw [hl] at W
    refine ⟨z, hd.strV, q _ H2 _ _ e2 W (fun _ _ => trivial) fun i Hi x Hi' hi _ y => ?_⟩
    obtain ⟨rfl, c, hc, rfl⟩ := y
    refine ⟨Ex.refl _, ?_⟩
    have e3 : (signs z)[i]? = some (.str ⟨#[c]⟩) := by
      unfold signs
      rw [List.getElem?_map, Array.getElem?_toList, hc]
      rfl
    show Dp K _ _ ((signs z).getD i .none)
    rw [List.getD_eq_getElem?_getD, e3]
    exact .str _)
/-! enumerate -/
theorem src_enT {ss : List PyData} (h : EvD K tl σ H (.tuple ss)) (hn : noLs ss = true) : SrcD K (iEn K (tCons tl tNil)) σ H ss.length (fun i => .tuple [.int (i : Int), ss.getD i .none]) (Tx K) := fun H1 e R q =>
  h H1 e _ fun v H2 e2 hd => by
    obtain ⟨a, xs, rfl, hs, ha⟩ := hd.tupV
    have hl := DpAll.length ha
    have W := walk_en (K := K) (k := .tup a) (xs := xs)
    rw [hl] at W
    refine ⟨.tup a, xs, rfl, hs, q _ H2 _ _ e2 W (fun Hi k => k a xs hs) fun i Hi x Hi' hi k y => ?_⟩
    obtain ⟨T, y1, y2, rfl, hT, rfl, e3, hx⟩ := y
    cases e3
    obtain ⟨d, hd1, hd2⟩ := DpAll.getV (DpAll.tx k ss xs hn ha) hx
    have e4 : ss.getD i .none = d := by rw [List.getD_eq_getElem?_getD, hd1]; rfl
    refine ⟨Ex.new hT, ?_⟩
    show Dp K _ (.ref T) (.tuple [.int (i : Int), ss.getD i .none])
    rw [e4]
    exact .tup (SqT.of upd_same) (.cons (.int _) (.cons (dx (Ex.new hT) hd2) .nil))
theorem src_enS {z : Str} (h : EvD K tl σ H (.str z)) : SrcD K (iEn K (tCons tl tNil)) σ H (signs z).length (fun i => .tuple [.int (i : Int), (signs z).getD i .none]) (fun _ _ => True) := fun H1 e R q =>
  h H1 e _ fun v H2 e2 hd => by
    have W := walk_en (K := K) (k := .txt z) (xs := z.cps.toList.map fun c => V.str ⟨#[c]⟩)
    have hl : (z.cps.toList.map fun c => V.str ⟨#[c]⟩).length = (signs z).length := by simp [signs]
    rw [hl] at W
    refine ⟨.txt z, _, by rw [hd.strV]; rfl, rfl, q _ H2 _ _ e2 W (fun _ _ => rfl) fun i Hi x Hi' hi k y => ?_⟩
    obtain ⟨T, y1, y2, rfl, hT, rfl, e3, hx⟩ := y
    cases e3
    have e4 : ∃ c, y2 = .str ⟨#[c]⟩ ∧ (signs z).getD i .none = .str ⟨#[c]⟩ := by
      have hx' : (z.cps.toList.map fun c => V.str ⟨#[c]⟩)[i]? = some y2 := hx
      rw [List.getElem?_map] at hx'
      cases hc : z.cps.toList[i]? with
      | none => rw [hc] at hx'; cases hx'
      | some c =>
        rw [hc] at hx'
        cases hx'
        refine ⟨c, rfl, ?_⟩
        unfold signs
        rw [List.getD_eq_getElem?_getD, List.getElem?_map, hc]
        rfl
    obtain ⟨c, rfl, e5⟩ := e4
    refine ⟨Ex.new hT, ?_⟩
    show Dp K _ (.ref T) (.tuple [.int (i : Int), (signs z).getD i .none])
    rw [e5]
    exact .tup (SqT.of upd_same) (.cons (.int _) (.cons (.str _) .nil))
theorem src_enA {a : Addr} {xs : List V} {ss : List PyData} (h : Ev tl σ H (.ref a)) (hs : SqL K H a xs) (ha : DpAll K H xs ss) (hn : noLs ss = true) :
    SrcD K (iEn K (tCons tl tNil)) σ H ss.length (fun i => .tuple [.int (i : Int), ss.getD i .none]) (fun H1 H' => Tx K H1 H' ∧ SqL K H' a xs) := fun H1 e R q =>
  h H1 e _ fun H2 e2 => by
    have hl := DpAll.length ha
    have W := walk_en (K := K) (k := .lst a) (xs := xs)
    rw [hl] at W
    refine ⟨.lst a, xs, rfl, ex_l (e.trans e2) hs, q _ H2 _ _ e2 W (fun Hi k => k.2) fun i Hi x Hi' hi k y => ?_⟩
    obtain ⟨T, y1, y2, rfl, hT, rfl, e3, hx⟩ := y
    cases e3
    obtain ⟨d, hd1, hd2⟩ := DpAll.getV (DpAll.tx k.1 ss xs hn (dxs (e.trans e2) ha)) hx
    have e4 : ss.getD i .none = d := by rw [List.getD_eq_getElem?_getD, hd1]; rfl
    refine ⟨Ex.new hT, ?_⟩
    show Dp K _ (.ref T) (.tuple [.int (i : Int), ss.getD i .none])
    rw [e4]
    exact .tup (SqT.of upd_same) (.cons (.int _) (.cons (dx (Ex.new hT) hd2) .nil))

/-! ### comprehensions -/
def givenD (n : Nat) (p : Nat → Bool) (f : Nat → PyData) : List PyData := ((List.range n).filter p).map f
theorem givenD_snoc (n : Nat) (p : Nat → Bool) (f : Nat → PyData) : givenD (n + 1) p f = givenD n p f ++ (if p n = true then [f n] else []) := by
  show ((List.range (n + 1)).filter p).map f = ((List.range n).filter p).map f ++ _
  rw [List.range_succ, List.filter_append, List.map_append]
  congr 1
  cases hp : p n <;> simp [hp]
theorem givenD_yes {n : Nat} {p : Nat → Bool} {f : Nat → PyData} (h : p n = true) : givenD (n + 1) p f = givenD n p f ++ [f n] := by rw [givenD_snoc, if_pos h]
theorem givenD_no {n : Nat} {p : Nat → Bool} {f : Nat → PyData} (h : p n = false) : givenD (n + 1) p f = givenD n p f := by simp [givenD_snoc, h]
theorem givenD_len (n : Nat) (p : Nat → Bool) (f : Nat → PyData) : (givenD n p f).length ≤ n := by
  unfold givenD
  rw [List.length_map]
  have h := List.length_filter_le p (List.range n)
  rw [List.length_range] at h
  exact h
theorem givenD_noL {n : Nat} {p : Nat → Bool} {f : Nat → PyData} (h : ∀ i, i < n → p i = true → noL (f i) = true) : noLs (givenD n p f) = true := by
  refine noLs_all fun d hd => ?_
  unfold givenD at hd
  obtain ⟨i, hi, rfl⟩ := List.mem_map.mp hd
  rw [List.mem_filter, List.mem_range] at hi
  exact h i hi.1 hi.2
theorem evdl_lc {wi : TI} {n : Nat} {item : Nat → PyData} {Kp : Hp → Hp → Prop} {g : TG} {tt : TT} {te : TE} {vs : List Nat} (S : SrcD K wi σ H n item Kp) (hK : ∀ H1 H', Ex H1 H' → Kp H1 H') (hn : n ≤ 50000) (p : Nat → Bool) (f : Nat → PyData)
    (hf : ∀ i, i < n → p i = true → noL (f i) = true)
    (hs : ∀ i x Hi (Q : L2.St → Hp → Prop), i < n → Ex H Hi → Dp K Hi x (item i) → (∀ σ2, wipe σ2 vs = wipe σ vs → EvT tt σ2 Hi (p i) → (p i = true → EvD K te σ2 Hi (f i)) → Q σ2 Hi) → g x (wipe σ vs) Hi Q) :
    EvDL K (tLc wi g tt te vs) σ H (givenD n p f) := fun H1 e Q q =>
  S H1 e _ fun J H2 G Y e2 W hG hY => fun Dl hD => by
    refine lc_it W (fun i H' => H2 Dl = none ∧ Ex H2 H' ∧ ∃ ys, H' Dl = some (.lst ys) ∧ DpAll K H' ys (givenD i p f)) ⟨hD, Ex.new hD, [], upd_same, .nil⟩ (fun i H' hi pp => hG H' (hK _ _ pp.2.1)) (fun i x Hi Hi' hi pp y => ?_) (fun H' pp => ?_)
    · obtain ⟨p1, p2, ys, p3, p4⟩ := pp
      obtain ⟨e3, hd⟩ := hY i Hi x Hi' hi (hK _ _ p2) y
      refine hs i x Hi' _ hi ((e.trans e2).trans (p2.trans e3)) hd fun σ2 hw ht he => ⟨hw, ht Hi' (Ex.refl _) _ fun H3 e4 => ?_⟩
      cases hp : p i with
      | true =>
        show te σ2 H3 fun y H4 => _
        refine he hp H3 e4 _ fun v H4 e5 hv => ?_
        have e6 := e3.trans (e4.trans e5)
        have hl := DpAll.length p4
        have hgl := givenD_len i p f
        refine ⟨ys, e6 _ _ p3, sz_lt (by omega), p1, Ex.mut (p2.trans e6) p1, ys ++ [v], upd_same, ?_⟩
        rw [givenD_yes hp]
        have hT : Tx K H4 (upd H4 Dl (.lst (ys ++ [v]))) := Tx.updL (e6 _ _ p3)
        exact DpAll.append (DpAll.tx hT _ _ (givenD_noL fun j hj hpj => hf j (by omega) hpj) (dxs e6 p4)) (DpAll.one (Dp.tx hT _ _ (hf i hi hp) hv))
      | false =>
        refine ⟨p1, p2.trans (e3.trans e4), ys, (e3.trans e4) _ _ p3, ?_⟩
        rw [givenD_no hp]
        exact dxs (e3.trans e4) p4
    · obtain ⟨p1, p2, ys, p3, p4⟩ := pp
      exact q Dl ys H' (fresh_back e2 p1) (e2.trans p2) p3 p4
/-- the target one name, no test -/
theorem evdl_lc1 {wi : TI} {n j : Nat} {item : Nat → PyData} {Kp : Hp → Hp → Prop} {te : TE} {vs : List Nat} (S : SrcD K wi σ H n item Kp) (hK : ∀ H1 H', Ex H1 H' → Kp H1 H') (hn : n ≤ 50000) (f : Nat → PyData)
    (hf : ∀ i, i < n → noL (f i) = true) (hw : ∀ x, wipe ((wipe σ vs).set j (some x)) vs = wipe σ vs) (he : ∀ i x Hi, i < n → Ex H Hi → Dp K Hi x (item i) → EvD K te ((wipe σ vs).set j (some x)) Hi (f i)) :
    EvDL K (tLc wi (gName j) tYes te vs) σ H ((List.range n).map f) := by
  have h := evdl_lc (K := K) (σ := σ) (H := H) (te := te) (tt := tYes) (g := gName j) (vs := vs) S hK hn (fun _ => true) f (fun i hi _ => hf i hi) (fun i x Hi Q hi e hd k => k _ (hw x) (fun H1 _ _ q => q H1 (Ex.refl _)) (fun _ => he i x Hi hi e hd))
  have e : givenD n (fun _ => true) f = (List.range n).map f := by
    unfold givenD
    rw [List.filter_eq_self.mpr (by simp)]
  rw [e] at h
  exact h
end
end K41
set_option Elab.async false
set_option linter.all false
set_option maxRecDepth 100000
set_option maxHeartbeats 5000000
/-! the layer's rules, the written part by its letter -/
namespace K41
open PySem PySem.Spec PyProof.Rows L2 Evl
section
variable {X : Cx} {K : PySem.W.Frag}
theorem ix_tupK (h : X.K = K) : IxR X (rIxT K) := h ▸ ix_tup
theorem ix_listK (h : X.K = K) : IxR X (rIxL K) := h ▸ ix_list
theorem sl_listK (h : X.K = K) : SlR X (rSlL K) := h ▸ sl_list
theorem cr_allK (h : X.K = K) (hc : X.calm = true) : CallR X (.builtin "all") (rAll K) := h ▸ cr_all hc
theorem call_isiK' (h : X.K = K) : CallR X (.builtin "isinstance") (rIsi K) := h ▸ call_isi
def rLenQ (K : PySem.W.Frag) : List V → Hp → VK → Prop := fun xs H Q => ∃ p ys, xs = [.ref p] ∧ (SqL K H p ys ∨ SqT K H p ys) ∧ Q (.int ys.length) H
theorem call_lenQ (h : X.K = K) : CallR X (.builtin "len") (rLenQ K) := h ▸ call_len_seq
def rLenT (K : PySem.W.Frag) : List V → Hp → VK → Prop := fun xs H Q => ∃ x n, xs = [x] ∧ LenV K x H n ∧ Q (.int n) H
theorem call_lenT (h : X.K = K) : CallR X (.builtin "len") (rLenT K) := h ▸ call_len
theorem op_inK (h : X.K = K) : OpR X (compareOp .In) (rIn K false) := h ▸ op_in_seq
theorem op_repTK (h : X.K = K) : OpR X (binaryOp .Mult) (rRepT K) := h ▸ op_repT
theorem op_catK (h : X.K = K) : OpR X (binaryOp .Add) (rCatA K) := h ▸ op_catA
theorem cr_sortedK (h : X.K = K) (hu : X.A.units + 64 < cLine) : CallR X (.builtin "sorted") (rSortedD K) := h ▸ cr_sortedD hu
theorem op_neDK (h : X.K = K) (hu : X.A.units + 64 < cLine) : OpR X (compareOp .NotEq) (rNeD K) := h ▸ op_neD hu
def rTupOf (K : PySem.W.Frag) : List V → Hp → VK → Prop := fun xs H Q => ∃ p ys, xs = [.ref p] ∧ ((SqL K H p ys ∧ ∀ l, H l = none → Q (.ref l) (upd H l (.tup ys))) ∨ (SqT K H p ys ∧ Q (.ref p) H))
theorem call_tupK (h : X.K = K) : CallR X (.type "tuple") (rTupOf K) := h ▸ call_tuple_of
def rLstOf (K : PySem.W.Frag) : List V → Hp → VK → Prop := fun xs H Q => ∃ p ys, xs = [.ref p] ∧ (SqL K H p ys ∨ SqT K H p ys) ∧ ∀ l, H l = none → Q (.ref l) (upd H l (.lst ys))
theorem call_lstK (h : X.K = K) : CallR X (.type "list") (rLstOf K) := h ▸ call_list_of
def rIntOf : List V → Hp → VK → Prop := fun xs H Q => (∃ i, xs = [.int i] ∧ Q (.int i) H) ∨ ∃ k, xs = [.bl k] ∧ Q (.int (if k then 1 else 0)) H
theorem call_intK : CallR X (.type "int") rIntOf := call_int1
def rAbs : List V → Hp → VK → Prop := fun xs H Q => ∃ i, xs = [.int i] ∧ Q (.int (if i < 0 then -i else i)) H
theorem call_absK : CallR X (.builtin "abs") rAbs := call_abs
def rIsNn : R2 := fun x y H Q => y = .non ∧ Q (.bl (decide (x = .non))) H
def rNotNn : R2 := fun x y H Q => y = .non ∧ Q (.bl (!decide (x = .non))) H
theorem op_isNK : OpR X (compareOp .Is) rIsNn := op_isN
theorem op_notNK : OpR X (compareOp .IsNot) rNotNn := op_notN
theorem pi_tupK (h : X.K = K) {tg l : Expr} {tl : TE} (hl : PE X l tl) : PI X tg l (iTup K tl) := h ▸ pi_tup hl
theorem pi_listK (h : X.K = K) {tg l : Expr} {tl : TE} (hl : PE X l tl) : PI X tg l (iList K tl) := h ▸ pi_list hl
theorem pi_strK {tg l : Expr} {tl : TE} (hl : PE X l tl) : PI X tg l (iStr tl) := pi_str hl
theorem enK (h : X.K = K) {tg e : Expr} {ta : TA} (p : PI X tg e (iEn X.K ta)) : PI X tg e (iEn K ta) := h ▸ p
theorem z2K (h : X.K = K) {tg e : Expr} {ta : TA} (p : PI X tg e (iZ2 X.K ta)) : PI X tg e (iZ2 K ta) := h ▸ p
theorem z3K (h : X.K = K) {tg e : Expr} {ta : TA} (p : PI X tg e (iZ3 X.K ta)) : PI X tg e (iZ3 K ta) := h ▸ p
theorem pg_tupK (h : X.K = K) {es : List Expr} {k : Nat} {t : TGs} {n : Nat} {pos : Pos} (hc : X.calm = true) (hp : PGs X es t) (hn : (assignEach es X.env).length = n := by rfl) (hst : (assignEach es X.env).findIdx? (·.1) = none := by rfl) :
    PG X (.Tuple es k pos) (gTup K n t) := by
  subst h
  exact pg_tup hc hp hn hst
theorem pe_fldK (h : X.K = K) {e : Expr} {f : Str} {pos : Pos} {ta : TE} (he : PE X e ta) (hb : attributeBase e f X.env (eval e X.env) = eval e X.env) : PE X (.Attribute e f pos) (tFld K ta f) := h ▸ pe_fld he hb
theorem ps_fldK (h : X.K = K) {o value : Expr} {f : Str} {pos pos' : Pos} {ta tv : TE} (ha : PE X o ta) (hv : PE X value tv) (hs : swapsWith value (some (.Attribute o f pos')) pos.line X.env = pure false) : PS X (.Assign [.Attribute o f pos'] value pos) (sFld K ta tv f) := h ▸ ps_fld ha hv hs
theorem bmK (h : X.K = K) {e : Expr} {T : String} {r : V → List V → Hp → VK → Prop} {to : TE} {t : TA} (p : PE X e (tBM X.K T r to t)) : PE X e (tBM K T r to t) := h ▸ p
theorem bm0K (h : X.K = K) {e : Expr} {T : String} {r : V → List V → Hp → VK → Prop} {to : TE} (p : PE X e (tBM0 X.K T r to)) : PE X e (tBM0 K T r to) := h ▸ p
theorem pe_gTK (h : X.K = K) {x : Str} {xs : List V} {pos : Pos} (hx : ∃ a, X.mg x = some (.ref a) ∧ ∀ H', SqT K H' a xs) (hg : Gl X x) (hd : (x == ("__debug__" : Str)) = false) : PE X (.Name x pos) (tGT K xs) := by
  subst h
  exact pe_gT hx hg hd
variable {σ : L2.St} {H : Hp} {ta : TE} {d : PyData}
theorem rq_len {ds : List PyData} : RCD K (rLenQ K) [.tuple ds] H (.int ds.length) := rc_len
theorem rq_lenL {ds : List PyData} : RCD K (rLenQ K) [.list ds] H (.int ds.length) := rc_lenL
theorem rq_lenS {s : Str} (hl : s.length ≤ 1000) : RCD K (rLenT K) [.str s] H (.int s.length) := rc_lenS hl
theorem rq_int {i : Int} : RCD K rIntOf [.int i] H (.int i) := rc_int
theorem rq_intB {b : Bool} : RCD K rIntOf [.bool b] H (.int (if b then 1 else 0)) := rc_intB
theorem rq_abs {i : Int} : RCD K rAbs [.int i] H (.int (if i < 0 then -i else i)) := rc_abs
theorem rq_tup {ds : List PyData} : RCD K (rTupOf K) [.list ds] H (.tuple ds) := rc_tuple
theorem evdq_listT {ds : List PyData} (h : EvD K ta σ H (.tuple ds)) : EvDL K (tCB (rLstOf K) (tCons ta tNil)) σ H ds := evdl_listT h
theorem evdq_listL {ds : List PyData} (h : EvD K ta σ H (.list ds)) : EvDL K (tCB (rLstOf K) (tCons ta tNil)) σ H ds := evdl_listL h
theorem rq_isN : RD K rIsNn d .none H (.bool (isNon d)) := rd_isN
theorem rq_notN : RD K rNotNn d .none H (.bool (!isNon d)) := rd_notN
theorem src_strK {z : Str} (h : EvD K ta σ H (.str z)) : SrcD K (iStr ta) σ H (signs z).length (fun i => (signs z).getD i .none) (fun _ _ => True) := src_str h _ fun _ _ q => q
end
end K41
set_option Elab.async false
set_option linter.all false
set_option maxRecDepth 100000
set_option maxHeartbeats 5000000
/-! the text by places -/
namespace K41
open PySem PySem.Spec PyProof.Rows L2 Evl

def topS (i : Nat) : Stmt := PySem.Challenge.pw_owncause_k41_whole_rules_are_couplings.main.body.getD i (.Pass ⟨0, 0, 0, 0⟩)
abbrev st_is_integer : Stmt := topS 11
theorem sc_is_integer : FnScope ["thing"] ["thing"] (defScope st_is_integer) := ⟨rfl, rfl, rfl, by decide +kernel, rfl, by decide +kernel, by decide +kernel⟩
abbrev st_is_within : Stmt := topS 12
theorem sc_is_within : FnScope ["thing", "least", "most"] ["thing", "least", "most"] (defScope st_is_within) := ⟨rfl, rfl, rfl, by decide +kernel, rfl, by decide +kernel, by decide +kernel⟩
abbrev st_is_pair : Stmt := topS 13
theorem sc_is_pair : FnScope ["thing"] ["thing"] (defScope st_is_pair) := ⟨rfl, rfl, rfl, by decide +kernel, rfl, by decide +kernel, by decide +kernel⟩
abbrev st_is_lot : Stmt := topS 14
theorem sc_is_lot : FnScope ["thing", "many", "last", "item"] ["thing", "many"] (defScope st_is_lot) := ⟨rfl, rfl, rfl, by decide +kernel, rfl, by decide +kernel, by decide +kernel⟩
abbrev st_is_table : Stmt := topS 15
theorem sc_is_table : FnScope ["thing", "size"] ["thing", "size"] (defScope st_is_table) := ⟨rfl, rfl, rfl, by decide +kernel, rfl, by decide +kernel, by decide +kernel⟩
abbrev st_is_many : Stmt := topS 16
theorem sc_is_many : FnScope ["thing"] ["thing"] (defScope st_is_many) := ⟨rfl, rfl, rfl, by decide +kernel, rfl, by decide +kernel, by decide +kernel⟩
abbrev st_check_many : Stmt := topS 17
theorem sc_check_many : FnScope ["many", "least", "most"] ["many", "least", "most"] (defScope st_check_many) := ⟨rfl, rfl, rfl, by decide +kernel, rfl, by decide +kernel, by decide +kernel⟩
abbrev st_has_yes : Stmt := topS 19
theorem sc_has_yes : FnScope ["many", "number", "member"] ["many", "number", "member"] (defScope st_has_yes) := ⟨rfl, rfl, rfl, by decide +kernel, rfl, by decide +kernel, by decide +kernel⟩
abbrev st_turned : Stmt := topS 20
theorem sc_turned : FnScope ["many", "number", "member", "step"] ["many", "number", "member"] (defScope st_turned) := ⟨rfl, rfl, rfl, by decide +kernel, rfl, by decide +kernel, by decide +kernel⟩
abbrev st_fits_coupling : Stmt := topS 23
theorem sc_fits_coupling : FnScope ["many", "thing", "member", "row"] ["many", "thing"] (defScope st_fits_coupling) := ⟨rfl, rfl, rfl, by decide +kernel, rfl, by decide +kernel, by decide +kernel⟩
abbrev st_is_coupling : Stmt := topS 24
theorem sc_is_coupling : FnScope ["many", "thing"] ["many", "thing"] (defScope st_is_coupling) := ⟨rfl, rfl, rfl, by decide +kernel, rfl, by decide +kernel, by decide +kernel⟩
abbrev st_next_open : Stmt := topS 25
theorem sc_next_open : FnScope ["known", "row", "member"] ["known"] (defScope st_next_open) := ⟨rfl, rfl, rfl, by decide +kernel, rfl, by decide +kernel, by decide +kernel⟩
abbrev st_with_tie : Stmt := topS 26
theorem sc_with_tie : FnScope ["many", "known", "row", "member", "later"] ["many", "known", "row", "member"] (defScope st_with_tie) := ⟨rfl, rfl, rfl, by decide +kernel, rfl, by decide +kernel, by decide +kernel⟩
abbrev st_couplings : Stmt := topS 27
theorem sc_couplings : FnScope ["many", "found", "waiting", "known", "row", "open_members", "member"] ["many"] (defScope st_couplings) := ⟨rfl, rfl, rfl, by decide +kernel, rfl, by decide +kernel, by decide +kernel⟩
abbrev st_is_duties : Stmt := topS 31
theorem sc_is_duties : FnScope ["thing", "sign"] ["thing"] (defScope st_is_duties) := ⟨rfl, rfl, rfl, by decide +kernel, rfl, by decide +kernel, by decide +kernel⟩
abbrev st_is_count : Stmt := topS 32
theorem sc_is_count : FnScope ["many", "thing"] ["many", "thing"] (defScope st_is_count) := ⟨rfl, rfl, rfl, by decide +kernel, rfl, by decide +kernel, by decide +kernel⟩
abbrev st_are_marks : Stmt := topS 33
theorem sc_are_marks : FnScope ["many", "thing", "sign"] ["many", "thing"] (defScope st_are_marks) := ⟨rfl, rfl, rfl, by decide +kernel, rfl, by decide +kernel, by decide +kernel⟩
abbrev st_unmarked : Stmt := topS 35
theorem sc_unmarked : FnScope ["duties", "counts"] ["duties", "counts"] (defScope st_unmarked) := ⟨rfl, rfl, rfl, by decide +kernel, rfl, by decide +kernel, by decide +kernel⟩
abbrev st_plain_book : Stmt := topS 36
theorem sc_plain_book : FnScope ["duties", "picks"] ["duties", "picks"] (defScope st_plain_book) := ⟨rfl, rfl, rfl, by decide +kernel, rfl, by decide +kernel, by decide +kernel⟩
abbrev st_keeps_duty : Stmt := topS 38
theorem sc_keeps_duty : FnScope ["duty", "one", "other"] ["duty", "one", "other"] (defScope st_keeps_duty) := ⟨rfl, rfl, rfl, by decide +kernel, rfl, by decide +kernel, by decide +kernel⟩
abbrev st_fault_at : Stmt := topS 39
theorem sc_fault_at : FnScope ["book", "rule", "row", "picked", "least", "most", "member", "sign", "duty", "other"] ["book", "rule", "row"] (defScope st_fault_at) := ⟨rfl, rfl, rfl, by decide +kernel, rfl, by decide +kernel, by decide +kernel⟩
abbrev st_fault_of : Stmt := topS 40
theorem sc_fault_of : FnScope ["book", "rule", "row", "found"] ["book", "rule"] (defScope st_fault_of) := ⟨rfl, rfl, rfl, by decide +kernel, rfl, by decide +kernel, by decide +kernel⟩
abbrev st_first_fault : Stmt := topS 41
theorem sc_first_fault : FnScope ["book", "thing", "row", "picked"] ["book", "thing"] (defScope st_first_fault) := ⟨rfl, rfl, rfl, by decide +kernel, rfl, by decide +kernel, by decide +kernel⟩
abbrev st_keeps : Stmt := topS 42
theorem sc_keeps : FnScope ["book", "thing"] ["book", "thing"] (defScope st_keeps) := ⟨rfl, rfl, rfl, by decide +kernel, rfl, by decide +kernel, by decide +kernel⟩
abbrev st_own_ties : Stmt := topS 44
theorem sc_own_ties : FnScope ["book", "found", "row", "member"] ["book"] (defScope st_own_ties) := ⟨rfl, rfl, rfl, by decide +kernel, rfl, by decide +kernel, by decide +kernel⟩
abbrev st_check_listed : Stmt := topS 48
theorem sc_check_listed : FnScope ["book"] ["book"] (defScope st_check_listed) := ⟨rfl, rfl, rfl, by decide +kernel, rfl, by decide +kernel, by decide +kernel⟩
abbrev st_lets : Stmt := topS 49
theorem sc_lets : FnScope ["sign", "flag"] ["sign", "flag"] (defScope st_lets) := ⟨rfl, rfl, rfl, by decide +kernel, rfl, by decide +kernel, by decide +kernel⟩
abbrev st_fillings : Stmt := topS 50
theorem sc_fillings : FnScope ["book", "tie", "row", "member", "other", "found", "one", "two"] ["book", "tie"] (defScope st_fillings) := ⟨rfl, rfl, rfl, by decide +kernel, rfl, by decide +kernel, by decide +kernel⟩
abbrev st_can_still : Stmt := topS 51
theorem sc_can_still : FnScope ["book", "many", "left", "picks", "more", "count"] ["book", "many", "left"] (defScope st_can_still) := ⟨rfl, rfl, rfl, by decide +kernel, rfl, by decide +kernel, by decide +kernel⟩
abbrev st_filled : Stmt := topS 52
theorem sc_filled : FnScope ["many", "tie", "filling", "found"] ["many", "tie", "filling"] (defScope st_filled) := ⟨rfl, rfl, rfl, by decide +kernel, rfl, by decide +kernel, by decide +kernel⟩
abbrev st_ties_left : Stmt := topS 53
theorem sc_ties_left : FnScope ["book", "ties", "found", "left", "tie"] ["book", "ties"] (defScope st_ties_left) := ⟨rfl, rfl, rfl, by decide +kernel, rfl, by decide +kernel, by decide +kernel⟩
abbrev st_count_rules : Stmt := topS 54
theorem sc_count_rules : FnScope ["book", "ties", "left", "found", "index", "tie", "later", "many", "ways", "filling", "picks"] ["book"] (defScope st_count_rules) := ⟨rfl, rfl, rfl, by decide +kernel, rfl, by decide +kernel, by decide +kernel⟩
abbrev st_all_fillings : Stmt := topS 55
theorem sc_all_fillings : FnScope ["book", "ties", "left", "found", "index", "tie", "later", "row", "many", "filling", "picks"] ["book"] (defScope st_all_fillings) := ⟨rfl, rfl, rfl, by decide +kernel, rfl, by decide +kernel, by decide +kernel⟩
abbrev st_rule_filled : Stmt := topS 56
theorem sc_rule_filled : FnScope ["book", "row", "picked", "place", "tie", "filling", "flag", "lot"] ["book", "row"] (defScope st_rule_filled) := ⟨rfl, rfl, rfl, by decide +kernel, rfl, by decide +kernel, by decide +kernel⟩
abbrev st_all_rules : Stmt := topS 57
theorem sc_all_rules : FnScope ["book", "row"] ["book"] (defScope st_all_rules) := ⟨rfl, rfl, rfl, by decide +kernel, rfl, by decide +kernel, by decide +kernel⟩
abbrev st_law_dice : Stmt := topS 59
theorem sc_law_dice : FnScope ["_law_script", "_law_cell"] ["_law_script"] (defScope st_law_dice) := ⟨rfl, rfl, rfl, by decide +kernel, rfl, by decide +kernel, by decide +kernel⟩
abbrev st_law_draw : Stmt := topS 60
theorem sc_law_draw : FnScope ["_law_dice_here", "_law_sides", "_law_cell", "_law_digit", "_law_mixed"] ["_law_dice_here", "_law_sides"] (defScope st_law_draw) := ⟨rfl, rfl, rfl, by decide +kernel, rfl, by decide +kernel, by decide +kernel⟩
abbrev st_law_power : Stmt := topS 61
theorem sc_law_power : FnScope ["_law_many"] ["_law_many"] (defScope st_law_power) := ⟨rfl, rfl, rfl, by decide +kernel, rfl, by decide +kernel, by decide +kernel⟩
abbrev st_law_turned : Stmt := topS 62
theorem sc_law_turned : FnScope ["_law_many", "_law_row", "_law_member", "_law_step"] ["_law_many", "_law_row", "_law_member"] (defScope st_law_turned) := ⟨rfl, rfl, rfl, by decide +kernel, rfl, by decide +kernel, by decide +kernel⟩
abbrev st_law_is_count : Stmt := topS 63
theorem sc_law_is_count : FnScope ["_law_thing", "_law_many"] ["_law_thing", "_law_many"] (defScope st_law_is_count) := ⟨rfl, rfl, rfl, by decide +kernel, rfl, by decide +kernel, by decide +kernel⟩
abbrev st_law_is_coupling : Stmt := topS 64
theorem sc_law_is_coupling : FnScope ["_law_many", "_law_thing", "_law_member", "_law_row"] ["_law_many", "_law_thing"] (defScope st_law_is_coupling) := ⟨rfl, rfl, rfl, by decide +kernel, rfl, by decide +kernel, by decide +kernel⟩
abbrev st_law_switched : Stmt := topS 65
theorem sc_law_switched : FnScope ["_law_dice_here", "_law_many", "_law_coupling_here", "_law_turns", "_law_made", "_law_turn", "_law_row", "_law_other", "_law_member", "_law_beside", "_law_place"] ["_law_dice_here", "_law_many", "_law_coupling_here", "_law_turns"] (defScope st_law_switched) := ⟨rfl, rfl, rfl, by decide +kernel, rfl, by decide +kernel, by decide +kernel⟩
abbrev st_law_row_with : Stmt := topS 66
theorem sc_law_row_with : FnScope ["_law_many", "_law_member", "_law_slip", "_law_rest", "_law_low"] ["_law_many", "_law_member", "_law_slip", "_law_rest"] (defScope st_law_row_with) := ⟨rfl, rfl, rfl, by decide +kernel, rfl, by decide +kernel, by decide +kernel⟩
abbrev st_law_coupling : Stmt := topS 67
theorem sc_law_coupling : FnScope ["_law_dice_here", "_law_many", "_law_member", "_law_made", "_law_row", "_law_slip", "_law_half", "_law_rest"] ["_law_dice_here", "_law_many"] (defScope st_law_coupling) := ⟨rfl, rfl, rfl, by decide +kernel, rfl, by decide +kernel, by decide +kernel⟩
abbrev st_law_flag : Stmt := topS 68
theorem sc_law_flag : FnScope ["_law_told", "_law_due"] ["_law_told", "_law_due"] (defScope st_law_flag) := ⟨rfl, rfl, rfl, by decide +kernel, rfl, by decide +kernel, by decide +kernel⟩
abbrev st_law : Stmt := topS 69
theorem sc_law : FnScope ["_law_script", "_law_dice_here", "_law_many", "_law_book", "_law_due", "_law_member", "_law_coupling_here", "_law_rule", "_law_turn", "_law_made", "_law_row", "_law_good", "_law_other", "_law_picked"] ["_law_script"] (defScope st_law) := ⟨rfl, rfl, rfl, by decide +kernel, rfl, by decide +kernel, by decide +kernel⟩
abbrev st_Book_init : Stmt := inClass (topS 34) 0
theorem sc_Book_init : FnScope ["self", "duties", "counts", "marks", "many", "count", "signs"] ["self", "duties", "counts", "marks"] (defScope st_Book_init) := ⟨rfl, rfl, rfl, by decide +kernel, rfl, by decide +kernel, by decide +kernel⟩
theorem nd_Book : (("Book" : Str) == ("__debug__" : Str)) = false := by decide +kernel
theorem nc_Book : (("Book" : Str) == ("__classdict__" : Str)) = false := by decide +kernel
theorem nd_DUTIES : (("DUTIES" : Str) == ("__debug__" : Str)) = false := by decide +kernel
theorem nc_DUTIES : (("DUTIES" : Str) == ("__classdict__" : Str)) = false := by decide +kernel
theorem nd_MOST_LISTED_couplings : (("MOST_LISTED_couplings" : Str) == ("__debug__" : Str)) = false := by decide +kernel
theorem nc_MOST_LISTED_couplings : (("MOST_LISTED_couplings" : Str) == ("__classdict__" : Str)) = false := by decide +kernel
theorem nd_MOST_LISTED_listing : (("MOST_LISTED_listing" : Str) == ("__debug__" : Str)) = false := by decide +kernel
theorem nc_MOST_LISTED_listing : (("MOST_LISTED_listing" : Str) == ("__classdict__" : Str)) = false := by decide +kernel
theorem nd_MOST_MEMBERS : (("MOST_MEMBERS" : Str) == ("__debug__" : Str)) = false := by decide +kernel
theorem nc_MOST_MEMBERS : (("MOST_MEMBERS" : Str) == ("__classdict__" : Str)) = false := by decide +kernel
theorem nd_MOST_RULES : (("MOST_RULES" : Str) == ("__debug__" : Str)) = false := by decide +kernel
theorem nc_MOST_RULES : (("MOST_RULES" : Str) == ("__classdict__" : Str)) = false := by decide +kernel
theorem nd_POWERS : (("POWERS" : Str) == ("__debug__" : Str)) = false := by decide +kernel
theorem nc_POWERS : (("POWERS" : Str) == ("__classdict__" : Str)) = false := by decide +kernel
theorem nd_SIGNS : (("SIGNS" : Str) == ("__debug__" : Str)) = false := by decide +kernel
theorem nc_SIGNS : (("SIGNS" : Str) == ("__classdict__" : Str)) = false := by decide +kernel
theorem nd_abs : (("abs" : Str) == ("__debug__" : Str)) = false := by decide +kernel
theorem nc_abs : (("abs" : Str) == ("__classdict__" : Str)) = false := by decide +kernel
theorem nd_all : (("all" : Str) == ("__debug__" : Str)) = false := by decide +kernel
theorem nc_all : (("all" : Str) == ("__classdict__" : Str)) = false := by decide +kernel
theorem nd_all_fillings : (("all_fillings" : Str) == ("__debug__" : Str)) = false := by decide +kernel
theorem nc_all_fillings : (("all_fillings" : Str) == ("__classdict__" : Str)) = false := by decide +kernel
theorem nd_all_rules : (("all_rules" : Str) == ("__debug__" : Str)) = false := by decide +kernel
theorem nc_all_rules : (("all_rules" : Str) == ("__classdict__" : Str)) = false := by decide +kernel
theorem nd_are_marks : (("are_marks" : Str) == ("__debug__" : Str)) = false := by decide +kernel
theorem nc_are_marks : (("are_marks" : Str) == ("__classdict__" : Str)) = false := by decide +kernel
theorem nd_book : (("book" : Str) == ("__debug__" : Str)) = false := by decide +kernel
theorem nc_book : (("book" : Str) == ("__classdict__" : Str)) = false := by decide +kernel
theorem nd_bool : (("bool" : Str) == ("__debug__" : Str)) = false := by decide +kernel
theorem nc_bool : (("bool" : Str) == ("__classdict__" : Str)) = false := by decide +kernel
theorem nd_can_still : (("can_still" : Str) == ("__debug__" : Str)) = false := by decide +kernel
theorem nc_can_still : (("can_still" : Str) == ("__classdict__" : Str)) = false := by decide +kernel
theorem nd_check_listed : (("check_listed" : Str) == ("__debug__" : Str)) = false := by decide +kernel
theorem nc_check_listed : (("check_listed" : Str) == ("__classdict__" : Str)) = false := by decide +kernel
theorem nd_check_many : (("check_many" : Str) == ("__debug__" : Str)) = false := by decide +kernel
theorem nc_check_many : (("check_many" : Str) == ("__classdict__" : Str)) = false := by decide +kernel
theorem nd_count : (("count" : Str) == ("__debug__" : Str)) = false := by decide +kernel
theorem nc_count : (("count" : Str) == ("__classdict__" : Str)) = false := by decide +kernel
theorem nd_count_rules : (("count_rules" : Str) == ("__debug__" : Str)) = false := by decide +kernel
theorem nc_count_rules : (("count_rules" : Str) == ("__classdict__" : Str)) = false := by decide +kernel
theorem nd_counts : (("counts" : Str) == ("__debug__" : Str)) = false := by decide +kernel
theorem nc_counts : (("counts" : Str) == ("__classdict__" : Str)) = false := by decide +kernel
theorem nd_couplings : (("couplings" : Str) == ("__debug__" : Str)) = false := by decide +kernel
theorem nc_couplings : (("couplings" : Str) == ("__classdict__" : Str)) = false := by decide +kernel
theorem nd_duties : (("duties" : Str) == ("__debug__" : Str)) = false := by decide +kernel
theorem nc_duties : (("duties" : Str) == ("__classdict__" : Str)) = false := by decide +kernel
theorem nd_duty : (("duty" : Str) == ("__debug__" : Str)) = false := by decide +kernel
theorem nc_duty : (("duty" : Str) == ("__classdict__" : Str)) = false := by decide +kernel
theorem nd_enumerate : (("enumerate" : Str) == ("__debug__" : Str)) = false := by decide +kernel
theorem nc_enumerate : (("enumerate" : Str) == ("__classdict__" : Str)) = false := by decide +kernel
theorem nd_fault_at : (("fault_at" : Str) == ("__debug__" : Str)) = false := by decide +kernel
theorem nc_fault_at : (("fault_at" : Str) == ("__classdict__" : Str)) = false := by decide +kernel
theorem nd_fault_of : (("fault_of" : Str) == ("__debug__" : Str)) = false := by decide +kernel
theorem nc_fault_of : (("fault_of" : Str) == ("__classdict__" : Str)) = false := by decide +kernel
theorem nd_filled : (("filled" : Str) == ("__debug__" : Str)) = false := by decide +kernel
theorem nc_filled : (("filled" : Str) == ("__classdict__" : Str)) = false := by decide +kernel
theorem nd_filling : (("filling" : Str) == ("__debug__" : Str)) = false := by decide +kernel
theorem nc_filling : (("filling" : Str) == ("__classdict__" : Str)) = false := by decide +kernel
theorem nd_fillings : (("fillings" : Str) == ("__debug__" : Str)) = false := by decide +kernel
theorem nc_fillings : (("fillings" : Str) == ("__classdict__" : Str)) = false := by decide +kernel
theorem nd_first_fault : (("first_fault" : Str) == ("__debug__" : Str)) = false := by decide +kernel
theorem nc_first_fault : (("first_fault" : Str) == ("__classdict__" : Str)) = false := by decide +kernel
theorem nd_fits_coupling : (("fits_coupling" : Str) == ("__debug__" : Str)) = false := by decide +kernel
theorem nc_fits_coupling : (("fits_coupling" : Str) == ("__classdict__" : Str)) = false := by decide +kernel
theorem nd_flag : (("flag" : Str) == ("__debug__" : Str)) = false := by decide +kernel
theorem nc_flag : (("flag" : Str) == ("__classdict__" : Str)) = false := by decide +kernel
theorem nd_found : (("found" : Str) == ("__debug__" : Str)) = false := by decide +kernel
theorem nc_found : (("found" : Str) == ("__classdict__" : Str)) = false := by decide +kernel
theorem nd_has_yes : (("has_yes" : Str) == ("__debug__" : Str)) = false := by decide +kernel
theorem nc_has_yes : (("has_yes" : Str) == ("__classdict__" : Str)) = false := by decide +kernel
theorem nd_index : (("index" : Str) == ("__debug__" : Str)) = false := by decide +kernel
theorem nc_index : (("index" : Str) == ("__classdict__" : Str)) = false := by decide +kernel
theorem nd_int : (("int" : Str) == ("__debug__" : Str)) = false := by decide +kernel
theorem nc_int : (("int" : Str) == ("__classdict__" : Str)) = false := by decide +kernel
theorem nd_is_count : (("is_count" : Str) == ("__debug__" : Str)) = false := by decide +kernel
theorem nc_is_count : (("is_count" : Str) == ("__classdict__" : Str)) = false := by decide +kernel
theorem nd_is_coupling : (("is_coupling" : Str) == ("__debug__" : Str)) = false := by decide +kernel
theorem nc_is_coupling : (("is_coupling" : Str) == ("__classdict__" : Str)) = false := by decide +kernel
theorem nd_is_duties : (("is_duties" : Str) == ("__debug__" : Str)) = false := by decide +kernel
theorem nc_is_duties : (("is_duties" : Str) == ("__classdict__" : Str)) = false := by decide +kernel
theorem nd_is_integer : (("is_integer" : Str) == ("__debug__" : Str)) = false := by decide +kernel
theorem nc_is_integer : (("is_integer" : Str) == ("__classdict__" : Str)) = false := by decide +kernel
theorem nd_is_lot : (("is_lot" : Str) == ("__debug__" : Str)) = false := by decide +kernel
theorem nc_is_lot : (("is_lot" : Str) == ("__classdict__" : Str)) = false := by decide +kernel
theorem nd_is_many : (("is_many" : Str) == ("__debug__" : Str)) = false := by decide +kernel
theorem nc_is_many : (("is_many" : Str) == ("__classdict__" : Str)) = false := by decide +kernel
theorem nd_is_pair : (("is_pair" : Str) == ("__debug__" : Str)) = false := by decide +kernel
theorem nc_is_pair : (("is_pair" : Str) == ("__classdict__" : Str)) = false := by decide +kernel
theorem nd_is_table : (("is_table" : Str) == ("__debug__" : Str)) = false := by decide +kernel
theorem nc_is_table : (("is_table" : Str) == ("__classdict__" : Str)) = false := by decide +kernel
theorem nd_is_within : (("is_within" : Str) == ("__debug__" : Str)) = false := by decide +kernel
theorem nc_is_within : (("is_within" : Str) == ("__classdict__" : Str)) = false := by decide +kernel
theorem nd_isinstance : (("isinstance" : Str) == ("__debug__" : Str)) = false := by decide +kernel
theorem nc_isinstance : (("isinstance" : Str) == ("__classdict__" : Str)) = false := by decide +kernel
theorem nd_item : (("item" : Str) == ("__debug__" : Str)) = false := by decide +kernel
theorem nc_item : (("item" : Str) == ("__classdict__" : Str)) = false := by decide +kernel
theorem nd_keeps : (("keeps" : Str) == ("__debug__" : Str)) = false := by decide +kernel
theorem nc_keeps : (("keeps" : Str) == ("__classdict__" : Str)) = false := by decide +kernel
theorem nd_keeps_duty : (("keeps_duty" : Str) == ("__debug__" : Str)) = false := by decide +kernel
theorem nc_keeps_duty : (("keeps_duty" : Str) == ("__classdict__" : Str)) = false := by decide +kernel
theorem nd_known : (("known" : Str) == ("__debug__" : Str)) = false := by decide +kernel
theorem nc_known : (("known" : Str) == ("__classdict__" : Str)) = false := by decide +kernel
theorem nd_last : (("last" : Str) == ("__debug__" : Str)) = false := by decide +kernel
theorem nc_last : (("last" : Str) == ("__classdict__" : Str)) = false := by decide +kernel
theorem nd_later : (("later" : Str) == ("__debug__" : Str)) = false := by decide +kernel
theorem nc_later : (("later" : Str) == ("__classdict__" : Str)) = false := by decide +kernel
theorem nd_law : (("law" : Str) == ("__debug__" : Str)) = false := by decide +kernel
theorem nc_law : (("law" : Str) == ("__classdict__" : Str)) = false := by decide +kernel
theorem nd_law_beside : (("_law_beside" : Str) == ("__debug__" : Str)) = false := by decide +kernel
theorem nc_law_beside : (("_law_beside" : Str) == ("__classdict__" : Str)) = false := by decide +kernel
theorem nd_law_book : (("_law_book" : Str) == ("__debug__" : Str)) = false := by decide +kernel
theorem nc_law_book : (("_law_book" : Str) == ("__classdict__" : Str)) = false := by decide +kernel
theorem nd_law_cell : (("_law_cell" : Str) == ("__debug__" : Str)) = false := by decide +kernel
theorem nc_law_cell : (("_law_cell" : Str) == ("__classdict__" : Str)) = false := by decide +kernel
theorem nd_law_coupling : (("_law_coupling" : Str) == ("__debug__" : Str)) = false := by decide +kernel
theorem nc_law_coupling : (("_law_coupling" : Str) == ("__classdict__" : Str)) = false := by decide +kernel
theorem nd_law_coupling_here : (("_law_coupling_here" : Str) == ("__debug__" : Str)) = false := by decide +kernel
theorem nc_law_coupling_here : (("_law_coupling_here" : Str) == ("__classdict__" : Str)) = false := by decide +kernel
theorem nd_law_dice : (("_law_dice" : Str) == ("__debug__" : Str)) = false := by decide +kernel
theorem nc_law_dice : (("_law_dice" : Str) == ("__classdict__" : Str)) = false := by decide +kernel
theorem nd_law_dice_here : (("_law_dice_here" : Str) == ("__debug__" : Str)) = false := by decide +kernel
theorem nc_law_dice_here : (("_law_dice_here" : Str) == ("__classdict__" : Str)) = false := by decide +kernel
theorem nd_law_digit : (("_law_digit" : Str) == ("__debug__" : Str)) = false := by decide +kernel
theorem nc_law_digit : (("_law_digit" : Str) == ("__classdict__" : Str)) = false := by decide +kernel
theorem nd_law_draw : (("_law_draw" : Str) == ("__debug__" : Str)) = false := by decide +kernel
theorem nc_law_draw : (("_law_draw" : Str) == ("__classdict__" : Str)) = false := by decide +kernel
theorem nd_law_due : (("_law_due" : Str) == ("__debug__" : Str)) = false := by decide +kernel
theorem nc_law_due : (("_law_due" : Str) == ("__classdict__" : Str)) = false := by decide +kernel
theorem nd_law_flag : (("_law_flag" : Str) == ("__debug__" : Str)) = false := by decide +kernel
theorem nc_law_flag : (("_law_flag" : Str) == ("__classdict__" : Str)) = false := by decide +kernel
theorem nd_law_good : (("_law_good" : Str) == ("__debug__" : Str)) = false := by decide +kernel
theorem nc_law_good : (("_law_good" : Str) == ("__classdict__" : Str)) = false := by decide +kernel
theorem nd_law_half : (("_law_half" : Str) == ("__debug__" : Str)) = false := by decide +kernel
theorem nc_law_half : (("_law_half" : Str) == ("__classdict__" : Str)) = false := by decide +kernel
theorem nd_law_is_count : (("_law_is_count" : Str) == ("__debug__" : Str)) = false := by decide +kernel
theorem nc_law_is_count : (("_law_is_count" : Str) == ("__classdict__" : Str)) = false := by decide +kernel
theorem nd_law_is_coupling : (("_law_is_coupling" : Str) == ("__debug__" : Str)) = false := by decide +kernel
theorem nc_law_is_coupling : (("_law_is_coupling" : Str) == ("__classdict__" : Str)) = false := by decide +kernel
theorem nd_law_low : (("_law_low" : Str) == ("__debug__" : Str)) = false := by decide +kernel
theorem nc_law_low : (("_law_low" : Str) == ("__classdict__" : Str)) = false := by decide +kernel
theorem nd_law_made : (("_law_made" : Str) == ("__debug__" : Str)) = false := by decide +kernel
theorem nc_law_made : (("_law_made" : Str) == ("__classdict__" : Str)) = false := by decide +kernel
theorem nd_law_many : (("_law_many" : Str) == ("__debug__" : Str)) = false := by decide +kernel
theorem nc_law_many : (("_law_many" : Str) == ("__classdict__" : Str)) = false := by decide +kernel
theorem nd_law_member : (("_law_member" : Str) == ("__debug__" : Str)) = false := by decide +kernel
theorem nc_law_member : (("_law_member" : Str) == ("__classdict__" : Str)) = false := by decide +kernel
theorem nd_law_mixed : (("_law_mixed" : Str) == ("__debug__" : Str)) = false := by decide +kernel
theorem nc_law_mixed : (("_law_mixed" : Str) == ("__classdict__" : Str)) = false := by decide +kernel
theorem nd_law_other : (("_law_other" : Str) == ("__debug__" : Str)) = false := by decide +kernel
theorem nc_law_other : (("_law_other" : Str) == ("__classdict__" : Str)) = false := by decide +kernel
theorem nd_law_picked : (("_law_picked" : Str) == ("__debug__" : Str)) = false := by decide +kernel
theorem nc_law_picked : (("_law_picked" : Str) == ("__classdict__" : Str)) = false := by decide +kernel
theorem nd_law_place : (("_law_place" : Str) == ("__debug__" : Str)) = false := by decide +kernel
theorem nc_law_place : (("_law_place" : Str) == ("__classdict__" : Str)) = false := by decide +kernel
theorem nd_law_power : (("_law_power" : Str) == ("__debug__" : Str)) = false := by decide +kernel
theorem nc_law_power : (("_law_power" : Str) == ("__classdict__" : Str)) = false := by decide +kernel
theorem nd_law_rest : (("_law_rest" : Str) == ("__debug__" : Str)) = false := by decide +kernel
theorem nc_law_rest : (("_law_rest" : Str) == ("__classdict__" : Str)) = false := by decide +kernel
theorem nd_law_row : (("_law_row" : Str) == ("__debug__" : Str)) = false := by decide +kernel
theorem nc_law_row : (("_law_row" : Str) == ("__classdict__" : Str)) = false := by decide +kernel
theorem nd_law_row_with : (("_law_row_with" : Str) == ("__debug__" : Str)) = false := by decide +kernel
theorem nc_law_row_with : (("_law_row_with" : Str) == ("__classdict__" : Str)) = false := by decide +kernel
theorem nd_law_rule : (("_law_rule" : Str) == ("__debug__" : Str)) = false := by decide +kernel
theorem nc_law_rule : (("_law_rule" : Str) == ("__classdict__" : Str)) = false := by decide +kernel
theorem nd_law_script : (("_law_script" : Str) == ("__debug__" : Str)) = false := by decide +kernel
theorem nc_law_script : (("_law_script" : Str) == ("__classdict__" : Str)) = false := by decide +kernel
theorem nd_law_sides : (("_law_sides" : Str) == ("__debug__" : Str)) = false := by decide +kernel
theorem nc_law_sides : (("_law_sides" : Str) == ("__classdict__" : Str)) = false := by decide +kernel
theorem nd_law_slip : (("_law_slip" : Str) == ("__debug__" : Str)) = false := by decide +kernel
theorem nc_law_slip : (("_law_slip" : Str) == ("__classdict__" : Str)) = false := by decide +kernel
theorem nd_law_step : (("_law_step" : Str) == ("__debug__" : Str)) = false := by decide +kernel
theorem nc_law_step : (("_law_step" : Str) == ("__classdict__" : Str)) = false := by decide +kernel
theorem nd_law_switched : (("_law_switched" : Str) == ("__debug__" : Str)) = false := by decide +kernel
theorem nc_law_switched : (("_law_switched" : Str) == ("__classdict__" : Str)) = false := by decide +kernel
theorem nd_law_thing : (("_law_thing" : Str) == ("__debug__" : Str)) = false := by decide +kernel
theorem nc_law_thing : (("_law_thing" : Str) == ("__classdict__" : Str)) = false := by decide +kernel
theorem nd_law_told : (("_law_told" : Str) == ("__debug__" : Str)) = false := by decide +kernel
theorem nc_law_told : (("_law_told" : Str) == ("__classdict__" : Str)) = false := by decide +kernel
theorem nd_law_turn : (("_law_turn" : Str) == ("__debug__" : Str)) = false := by decide +kernel
theorem nc_law_turn : (("_law_turn" : Str) == ("__classdict__" : Str)) = false := by decide +kernel
theorem nd_law_turned : (("_law_turned" : Str) == ("__debug__" : Str)) = false := by decide +kernel
theorem nc_law_turned : (("_law_turned" : Str) == ("__classdict__" : Str)) = false := by decide +kernel
theorem nd_law_turns : (("_law_turns" : Str) == ("__debug__" : Str)) = false := by decide +kernel
theorem nc_law_turns : (("_law_turns" : Str) == ("__classdict__" : Str)) = false := by decide +kernel
theorem nd_least : (("least" : Str) == ("__debug__" : Str)) = false := by decide +kernel
theorem nc_least : (("least" : Str) == ("__classdict__" : Str)) = false := by decide +kernel
theorem nd_left : (("left" : Str) == ("__debug__" : Str)) = false := by decide +kernel
theorem nc_left : (("left" : Str) == ("__classdict__" : Str)) = false := by decide +kernel
theorem nd_len : (("len" : Str) == ("__debug__" : Str)) = false := by decide +kernel
theorem nc_len : (("len" : Str) == ("__classdict__" : Str)) = false := by decide +kernel
theorem nd_lets : (("lets" : Str) == ("__debug__" : Str)) = false := by decide +kernel
theorem nc_lets : (("lets" : Str) == ("__classdict__" : Str)) = false := by decide +kernel
theorem nd_list : (("list" : Str) == ("__debug__" : Str)) = false := by decide +kernel
theorem nc_list : (("list" : Str) == ("__classdict__" : Str)) = false := by decide +kernel
theorem nd_lot : (("lot" : Str) == ("__debug__" : Str)) = false := by decide +kernel
theorem nc_lot : (("lot" : Str) == ("__classdict__" : Str)) = false := by decide +kernel
theorem nd_many : (("many" : Str) == ("__debug__" : Str)) = false := by decide +kernel
theorem nc_many : (("many" : Str) == ("__classdict__" : Str)) = false := by decide +kernel
theorem nd_marks : (("marks" : Str) == ("__debug__" : Str)) = false := by decide +kernel
theorem nc_marks : (("marks" : Str) == ("__classdict__" : Str)) = false := by decide +kernel
theorem nd_member : (("member" : Str) == ("__debug__" : Str)) = false := by decide +kernel
theorem nc_member : (("member" : Str) == ("__classdict__" : Str)) = false := by decide +kernel
theorem nd_more : (("more" : Str) == ("__debug__" : Str)) = false := by decide +kernel
theorem nc_more : (("more" : Str) == ("__classdict__" : Str)) = false := by decide +kernel
theorem nd_most : (("most" : Str) == ("__debug__" : Str)) = false := by decide +kernel
theorem nc_most : (("most" : Str) == ("__classdict__" : Str)) = false := by decide +kernel
theorem nd_next_open : (("next_open" : Str) == ("__debug__" : Str)) = false := by decide +kernel
theorem nc_next_open : (("next_open" : Str) == ("__classdict__" : Str)) = false := by decide +kernel
theorem nd_number : (("number" : Str) == ("__debug__" : Str)) = false := by decide +kernel
theorem nc_number : (("number" : Str) == ("__classdict__" : Str)) = false := by decide +kernel
theorem nd_one : (("one" : Str) == ("__debug__" : Str)) = false := by decide +kernel
theorem nc_one : (("one" : Str) == ("__classdict__" : Str)) = false := by decide +kernel
theorem nd_open_members : (("open_members" : Str) == ("__debug__" : Str)) = false := by decide +kernel
theorem nc_open_members : (("open_members" : Str) == ("__classdict__" : Str)) = false := by decide +kernel
theorem nd_other : (("other" : Str) == ("__debug__" : Str)) = false := by decide +kernel
theorem nc_other : (("other" : Str) == ("__classdict__" : Str)) = false := by decide +kernel
theorem nd_own_ties : (("own_ties" : Str) == ("__debug__" : Str)) = false := by decide +kernel
theorem nc_own_ties : (("own_ties" : Str) == ("__classdict__" : Str)) = false := by decide +kernel
theorem nd_picked : (("picked" : Str) == ("__debug__" : Str)) = false := by decide +kernel
theorem nc_picked : (("picked" : Str) == ("__classdict__" : Str)) = false := by decide +kernel
theorem nd_picks : (("picks" : Str) == ("__debug__" : Str)) = false := by decide +kernel
theorem nc_picks : (("picks" : Str) == ("__classdict__" : Str)) = false := by decide +kernel
theorem nd_place : (("place" : Str) == ("__debug__" : Str)) = false := by decide +kernel
theorem nc_place : (("place" : Str) == ("__classdict__" : Str)) = false := by decide +kernel
theorem nd_plain_book : (("plain_book" : Str) == ("__debug__" : Str)) = false := by decide +kernel
theorem nc_plain_book : (("plain_book" : Str) == ("__classdict__" : Str)) = false := by decide +kernel
theorem nd_range : (("range" : Str) == ("__debug__" : Str)) = false := by decide +kernel
theorem nc_range : (("range" : Str) == ("__classdict__" : Str)) = false := by decide +kernel
theorem nd_row : (("row" : Str) == ("__debug__" : Str)) = false := by decide +kernel
theorem nc_row : (("row" : Str) == ("__classdict__" : Str)) = false := by decide +kernel
theorem nd_rule : (("rule" : Str) == ("__debug__" : Str)) = false := by decide +kernel
theorem nc_rule : (("rule" : Str) == ("__classdict__" : Str)) = false := by decide +kernel
theorem nd_rule_filled : (("rule_filled" : Str) == ("__debug__" : Str)) = false := by decide +kernel
theorem nc_rule_filled : (("rule_filled" : Str) == ("__classdict__" : Str)) = false := by decide +kernel
theorem nd_self : (("self" : Str) == ("__debug__" : Str)) = false := by decide +kernel
theorem nc_self : (("self" : Str) == ("__classdict__" : Str)) = false := by decide +kernel
theorem nd_sign : (("sign" : Str) == ("__debug__" : Str)) = false := by decide +kernel
theorem nc_sign : (("sign" : Str) == ("__classdict__" : Str)) = false := by decide +kernel
theorem nd_signs : (("signs" : Str) == ("__debug__" : Str)) = false := by decide +kernel
theorem nc_signs : (("signs" : Str) == ("__classdict__" : Str)) = false := by decide +kernel
theorem nd_size : (("size" : Str) == ("__debug__" : Str)) = false := by decide +kernel
theorem nc_size : (("size" : Str) == ("__classdict__" : Str)) = false := by decide +kernel
theorem nd_sorted : (("sorted" : Str) == ("__debug__" : Str)) = false := by decide +kernel
theorem nc_sorted : (("sorted" : Str) == ("__classdict__" : Str)) = false := by decide +kernel
theorem nd_step : (("step" : Str) == ("__debug__" : Str)) = false := by decide +kernel
theorem nc_step : (("step" : Str) == ("__classdict__" : Str)) = false := by decide +kernel
theorem nd_str : (("str" : Str) == ("__debug__" : Str)) = false := by decide +kernel
theorem nc_str : (("str" : Str) == ("__classdict__" : Str)) = false := by decide +kernel
theorem nd_sum : (("sum" : Str) == ("__debug__" : Str)) = false := by decide +kernel
theorem nc_sum : (("sum" : Str) == ("__classdict__" : Str)) = false := by decide +kernel
theorem nd_thing : (("thing" : Str) == ("__debug__" : Str)) = false := by decide +kernel
theorem nc_thing : (("thing" : Str) == ("__classdict__" : Str)) = false := by decide +kernel
theorem nd_tie : (("tie" : Str) == ("__debug__" : Str)) = false := by decide +kernel
theorem nc_tie : (("tie" : Str) == ("__classdict__" : Str)) = false := by decide +kernel
theorem nd_ties : (("ties" : Str) == ("__debug__" : Str)) = false := by decide +kernel
theorem nc_ties : (("ties" : Str) == ("__classdict__" : Str)) = false := by decide +kernel
theorem nd_ties_left : (("ties_left" : Str) == ("__debug__" : Str)) = false := by decide +kernel
theorem nc_ties_left : (("ties_left" : Str) == ("__classdict__" : Str)) = false := by decide +kernel
theorem nd_tuple : (("tuple" : Str) == ("__debug__" : Str)) = false := by decide +kernel
theorem nc_tuple : (("tuple" : Str) == ("__classdict__" : Str)) = false := by decide +kernel
theorem nd_turned : (("turned" : Str) == ("__debug__" : Str)) = false := by decide +kernel
theorem nc_turned : (("turned" : Str) == ("__classdict__" : Str)) = false := by decide +kernel
theorem nd_two : (("two" : Str) == ("__debug__" : Str)) = false := by decide +kernel
theorem nc_two : (("two" : Str) == ("__classdict__" : Str)) = false := by decide +kernel
theorem nd_unmarked : (("unmarked" : Str) == ("__debug__" : Str)) = false := by decide +kernel
theorem nc_unmarked : (("unmarked" : Str) == ("__classdict__" : Str)) = false := by decide +kernel
theorem nd_waiting : (("waiting" : Str) == ("__debug__" : Str)) = false := by decide +kernel
theorem nc_waiting : (("waiting" : Str) == ("__classdict__" : Str)) = false := by decide +kernel
theorem nd_ways : (("ways" : Str) == ("__debug__" : Str)) = false := by decide +kernel
theorem nc_ways : (("ways" : Str) == ("__classdict__" : Str)) = false := by decide +kernel
theorem nd_with_tie : (("with_tie" : Str) == ("__debug__" : Str)) = false := by decide +kernel
theorem nc_with_tie : (("with_tie" : Str) == ("__classdict__" : Str)) = false := by decide +kernel
theorem nd_zip : (("zip" : Str) == ("__debug__" : Str)) = false := by decide +kernel
theorem nc_zip : (("zip" : Str) == ("__classdict__" : Str)) = false := by decide +kernel
theorem nn_abs : ("abs" : Str) ≠ "__name__" := by decide +kernel
theorem bt_abs : bootBuiltins "abs" = some (.builtin "abs") := by decide +kernel
theorem nn_all : ("all" : Str) ≠ "__name__" := by decide +kernel
theorem bt_all : bootBuiltins "all" = some (.builtin "all") := by decide +kernel
theorem nn_bool : ("bool" : Str) ≠ "__name__" := by decide +kernel
theorem bt_bool : bootBuiltins "bool" = some (.type "bool") := by decide +kernel
theorem nn_enumerate : ("enumerate" : Str) ≠ "__name__" := by decide +kernel
theorem bt_enumerate : bootBuiltins "enumerate" = some (.type "enumerate") := by decide +kernel
theorem nn_int : ("int" : Str) ≠ "__name__" := by decide +kernel
theorem bt_int : bootBuiltins "int" = some (.type "int") := by decide +kernel
theorem nn_isinstance : ("isinstance" : Str) ≠ "__name__" := by decide +kernel
theorem bt_isinstance : bootBuiltins "isinstance" = some (.builtin "isinstance") := by decide +kernel
theorem nn_len : ("len" : Str) ≠ "__name__" := by decide +kernel
theorem bt_len : bootBuiltins "len" = some (.builtin "len") := by decide +kernel
theorem nn_list : ("list" : Str) ≠ "__name__" := by decide +kernel
theorem bt_list : bootBuiltins "list" = some (.type "list") := by decide +kernel
theorem nn_range : ("range" : Str) ≠ "__name__" := by decide +kernel
theorem bt_range : bootBuiltins "range" = some (.type "range") := by decide +kernel
theorem nn_sorted : ("sorted" : Str) ≠ "__name__" := by decide +kernel
theorem bt_sorted : bootBuiltins "sorted" = some (.builtin "sorted") := by decide +kernel
theorem nn_str : ("str" : Str) ≠ "__name__" := by decide +kernel
theorem bt_str : bootBuiltins "str" = some (.type "str") := by decide +kernel
theorem nn_sum : ("sum" : Str) ≠ "__name__" := by decide +kernel
theorem bt_sum : bootBuiltins "sum" = some (.builtin "sum") := by decide +kernel
theorem nn_tuple : ("tuple" : Str) ≠ "__name__" := by decide +kernel
theorem bt_tuple : bootBuiltins "tuple" = some (.type "tuple") := by decide +kernel
theorem nn_zip : ("zip" : Str) ≠ "__name__" := by decide +kernel
theorem bt_zip : bootBuiltins "zip" = some (.type "zip") := by decide +kernel
def powV : List V := [.int 1, .int 2, .int 4, .int 8, .int 16, .int 32, .int 64, .int 128, .int 256]
def powD : List PyData := [.int 1, .int 2, .int 4, .int 8, .int 16, .int 32, .int 64, .int 128, .int 256]
def dutV : List V := [.str "n", .str "a", .str "m"]
def dutD : List PyData := [.str "n", .str "a", .str "m"]
def sigV : List V := [.str "1", .str "0", .str "."]
def sigD : List PyData := [.str "1", .str "0", .str "."]
/-- what the class of books must have -/
structure Bk (K : PySem.W.Frag) (mg : Str → Option Value) (C : Addr) : Prop where
  cl : Cls K C
  n_duties : NoAttr K C "duties"
  n_counts : NoAttr K C "counts"
  n_marks : NoAttr K C "marks"
  n_many : NoAttr K C "many"
  n_kept : NoAttr K C "kept_facts"
  gC : mg "Book" = some (.ref C)
  ini : ∃ (f : Addr) (fd : FuncData), Fun K "__init__" "Book.__init__" st_Book_init f fd ∧ Mk K C f
structure Txt (K : PySem.W.Frag) (mg : Str → Option Value) : Prop where
  d_is_integer : Def K mg "is_integer" st_is_integer
  d_is_within : Def K mg "is_within" st_is_within
  d_is_pair : Def K mg "is_pair" st_is_pair
  d_is_lot : Def K mg "is_lot" st_is_lot
  d_is_table : Def K mg "is_table" st_is_table
  d_is_many : Def K mg "is_many" st_is_many
  d_check_many : ∃ (f : Addr) (fd : FuncData), FunD K "check_many" "check_many" (defArgs st_check_many) (defBody st_check_many) (defScope st_check_many) [.int 1, .int 8] [] f fd ∧ mg "check_many" = some (.ref f)
  d_has_yes : Def K mg "has_yes" st_has_yes
  d_turned : Def K mg "turned" st_turned
  d_fits_coupling : Def K mg "fits_coupling" st_fits_coupling
  d_is_coupling : Def K mg "is_coupling" st_is_coupling
  d_next_open : Def K mg "next_open" st_next_open
  d_with_tie : Def K mg "with_tie" st_with_tie
  d_couplings : Def K mg "couplings" st_couplings
  d_is_duties : Def K mg "is_duties" st_is_duties
  d_is_count : Def K mg "is_count" st_is_count
  d_are_marks : Def K mg "are_marks" st_are_marks
  d_unmarked : Def K mg "unmarked" st_unmarked
  d_plain_book : Def K mg "plain_book" st_plain_book
  d_keeps_duty : Def K mg "keeps_duty" st_keeps_duty
  d_fault_at : Def K mg "fault_at" st_fault_at
  d_fault_of : Def K mg "fault_of" st_fault_of
  d_first_fault : Def K mg "first_fault" st_first_fault
  d_keeps : Def K mg "keeps" st_keeps
  d_own_ties : Def K mg "own_ties" st_own_ties
  d_check_listed : Def K mg "check_listed" st_check_listed
  d_lets : Def K mg "lets" st_lets
  d_fillings : Def K mg "fillings" st_fillings
  d_can_still : Def K mg "can_still" st_can_still
  d_filled : Def K mg "filled" st_filled
  d_ties_left : Def K mg "ties_left" st_ties_left
  d_count_rules : Def K mg "count_rules" st_count_rules
  d_all_fillings : Def K mg "all_fillings" st_all_fillings
  d_rule_filled : Def K mg "rule_filled" st_rule_filled
  d_all_rules : Def K mg "all_rules" st_all_rules
  d_law_dice : Def K mg "_law_dice" st_law_dice
  d_law_draw : Def K mg "_law_draw" st_law_draw
  d_law_power : Def K mg "_law_power" st_law_power
  d_law_turned : Def K mg "_law_turned" st_law_turned
  d_law_is_count : Def K mg "_law_is_count" st_law_is_count
  d_law_is_coupling : Def K mg "_law_is_coupling" st_law_is_coupling
  d_law_switched : Def K mg "_law_switched" st_law_switched
  d_law_row_with : Def K mg "_law_row_with" st_law_row_with
  d_law_coupling : Def K mg "_law_coupling" st_law_coupling
  d_law_flag : Def K mg "_law_flag" st_law_flag
  d_law : Def K mg "law" st_law
  z_abs : mg "abs" = none
  z_all : mg "all" = none
  z_bool : mg "bool" = none
  z_enumerate : mg "enumerate" = none
  z_int : mg "int" = none
  z_isinstance : mg "isinstance" = none
  z_len : mg "len" = none
  z_list : mg "list" = none
  z_range : mg "range" = none
  z_sorted : mg "sorted" = none
  z_str : mg "str" = none
  z_sum : mg "sum" = none
  z_tuple : mg "tuple" = none
  z_zip : mg "zip" = none
  c_MOST_MEMBERS : ∃ t, mg "MOST_MEMBERS" = some (.int 8 t)
  c_MOST_LISTED_couplings : ∃ t, mg "MOST_LISTED_couplings" = some (.int 4 t)
  c_MOST_LISTED_listing : ∃ t, mg "MOST_LISTED_listing" = some (.int 3 t)
  c_MOST_RULES : ∃ t, mg "MOST_RULES" = some (.int 2000 t)
  c_POWERS : ∃ a, mg "POWERS" = some (.ref a) ∧ ∀ H', SqT K H' a powV
  c_DUTIES : ∃ a, mg "DUTIES" = some (.ref a) ∧ ∀ H', SqT K H' a dutV
  c_SIGNS : ∃ a, mg "SIGNS" = some (.ref a) ∧ ∀ H', SqT K H' a sigV
  bk : ∃ C, Bk K mg C
end K41
set_option Elab.async false
set_option linter.all false
set_option maxRecDepth 100000
set_option maxHeartbeats 5000000
/-! the small defs -/
namespace K41
open PySem PySem.Spec PyProof.Rows L2 Evl

/-! ### what they reckon -/
def yes (n r m : Nat) : Bool := r / 2 ^ (n - 1 - m) % 2 == 1
def turn (n r m : Nat) : Nat := if yes n r m then r - 2 ^ (n - 1 - m) else r + 2 ^ (n - 1 - m)
theorem powD_at (k : Nat) (h : k ≤ 8) : powD[k]? = some (.int ((2 ^ k : Nat) : Int)) := by
  have : k = 0 ∨ k = 1 ∨ k = 2 ∨ k = 3 ∨ k = 4 ∨ k = 5 ∨ k = 6 ∨ k = 7 ∨ k = 8 := by omega
  rcases this with e | e | e | e | e | e | e | e | e <;> (subst e; rfl)
theorem d_pow {K : PySem.W.Frag} (H : Hp) : DpAll K H powV powD := .cons (.int _) (.cons (.int _) (.cons (.int _) (.cons (.int _) (.cons (.int _) (.cons (.int _) (.cons (.int _) (.cons (.int _) (.cons (.int _) .nil))))))))
theorem kit_ii : kitB "int" "int" = some true := by decide +kernel
theorem kit_ib : kitB "int" "bool" = some false := by decide +kernel
theorem kit_bb : kitB "bool" "bool" = some true := by decide +kernel
theorem kit_tt : kitB "tuple" "tuple" = some true := by decide +kernel
theorem kit_ss : kitB "str" "str" = some true := by decide +kernel
theorem two_pow_pos (k : Nat) : 0 < 2 ^ k := Nat.pow_pos (by decide)
theorem pow_le8 {k : Nat} (h : k ≤ 8) : 2 ^ k ≤ 256 := Nat.pow_le_pow_right (by decide) h
/-- POWERS[k] -/
theorem ev_pow {K : PySem.W.Frag} {σ : L2.St} {H : Hp} {te : TE} {i : Int} {k : Nat} (h : EvD K te σ H (.int i)) (e : i = (k : Int)) (hk : k ≤ 8) : EvD K (tOp (rIxT K) (tGT K powV) te) σ H (.int ((2 ^ k : Nat) : Int)) := by
  subst e
  exact evd_op (evd_gT fun H' => d_pow H') h (rd_ixT (powD_at k hk))
def isInt : PyData → Bool
  | .int _ => true
  | _ => false
def RisInteger (ds : List PyData) (d : PyData) : Prop := ∃ i, ds = [.int i] ∧ d = .bool true
def RisWithin (ds : List PyData) (d : PyData) : Prop := ∃ i a b, ds = [.int i, .int a, .int b] ∧ d = .bool (decide (a ≤ i) && decide (i ≤ b))
def RisPair (ds : List PyData) (d : PyData) : Prop := ∃ xs, ds = [.tuple xs] ∧ d = .bool (decide (xs.length = 2))
def RisTable (ds : List PyData) (d : PyData) : Prop := ∃ xs n, ds = [.tuple xs, .int n] ∧ d = .bool (decide ((xs.length : Int) = n))
def RisMany (ds : List PyData) (d : PyData) : Prop := ∃ i, ds = [.int i] ∧ d = .bool (decide (1 ≤ i) && decide (i ≤ 8))
def RhasYes (ds : List PyData) (d : PyData) : Prop := ∃ n r m : Nat, ds = [.int n, .int r, .int m] ∧ m < n ∧ n ≤ 8 ∧ d = .bool (yes n r m)
def Rturned (ds : List PyData) (d : PyData) : Prop := ∃ n r m : Nat, ds = [.int n, .int r, .int m] ∧ m < n ∧ n ≤ 8 ∧ d = .int (turn n r m : Nat)

theorem len_D {K : PySem.W.Frag} {R : List PyData → PyData → Prop} {n : Nat} (h : ∀ ds d, R ds d → ds.length = n) : ∀ vs H Q E, spD K R vs H Q E → vs.length = n := fun vs H Q E ⟨ds, d, h1, h2, _⟩ => by
  rw [DpAll.length h1]
  exact h ds d h2
theorem len_L {K : PySem.W.Frag} {R : List PyData → List PyData → Prop} {n : Nat} (h : ∀ ds d, R ds d → ds.length = n) : ∀ vs H Q E, spL K R vs H Q E → vs.length = n := fun vs H Q E ⟨ds, d, h1, h2, _⟩ => by
  rw [DpAll.length h1]
  exact h ds d h2
theorem all1 {K : PySem.W.Frag} {H : Hp} {vs : List V} {a : PyData} (h : DpAll K H vs [a]) : ∃ x, vs = [x] ∧ Dp K H x a := by
  cases h with
  | cons h1 h2 => cases h2; exact ⟨_, rfl, h1⟩
theorem all2 {K : PySem.W.Frag} {H : Hp} {vs : List V} {a b : PyData} (h : DpAll K H vs [a, b]) : ∃ x y, vs = [x, y] ∧ Dp K H x a ∧ Dp K H y b := by
  cases h with
  | cons h1 h2 =>
    obtain ⟨y, rfl, h3⟩ := all1 h2
    exact ⟨_, y, rfl, h1, h3⟩
theorem all3 {K : PySem.W.Frag} {H : Hp} {vs : List V} {a b c : PyData} (h : DpAll K H vs [a, b, c]) : ∃ x y z, vs = [x, y, z] ∧ Dp K H x a ∧ Dp K H y b ∧ Dp K H z c := by
  cases h with
  | cons h1 h2 =>
    obtain ⟨y, z, rfl, h3, h4⟩ := all2 h2
    exact ⟨_, y, z, rfl, h1, h3, h4⟩
theorem all4 {K : PySem.W.Frag} {H : Hp} {vs : List V} {a b c d : PyData} (h : DpAll K H vs [a, b, c, d]) : ∃ x y z u, vs = [x, y, z, u] ∧ Dp K H x a ∧ Dp K H y b ∧ Dp K H z c ∧ Dp K H u d := by
  cases h with
  | cons h1 h2 =>
    obtain ⟨y, z, u, rfl, h3, h4, h5⟩ := all3 h2
    exact ⟨_, y, z, u, rfl, h1, h3, h4, h5⟩

section
variable {P : Program} {w : World} {K : PySem.W.Frag} {mg : Str → Option Value} {base : Heap}
theorem ok_is_integer (T : Txt K mg) : Cal P w K mg base "is_integer" 1 ["thing"] [] (spD K RisInteger) := by
  refine T.d_is_integer.ok sc_is_integer (fun _ _ _ _ _ _ us hl => match us, hl with | [_], _ => rfl) (len_D (by rintro ds d ⟨i, rfl, rfl⟩; rfl)) (fun f cdv A outer s H vs Q E hr h => ?_)
  obtain ⟨ds, d, hd, ⟨i, rfl, rfl⟩, k⟩ := h
  obtain ⟨x, rfl, h1⟩ := all1 hd
  refine ⟨_, (pss_one (ps_ret (pe_and (pe_callB (call_isiK' (K := K) rfl) (by rfl) T.z_isinstance bt_isinstance (pa_cons (pv 0 (hd := nd_thing) (hcd := nc_thing)) (pa_cons (pe_bltn (v := .ty "int") (by rfl) T.z_int bt_int rfl nn_int nd_int) pa_nil)) (hn := nn_isinstance) (hdb := nd_isinstance)) (pe_one (pe_not (pe_callB (call_isiK' (K := K) rfl) (by rfl) T.z_isinstance bt_isinstance (pa_cons (pv 0 (hd := nd_thing) (hcd := nc_thing)) (pa_cons (pe_bltn (v := .ty "bool") (by rfl) T.z_bool bt_bool rfl nn_bool nd_bool) pa_nil)) (hn := nn_isinstance) (hdb := nd_isinstance))))))), ?_⟩
  exact s_retD (evd_and (evd_isi (K := K) (evd_var rfl h1) (fun _ q => nomatch q) (fun q => nomatch q) kit_ii) fun _ => evd_not (evd_isi (K := K) (evd_var rfl h1) (fun _ q => nomatch q) (fun q => nomatch q) kit_ib)) fun v H1 e hv => k v H1 e hv
theorem ok_is_within (T : Txt K mg) : Cal P w K mg base "is_within" 2 ["thing", "least", "most"] [] (spD K RisWithin) := by
  refine T.d_is_within.ok sc_is_within (fun _ _ _ _ _ _ us hl => match us, hl with | [_, _, _], _ => rfl) (len_D (by rintro ds d ⟨i, a, b, rfl, rfl⟩; rfl)) (fun f cdv A outer s H vs Q E hr h => ?_)
  obtain ⟨ds, d, hd, ⟨i, a, b, rfl, rfl⟩, k⟩ := h
  obtain ⟨x, y, z, rfl, h1, h2, h3⟩ := all3 hd
  refine ⟨_, (pss_one (ps_ret (pe_and (pe_cal (ok_is_integer T) (hr.mono (by decide)) (by rfl) (pa_cons (pv 0 (hd := nd_thing) (hcd := nc_thing)) pa_nil) (hdb := nd_is_integer)) (pe_one (pe_chain op_le op_le (pv 1 (hd := nd_least) (hcd := nc_least)) (pv 0 (hd := nd_thing) (hcd := nc_thing)) (pv 2 (hd := nd_most) (hcd := nc_most))))))), ?_⟩
  refine s_retD (d := .bool (true && (decide (a ≤ i) && decide (i ≤ b)))) (evd_and (evd_call (evds_cons (evd_var rfl (by first | assumption | exact .int _ | exact .bl _ | exact .str _ | exact .non)) evds_nil) ⟨i, rfl, rfl⟩) fun _ => evd_chain (evd_var rfl (by first | assumption | exact .int _ | exact .bl _ | exact .str _ | exact .non)) (evd_var rfl (by first | assumption | exact .int _ | exact .bl _ | exact .str _ | exact .non)) rd_le (evd_var rfl (by first | assumption | exact .int _ | exact .bl _ | exact .str _ | exact .non)) fun _ => rd_le) fun v H1 e hv => k v H1 e hv
theorem ok_is_pair (T : Txt K mg) : Cal P w K mg base "is_pair" 1 ["thing"] [] (spD K RisPair) := by
  refine T.d_is_pair.ok sc_is_pair (fun _ _ _ _ _ _ us hl => match us, hl with | [_], _ => rfl) (len_D (by rintro ds d ⟨xs, rfl, rfl⟩; rfl)) (fun f cdv A outer s H vs Q E hr h => ?_)
  obtain ⟨ds, d, hd, ⟨xs, rfl, rfl⟩, k⟩ := h
  obtain ⟨x, rfl, h1⟩ := all1 hd
  refine ⟨_, (pss_one (ps_ret (pe_and (pe_callB (call_isiK' (K := K) rfl) (by rfl) T.z_isinstance bt_isinstance (pa_cons (pv 0 (hd := nd_thing) (hcd := nc_thing)) (pa_cons (pe_bltn (v := .ty "tuple") (by rfl) T.z_tuple bt_tuple rfl nn_tuple nd_tuple) pa_nil)) (hn := nn_isinstance) (hdb := nd_isinstance)) (pe_one (pe_cmpR op_eq (pe_callB (call_lenQ (K := K) rfl) (by rfl) T.z_len bt_len (pa_cons (pv 0 (hd := nd_thing) (hcd := nc_thing)) pa_nil) (hn := nn_len) (hdb := nd_len)) pe_int (nomark _)))))), ?_⟩
  refine s_retD (d := .bool (true && decide ((xs.length : Int) = 2))) (evd_and (evd_isi (K := K) (evd_var rfl h1) (fun _ q => nomatch q) (fun q => nomatch q) kit_tt) fun _ => evd_op (evd_cb (evds_cons (evd_var rfl (by first | assumption | exact .int _ | exact .bl _ | exact .str _ | exact .non)) evds_nil) rq_len) evd_int rd_eqI) fun v H1 e hv => k v H1 e ?_
  have e2 : decide ((xs.length : Int) = 2) = decide (xs.length = 2) := by
    by_cases q : xs.length = 2
    · simp [q]
    · have : ¬ (xs.length : Int) = 2 := by omega
      simp [q, this]
  rw [e2, Bool.true_and] at hv
  exact hv
theorem ok_is_table (T : Txt K mg) : Cal P w K mg base "is_table" 1 ["thing", "size"] [] (spD K RisTable) := by
  refine T.d_is_table.ok sc_is_table (fun _ _ _ _ _ _ us hl => match us, hl with | [_, _], _ => rfl) (len_D (by rintro ds d ⟨xs, n, rfl, rfl⟩; rfl)) (fun f cdv A outer s H vs Q E hr h => ?_)
  obtain ⟨ds, d, hd, ⟨xs, n, rfl, rfl⟩, k⟩ := h
  obtain ⟨x, y, rfl, h1, h2⟩ := all2 hd
  refine ⟨_, (pss_one (ps_ret (pe_and (pe_callB (call_isiK' (K := K) rfl) (by rfl) T.z_isinstance bt_isinstance (pa_cons (pv 0 (hd := nd_thing) (hcd := nc_thing)) (pa_cons (pe_bltn (v := .ty "tuple") (by rfl) T.z_tuple bt_tuple rfl nn_tuple nd_tuple) pa_nil)) (hn := nn_isinstance) (hdb := nd_isinstance)) (pe_one (pe_cmpR op_eq (pe_callB (call_lenQ (K := K) rfl) (by rfl) T.z_len bt_len (pa_cons (pv 0 (hd := nd_thing) (hcd := nc_thing)) pa_nil) (hn := nn_len) (hdb := nd_len)) (pv 1 (hd := nd_size) (hcd := nc_size)) (nomark _)))))), ?_⟩
  exact s_retD (d := .bool (true && decide ((xs.length : Int) = n))) (evd_and (evd_isi (K := K) (evd_var rfl h1) (fun _ q => nomatch q) (fun q => nomatch q) kit_tt) fun _ => evd_op (evd_cb (evds_cons (evd_var rfl (by first | assumption | exact .int _ | exact .bl _ | exact .str _ | exact .non)) evds_nil) rq_len) (evd_var rfl (by first | assumption | exact .int _ | exact .bl _ | exact .str _ | exact .non)) rd_eqI) fun v H1 e hv => k v H1 e hv
theorem ok_is_many (T : Txt K mg) : Cal P w K mg base "is_many" 3 ["thing"] [] (spD K RisMany) := by
  refine T.d_is_many.ok sc_is_many (fun _ _ _ _ _ _ us hl => match us, hl with | [_], _ => rfl) (len_D (by rintro ds d ⟨xs, rfl, rfl⟩; rfl)) (fun f cdv A outer s H vs Q E hr h => ?_)
  obtain ⟨ds, d, hd, ⟨i, rfl, rfl⟩, k⟩ := h
  obtain ⟨x, rfl, h1⟩ := all1 hd
  refine ⟨_, (pss_one (ps_ret (pe_cal (ok_is_within T) (hr.mono (by decide)) (by rfl) (pa_cons (pv 0 (hd := nd_thing) (hcd := nc_thing)) (pa_cons pe_int (pa_cons (pe_gI T.c_MOST_MEMBERS (by rfl) nd_MOST_MEMBERS) pa_nil))) (hdb := nd_is_within)))), ?_⟩
  exact s_retD (evd_call (evds_cons (evd_var rfl (by first | assumption | exact .int _ | exact .bl _ | exact .str _ | exact .non)) (evds_cons evd_int (evds_cons evd_int evds_nil))) ⟨i, 1, 8, rfl, rfl⟩) fun v H1 e hv => k v H1 e hv
theorem ok_has_yes (T : Txt K mg) : Cal P w K mg base "has_yes" 1 ["many", "number", "member"] [] (spD K RhasYes) := by
  refine T.d_has_yes.ok sc_has_yes (fun _ _ _ _ _ _ us hl => match us, hl with | [_, _, _], _ => rfl) (len_D (by rintro ds d ⟨n, r, m, rfl, _⟩; rfl)) (fun f cdv A outer s H vs Q E hr h => ?_)
  obtain ⟨ds, d, hd, ⟨n, r, m, rfl, hm, hn, rfl⟩, k⟩ := h
  obtain ⟨x, y, z, rfl, h1, h2, h3⟩ := all3 hd
  refine ⟨_, (pss_one (ps_ret (pe_cmpR op_eq (pe_op op_mod (pe_op op_fdiv (pv 1 (hd := nd_number) (hcd := nc_number)) (pe_ix (ix_tupK (K := K) rfl) (pe_gTK (K := K) rfl T.c_POWERS (by rfl) nd_POWERS) (pe_op op_sub (pe_op op_sub (pv 0 (hd := nd_many) (hcd := nc_many)) pe_int) (pv 2 (hd := nd_member) (hcd := nc_member))) (fun _ _ => rfl))) pe_int) pe_int (nomark _)))), ?_⟩
  have hp := two_pow_pos (n - 1 - m)
  have hp2 := pow_le8 (show n - 1 - m ≤ 8 by omega)
  refine s_retD (evd_op (evd_op (evd_op (evd_var rfl (by first | assumption | exact .int _ | exact .bl _ | exact .str _ | exact .non)) (ev_pow (k := n - 1 - m) (evd_op (evd_op (evd_var rfl (by first | assumption | exact .int _ | exact .bl _ | exact .str _ | exact .non)) evd_int rd_sub) (evd_var rfl (by first | assumption | exact .int _ | exact .bl _ | exact .str _ | exact .non)) rd_sub) (by omega) (by omega)) (rd_fdiv ⟨by omega, by omega⟩)) evd_int (rd_mod (by decide))) evd_int rd_eqI) fun v H1 e hv => k v H1 e ?_
  have e2 : decide ((r : Int) / ((2 ^ (n - 1 - m) : Nat) : Int) % 2 = 1) = yes n r m := by
    unfold yes
    rw [← Int.natCast_ediv]
    generalize r / 2 ^ (n - 1 - m) = q
    by_cases h : q % 2 = 1
    · have : ((q : Int) % 2) = 1 := by omega
      simp [h, this]
    · have : ¬ ((q : Int) % 2) = 1 := by omega
      simp [h, this]
  rw [e2] at hv
  exact hv
theorem yes_le {n r m : Nat} (h : yes n r m = true) : 2 ^ (n - 1 - m) ≤ r := by
  unfold yes at h
  have hp := two_pow_pos (n - 1 - m)
  rcases Nat.lt_or_ge r (2 ^ (n - 1 - m)) with q | q
  · rw [Nat.div_eq_of_lt q] at h
    cases h
  · exact q
theorem ok_turned (T : Txt K mg) : Cal P w K mg base "turned" 2 ["many", "number", "member"] [] (spD K Rturned) := by
  refine T.d_turned.ok sc_turned (fun _ _ _ _ _ _ us hl => match us, hl with | [_, _, _], _ => rfl) (len_D (by rintro ds d ⟨n, r, m, rfl, _⟩; rfl)) (fun f cdv A outer s H vs Q E hr h => ?_)
  obtain ⟨ds, d, hd, ⟨n, r, m, rfl, hm, hn, rfl⟩, k⟩ := h
  obtain ⟨x, y, z, rfl, h1, h2, h3⟩ := all3 hd
  refine ⟨_, (pss_cons (ps_set (i := 3) sc_turned.nd rfl (by first | exact Or.inl rfl | exact Or.inr rfl) (pe_ix (ix_tupK (K := K) rfl) (pe_gTK (K := K) rfl T.c_POWERS (by rfl) nd_POWERS) (pe_op op_sub (pe_op op_sub (pv 0 (hd := nd_many) (hcd := nc_many)) pe_int) (pv 2 (hd := nd_member) (hcd := nc_member))) (fun _ _ => rfl)))
      (pss_one (ps_ret (pe_ifExp (pt_val (pe_cal (ok_has_yes T) (hr.mono (by decide)) (by rfl) (pa_cons (pv 0 (hd := nd_many) (hcd := nc_many)) (pa_cons (pv 1 (hd := nd_number) (hcd := nc_number)) (pa_cons (pv 2 (hd := nd_member) (hcd := nc_member)) pa_nil))) (hdb := nd_has_yes))) (pe_op op_sub (pv 1 (hd := nd_number) (hcd := nc_number)) (pv 3 (hd := nd_step) (hcd := nc_step))) (pe_op op_add (pv 1 (hd := nd_number) (hcd := nc_number)) (pv 3 (hd := nd_step) (hcd := nc_step))))))), ?_⟩
  refine q_asgD (ev_pow (k := n - 1 - m) (evd_op (evd_op (evd_var rfl (by first | assumption | exact .int _ | exact .bl _ | exact .str _ | exact .non)) evd_int rd_sub) (evd_var rfl (by first | assumption | exact .int _ | exact .bl _ | exact .str _ | exact .non)) rd_sub) (by omega) (by omega)) fun v1 H1 e1 hv1 => ?_
  have g1 := dx e1 h1
  have g2 := dx e1 h2
  have g3 := dx e1 h3
  refine s_retD (d := .int (turn n r m : Nat)) (evd_if (b := yes n r m) (et_DB (evd_call (evds_cons (evd_var rfl (by first | assumption | exact .int _ | exact .bl _ | exact .str _ | exact .non)) (evds_cons (evd_var rfl (by first | assumption | exact .int _ | exact .bl _ | exact .str _ | exact .non)) (evds_cons (evd_var rfl (by first | assumption | exact .int _ | exact .bl _ | exact .str _ | exact .non)) evds_nil))) ⟨n, r, m, rfl, hm, hn, rfl⟩)) (fun hy => ?_) (fun hy => ?_)) fun v H2 e2 hv => k v H2 (e1.trans e2) hv
  · refine evd_is (evd_op (evd_var rfl (by first | assumption | exact .int _ | exact .bl _ | exact .str _ | exact .non)) (evd_var rfl (by first | assumption | exact .int _ | exact .bl _ | exact .str _ | exact .non)) rd_sub) (congrArg PyData.int ?_)
    have := yes_le hy
    unfold turn
    rw [if_pos hy]
    omega
  · refine evd_is (evd_op (evd_var rfl (by first | assumption | exact .int _ | exact .bl _ | exact .str _ | exact .non)) (evd_var rfl (by first | assumption | exact .int _ | exact .bl _ | exact .str _ | exact .non)) rd_add) (congrArg PyData.int ?_)
    unfold turn
    rw [if_neg (by rw [hy]; exact Bool.false_ne_true)]
    omega
end
end K41
set_option Elab.async false
set_option linter.all false
set_option maxRecDepth 100000
set_option maxHeartbeats 5000000
/-! rows turned; couplings judged -/
namespace K41
open PySem PySem.Spec PyProof.Rows L2 Evl

/-! ### plain facts of rows, eight members at most -/
def factT : Bool := (List.range 9).all fun n => (List.range n).all fun m => (List.range (2 ^ n)).all fun r => decide (turn n r m < 2 ^ n) && decide (turn n (turn n r m) m = r) && decide (yes n (turn n r m) m = !yes n r m)
theorem factT_ok : factT = true := by decide +kernel
theorem turn_facts {n m r : Nat} (hn : n ≤ 8) (hm : m < n) (hr : r < 2 ^ n) : turn n r m < 2 ^ n ∧ turn n (turn n r m) m = r ∧ yes n (turn n r m) m = !yes n r m := by
  have h := factT_ok
  unfold factT at h
  rw [List.all_eq_true] at h
  have h1 := h n (List.mem_range.mpr (by omega))
  rw [List.all_eq_true] at h1
  have h2 := h1 m (List.mem_range.mpr hm)
  rw [List.all_eq_true] at h2
  have h3 := h2 r (List.mem_range.mpr hr)
  rw [Bool.and_eq_true, Bool.and_eq_true] at h3
  exact ⟨of_decide_eq_true h3.1.1, of_decide_eq_true h3.1.2, of_decide_eq_true h3.2⟩
/-- a coupling -/
def isC (n : Nat) (c : List Nat) : Bool := (List.range (2 ^ n)).all fun r => decide (c.getD (turn n r (c.getD r 0)) 0 = c.getD r 0)
structure Rw (n : Nat) (c : List Nat) : Prop where
  n1 : 1 ≤ n
  n8 : n ≤ 8
  len : c.length = 2 ^ n
  lt : ∀ x ∈ c, x < n
theorem Rw.get {n : Nat} {c : List Nat} (h : Rw n c) {r : Nat} (hr : r < 2 ^ n) : c.getD r 0 < n ∧ c[r]? = some (c.getD r 0) := by
  have hl : r < c.length := by rw [h.len]; exact hr
  have e : c[r]? = some c[r] := List.getElem?_eq_getElem hl
  have e2 : c.getD r 0 = c[r] := by rw [List.getD_eq_getElem?_getD, e]; rfl
  rw [e2]
  exact ⟨h.lt _ (List.getElem_mem hl), e⟩
/-- natural numbers as data -/
def encN (c : List Nat) : List PyData := c.map fun (x : Nat) => PyData.int (x : Int)
theorem encN_get {c : List Nat} {i x : Nat} (h : c[i]? = some x) : (encN c)[i]? = some (.int (x : Int)) := by
  unfold encN
  rw [List.getElem?_map, h]
  rfl
theorem encN_noL (c : List Nat) : noLs (encN c) = true := noLs_all fun d hd => by
  unfold encN at hd
  obtain ⟨x, _, rfl⟩ := List.mem_map.mp hd
  rfl
theorem encN_len (c : List Nat) : (encN c).length = c.length := by
  unfold encN
  rw [List.length_map]
theorem encN_getD {c : List Nat} {i x : Nat} (h : c[i]? = some x) : (encN c).getD i .none = .int (x : Int) := by
  rw [List.getD_eq_getElem?_getD, encN_get h]
  rfl

def RisLot (ds : List PyData) (d : PyData) : Prop := ∃ n m : Nat, ds = [.tuple [.int m], .int n] ∧ m < n ∧ d = .bool true
def RcheckMany (ds : List PyData) (d : PyData) : Prop := ∃ i a b, ds = [.int i, .int a, .int b] ∧ a ≤ i ∧ i ≤ b ∧ d = .none
def RkeepsDuty (ds : List PyData) (d : PyData) : Prop := ∃ a b, ds = [.str "n", .bool a, .bool b] ∧ d = .bool (decide (a = b))
def RlawPower (ds : List PyData) (d : PyData) : Prop := ∃ k : Nat, ds = [.int k] ∧ k ≤ 8 ∧ d = .int ((2 ^ k : Nat) : Int)
def RlawIsCount (ds : List PyData) (d : PyData) : Prop := ∃ i n, ds = [.int i, .int n] ∧ d = .bool (decide (0 ≤ i) && decide (i < n))
def rowWith (n m s r : Nat) : Nat := r / 2 ^ (n - 1 - m) * 2 ^ (n - 1 - m) * 2 + s * 2 ^ (n - 1 - m) + r % 2 ^ (n - 1 - m)
def RlawRowWith (ds : List PyData) (d : PyData) : Prop := ∃ n m s r : Nat, ds = [.int n, .int m, .int s, .int r] ∧ m < n ∧ n ≤ 8 ∧ s ≤ 1 ∧ r < 256 ∧ d = .int (rowWith n m s r : Nat)
def RlawFlag (ds : List PyData) (d : PyData) : Prop := ∃ a b, ds = [.bool a, .bool b] ∧ d = .bool (decide (a = b))
def RisCoupling (ds : List PyData) (d : PyData) : Prop := ∃ (n : Nat) (c : List Nat), ds = [.int n, .tuple (encN c)] ∧ Rw n c ∧ d = .bool (isC n c)

section
variable {P : Program} {w : World} {K : PySem.W.Frag} {mg : Str → Option Value} {base : Heap}
variable {σ : L2.St} {H : Hp} {te ta : TE}
theorem evd_neg {i : Int} (h : EvD K ta σ H (.int i)) : EvD K (tUn (rU fun i => .int (-i)) ta) σ H (.int (-i)) := evd_ev (ev_un (ev_int h) ru_neg) (.int _)
/-- all(..) of a list that a comprehension makes -/
theorem evd_all {n : Nat} {g : Nat → Bool} (h : EvDL K te σ H ((List.range n).map fun i => PyData.bool (g i))) : EvD K (tCB (rAll K) (tCons te tNil)) σ H (.bool ((List.range n).all g)) := by
  have e : ((List.range n).map fun i => PyData.bool (g i)) = ((List.range n).map g).map PyData.bool := by rw [List.map_map]; rfl
  rw [e] at h
  have q := evd_cb (evds_cons (evd_of_l h) evds_nil) (rc_all (K := K) (H := H) (bs := (List.range n).map g))
  have e2 : ((List.range n).map g).all id = (List.range n).all g := by rw [List.all_map]; rfl
  rw [e2] at q
  exact q
theorem q_dropD {D : Ends} {tz : TS} {d : PyData} (h : EvD K te σ H d) (k : ∀ H1, Ex H H1 → tz D σ H1) : tSeq (tDrop te) tz D σ H := h H (Ex.refl H) _ fun _ H1 e _ => k H1 e
/-- check_many(many) -/
theorem evd_call2 {R : List PyData → PyData → Prop} {E : XK} {tr : TA} {ds : List PyData} {z : PyData} (h : EvDs K tr σ H ds) (hr : R (ds ++ [.int 1, .int 8]) z) : EvD K (tCall (spD K R) [.int 1, .int 8] E tr) σ H z := fun H1 e Q q =>
  h H1 e _ fun vs H2 e2 hds => ⟨ds ++ [.int 1, .int 8], z, DpAll.append hds (.cons (.int 1) (.cons (.int 8) .nil)), hr, fun v H3 e3 hd => q v H3 (e2.trans e3) hd⟩
/-- any target, no test -/
theorem evdl_lcE {wi : TI} {n : Nat} {item : Nat → PyData} {Kp : Hp → Hp → Prop} {g : TG} {vs : List Nat} (S : SrcD K wi σ H n item Kp) (hK : ∀ H1 H', Ex H1 H' → Kp H1 H') (hn : n ≤ 50000) (f : Nat → PyData)
    (hf : ∀ i, i < n → noL (f i) = true) (hs : ∀ i x Hi (Q : L2.St → Hp → Prop), i < n → Ex H Hi → Dp K Hi x (item i) → (∀ σ2, wipe σ2 vs = wipe σ vs → EvD K te σ2 Hi (f i) → Q σ2 Hi) → g x (wipe σ vs) Hi Q) :
    EvDL K (tLc wi g tYes te vs) σ H ((List.range n).map f) := by
  have h := evdl_lc (K := K) (σ := σ) (H := H) (te := te) (tt := tYes) (g := g) (vs := vs) S hK hn (fun _ => true) f (fun i hi _ => hf i hi) (fun i x Hi Q hi e hd k => hs i x Hi Q hi e hd fun σ2 h2 h3 => k σ2 h2 (fun H1 _ _ q => q H1 (Ex.refl _)) (fun _ => h3))
  have e : givenD n (fun _ => true) f = (List.range n).map f := by
    unfold givenD
    rw [List.filter_eq_self.mpr (by simp)]
  rw [e] at h
  exact h
theorem natEq (a b : Nat) : decide ((a : Int) = (b : Int)) = decide (a = b) := by
  by_cases h : a = b
  · simp [h]
  · have : ¬ (a : Int) = (b : Int) := by omega
    simp [h, this]
end
end K41
set_option Elab.async false
set_option linter.all false
set_option maxRecDepth 100000
set_option maxHeartbeats 5000000
/-! the dice -/
namespace K41
open PySem PySem.Spec PyProof.Rows L2 Evl

/-- all but the object at p stay -/
def Bx (p : Addr) (H H' : Hp) : Prop := ∀ a o, a ≠ p → H a = some o → H' a = some o
theorem Bx.refl {p : Addr} {H : Hp} : Bx p H H := fun _ _ _ h => h
theorem Bx.trans {p : Addr} {H H1 H2 : Hp} (a : Bx p H H1) (b : Bx p H1 H2) : Bx p H H2 := fun x o n h => b x o n (a x o n h)
theorem Bx.ex {p : Addr} {H H' : Hp} (e : Ex H H') : Bx p H H' := fun x o _ h => e x o h
theorem Bx.upd {p : Addr} {H : Hp} {o : HO} : Bx p H (L2.upd H p o) := fun x u n h => by
  rw [upd_ne n]
  exact h
/-- what did not know p -/
theorem Bx.base {p : Addr} {H0 H H' : Hp} (e : Ex H0 H) (b : Bx p H H') (n : H0 p = none) : Ex H0 H' := fun a o h => b a o (ne_of_none h n) (e a o h)
theorem Bx.sql {K : PySem.W.Frag} {p : Addr} {H H' : Hp} {a : Addr} {xs : List V} (b : Bx p H H') (n : a ≠ p) (h : SqL K H a xs) : SqL K H' a xs := by
  rcases h with (q | ⟨o, q⟩) | q
  · exact .inl (.inl (b _ _ n q))
  · exact .inl (.inr ⟨o, b _ _ n q⟩)
  · exact .inr q
structure DSt (K : PySem.W.Frag) (H : Hp) (p c : Addr) (cs : List Int) (i b s t : Int) : Prop where
  ne : c ≠ p
  at_ : H p = some (.lst [.ref c, .int i, .int b, .int s, .int t])
  cells : H c = some (.lst (cs.map V.int))
  i0 : 0 ≤ i
  i1 : i ≤ cs.length
  pos : ∀ x ∈ cs, 0 ≤ x
  b0 : 0 ≤ b
  s0 : 0 ≤ s
  s1 : s < 2147483647
def DiceAt (K : PySem.W.Frag) (H : Hp) (p c : Addr) (cs : List Int) : Prop := ∃ i b s t, DSt K H p c cs i b s t
theorem DSt.ex {K : PySem.W.Frag} {H H' : Hp} {p c : Addr} {cs : List Int} {i b s t : Int} (d : DSt K H p c cs i b s t) (e : Ex H H') : DSt K H' p c cs i b s t :=
  { d with at_ := e _ _ d.at_, cells := e _ _ d.cells }
theorem DiceAt.ex {K : PySem.W.Frag} {H H' : Hp} {p c : Addr} {cs : List Int} (d : DiceAt K H p c cs) (e : Ex H H') : DiceAt K H' p c cs := by
  obtain ⟨i, b, s, t, d⟩ := d
  exact ⟨i, b, s, t, d.ex e⟩
theorem DiceAt.lst {K : PySem.W.Frag} {H : Hp} {p c : Addr} {cs : List Int} (d : DiceAt K H p c cs) : ∃ xs, H p = some (.lst xs) := by
  obtain ⟨i, b, s, t, d⟩ := d
  exact ⟨_, d.at_⟩
theorem DiceAt.cel {K : PySem.W.Frag} {H : Hp} {p c : Addr} {cs : List Int} (d : DiceAt K H p c cs) : H c = some (.lst (cs.map V.int)) := by
  obtain ⟨i, b, s, t, d⟩ := d
  exact d.cells
theorem DiceAt.keep {K : PySem.W.Frag} {H H' : Hp} {p c l : Addr} {cs : List Int} {o : HO} (d0 : DiceAt K H p c cs) (hl : H l = none) (d : DiceAt K H' p c cs) : DiceAt K (L2.upd H' l o) p c cs := by
  obtain ⟨xp, hxp⟩ := d0.lst
  have n1 : p ≠ l := ne_of_none hxp hl
  have n2 : c ≠ l := ne_of_none d0.cel hl
  obtain ⟨i, b, s, t, d⟩ := d
  exact ⟨i, b, s, t, { d with at_ := by rw [upd_ne n1]; exact d.at_, cells := by rw [upd_ne n2]; exact d.cells }⟩
theorem DSt.dp {K : PySem.W.Frag} {H : Hp} {p c : Addr} {cs : List Int} {i b s t : Int} (d : DSt K H p c cs i b s t) : Dp K H (.ref p) (.list [.list (cs.map .int), .int i, .int b, .int s, .int t]) :=
  .lst (SqL.of d.at_) (.cons (.lst (SqL.of d.cells) (DpAll.ints cs)) (.cons (.int _) (.cons (.int _) (.cons (.int _) (.cons (.int _) .nil)))))
theorem DSt.put {K : PySem.W.Frag} {H : Hp} {p c : Addr} {cs : List Int} {i b s t i' b' s' t' : Int} (d : DSt K H p c cs i b s t) (h1 : 0 ≤ i') (h2 : i' ≤ cs.length) (h3 : 0 ≤ b') (h4 : 0 ≤ s') (h5 : s' < 2147483647) :
    DSt K (upd H p (.lst [.ref c, .int i', .int b', .int s', .int t'])) p c cs i' b' s' t' := by
  refine ⟨d.ne, upd_same, ?_, h1, h2, d.pos, h3, h4, h5⟩
  rw [upd_ne d.ne]
  exact d.cells
def spDraw (K : PySem.W.Frag) : Sp := fun vs H Q _ => ∃ (p c : Addr) (cs : List Int) (k : Int), vs = [.ref p, .int k] ∧ 1 ≤ k ∧ k ≤ 1000 ∧ DiceAt K H p c cs ∧ ∀ (r : Nat) H', (r : Int) < k → Bx p H H' → Tx K H H' → DiceAt K H' p c cs → Q (.int r) H'
theorem draw_run {K : PySem.W.Frag} {σ : L2.St} {H : Hp} {ta tk : TE} {p c : Addr} {cs : List Int} {k : Int} {Q : VK} {E : XK} (ha : Ev ta σ H (.ref p)) (hk : EvD K tk σ H (.int k)) (h1 : 1 ≤ k) (h2 : k ≤ 1000) (D : DiceAt K H p c cs)
    (q : ∀ (r : Nat) H', (r : Int) < k → Bx p H H' → Tx K H H' → DiceAt K H' p c cs → Q (.int r) H') : tCall (spDraw K) [] E (tCons ta (tCons tk tNil)) σ H Q :=
  ha H (Ex.refl H) _ fun H1 e1 => (ev_int hk) H1 e1 _ fun H2 e2 => ⟨p, c, cs, k, rfl, h1, h2, D.ex (e1.trans e2), fun r H' hr b t d => q r H' hr ((Bx.ex (e1.trans e2)).trans b) ((Ex.tx (e1.trans e2)).trans t) d⟩
end K41
set_option Elab.async false
set_option linter.all false
set_option maxRecDepth 100000
set_option maxHeartbeats 5000000
/-! plain laws of couplings -/
namespace K41
open PySem PySem.Spec PyProof.Rows L2 Evl

def factC : Bool := (List.range 9).all fun n => (List.range n).all fun a => (List.range n).all fun b => (List.range (2 ^ n)).all fun r => decide (turn n (turn n r a) b = turn n (turn n r b) a)
theorem factC_ok : factC = true := by decide +kernel
theorem turn_comm {n a b r : Nat} (hn : n ≤ 8) (ha : a < n) (hb : b < n) (hr : r < 2 ^ n) : turn n (turn n r a) b = turn n (turn n r b) a := by
  have h := factC_ok
  unfold factC at h
  rw [List.all_eq_true] at h
  have h1 := h n (List.mem_range.mpr (by omega))
  rw [List.all_eq_true] at h1
  have h2 := h1 a (List.mem_range.mpr ha)
  rw [List.all_eq_true] at h2
  have h3 := h2 b (List.mem_range.mpr hb)
  rw [List.all_eq_true] at h3
  have h4 := h3 r (List.mem_range.mpr hr)
  exact of_decide_eq_true h4
theorem getD_set {c : List Nat} {i j v : Nat} (hj : j < c.length) : (c.set i v).getD j 0 = if i = j then v else c.getD j 0 := by
  rw [List.getD_eq_getElem?_getD, List.getElem?_set]
  by_cases h : i = j
  · subst h
    simp [hj]
  · simp [h, List.getD_eq_getElem?_getD]
theorem isC_iff {n : Nat} {c : List Nat} : isC n c = true ↔ ∀ r, r < 2 ^ n → c.getD (turn n r (c.getD r 0)) 0 = c.getD r 0 := by
  unfold isC
  rw [List.all_eq_true]
  constructor
  · intro h r hr
    exact of_decide_eq_true (h r (List.mem_range.mpr hr))
  · intro h r hr
    exact decide_eq_true (h r (List.mem_range.mp hr))
theorem Rw.set {n : Nat} {c : List Nat} (R : Rw n c) (i : Nat) {v : Nat} (hv : v < n) : Rw n (c.set i v) :=
  ⟨R.n1, R.n8, by rw [List.length_set, R.len], fun x hx => by
    rcases List.mem_or_eq_of_mem_set hx with h | h
    · exact R.lt x h
    · rw [h]; exact hv⟩
/-- a square coupled the other way -/
def sq (n : Nat) (c : List Nat) (r o m : Nat) : List Nat := (c.set r o).set (turn n r m) o
theorem sq_rw {n : Nat} {c : List Nat} (R : Rw n c) (r m : Nat) {o : Nat} (ho : o < n) : Rw n (sq n c r o m) := (R.set _ ho).set _ ho
theorem switch_C {n : Nat} {c : List Nat} (R : Rw n c) (C : isC n c = true) {r o : Nat} (hr : r < 2 ^ n) (ho : o < n) (h2 : c.getD (turn n r o) 0 = c.getD r 0) :
    isC n (sq n (sq n c r o (c.getD r 0)) (turn n r o) o (c.getD r 0)) = true := by
  obtain ⟨hm, _⟩ := R.get hr
  generalize hmm : c.getD r 0 = m at hm h2 ⊢
  obtain ⟨l1, i1, _⟩ := turn_facts R.n8 hm hr
  obtain ⟨l2, i2, _⟩ := turn_facts R.n8 ho hr
  obtain ⟨l3, i3, _⟩ := turn_facts R.n8 hm l2
  have cm := turn_comm R.n8 ho hm hr
  obtain ⟨_, i4, _⟩ := turn_facts R.n8 ho l1
  have C' := isC_iff.mp C
  have c1 : c.getD (turn n r m) 0 = m := by
    have := C' r hr
    rw [hmm] at this
    exact this
  have c3 : c.getD (turn n (turn n r o) m) 0 = m := by
    have := C' _ l2
    rw [h2] at this
    exact this
  have len := R.len
  have val : ∀ x, x < 2 ^ n → (sq n (sq n c r o m) (turn n r o) o m).getD x 0 = if x = r ∨ x = turn n r m ∨ x = turn n r o ∨ x = turn n (turn n r o) m then o else c.getD x 0 := by
    intro x hx
    unfold sq
    rw [getD_set (by rw [List.length_set, List.length_set, List.length_set, len]; exact hx), getD_set (by rw [List.length_set, List.length_set, len]; exact hx), getD_set (by rw [List.length_set, len]; exact hx), getD_set (by rw [len]; exact hx)]
    by_cases e4 : turn n (turn n r o) m = x
    · rw [if_pos e4, if_pos (.inr (.inr (.inr e4.symm)))]
    · rw [if_neg e4]
      by_cases e3 : turn n r o = x
      · rw [if_pos e3, if_pos (.inr (.inr (.inl e3.symm)))]
      · rw [if_neg e3]
        by_cases e2 : turn n r m = x
        · rw [if_pos e2, if_pos (.inr (.inl e2.symm))]
        · rw [if_neg e2]
          by_cases e1 : r = x
          · rw [if_pos e1, if_pos (.inl e1.symm)]
          · rw [if_neg e1, if_neg]
            rintro (q | q | q | q)
            · exact e1 q.symm
            · exact e2 q.symm
            · exact e3 q.symm
            · exact e4 q.symm
  refine isC_iff.mpr fun x hx => ?_
  rw [val x hx]
  by_cases hin : x = r ∨ x = turn n r m ∨ x = turn n r o ∨ x = turn n (turn n r o) m
  · rw [if_pos hin]
    have hlt : turn n x o < 2 ^ n := (turn_facts R.n8 ho hx).1
    rw [val _ hlt, if_pos]
    rcases hin with q | q | q | q
    · rw [q]; exact .inr (.inr (.inl rfl))
    · rw [q, ← cm]; exact .inr (.inr (.inr rfl))
    · rw [q, i2]; exact .inl rfl
    · rw [q, cm, i4]; exact .inr (.inl rfl)
  · rw [if_neg hin]
    obtain ⟨hk, _⟩ := R.get hx
    obtain ⟨lt, inv, _⟩ := turn_facts R.n8 hk hx
    rw [val _ lt, if_neg, C' x hx]
    intro hy
    apply hin
    have ck := C' x hx
    have four : c.getD (turn n x (c.getD x 0)) 0 = m := by
      rcases hy with q | q | q | q
      · rw [q]; exact hmm
      · rw [q]; exact c1
      · rw [q]; exact h2
      · rw [q]; exact c3
    have ekm : c.getD x 0 = m := by rw [← ck]; exact four
    rw [ekm] at hy inv
    rcases hy with q | q | q | q
    · rw [q] at inv; exact .inr (.inl inv.symm)
    · rw [q, i1] at inv; exact .inl inv.symm
    · rw [q] at inv; exact .inr (.inr (.inr inv.symm))
    · rw [q, i3] at inv; exact .inr (.inr (.inl inv.symm))

/-! ### halves -/
def bitOf (n m x : Nat) : Nat := x / 2 ^ (n - 1 - m) % 2
def rstOf (n m x : Nat) : Nat := x / 2 ^ (n - 1 - m) / 2 * 2 ^ (n - 1 - m) + x % 2 ^ (n - 1 - m)
def up (m k : Nat) : Nat := k + (if m ≤ k then 1 else 0)
def factH : Bool := (List.range 9).all fun n => (List.range n).all fun m => (List.range 2).all fun s => (List.range (2 ^ (n - 1))).all fun r =>
  decide (rowWith n m s r < 2 ^ n) && decide (bitOf n m (rowWith n m s r) = s) && decide (rstOf n m (rowWith n m s r) = r) && (List.range (n - 1)).all fun k => decide (turn n (rowWith n m s r) (up m k) = rowWith n m s (turn (n - 1) r k))
theorem factH_ok : factH = true := by decide +kernel
theorem half_facts {n m s r : Nat} (hn : n ≤ 8) (hm : m < n) (hs : s < 2) (hr : r < 2 ^ (n - 1)) :
    rowWith n m s r < 2 ^ n ∧ bitOf n m (rowWith n m s r) = s ∧ rstOf n m (rowWith n m s r) = r ∧ ∀ k, k < n - 1 → turn n (rowWith n m s r) (up m k) = rowWith n m s (turn (n - 1) r k) := by
  have h := factH_ok
  unfold factH at h
  rw [List.all_eq_true] at h
  have h1 := h n (List.mem_range.mpr (by omega))
  rw [List.all_eq_true] at h1
  have h2 := h1 m (List.mem_range.mpr hm)
  rw [List.all_eq_true] at h2
  have h3 := h2 s (List.mem_range.mpr hs)
  rw [List.all_eq_true] at h3
  have h4 := h3 r (List.mem_range.mpr hr)
  simp only [Bool.and_eq_true, decide_eq_true_eq, List.all_eq_true, List.mem_range] at h4
  exact ⟨h4.1.1.1, h4.1.1.2, h4.1.2, h4.2⟩
def factS : Bool := (List.range 9).all fun n => (List.range n).all fun m => (List.range (2 ^ n)).all fun x => decide (bitOf n m x < 2) && decide (rstOf n m x < 2 ^ (n - 1)) && decide (rowWith n m (bitOf n m x) (rstOf n m x) = x)
theorem factS_ok : factS = true := by decide +kernel
theorem split_facts {n m x : Nat} (hn : n ≤ 8) (hm : m < n) (hx : x < 2 ^ n) : bitOf n m x < 2 ∧ rstOf n m x < 2 ^ (n - 1) ∧ rowWith n m (bitOf n m x) (rstOf n m x) = x := by
  have h := factS_ok
  unfold factS at h
  rw [List.all_eq_true] at h
  have h1 := h n (List.mem_range.mpr (by omega))
  rw [List.all_eq_true] at h1
  have h2 := h1 m (List.mem_range.mpr hm)
  rw [List.all_eq_true] at h2
  have h3 := h2 x (List.mem_range.mpr hx)
  rw [Bool.and_eq_true, Bool.and_eq_true] at h3
  exact ⟨of_decide_eq_true h3.1.1, of_decide_eq_true h3.1.2, of_decide_eq_true h3.2⟩
/-- two halves, coupled for themselves -/
theorem halves_C {n m : Nat} {c a b : List Nat} (R : Rw n c) (hm : m < n) (Ra : Rw (n - 1) a) (Rb : Rw (n - 1) b) (Ca : isC (n - 1) a = true) (Cb : isC (n - 1) b = true)
    (ha : ∀ r, r < 2 ^ (n - 1) → c.getD (rowWith n m 0 r) 0 = up m (a.getD r 0)) (hb : ∀ r, r < 2 ^ (n - 1) → c.getD (rowWith n m 1 r) 0 = up m (b.getD r 0)) : isC n c = true := by
  refine isC_iff.mpr fun x hx => ?_
  obtain ⟨s1, s2, s3⟩ := split_facts R.n8 hm hx
  generalize bitOf n m x = s at s1 s3
  generalize rstOf n m x = r at s2 s3
  subst s3
  have go : ∀ (h : List Nat), Rw (n - 1) h → isC (n - 1) h = true → (∀ r, r < 2 ^ (n - 1) → c.getD (rowWith n m s r) 0 = up m (h.getD r 0)) → c.getD (turn n (rowWith n m s r) (c.getD (rowWith n m s r) 0)) 0 = c.getD (rowWith n m s r) 0 := by
    intro h Rh Ch hh
    obtain ⟨hk, _⟩ := Rh.get s2
    obtain ⟨_, _, _, h4⟩ := half_facts R.n8 hm s1 s2
    rw [hh r s2, h4 _ hk, hh _ (turn_facts Rh.n8 hk s2).1, isC_iff.mp Ch r s2]
  have : s = 0 ∨ s = 1 := by omega
  rcases this with q | q
  · subst q
    exact go a Ra Ca ha
  · subst q
    exact go b Rb Cb hb
theorem const_C {n m : Nat} (hm : m < n) (hn : n ≤ 8) : Rw n (List.replicate (2 ^ n) m) ∧ isC n (List.replicate (2 ^ n) m) = true := by
  refine ⟨⟨by omega, hn, List.length_replicate, fun x hx => by rw [List.eq_of_mem_replicate hx]; exact hm⟩, isC_iff.mpr fun r hr => ?_⟩
  have g : ∀ x, x < 2 ^ n → (List.replicate (2 ^ n) m).getD x 0 = m := fun x hx => by
    rw [List.getD_eq_getElem?_getD, List.getElem?_replicate, if_pos hx]
    rfl
  rw [g r hr, g _ (turn_facts hn hm hr).1]
def encV (c : List Nat) : List V := c.map fun (x : Nat) => V.int (x : Int)
theorem encV_dp {K : PySem.W.Frag} {H : Hp} : ∀ c : List Nat, DpAll K H (encV c) (encN c)
  | [] => .nil
  | x :: c => .cons (.int _) (encV_dp c)
theorem encV_of {K : PySem.W.Frag} {H : Hp} : ∀ {c : List Nat} {vs : List V}, DpAll K H vs (encN c) → vs = encV c
  | [], _, h => by cases h; rfl
  | x :: c, _, h => by
    cases h with
    | cons h1 h2 =>
      rw [h1.intV, encV_of h2]
      rfl
theorem encV_set (c : List Nat) (i v : Nat) : (encV c).set i (.int (v : Int)) = encV (c.set i v) := by
  unfold encV
  rw [List.map_set]
theorem encV_len (c : List Nat) : (encV c).length = c.length := by
  unfold encV
  rw [List.length_map]
theorem Bx.mut {p l : Addr} {H H' : Hp} {o : HO} (b : Bx p H H') (n : H l = none) : Bx p H (L2.upd H' l o) := fun a u na h => by
  rw [upd_ne (ne_of_none h n)]
  exact b a u na h
end K41
set_option Elab.async false
set_option linter.all false
set_option maxRecDepth 100000
set_option maxHeartbeats 5000000
/-! plain books; faults of rules that pick one -/
namespace K41
open PySem PySem.Spec PyProof.Rows L2 Evl

def cntD (n : Nat) : List PyData := List.replicate (2 ^ n) (.tuple [.int 1, .int 1])
def mrkD (n : Nat) : List PyData := List.replicate (2 ^ n) (.str (rep1 46 n))
structure BookAt (K : PySem.W.Frag) (mg : Str → Option Value) (H : Hp) (b : Addr) (n : Nat) : Prop where
  n1 : 1 ≤ n
  n8 : n ≤ 8
  ex : ∃ (C dx : Addr) (fs : List (Str × V)) (vc vm : V), Bk K mg C ∧ H b = some (.ins C dx fs) ∧ fs.lookup ("duties" : Str) = some (.str (rep1 110 n)) ∧ fs.lookup ("counts" : Str) = some vc ∧ fs.lookup ("marks" : Str) = some vm ∧ fs.lookup ("many" : Str) = some (.int (n : Int)) ∧
    Dp K H vc (.tuple (cntD n)) ∧ Dp K H vm (.tuple (mrkD n))
theorem cntD_noL (n : Nat) : noLs (cntD n) = true := noLs_all fun d hd => by rw [List.eq_of_mem_replicate hd]; rfl
theorem mrkD_noL (n : Nat) : noLs (mrkD n) = true := noLs_all fun d hd => by rw [List.eq_of_mem_replicate hd]; rfl
theorem BookAt.ex' {K : PySem.W.Frag} {mg : Str → Option Value} {H H' : Hp} {b : Addr} {n : Nat} (B : BookAt K mg H b n) (e : Ex H H') : BookAt K mg H' b n := by
  obtain ⟨n1, n8, C, dx, fs, vc, vm, h1, h2, h3, h4, h5, h6, h7, h8⟩ := B
  exact ⟨n1, n8, C, dx, fs, vc, vm, h1, e _ _ h2, h3, h4, h5, h6, L2.dx e h7, L2.dx e h8⟩
theorem BookAt.bx {K : PySem.W.Frag} {mg : Str → Option Value} {H H' : Hp} {b p : Addr} {n : Nat} {xs : List V} (B : BookAt K mg H b n) (hp : H p = some (.lst xs)) (e : Bx p H H') (t : Tx K H H') : BookAt K mg H' b n := by
  obtain ⟨n1, n8, C, dx, fs, vc, vm, h1, h2, h3, h4, h5, h6, h7, h8⟩ := B
  exact ⟨n1, n8, C, dx, fs, vc, vm, h1, e _ _ (ne_of h2 hp (by intro z; cases z)) h2, h3, h4, h5, h6, Dp.tx t _ _ (by rw [noL]; exact cntD_noL n) h7, Dp.tx t _ _ (by rw [noL]; exact mrkD_noL n) h8⟩
section
variable {K : PySem.W.Frag} {mg : Str → Option Value} {σ : L2.St} {H : Hp} {ta te : TE} {b : Addr} {n : Nat}
theorem ev_bDuties (B : BookAt K mg H b n) (h : Ev ta σ H (.ref b)) : EvD K (tFld K ta "duties") σ H (.str (rep1 110 n)) := by
  obtain ⟨n1, n8, C, dx, fs, vc, vm, h1, h2, h3, h4, h5, h6, h7, h8⟩ := B
  exact evd_fld h h2 h1.cl h1.n_duties h3 (.str _)
theorem ev_bCounts (B : BookAt K mg H b n) (h : Ev ta σ H (.ref b)) : EvD K (tFld K ta "counts") σ H (.tuple (cntD n)) := by
  obtain ⟨n1, n8, C, dx, fs, vc, vm, h1, h2, h3, h4, h5, h6, h7, h8⟩ := B
  exact evd_fld h h2 h1.cl h1.n_counts h4 h7
theorem ev_bMarks (B : BookAt K mg H b n) (h : Ev ta σ H (.ref b)) : EvD K (tFld K ta "marks") σ H (.tuple (mrkD n)) := by
  obtain ⟨n1, n8, C, dx, fs, vc, vm, h1, h2, h3, h4, h5, h6, h7, h8⟩ := B
  exact evd_fld h h2 h1.cl h1.n_marks h5 h8
theorem ev_bMany (B : BookAt K mg H b n) (h : Ev ta σ H (.ref b)) : EvD K (tFld K ta "many") σ H (.int (n : Int)) := by
  obtain ⟨n1, n8, C, dx, fs, vc, vm, h1, h2, h3, h4, h5, h6, h7, h8⟩ := B
  exact evd_fld h h2 h1.cl h1.n_many h6 (.int _)
end
theorem rep1_len (c n : Nat) : (rep1 c n).length = n := by
  show (List.replicate n c).toArray.size = n
  rw [List.size_toArray, List.length_replicate]
theorem rep1_signs (c n : Nat) : signs (rep1 c n) = List.replicate n (.str ⟨#[c]⟩) := by
  unfold signs rep1
  rw [List.map_replicate]
theorem strs_of {K : PySem.W.Frag} {H : Hp} : ∀ {ss : List Str} {vs : List V}, DpAll K H vs (ss.map PyData.str) → vs = ss.map V.str
  | [], _, h => by cases h; rfl
  | b :: bs, _, h => by
    cases h with
    | cons h1 h2 =>
      rw [h1.strV, strs_of h2]
      rfl
theorem flat_strs (ns : List Str) : (ns.map V.str).all flatV = true := by
  induction ns with
  | nil => rfl
  | cons n ns ih => rw [List.map_cons, List.all_cons, ih]; rfl
theorem rd_inS {K : PySem.W.Frag} {H : Hp} {s : Str} {ss : List Str} {b : Bool} (hb : inV (.str s) (ss.map V.str) = b) : RD K (rIn K false) (.str s) (.tuple (ss.map PyData.str)) H (.bool b) := fun vx vy H1 e dx' dy Q q => by
  obtain ⟨a, xs, rfl, hs, ha⟩ := dy.tupV
  rw [dx'.strV]
  have e := strs_of ha
  subst e
  refine ⟨a, _, rfl, .inr hs, rfl, flat_strs ss, ?_⟩
  show Q (.bl (inV (.str s) (ss.map V.str))) H1
  rw [hb]
  exact q _ H1 (Ex.refl _) (.bl _)
theorem dut_dp {K : PySem.W.Frag} (H : Hp) : DpAll K H dutV (List.map PyData.str (["n", "a", "m"] : List Str)) := .cons (.str _) (.cons (.str _) (.cons (.str _) .nil))
theorem sig_dp {K : PySem.W.Frag} (H : Hp) : DpAll K H sigV (List.map PyData.str (["1", "0", "."] : List Str)) := .cons (.str _) (.cons (.str _) (.cons (.str _) .nil))
theorem in_n : inV (.str ⟨#[110]⟩) ((["n", "a", "m"] : List Str).map V.str) = true := by decide +kernel
theorem in_dot : inV (.str ⟨#[46]⟩) ((["1", "0", "."] : List Str).map V.str) = true := by decide +kernel
theorem str_n : ("n" : Str) = ⟨#[110]⟩ := by decide +kernel
theorem str_dot : ("." : Str) = ⟨#[46]⟩ := by decide +kernel
theorem rd_mulS {K : PySem.W.Frag} {H : Hp} {c : Nat} {n : Int} (h1 : 1 ≤ n) (h2 : n ≤ 1000) : RD K rMulS (.str ⟨#[c]⟩) (.int n) H (.str (rep1 c n.toNat)) := fun vx vy H1 e dx' dy Q q => ⟨c, n, dx'.strV, dy.intV, h1, h2, q _ H1 (Ex.refl _) (.str _)⟩
theorem rd_repT {K : PySem.W.Frag} {H : Hp} {d : PyData} {k : Nat} (h1 : 2 ≤ k) (h2 : k ≤ 1000) : RD K (rRepT K) (.tuple [d]) (.int (k : Int)) H (.tuple (List.replicate k d)) := fun vx vy H1 e dx' dy Q q => by
  obtain ⟨a, xs, rfl, hs, ha⟩ := dx'.tupV
  obtain ⟨x, rfl, hx⟩ := (show ∃ x, xs = [x] ∧ Dp K H1 x d from all1 ha)
  refine ⟨a, (k : Int), [x], rfl, dy.intV, hs, (fun z => nomatch z), by omega, by omega, by simp, fun p hp => ?_⟩
  refine q _ _ (Ex.new hp) (.tup (SqT.of upd_same) ?_)
  have e1 : (List.replicate (k : Int).toNat [x]).flatten = List.replicate k x := by
    rw [Int.toNat_natCast]
    induction k with
    | zero => rfl
    | succ m ih =>
      rw [List.replicate_succ, List.flatten_cons, List.replicate_succ]
      have : (List.replicate m [x]).flatten = List.replicate m x := by
        clear ih h1 h2 dy q
        induction m with
        | zero => rfl
        | succ j ih => rw [List.replicate_succ, List.flatten_cons, ih, List.replicate_succ]; rfl
      rw [this]
      rfl
  rw [e1]
  have hx' := dx (Ex.new (o := .tup (List.replicate k x)) hp) hx
  clear q dy h1 h2 e1
  generalize upd H1 p (.tup (List.replicate k x)) = G at hx'
  induction k with
  | zero => exact .nil
  | succ m ih => exact .cons hx' ih

/-! ### faults -/
def ruleD (c : List Nat) : List PyData := c.map fun (x : Nat) => .tuple [.int (x : Int)]
theorem ruleD_get {c : List Nat} {i x : Nat} (h : c[i]? = some x) : (ruleD c)[i]? = some (.tuple [.int (x : Int)]) := by
  unfold ruleD
  rw [List.getElem?_map, h]
  rfl
theorem ruleD_len (c : List Nat) : (ruleD c).length = c.length := by
  unfold ruleD
  rw [List.length_map]
theorem ruleD_noL (c : List Nat) : noLs (ruleD c) = true := noLs_all fun d hd => by
  unfold ruleD at hd
  obtain ⟨x, _, rfl⟩ := List.mem_map.mp hd
  rfl
def bad (n : Nat) (c : List Nat) (r m : Nat) : Bool := !yes n r m && (decide (c.getD r 0 = m) != decide (c.getD (turn n r m) 0 = m))
def faultAt (n : Nat) (c : List Nat) (r : Nat) : Option Nat := (List.range n).find? (bad n c r)
def faultD (n : Nat) (c : List Nat) (r : Nat) : PyData := match faultAt n c r with
  | none => .none
  | some m => .tuple [.str "duty", .int (r : Int), .int (m : Int)]
def faultR (n : Nat) (c : List Nat) : Option Nat := (List.range (2 ^ n)).find? fun r => (faultAt n c r).isSome
def faultsD (n : Nat) (c : List Nat) : PyData := match faultR n c with
  | none => .none
  | some r => faultD n c r
theorem isNon_faultD (n : Nat) (c : List Nat) (r : Nat) : isNon (faultD n c r) = !(faultAt n c r).isSome := by
  unfold faultD
  cases faultAt n c r <;> rfl
theorem find_range {p : Nat → Bool} : ∀ {N k : Nat}, k < N → p k = true → (∀ j, j < k → p j = false) → (List.range N).find? p = some k := by
  intro N k hk hp hj
  rw [List.find?_range_eq_some]
  exact ⟨hp, List.mem_range.mpr hk, fun j hj' => by rw [hj j hj']; rfl⟩
theorem find_none {p : Nat → Bool} {N : Nat} (h : ∀ j, j < N → p j = false) : (List.range N).find? p = none := by
  rw [List.find?_eq_none]
  intro x hx
  rw [h x (List.mem_range.mp hx)]
  exact Bool.false_ne_true
theorem faults_none {n : Nat} {c : List Nat} (h : isNon (faultsD n c) = true) : ∀ r, r < 2 ^ n → ∀ m, m < n → bad n c r m = false := by
  unfold faultsD at h
  cases e : faultR n c with
  | none =>
    unfold faultR at e
    rw [List.find?_eq_none] at e
    intro r hr m hm
    have h1 := e r (List.mem_range.mpr hr)
    unfold faultAt at h1
    cases e2 : (List.range n).find? (bad n c r) with
    | some x => rw [e2] at h1; exact absurd rfl h1
    | none =>
      rw [List.find?_eq_none] at e2
      have h2 := e2 m (List.mem_range.mpr hm)
      cases hb : bad n c r m with
      | true => exact absurd hb h2
      | false => rfl
  | some r =>
    rw [e] at h
    unfold faultR at e
    have h1 := List.find?_some e
    have h2 : isNon (faultD n c r) = true := h
    rw [isNon_faultD, h1] at h2
    cases h2
theorem faults_C {n : Nat} {c : List Nat} (R : Rw n c) : isNon (faultsD n c) = isC n c := by
  cases hc : isC n c with
  | true =>
    have C := isC_iff.mp hc
    have all : ∀ r, r < 2 ^ n → faultAt n c r = none := fun r hr => find_none fun m hm => by
      unfold bad
      obtain ⟨g1, _⟩ := R.get hr
      obtain ⟨l1, i1, _⟩ := turn_facts R.n8 hm hr
      have a := C r hr
      have b := C _ l1
      cases yes n r m with
      | true => rfl
      | false =>
        show (decide (c.getD r 0 = m) != decide (c.getD (turn n r m) 0 = m)) = false
        by_cases h1 : c.getD r 0 = m
        · rw [h1] at a
          rw [decide_eq_true h1, decide_eq_true a]
          rfl
        · have h2 : ¬ c.getD (turn n r m) 0 = m := fun h2 => h1 (by rw [h2, i1] at b; exact b)
          rw [decide_eq_false h1, decide_eq_false h2]
          rfl
    have e : faultR n c = none := find_none fun r hr => by rw [all r hr]; rfl
    unfold faultsD
    rw [e]
    rfl
  | false =>
    cases h : isNon (faultsD n c) with
    | false => rfl
    | true =>
      exfalso
      have ok := faults_none h
      have : isC n c = true := isC_iff.mpr fun r hr => by
        obtain ⟨g1, _⟩ := R.get hr
        obtain ⟨l1, i1, y1⟩ := turn_facts R.n8 g1 hr
        cases hy : yes n r (c.getD r 0) with
        | false =>
          have q := ok r hr _ g1
          unfold bad at q
          rw [hy, decide_eq_true rfl] at q
          by_cases h2 : c.getD (turn n r (c.getD r 0)) 0 = c.getD r 0
          · exact h2
          · rw [decide_eq_false h2] at q
            cases q
        | true =>
          rw [hy] at y1
          have q := ok _ l1 _ g1
          unfold bad at q
          rw [y1, i1, decide_eq_true (show c.getD r 0 = c.getD r 0 from rfl)] at q
          by_cases h2 : c.getD (turn n r (c.getD r 0)) 0 = c.getD r 0
          · exact h2
          · rw [decide_eq_false h2] at q
            cases q
      rw [hc] at this
      cases this
theorem faults_duty {n : Nat} {c : List Nat} (h : isNon (faultsD n c) = false) : ∃ x y, faultsD n c = .tuple [.str "duty", x, y] := by
  unfold faultsD at h ⊢
  cases e : faultR n c with
  | none =>
    rw [e] at h
    cases h
  | some r =>
    rw [e] at h
    show ∃ x y, faultD n c r = _
    have h' : isNon (faultD n c r) = false := h
    unfold faultD at h' ⊢
    cases e2 : faultAt n c r with
    | none => rw [e2] at h'; cases h'
    | some m => exact ⟨_, _, rfl⟩
theorem faults_noL (n : Nat) (c : List Nat) : noL (faultsD n c) = true := by
  cases h : isNon (faultsD n c) with
  | true =>
    unfold faultsD at h ⊢
    cases e : faultR n c with
    | none => rfl
    | some r =>
      rw [e] at h
      have h' : isNon (faultD n c r) = true := h
      show noL (faultD n c r) = true
      unfold faultD at h' ⊢
      cases e2 : faultAt n c r with
      | none => rfl
      | some m => rfl
  | false =>
    obtain ⟨x, y, e⟩ := faults_duty h
    unfold faultsD
    cases e3 : faultR n c with
    | none => rfl
    | some r =>
      show noL (faultD n c r) = true
      unfold faultD
      cases e2 : faultAt n c r with
      | none => rfl
      | some m => rfl
def spFaultAt (K : PySem.W.Frag) (mg : Str → Option Value) : Sp := fun vs H Q _ => ∃ (b : Addr) (n : Nat) (c : List Nat) (r : Nat) (u : V), vs = [.ref b, u, .int r] ∧ BookAt K mg H b n ∧ Rw n c ∧ r < 2 ^ n ∧ Dp K H u (.tuple (ruleD c)) ∧ ∀ v H', Ex H H' → Dp K H' v (faultD n c r) → Q v H'
def spFault (K : PySem.W.Frag) (mg : Str → Option Value) (g : Nat → List Nat → PyData) : Sp := fun vs H Q _ => ∃ (b : Addr) (n : Nat) (c : List Nat) (u : V), vs = [.ref b, u] ∧ BookAt K mg H b n ∧ Rw n c ∧ Dp K H u (.tuple (ruleD c)) ∧ ∀ v H', Ex H H' → Dp K H' v (g n c) → Q v H'
section
variable {K : PySem.W.Frag} {mg : Str → Option Value} {σ : L2.St} {H : Hp} {ta tb tc : TE} {b : Addr} {n r : Nat} {c : List Nat} {E : XK} {g : Nat → List Nat → PyData}
theorem ev_fault (B : BookAt K mg H b n) (R : Rw n c) (ha : Ev ta σ H (.ref b)) (hb : EvD K tb σ H (.tuple (ruleD c))) : EvD K (tCall (spFault K mg g) [] E (tCons ta (tCons tb tNil))) σ H (g n c) := fun H1 e Q q =>
  ha H1 e _ fun H2 e2 => hb H2 (e.trans e2) _ fun u H3 e3 hu => ⟨b, n, c, u, rfl, B.ex' ((e.trans e2).trans e3), R, hu, fun v H4 e4 hv => q v H4 ((e2.trans e3).trans e4) hv⟩
theorem ev_faultAt (B : BookAt K mg H b n) (R : Rw n c) (hr : r < 2 ^ n) (ha : Ev ta σ H (.ref b)) (hb : EvD K tb σ H (.tuple (ruleD c))) (hc : EvD K tc σ H (.int (r : Int))) : EvD K (tCall (spFaultAt K mg) [] E (tCons ta (tCons tb (tCons tc tNil)))) σ H (faultD n c r) := fun H1 e Q q =>
  ha H1 e _ fun H2 e2 => hb H2 (e.trans e2) _ fun u H3 e3 hu => (ev_int hc) H3 ((e.trans e2).trans e3) _ fun H4 e4 => ⟨b, n, c, r, u, rfl, B.ex' (((e.trans e2).trans e3).trans e4), R, hr, dx e4 hu, fun v H5 e5 hv => q v H5 (((e2.trans e3).trans e4).trans e5) hv⟩
end
end K41
set_option Elab.async false
set_option linter.all false
set_option maxRecDepth 100000
set_option maxHeartbeats 5000000
/-! sources of two and three things, lists of new lists, defs of books; mirrors of the closed part -/
namespace K41
open PySem PySem.Spec PyProof.Rows L2 Evl

def Bs (S : Addr → Prop) (H H' : Hp) : Prop := ∀ a u, ¬ S a → H a = some u → H' a = some u
theorem Bs.refl {S : Addr → Prop} {H : Hp} : Bs S H H := fun _ _ _ h => h
theorem Bs.trans {S : Addr → Prop} {H H1 H2 : Hp} (a : Bs S H H1) (b : Bs S H1 H2) : Bs S H H2 := fun x u n h => b x u n (a x u n h)
theorem Bs.ex {S : Addr → Prop} {H H' : Hp} (e : Ex H H') : Bs S H H' := fun a u _ h => e a u h
theorem Bs.upd {S : Addr → Prop} {H : Hp} {p : Addr} {o : HO} (h : S p) : Bs S H (L2.upd H p o) := fun a u n q => by
  rw [upd_ne (fun e => n (by rw [e]; exact h))]
  exact q

def oD : Option Nat → PyData
  | none => .none
  | some m => .int (m : Int)
def oV : Option Nat → V
  | none => .non
  | some m => .int (m : Int)
theorem isNon_oD (o : Option Nat) : isNon (oD o) = o.isNone := by cases o <;> rfl
theorem noL_oD (o : Option Nat) : noL (oD o) = true := by cases o <;> rfl

section
variable {K : PySem.W.Frag} {σ : L2.St} {H : Hp} {te ta tb tc tl : TE} {mg : Str → Option Value}
theorem oV_d : ∀ (o : Option Nat), Dp K H (oV o) (oD o)
  | none => .non
  | some m => .int (m : Int)
theorem oV_dp : ∀ k : List (Option Nat), DpAll K H (k.map oV) (k.map oD)
  | [] => .nil
  | o :: k => .cons (oV_d o) (oV_dp k)
theorem oV_of : ∀ {k : List (Option Nat)} {vs : List V}, DpAll K H vs (k.map oD) → vs = k.map oV
  | [], _, h => by cases h; rfl
  | o :: k, _, h => by
    cases h with
    | cons a b =>
      rw [oV_of b]
      cases o with
      | none => rw [a.nonV]; rfl
      | some m => rw [a.intV]; rfl
theorem oD_noLs (k : List (Option Nat)) : noLs (k.map oD) = true := noLs_all fun d hd => by
  obtain ⟨o, _, rfl⟩ := List.mem_map.mp hd
  exact noL_oD o
theorem oD_get {k : List (Option Nat)} {i : Nat} (h : i < k.length) : (k.map oD)[i]? = some (oD (k.getD i none)) := by
  rw [List.getElem?_map, List.getD_eq_getElem?_getD, List.getElem?_eq_getElem h]
  rfl

/-! sources -/
theorem src_lstF {ss : List PyData} (h : EvDL K tl σ H ss) (hn : noLs ss = true) (S : Addr → Prop) (hS : ∀ a, S a → H a ≠ none) : SrcD K (iList K tl) σ H ss.length (fun i => ss.getD i .none) (fun H1 H' => Tx K H1 H' ∧ Bs S H1 H') := fun H1 e R q =>
  h H1 e _ fun p xs H2 hp e2 h2 ha => by
    have hl := DpAll.length ha
    have W := walk_list (K := K) (a := p) (xs := xs)
    rw [hl] at W
    have np : ¬ S p := fun s => by
      cases hh : H p with
      | none => exact hS p s hh
      | some o => rw [e _ _ hh] at hp; cases hp
    refine ⟨p, rfl, ⟨xs, SqL.of h2⟩, q _ H2 _ _ e2 W (fun Hi k => SqL.of (k.2 _ _ np h2)) fun i Hi x Hi' hi k y => ?_⟩
    obtain ⟨rfl, hx⟩ := y
    obtain ⟨d, hd1, hd2⟩ := DpAll.getV (DpAll.tx k.1 ss xs hn ha) hx
    refine ⟨Ex.refl _, ?_⟩
    show Dp K _ x (ss.getD i .none)
    rw [List.getD_eq_getElem?_getD, hd1]
    exact hd2
theorem pair_item {ss ts : List PyData} {i : Nat} {d e : PyData} {x y : V} {T : Addr} {Hi : Hp} (h1 : ss[i]? = some d) (h2 : ts[i]? = some e) (hx : Dp K Hi x d) (hy : Dp K Hi y e) (hT : Hi T = none) :
    Dp K (upd Hi T (.tup [x, y])) (.ref T) (.tuple [ss.getD i .none, ts.getD i .none]) := by
  rw [List.getD_eq_getElem?_getD, List.getD_eq_getElem?_getD, h1, h2]
  exact .tup (SqT.of upd_same) (.cons (dx (Ex.new hT) hx) (.cons (dx (Ex.new hT) hy) .nil))
theorem src_z2T {ss ts : List PyData} (h : EvD K ta σ H (.tuple ss)) (h' : EvD K tb σ H (.tuple ts)) (hn : noLs ss = true) (hn' : noLs ts = true) :
    SrcD K (iZ2 K (tCons ta (tCons tb tNil))) σ H (min ss.length ts.length) (fun i => .tuple [ss.getD i .none, ts.getD i .none]) (Tx K) := fun H1 e R q =>
  h H1 e _ fun v H2 e2 hd => h' H2 (e.trans e2) _ fun u H3 e3 hd' => by
    obtain ⟨a, xs, rfl, hs, ha⟩ := (dx e3 hd).tupV
    obtain ⟨b, ys, rfl, ht, hb⟩ := hd'.tupV
    have W := walk_z2 (K := K) (k1 := .tup a) (k2 := .tup b) (xs := xs) (ys := ys)
    rw [DpAll.length ha, DpAll.length hb] at W
    refine ⟨.tup a, .tup b, xs, ys, rfl, hs, ht, q _ H3 _ _ (e2.trans e3) W (fun Hi k => ⟨k a xs hs, k b ys ht⟩) fun i Hi x Hi' hi k y => ?_⟩
    obtain ⟨T, y1, y2, rfl, hT, rfl, hx, hy⟩ := y
    obtain ⟨d, hd1, hd2⟩ := DpAll.getV (DpAll.tx k ss xs hn ha) hx
    obtain ⟨d', hd1', hd2'⟩ := DpAll.getV (DpAll.tx k ts ys hn' hb) hy
    exact ⟨Ex.new hT, pair_item hd1 hd1' hd2 hd2' hT⟩
theorem src_z2F {ss ts : List PyData} (h : EvDL K ta σ H ss) (h' : EvD K tb σ H (.tuple ts)) (hn : noLs ss = true) (hn' : noLs ts = true) (S : Addr → Prop) (hS : ∀ a, S a → H a ≠ none) :
    SrcD K (iZ2 K (tCons ta (tCons tb tNil))) σ H (min ss.length ts.length) (fun i => .tuple [ss.getD i .none, ts.getD i .none]) (fun H1 H' => Tx K H1 H' ∧ Bs S H1 H') := fun H1 e R q =>
  h H1 e _ fun p xs H2 hp e2 h2 ha0 => h' H2 (e.trans e2) _ fun u H3 e3 hd' => by
    have ha := dxs e3 ha0
    have h3 := e3 _ _ h2
    obtain ⟨b, ys, rfl, ht, hb⟩ := hd'.tupV
    have np : ¬ S p := fun s => by
      cases hh : H p with
      | none => exact hS p s hh
      | some o => rw [e _ _ hh] at hp; cases hp
    have W := walk_z2 (K := K) (k1 := .lst p) (k2 := .tup b) (xs := xs) (ys := ys)
    rw [DpAll.length ha, DpAll.length hb] at W
    refine ⟨.lst p, .tup b, xs, ys, rfl, SqL.of h3, ht, q _ H3 _ _ (e2.trans e3) W (fun Hi k => ⟨SqL.of (k.2 _ _ np h3), k.1 b ys ht⟩) fun i Hi x Hi' hi k y => ?_⟩
    obtain ⟨T, y1, y2, rfl, hT, rfl, hx, hy⟩ := y
    obtain ⟨d, hd1, hd2⟩ := DpAll.getV (DpAll.tx k.1 ss xs hn ha) hx
    obtain ⟨d', hd1', hd2'⟩ := DpAll.getV (DpAll.tx k.1 ts ys hn' hb) hy
    exact ⟨Ex.new hT, pair_item hd1 hd1' hd2 hd2' hT⟩
theorem src_z3T {ss ts us : List PyData} (h : EvD K ta σ H (.tuple ss)) (h' : EvD K tb σ H (.tuple ts)) (h'' : EvD K tc σ H (.tuple us)) (hn : noLs ss = true) (hn' : noLs ts = true) (hn'' : noLs us = true) :
    SrcD K (iZ3 K (tCons ta (tCons tb (tCons tc tNil)))) σ H (min (min ss.length ts.length) us.length) (fun i => .tuple [ss.getD i .none, ts.getD i .none, us.getD i .none]) (Tx K) := fun H1 e R q =>
  h H1 e _ fun v H2 e2 hd => h' H2 (e.trans e2) _ fun u H3 e3 hd' => h'' H3 ((e.trans e2).trans e3) _ fun z H4 e4 hd'' => by
    obtain ⟨a, xs, rfl, hs, ha⟩ := (dx (e3.trans e4) hd).tupV
    obtain ⟨b, ys, rfl, ht, hb⟩ := (dx e4 hd').tupV
    obtain ⟨c, zs, rfl, hu, hc⟩ := hd''.tupV
    have W := walk_z3 (K := K) (k1 := .tup a) (k2 := .tup b) (k3 := .tup c) (xs := xs) (ys := ys) (zs := zs)
    rw [DpAll.length ha, DpAll.length hb, DpAll.length hc] at W
    refine ⟨.tup a, .tup b, .tup c, xs, ys, zs, rfl, hs, ht, hu, q _ H4 _ _ ((e2.trans e3).trans e4) W (fun Hi k => ⟨k a xs hs, k b ys ht, k c zs hu⟩) fun i Hi x Hi' hi k y => ?_⟩
    obtain ⟨T, y1, y2, y3, rfl, hT, rfl, hx, hy, hz⟩ := y
    obtain ⟨d, hd1, hd2⟩ := DpAll.getV (DpAll.tx k ss xs hn ha) hx
    obtain ⟨d', hd1', hd2'⟩ := DpAll.getV (DpAll.tx k ts ys hn' hb) hy
    obtain ⟨d'', hd1'', hd2''⟩ := DpAll.getV (DpAll.tx k us zs hn'' hc) hz
    refine ⟨Ex.new hT, ?_⟩
    show Dp K _ _ (.tuple [ss.getD i .none, ts.getD i .none, us.getD i .none])
    rw [List.getD_eq_getElem?_getD, List.getD_eq_getElem?_getD, List.getD_eq_getElem?_getD, hd1, hd1', hd1'']
    exact .tup (SqT.of upd_same) (.cons (dx (Ex.new hT) hd2) (.cons (dx (Ex.new hT) hd2') (.cons (dx (Ex.new hT) hd2'') .nil)))

/-! lists of new lists -/
structure Lsts (K : PySem.W.Frag) (H0 H : Hp) (as : List Addr) (dss : List (List PyData)) : Prop where
  len : as.length = dss.length
  nd : as.Nodup
  old : ∀ a, a ∈ as → H0 a = none
  get : ∀ (i : Nat) (a : Addr) (ds : List PyData), as[i]? = some a → dss[i]? = some ds → ∃ ys, H a = some (.lst ys) ∧ DpAll K H ys ds
theorem Lsts.ex {H0 H' : Hp} {as : List Addr} {dss : List (List PyData)} (h : Lsts K H0 H as dss) (e : Ex H H') : Lsts K H0 H' as dss :=
  ⟨h.len, h.nd, h.old, fun i a ds h1 h2 => by
    obtain ⟨ys, h3, h4⟩ := h.get i a ds h1 h2
    exact ⟨ys, e _ _ h3, dxs e h4⟩⟩
theorem Lsts.mem {H0 : Hp} {as : List Addr} {dss : List (List PyData)} (h : Lsts K H0 H as dss) {a : Addr} (m : a ∈ as) : ∃ ys, H a = some (.lst ys) := by
  obtain ⟨i, hi, rfl⟩ := List.getElem_of_mem m
  obtain ⟨ys, h3, _⟩ := h.get i as[i] (dss[i]'(by rw [← h.len]; exact hi)) (List.getElem?_eq_getElem hi) (List.getElem?_eq_getElem _)
  exact ⟨ys, h3⟩
/-- something else is changed, or is made -/
theorem Lsts.keep {H0 H' : Hp} {as : List Addr} {dss : List (List PyData)} (h : Lsts K H0 H as dss) (hn : ∀ ds, ds ∈ dss → noLs ds = true) (t : Tx K H H') (b : ∀ a u, a ∈ as → H a = some u → H' a = some u) : Lsts K H0 H' as dss :=
  ⟨h.len, h.nd, h.old, fun i a ds h1 h2 => by
    obtain ⟨ys, h3, h4⟩ := h.get i a ds h1 h2
    exact ⟨ys, b _ _ (List.mem_of_getElem? h1) h3, DpAll.tx t _ _ (hn ds (List.mem_of_getElem? h2)) h4⟩⟩
theorem Lsts.snoc {H0 : Hp} {as : List Addr} {dss : List (List PyData)} {p : Addr} {ys : List V} {ds : List PyData} (h : Lsts K H0 H as dss) (hp : p ∉ as) (h0 : H0 p = none) (h1 : H p = some (.lst ys)) (h2 : DpAll K H ys ds) : Lsts K H0 H (as ++ [p]) (dss ++ [ds]) := by
  refine ⟨by rw [List.length_append, List.length_append, h.len]; rfl, ?_, fun a m => ?_, fun i a es g1 g2 => ?_⟩
  · rw [List.nodup_append]
    refine ⟨h.nd, by simp, fun a ha b hb => ?_⟩
    rw [List.mem_singleton] at hb
    rw [hb]
    exact fun e => hp (e ▸ ha)
  · rw [List.mem_append, List.mem_singleton] at m
    rcases m with m | m
    · exact h.old a m
    · rw [m]; exact h0
  · rcases Nat.lt_or_ge i as.length with q | q
    · rw [List.getElem?_append_left q] at g1
      rw [List.getElem?_append_left (by rw [← h.len]; exact q)] at g2
      exact h.get i a es g1 g2
    · rw [List.getElem?_append_right q] at g1
      rw [List.getElem?_append_right (by rw [← h.len]; exact q)] at g2
      rw [h.len] at g1
      generalize i - dss.length = j at g1 g2
      cases j with
      | zero =>
        cases g1
        cases g2
        exact ⟨ys, h1, h2⟩
      | succ j => cases g1
theorem Lsts.nil {H0 : Hp} : Lsts K H0 H [] [] := ⟨rfl, List.nodup_nil, (fun _ m => nomatch m), (fun i a ds h1 => nomatch h1)⟩
theorem Lsts.dp {H0 : Hp} {as : List Addr} {dss : List (List PyData)} (h : Lsts K H0 H as dss) : DpAll K H (as.map V.ref) (dss.map PyData.list) := by
  refine DpAll.mk (by rw [List.length_map, List.length_map, h.len]) fun i v d h1 h2 => ?_
  rw [List.getElem?_map] at h1 h2
  cases g1 : as[i]? with
  | none => rw [g1] at h1; cases h1
  | some a =>
    cases g2 : dss[i]? with
    | none => rw [g2] at h2; cases h2
    | some ds =>
      rw [g1] at h1
      rw [g2] at h2
      cases h1
      cases h2
      obtain ⟨ys, h3, h4⟩ := h.get i a ds g1 g2
      exact .lst (SqL.of h3) h4
theorem evl_lcL {wi : TI} {n j : Nat} {item : Nat → PyData} {Kp : Hp → Hp → Prop} {vs : List Nat} (S : SrcD K wi σ H n item Kp) (hK : ∀ H1 H', Ex H1 H' → Kp H1 H') (hn : n ≤ 50000) (f : Nat → List PyData)
    (hf : ∀ i, i < n → noLs (f i) = true) (hw : ∀ x, wipe ((wipe σ vs).set j (some x)) vs = wipe σ vs) (he : ∀ i x Hi, i < n → Ex H Hi → Dp K Hi x (item i) → EvDL K te ((wipe σ vs).set j (some x)) Hi (f i)) :
    ∀ H1, Ex H H1 → ∀ Q : VK, (∀ l as H2, H1 l = none → Ex H1 H2 → H2 l = some (.lst (as.map V.ref)) → l ∉ as → Lsts K H1 H2 as ((List.range n).map f) → Q (.ref l) H2) → tLc wi (gName j) tYes te vs σ H1 Q := fun H1 e Q q =>
  S H1 e _ fun J H2 G Y e2 W hG hY => fun Dl hD => by
    refine lc_it W (fun i H' => H2 Dl = none ∧ Ex H2 H' ∧ ∃ as, H' Dl = some (.lst (as.map V.ref)) ∧ Dl ∉ as ∧ Lsts K H2 H' as ((List.range i).map f)) ⟨hD, Ex.new hD, [], upd_same, (by simp), Lsts.nil⟩ (fun i H' hi pp => hG H' (hK _ _ pp.2.1)) (fun i x Hi Hi' hi pp y => ?_) (fun H' pp => ?_)
    · obtain ⟨p1, p2, as, p3, p4, p5⟩ := pp
      obtain ⟨e3, hd⟩ := hY i Hi x Hi' hi (hK _ _ p2) y
      refine ⟨hw x, ?_⟩
      show te ((wipe σ vs).set j (some x)) Hi' fun y H4 => _
      refine he i x Hi' hi ((e.trans e2).trans (p2.trans e3)) hd Hi' (Ex.refl _) _ fun p ys H4 hp e5 hp4 hd4 => ?_
      have e6 := e3.trans e5
      have q1 := p5.ex e6
      have npD : p ≠ Dl := fun z => by
        rw [z, e3 _ _ p3] at hp
        cases hp
      have npa : p ∉ as := fun z => by
        obtain ⟨zs, hz⟩ := p5.mem z
        rw [e3 _ _ hz] at hp
        cases hp
      have np0 : H2 p = none := fresh_back (p2.trans e3) hp
      refine ⟨as.map V.ref, e6 _ _ p3, sz_lt (by have := p5.len; simp at this ⊢; omega), p1, Ex.mut (p2.trans e6) p1, as ++ [p], by rw [List.map_append]; exact upd_same, fun z => ?_, ?_⟩
      · rw [List.mem_append, List.mem_singleton] at z
        rcases z with z | z
        · exact p4 z
        · exact npD z.symm
      · rw [List.range_succ, List.map_append]
        have q2 := q1.snoc npa np0 hp4 hd4
        have hT : Tx K H4 (upd H4 Dl (.lst (as.map V.ref ++ [.ref p]))) := Tx.updL (e6 _ _ p3)
        refine q2.keep (fun ds m => ?_) hT fun a u m h => ?_
        · rw [List.mem_append, List.mem_singleton] at m
          rcases m with m | m
          · obtain ⟨k, hk, rfl⟩ := List.mem_map.mp m
            exact hf k (by have := List.mem_range.mp hk; omega)
          · rw [m]; exact hf i hi
        · rw [upd_ne (fun z => ?_)]
          · exact h
          · rw [List.mem_append, List.mem_singleton] at m
            rcases m with m | m
            · exact p4 (z ▸ m)
            · exact npD (m.symm.trans z)
    · obtain ⟨p1, p2, as, p3, p4, p5⟩ := pp
      exact q Dl as H' (fresh_back e2 p1) (e2.trans p2) p3 p4 ⟨p5.len, p5.nd, fun a m => fresh_back e2 (p5.old a m), p5.get⟩

/-! defs of books -/
def spBD (K : PySem.W.Frag) (mg : Str → Option Value) (R : Nat → List PyData → PyData → Prop) : Sp := fun vs H Q _ => ∃ (b : Addr) (n : Nat) (us : List V) (ds : List PyData) (d : PyData), vs = .ref b :: us ∧ BookAt K mg H b n ∧ DpAll K H us ds ∧ 1 ≤ n ∧ n ≤ 3 ∧ R n ds d ∧ ∀ v H', Ex H H' → Dp K H' v d → Q v H'
def spBL (K : PySem.W.Frag) (mg : Str → Option Value) (R : Nat → List PyData → List PyData → Prop) : Sp := fun vs H Q _ => ∃ (b : Addr) (n : Nat) (us : List V) (ds es : List PyData), vs = .ref b :: us ∧ BookAt K mg H b n ∧ DpAll K H us ds ∧ 1 ≤ n ∧ n ≤ 3 ∧ R n ds es ∧ ∀ p xs H', H p = none → Ex H H' → H' p = some (.lst xs) → DpAll K H' xs es → Q (.ref p) H'
theorem evd_bk {R : Nat → List PyData → PyData → Prop} {E : XK} {b : Addr} {n : Nat} {tr : TA} {ds : List PyData} {d : PyData} (B : BookAt K mg H b n) (n1 : 1 ≤ n) (n3 : n ≤ 3) (h : Ev ta σ H (.ref b)) (ht : EvDs K tr σ H ds) (hr : R n ds d) : EvD K (tCall (spBD K mg R) [] E (tCons ta tr)) σ H d := fun H1 e Q q =>
  h H1 e _ fun H2 e2 => ht H2 (e.trans e2) _ fun us H3 e3 hu => ⟨b, n, us, ds, d, by rw [List.append_nil], B.ex' ((e.trans e2).trans e3), hu, n1, n3, hr, fun v H4 e4 hv => q v H4 ((e2.trans e3).trans e4) hv⟩
theorem evdl_bk {R : Nat → List PyData → List PyData → Prop} {E : XK} {b : Addr} {n : Nat} {tr : TA} {ds es : List PyData} (B : BookAt K mg H b n) (n1 : 1 ≤ n) (n3 : n ≤ 3) (h : Ev ta σ H (.ref b)) (ht : EvDs K tr σ H ds) (hr : R n ds es) : EvDL K (tCall (spBL K mg R) [] E (tCons ta tr)) σ H es := fun H1 e Q q =>
  h H1 e _ fun H2 e2 => ht H2 (e.trans e2) _ fun us H3 e3 hu => ⟨b, n, us, ds, es, by rw [List.append_nil], B.ex' ((e.trans e2).trans e3), hu, n1, n3, hr, fun p xs H4 hp e4 h4 hv => q p xs H4 (fresh_back (e2.trans e3) hp) ((e2.trans e3).trans e4) h4 hv⟩
end
end K41
set_option Elab.async false
set_option linter.all false
set_option maxRecDepth 100000
set_option maxHeartbeats 5000000
/-! mirrors of the closed part -/
namespace K41
open PySem PySem.Spec PyProof.Rows L2 Evl

def nextOpen (k : List (Option Nat)) : Option Nat := (List.range k.length).find? fun i => (k.getD i none).isNone
def withTie (n : Nat) (k : List (Option Nat)) (r m : Nat) : List (Option Nat) := (k.set r (some m)).set (turn n r m) (some m)
def RnextOpen (ds : List PyData) (d : PyData) : Prop := ∃ k : List (Option Nat), ds = [.list (k.map oD)] ∧ k.length ≤ 256 ∧ d = oD (nextOpen k)
def RwithTie (ds es : List PyData) : Prop := ∃ (n r m : Nat) (k : List (Option Nat)), ds = [.int n, .list (k.map oD), .int r, .int m] ∧ k.length = 2 ^ n ∧ r < 2 ^ n ∧ m < n ∧ n ≤ 8 ∧ es = (withTie n k r m).map oD
def RcheckListed (n : Nat) (ds : List PyData) (d : PyData) : Prop := ds = [] ∧ d = .none
def Rlets (ds : List PyData) (d : PyData) : Prop := ∃ f, ds = [.str ".", .bool f] ∧ d = .bool true
abbrev Tie := Nat × Nat × Nat
def tieD (t : Tie) : PyData := .tuple [.int (t.1 : Int), .int (t.2.1 : Int), .int (t.2.2 : Int)]
def tiesIn (n r i : Nat) : List Tie := ((List.range i).filter fun m => !yes n r m).map fun m => (r, m, turn n r m)
def tiesUp (n r : Nat) : List Tie := (List.range r).flatMap fun r => tiesIn n r n
def tiesN (n : Nat) : List Tie := tiesUp n (2 ^ n)
theorem tiesUp_succ (n r : Nat) : tiesUp n (r + 1) = tiesUp n r ++ tiesIn n r n := by
  unfold tiesUp
  rw [List.range_succ, List.flatMap_append, List.flatMap_singleton]
theorem tiesIn_yes {n r i : Nat} (h : yes n r i = true) : tiesIn n r (i + 1) = tiesIn n r i := by
  unfold tiesIn
  rw [List.range_succ, List.filter_append, List.filter_cons, if_neg (by rw [h]; decide)]
  simp
theorem tiesIn_no {n r i : Nat} (h : yes n r i = false) : tiesIn n r (i + 1) = tiesIn n r i ++ [(r, i, turn n r i)] := by
  unfold tiesIn
  rw [List.range_succ, List.filter_append, List.filter_cons, if_pos (by rw [h]; rfl)]
  simp
theorem tiesIn_len (n r i : Nat) : (tiesIn n r i).length ≤ i := by
  unfold tiesIn
  rw [List.length_map]
  have h := List.length_filter_le (fun m => !yes n r m) (List.range i)
  rw [List.length_range] at h
  exact h
theorem tiesUp_len (n : Nat) : ∀ r, (tiesUp n r).length ≤ r * n
  | 0 => by rw [Nat.zero_mul]; exact Nat.le_refl 0
  | r + 1 => by
    rw [tiesUp_succ, List.length_append, Nat.succ_mul]
    have h1 := tiesUp_len n r
    have h2 := tiesIn_len n r n
    omega
theorem tieD_noLs (ts : List Tie) : noLs (ts.map tieD) = true := noLs_all fun d hd => by
  obtain ⟨t, _, rfl⟩ := List.mem_map.mp hd
  rfl
/-- what a tie of n members may be -/
def okTie (n : Nat) (t : Tie) : Bool := decide (t.1 < 2 ^ n) && decide (t.2.1 < n) && decide (t.2.2 < 2 ^ n)
def RownTies (n : Nat) (ds es : List PyData) : Prop := ds = [] ∧ es = (tiesN n).map tieD
def encI (c : List Int) : List PyData := c.map PyData.int
theorem encI_noL (c : List Int) : noLs (encI c) = true := noLs_all fun d hd => by
  obtain ⟨t, _, rfl⟩ := List.mem_map.mp hd
  rfl
theorem encI_len (c : List Int) : (encI c).length = c.length := List.length_map ..
theorem encI_get {c : List Int} {i : Nat} (h : i < c.length) : (encI c)[i]? = some (.int (c.getD i 0)) := by
  unfold encI
  rw [List.getElem?_map, List.getD_eq_getElem?_getD, List.getElem?_eq_getElem h]
  rfl
theorem encI_getD {c : List Int} {i : Nat} (h : i < c.length) : (encI c).getD i .none = .int (c.getD i 0) := by
  rw [List.getD_eq_getElem?_getD, encI_get h]
  rfl
theorem intsV_get {c : List Int} {i : Nat} (h : i < c.length) : (c.map V.int)[i]? = some (.int (c.getD i 0)) := by
  rw [List.getElem?_map, List.getD_eq_getElem?_getD, List.getElem?_eq_getElem h]
  rfl
def stillAt (p l : List Int) (i : Nat) : Bool := !(decide (1 < p.getD i 0) || decide (p.getD i 0 + l.getD i 0 < 1))
def still (n : Nat) (p l : List Int) : Bool := (List.range (2 ^ n)).all (stillAt p l)
def RcanStill (n : Nat) (ds : List PyData) (d : PyData) : Prop := ∃ p l : List Int, ds = [.tuple (encI p), .tuple (encI l)] ∧ p.length = 2 ^ n ∧ l.length = 2 ^ n ∧ d = .bool (still n p l)
def bI (b : Bool) : Int := if b then 1 else 0
def addAt (p : List Int) (r : Nat) (x : Int) : List Int := p.set r (p.getD r 0 + x)
def fillP (p : List Int) (t : Tie) (a b : Bool) : List Int := addAt (addAt p t.1 (bI a)) t.2.2 (bI b)
theorem addAt_len (p : List Int) (r : Nat) (x : Int) : (addAt p r x).length = p.length := List.length_set ..
theorem fillP_len (p : List Int) (t : Tie) (a b : Bool) : (fillP p t a b).length = p.length := by unfold fillP; rw [addAt_len, addAt_len]
def filD (a b : Bool) : PyData := .tuple [.bool a, .bool b]
def Rfilled (ds : List PyData) (d : PyData) : Prop := ∃ (p : List Int) (t : Tie) (a b : Bool), ds = [.tuple (encI p), tieD t, filD a b] ∧ t.1 < p.length ∧ t.2.2 < p.length ∧ p.length ≤ 256 ∧ d = .tuple (encI (fillP p t a b))
def subAt (p : List Int) (r : Nat) : List Int := p.set r (p.getD r 0 - 1)
theorem subAt_len (p : List Int) (r : Nat) : (subAt p r).length = p.length := List.length_set ..
def leftAt (n : Nat) (ts : List Tie) : Nat → List Int
  | 0 => List.replicate (2 ^ n) (n : Int)
  | i + 1 => subAt (subAt (leftAt n ts i) (ts.getD i (0, 0, 0)).1) (ts.getD i (0, 0, 0)).2.2
theorem leftAt_len (n : Nat) (ts : List Tie) : ∀ i, (leftAt n ts i).length = 2 ^ n
  | 0 => List.length_replicate
  | i + 1 => by
    show (subAt (subAt (leftAt n ts i) _) _).length = _
    rw [subAt_len, subAt_len, leftAt_len n ts i]
def RtiesLeft (n : Nat) (ds es : List PyData) : Prop := ∃ ts : List Tie, ds = [.list (ts.map tieD)] ∧ ts.length ≤ 1000 ∧ (∀ t, t ∈ ts → okTie n t = true) ∧ es = (List.range (ts.length + 1)).map fun i => .tuple (encI (leftAt n ts i))
def Rfillings (n : Nat) (ds es : List PyData) : Prop := ∃ t : Tie, ds = [tieD t] ∧ okTie n t = true ∧ es = [filD false false, filD true true]
theorem tieD_getD {ts : List Tie} {i : Nat} (h : i < ts.length) : (ts.map tieD).getD i .none = tieD (ts.getD i (0, 0, 0)) := by
  rw [List.getD_eq_getElem?_getD, List.getD_eq_getElem?_getD, List.getElem?_map, List.getElem?_eq_getElem h]
  rfl
theorem okTie_iff {n : Nat} {t : Tie} (h : okTie n t = true) : t.1 < 2 ^ n ∧ t.2.1 < n ∧ t.2.2 < 2 ^ n := by
  unfold okTie at h
  rw [Bool.and_eq_true, Bool.and_eq_true] at h
  exact ⟨of_decide_eq_true h.1.1, of_decide_eq_true h.1.2, of_decide_eq_true h.2⟩
theorem getD_mem {α : Type} {ts : List α} {i : Nat} {z : α} (h : i < ts.length) : ts.getD i z ∈ ts := by
  rw [List.getD_eq_getElem?_getD, List.getElem?_eq_getElem h]
  exact List.getElem_mem h
end K41
set_option Elab.async false
set_option linter.all false
set_option maxRecDepth 100000
set_option maxHeartbeats 5000000
/-! couplings of three members at most, in order; sorting by ranks -/
namespace K41
open PySem PySem.Spec PyProof.Rows L2 Evl

theorem sort_ranks {f : Nat → PyData} {l : List Nat} {N : Nat} (h : ((List.range N).all fun a => (List.range N).all fun b => PySem.W.dataLe false id (f a) (f b) == decide (a ≤ b)) = true) (hp : l.Perm (List.range N)) :
    (l.map f).mergeSort (PySem.W.dataLe false id) = (List.range N).map f := by
  have h1 : ∀ a, a ∈ l → ∀ b, b ∈ l → decide (a ≤ b) = PySem.W.dataLe false id (f a) (f b) := fun a ha b hb => by
    rw [List.all_eq_true] at h
    have q := h a (hp.mem_iff.mp ha)
    rw [List.all_eq_true] at q
    exact (beq_iff_eq.mp (q b (hp.mem_iff.mp hb))).symm
  rw [← List.map_mergeSort (r := fun a b => decide (a ≤ b)) h1]
  congr 1
  refine List.Perm.eq_of_pairwise (le := fun a b => a ≤ b) (fun a b _ _ x y => Nat.le_antisymm x y) ?_ ?_ ((List.mergeSort_perm _ _).trans hp)
  · have q := List.pairwise_mergeSort (le := fun a b : Nat => decide (a ≤ b)) (fun a b c x y => decide_eq_true (Nat.le_trans (of_decide_eq_true x) (of_decide_eq_true y))) (fun a b => by
      by_cases z : a ≤ b
      · rw [decide_eq_true z]; rfl
      · rw [decide_eq_true (show b ≤ a by omega), Bool.or_true]) l
    exact q.imp fun {a b} z => of_decide_eq_true z
  · exact List.pairwise_le_range
def cS : Nat → List (List Nat)
  | 1 => [[0, 0]]
  | 2 => [[0, 0, 0, 0], [1, 1, 1, 1]]
  | 3 => [[0, 0, 0, 0, 0, 0, 0, 0], [0, 0, 2, 2, 0, 0, 2, 2], [0, 1, 0, 1, 0, 1, 0, 1], [1, 0, 1, 0, 1, 0, 1, 0], [1, 1, 1, 1, 1, 1, 1, 1], [1, 1, 1, 1, 2, 2, 2, 2], [2, 2, 0, 0, 2, 2, 0, 0], [2, 2, 2, 2, 1, 1, 1, 1], [2, 2, 2, 2, 2, 2, 2, 2]]
  | _ => []
def rS : Nat → List Nat
  | 1 => [0]
  | 2 => [1, 0]
  | 3 => [8, 7, 6, 5, 4, 3, 2, 1, 0]
  | _ => []
def fC (n i : Nat) : PyData := .tuple (encN ((cS n).getD i []))
def stepC (n : Nat) (st : List (List (Option Nat)) × List (List (Option Nat))) : List (List (Option Nat)) × List (List (Option Nat)) :=
  match st.2.getLast? with
  | none => st
  | some k => match nextOpen k with
    | none => (st.1 ++ [k], st.2.dropLast)
    | some r => (st.1, st.2.dropLast ++ (((List.range n).filter fun m => (k.getD (turn n r m) none).isNone).map fun m => withTie n k r m))
def iterC (n : Nat) : Nat → List (List (Option Nat)) × List (List (Option Nat))
  | 0 => ([], [List.replicate (2 ^ n) none])
  | i + 1 => stepC n (iterC n i)
def factC1 (n : Nat) : Bool := (List.range 29).all fun i => (iterC n i).2.all (fun k => decide (k.length = 2 ^ n)) && decide ((iterC n i).2.length ≤ 20) && decide ((iterC n i).1.length ≤ 20) &&
  (if (iterC n i).2 = [] then decide ((iterC n i).1 = (rS n).map fun i => ((cS n).getD i []).map some) else decide (i < 28))
def factC2 (n : Nat) : Bool := ((List.range (cS n).length).all fun a => (List.range (cS n).length).all fun b => PySem.W.dataLe false id (fC n a) (fC n b) == decide (a ≤ b)) && decide ((rS n).Perm (List.range (cS n).length)) &&
  ((List.range (cS n).length).all fun a => (List.range (cS n).length).all fun b => PySem.W.alike (fC n a) (fC n b)) && ((List.range (cS n).length).all fun a => decide ((fC n a).depth ≤ 8) && decide (((cS n).getD a []).length = 2 ^ n))
theorem factC1_ok {n : Nat} (n1 : 1 ≤ n) (n3 : n ≤ 3) : factC1 n = true := by
  have : n = 1 ∨ n = 2 ∨ n = 3 := by omega
  rcases this with e | e | e <;> (subst e; decide +kernel)
theorem factC2_ok {n : Nat} (n1 : 1 ≤ n) (n3 : n ≤ 3) : factC2 n = true := by
  have : n = 1 ∨ n = 2 ∨ n = 3 := by omega
  rcases this with e | e | e <;> (subst e; decide +kernel)
theorem iterC_facts {n i : Nat} (n1 : 1 ≤ n) (n3 : n ≤ 3) (hi : i ≤ 28) : (∀ k, k ∈ (iterC n i).2 → k.length = 2 ^ n) ∧ (iterC n i).2.length ≤ 20 ∧ (iterC n i).1.length ≤ 20 ∧ ((iterC n i).2 = [] → (iterC n i).1 = (rS n).map fun i => ((cS n).getD i []).map some) ∧ ((iterC n i).2 ≠ [] → i < 28) := by
  have h := factC1_ok n1 n3
  unfold factC1 at h
  rw [List.all_eq_true] at h
  have q := h i (List.mem_range.mpr (by omega))
  rw [Bool.and_eq_true, Bool.and_eq_true, Bool.and_eq_true, List.all_eq_true] at q
  obtain ⟨⟨⟨q1, q2⟩, q3⟩, q4⟩ := q
  refine ⟨fun k hk => of_decide_eq_true (q1 k hk), of_decide_eq_true q2, of_decide_eq_true q3, fun e => ?_, fun e => ?_⟩
  · rw [if_pos e] at q4
    exact of_decide_eq_true q4
  · rw [if_neg e] at q4
    exact of_decide_eq_true q4
theorem sortC {n : Nat} (n1 : 1 ≤ n) (n3 : n ≤ 3) : ((rS n).map (fC n)).mergeSort (PySem.W.dataLe false id) = (List.range (cS n).length).map (fC n) ∧ PySem.W.AllAlike ((rS n).map (fC n)) ∧ PySem.W.Sortable ((rS n).map (fC n)) ∧ ∀ d, d ∈ (rS n).map (fC n) → d.depth ≤ 8 := by
  have h := factC2_ok n1 n3
  unfold factC2 at h
  rw [Bool.and_eq_true, Bool.and_eq_true, Bool.and_eq_true] at h
  obtain ⟨⟨⟨q1, q2⟩, q3⟩, q4⟩ := h
  have hp := of_decide_eq_true q2
  rw [List.all_eq_true] at q3 q4
  refine ⟨sort_ranks q1 hp, fun d hd d' hd' => ?_, .inl fun d hd => ?_, fun d hd => ?_⟩
  · obtain ⟨a, ha, rfl⟩ := List.mem_map.mp hd
    obtain ⟨b, hb, rfl⟩ := List.mem_map.mp hd'
    have q := q3 a (hp.mem_iff.mp ha)
    rw [List.all_eq_true] at q
    exact q b (hp.mem_iff.mp hb)
  · obtain ⟨a, ha, rfl⟩ := List.mem_map.mp hd
    have q := q4 a (hp.mem_iff.mp ha)
    rw [Bool.and_eq_true] at q
    have l := of_decide_eq_true q.2
    unfold fC
    cases hc : (cS n).getD a [] with
    | nil =>
      rw [hc] at l
      have := two_pow_pos n
      simp at l
      omega
    | cons x r => exact ⟨_, _, rfl⟩
  · obtain ⟨a, ha, rfl⟩ := List.mem_map.mp hd
    have q := q4 a (hp.mem_iff.mp ha)
    rw [Bool.and_eq_true] at q
    exact of_decide_eq_true q.1
theorem map_some (c : List Nat) : (c.map some).map oD = encN c := by
  unfold encN
  rw [List.map_map]
  rfl
theorem range_getD {α : Type} (l : List α) (z : α) : (List.range l.length).map (fun i => l.getD i z) = l := by
  apply List.ext_getElem
  · simp
  · intro i _ small
    simp [small]
/-- the couplings as data, in order -/
def coupD (n : Nat) : List PyData := (cS n).map fun c => .tuple (encN c)
theorem coupD_eq (n : Nat) : (List.range (cS n).length).map (fC n) = coupD n := by
  unfold coupD
  have h := congrArg (List.map fun c => PyData.tuple (encN c)) (range_getD (cS n) [])
  rw [List.map_map] at h
  exact h
def Rcouplings (ds es : List PyData) : Prop := ∃ n : Nat, ds = [.int n] ∧ 1 ≤ n ∧ n ≤ 3 ∧ es = coupD n
end K41
set_option Elab.async false
set_option linter.all false
set_option maxRecDepth 100000
set_option maxHeartbeats 5000000
/-! fillings of all ties: mirrors -/
namespace K41
open PySem PySem.Spec PyProof.Rows L2 Evl
abbrev Ent := List Bool × List Int
def tieAt (n i : Nat) : Tie := (tiesN n).getD i (0, 0, 0)
def goodF (n i : Nat) (p : List Int) (b : Bool) : Bool := still n (fillP p (tieAt n i) b b) (leftAt n (tiesN n) (i + 1))
def stepB (n i : Nat) (e : Ent) (bs : List Bool) : List Ent := (bs.filter (goodF n i e.2)).map fun b => (e.1 ++ [b], fillP e.2 (tieAt n i) b b)
def stepE (n i : Nat) (e : Ent) : List Ent := stepB n i e [false, true]
def allF (n : Nat) : Nat → List Ent
  | 0 => [([], List.replicate (2 ^ n) 0)]
  | i + 1 => (allF n i).flatMap (stepE n i)
def midF (n i j : Nat) : List Ent := ((allF n i).take j).flatMap (stepE n i)
def inF (n i j b : Nat) : List Ent := midF n i j ++ stepB n i ((allF n i).getD j ([], [])) ([false, true].take b)
def rowD (r : List Bool) : PyData := .tuple (r.map fun b => filD b b)
def entD (e : Ent) : PyData := .tuple [rowD e.1, .tuple (encI e.2)]
theorem rowD_noL (r : List Bool) : noL (rowD r) = true := noLs_all fun d hd => by
  obtain ⟨k, _, rfl⟩ := List.mem_map.mp hd
  rfl
theorem entD_noL (e : Ent) : noL (entD e) = true := by
  show (noL (rowD e.1) && (noLs (encI e.2) && true)) = true
  rw [rowD_noL, encI_noL]
  rfl
theorem entD_noLs (es : List Ent) : noLs (es.map entD) = true := noLs_all fun d hd => by
  obtain ⟨k, _, rfl⟩ := List.mem_map.mp hd
  exact entD_noL k
theorem stepB_len (n i : Nat) (e : Ent) (bs : List Bool) : (stepB n i e bs).length ≤ bs.length := by
  unfold stepB
  rw [List.length_map]
  exact List.length_filter_le _ _
theorem midF_len (n i : Nat) : ∀ j, (midF n i j).length ≤ 2 * j
  | 0 => by unfold midF; simp
  | j + 1 => by
    have h := midF_len n i j
    unfold midF at h ⊢
    rw [List.take_succ, List.flatMap_append, List.length_append]
    have : (List.flatMap (stepE n i) (allF n i)[j]?.toList).length ≤ 2 := by
      cases (allF n i)[j]? with
      | none => exact Nat.zero_le _
      | some e =>
        rw [Option.toList_some, List.flatMap_singleton]
        exact stepB_len n i e _
    omega
theorem midF_succ {n i j : Nat} (h : j < (allF n i).length) : midF n i (j + 1) = inF n i j 2 := by
  unfold inF midF
  rw [List.take_succ, List.flatMap_append, List.getElem?_eq_getElem h, Option.toList_some, List.flatMap_singleton, List.getD_eq_getElem?_getD, List.getElem?_eq_getElem h]
  rfl
theorem midF_all (n i : Nat) : midF n i (allF n i).length = allF n (i + 1) := by
  unfold midF
  rw [List.take_length]
  rfl
theorem inF_zero (n i j : Nat) : inF n i j 0 = midF n i j := by
  unfold inF stepB
  simp
theorem stepB_app (n i : Nat) (e : Ent) (bs cs : List Bool) : stepB n i e (bs ++ cs) = stepB n i e bs ++ stepB n i e cs := by
  unfold stepB
  rw [List.filter_append, List.map_append]
theorem take_b {b : Nat} (hb : b < 2) : [false, true].take (b + 1) = [false, true].take b ++ [decide (b = 1)] := by
  have : b = 0 ∨ b = 1 := by omega
  rcases this with e | e <;> (subst e; rfl)
theorem inF_yes {n i j b : Nat} (hb : b < 2) (h : goodF n i ((allF n i).getD j ([], [])).2 (decide (b = 1)) = true) : inF n i j (b + 1) = inF n i j b ++ [(((allF n i).getD j ([], [])).1 ++ [decide (b = 1)], fillP ((allF n i).getD j ([], [])).2 (tieAt n i) (decide (b = 1)) (decide (b = 1)))] := by
  unfold inF
  rw [take_b hb, stepB_app, List.append_assoc]
  congr 2
  unfold stepB
  rw [List.filter_cons, if_pos h]
  rfl
theorem inF_no {n i j b : Nat} (hb : b < 2) (h : goodF n i ((allF n i).getD j ([], [])).2 (decide (b = 1)) = false) : inF n i j (b + 1) = inF n i j b := by
  unfold inF
  rw [take_b hb, stepB_app]
  congr 1
  unfold stepB
  rw [List.filter_cons, if_neg (by rw [h]; decide), List.filter_nil, List.map_nil, List.append_nil]
theorem inF_len {n i j b : Nat} (hb : b ≤ 2) : (inF n i j b).length ≤ 2 * j + 2 := by
  unfold inF
  rw [List.length_append]
  have h := midF_len n i j
  have h2 := stepB_len n i ((allF n i).getD j ([], [])) ([false, true].take b)
  rw [List.length_take] at h2
  have : [false, true].length = 2 := rfl
  omega
def factF (n : Nat) : Bool := (tiesN n).all (okTie n) && decide ((tiesN n).length ≤ 12) && (List.range 13).all fun i => decide ((allF n i).length ≤ 20) && (allF n i).all fun e => decide (e.1.length = i) && decide (e.2.length = 2 ^ n)
theorem factF_ok {n : Nat} (n1 : 1 ≤ n) (n3 : n ≤ 3) : factF n = true := by
  have : n = 1 ∨ n = 2 ∨ n = 3 := by omega
  rcases this with e | e | e <;> (subst e; decide +kernel)
theorem ties_facts {n : Nat} (n1 : 1 ≤ n) (n3 : n ≤ 3) : (∀ t, t ∈ tiesN n → okTie n t = true) ∧ (tiesN n).length ≤ 12 := by
  have h := factF_ok n1 n3
  unfold factF at h
  rw [Bool.and_eq_true, Bool.and_eq_true, List.all_eq_true] at h
  exact ⟨h.1.1, of_decide_eq_true h.1.2⟩
theorem allF_facts {n i : Nat} (n1 : 1 ≤ n) (n3 : n ≤ 3) (hi : i ≤ 12) : (allF n i).length ≤ 20 ∧ ∀ e, e ∈ allF n i → e.1.length = i ∧ e.2.length = 2 ^ n := by
  have h := factF_ok n1 n3
  unfold factF at h
  rw [Bool.and_eq_true, List.all_eq_true] at h
  have q := h.2 i (List.mem_range.mpr (by omega))
  rw [Bool.and_eq_true, List.all_eq_true] at q
  refine ⟨of_decide_eq_true q.1, fun e he => ?_⟩
  have z := q.2 e he
  rw [Bool.and_eq_true] at z
  exact ⟨of_decide_eq_true z.1, of_decide_eq_true z.2⟩
def RallFillings (n : Nat) (ds es : List PyData) : Prop := ds = [] ∧ es = (allF n (tiesN n).length).map fun e => rowD e.1
def leftD (n : Nat) : List PyData := (List.range ((tiesN n).length + 1)).map fun i => .tuple (encI (leftAt n (tiesN n) i))
theorem leftD_get {n i : Nat} (h : i ≤ (tiesN n).length) : (leftD n)[i]? = some (.tuple (encI (leftAt n (tiesN n) i))) := by
  unfold leftD
  rw [List.getElem?_map, List.getElem?_range (by omega)]
  rfl
theorem zeroD (n : Nat) : encI (List.replicate (2 ^ n) 0) = List.replicate (2 ^ n) (.int 0) := by
  unfold encI
  rw [List.map_replicate]
end K41
set_option Elab.async false
set_option linter.all false
set_option maxRecDepth 100000
set_option maxHeartbeats 5000000
/-! a rule filled: mirrors -/
namespace K41
open PySem PySem.Spec PyProof.Rows L2 Evl
def pickS (pk : List (List Nat)) (r m : Nat) : List (List Nat) := pk.set r (pk.getD r [] ++ [m])
def pkIn (pk : List (List Nat)) (t : Tie) (b : Bool) : Nat → List (List Nat)
  | 0 => pk
  | k + 1 => if b then pickS (pkIn pk t b k) (if k = 0 then t.1 else t.2.2) t.2.1 else pkIn pk t b k
def pkAt (n : Nat) (row : List Bool) : Nat → List (List Nat)
  | 0 => List.replicate (2 ^ n) []
  | i + 1 => pkIn (pkAt n row i) (tieAt n i) (row.getD i false) 2
theorem pickS_len (pk : List (List Nat)) (r m : Nat) : (pickS pk r m).length = pk.length := List.length_set ..
theorem pkIn_len (pk : List (List Nat)) (t : Tie) (b : Bool) : ∀ k, (pkIn pk t b k).length = pk.length
  | 0 => rfl
  | k + 1 => by
    show (if b then _ else _ : List (List Nat)).length = _
    split
    · rw [pickS_len, pkIn_len pk t b k]
    · exact pkIn_len pk t b k
theorem pkAt_len (n : Nat) (row : List Bool) : ∀ i, (pkAt n row i).length = 2 ^ n
  | 0 => List.length_replicate
  | i + 1 => by
    show (pkIn (pkAt n row i) _ _ 2).length = _
    rw [pkIn_len, pkAt_len n row i]
/-- no lot is longer than the steps so far -/
theorem pickS_lots {pk : List (List Nat)} {r m c : Nat} (h : ∀ l, l ∈ pk → l.length ≤ c) : ∀ l, l ∈ pickS pk r m → l.length ≤ c + 1 := fun l hl => by
  unfold pickS at hl
  rcases List.mem_or_eq_of_mem_set hl with q | q
  · have := h l q
    omega
  · rw [q, List.length_append]
    have : (pk.getD r []).length ≤ c := by
      show ((pk[r]?).getD []).length ≤ c
      cases hg : pk[r]? with
      | none => exact Nat.zero_le _
      | some x => exact h x (List.mem_of_getElem? hg)
    rw [List.length_singleton]
    omega
theorem pkIn_lots {pk : List (List Nat)} {t : Tie} {b : Bool} {c : Nat} (h : ∀ l, l ∈ pk → l.length ≤ c) : ∀ k, ∀ l, l ∈ pkIn pk t b k → l.length ≤ c + k
  | 0, l, hl => h l hl
  | k + 1, l, hl => by
    have ih := pkIn_lots (t := t) (b := b) h k
    change l ∈ (if b then pickS (pkIn pk t b k) (if k = 0 then t.1 else t.2.2) t.2.1 else pkIn pk t b k) at hl
    split at hl
    · have := pickS_lots ih l hl
      omega
    · have := ih l hl
      omega
theorem pkAt_lots (n : Nat) (row : List Bool) : ∀ i, ∀ l, l ∈ pkAt n row i → l.length ≤ 2 * i
  | 0, l, hl => by
    rw [List.eq_of_mem_replicate hl]
    exact Nat.zero_le _
  | i + 1, l, hl => by
    have := pkIn_lots (pkAt_lots n row i) 2 l hl
    omega
def RruleFilled (n : Nat) (ds : List PyData) (d : PyData) : Prop := ∃ (row : List Bool) (c : List Nat), ds = [rowD row] ∧ row.length = (tiesN n).length ∧ pkAt n row (tiesN n).length = c.map (fun x => [x]) ∧ d = .tuple (ruleD c)
def rowsOf (n : Nat) : List (List Bool) := (allF n (tiesN n).length).map (·.1)
def fR (n i : Nat) : PyData := .tuple (ruleD ((cS n).getD i []))
def factU (n : Nat) : Bool := decide ((rowsOf n).length = (rS n).length) && (List.range (rS n).length).all (fun i => decide (((rowsOf n).getD i []).length = (tiesN n).length) && decide (pkAt n ((rowsOf n).getD i []) (tiesN n).length = ((cS n).getD ((rS n).getD i 0) []).map fun x => [x])) &&
  ((List.range (cS n).length).all fun a => (List.range (cS n).length).all fun b => PySem.W.dataLe false id (fR n a) (fR n b) == decide (a ≤ b)) && ((List.range (cS n).length).all fun a => (List.range (cS n).length).all fun b => PySem.W.alike (fR n a) (fR n b)) &&
  ((List.range (cS n).length).all fun a => decide ((fR n a).depth ≤ 8))
theorem factU_ok {n : Nat} (n1 : 1 ≤ n) (n3 : n ≤ 3) : factU n = true := by
  have : n = 1 ∨ n = 2 ∨ n = 3 := by omega
  rcases this with e | e | e <;> (subst e; decide +kernel)
theorem rows_facts {n : Nat} (n1 : 1 ≤ n) (n3 : n ≤ 3) : (rowsOf n).length = (rS n).length ∧ ∀ i, i < (rS n).length → ((rowsOf n).getD i []).length = (tiesN n).length ∧ pkAt n ((rowsOf n).getD i []) (tiesN n).length = ((cS n).getD ((rS n).getD i 0) []).map fun x => [x] := by
  have h := factU_ok n1 n3
  unfold factU at h
  rw [Bool.and_eq_true, Bool.and_eq_true, Bool.and_eq_true, Bool.and_eq_true, List.all_eq_true] at h
  refine ⟨of_decide_eq_true h.1.1.1.1, fun i hi => ?_⟩
  have q := h.1.1.1.2 i (List.mem_range.mpr hi)
  rw [Bool.and_eq_true] at q
  exact ⟨of_decide_eq_true q.1, of_decide_eq_true q.2⟩
theorem sortR {n : Nat} (n1 : 1 ≤ n) (n3 : n ≤ 3) {l : List Nat} (hp : l.Perm (List.range (cS n).length)) : (l.map (fR n)).mergeSort (PySem.W.dataLe false id) = (List.range (cS n).length).map (fR n) ∧ PySem.W.AllAlike (l.map (fR n)) ∧ PySem.W.Sortable (l.map (fR n)) ∧ ∀ d, d ∈ l.map (fR n) → d.depth ≤ 8 := by
  have h := factU_ok n1 n3
  unfold factU at h
  rw [Bool.and_eq_true, Bool.and_eq_true, Bool.and_eq_true, Bool.and_eq_true] at h
  obtain ⟨⟨⟨_, q1⟩, q3⟩, q4⟩ := h
  rw [List.all_eq_true] at q3 q4
  have h2 := factC2_ok n1 n3
  unfold factC2 at h2
  rw [Bool.and_eq_true, Bool.and_eq_true, Bool.and_eq_true] at h2
  have q5 := h2.2
  rw [List.all_eq_true] at q5
  refine ⟨sort_ranks q1 hp, fun d hd d' hd' => ?_, .inl fun d hd => ?_, fun d hd => ?_⟩
  · obtain ⟨a, ha, rfl⟩ := List.mem_map.mp hd
    obtain ⟨b, hb, rfl⟩ := List.mem_map.mp hd'
    have q := q3 a (hp.mem_iff.mp ha)
    rw [List.all_eq_true] at q
    exact q b (hp.mem_iff.mp hb)
  · obtain ⟨a, ha, rfl⟩ := List.mem_map.mp hd
    have q := q5 a (hp.mem_iff.mp ha)
    rw [Bool.and_eq_true] at q
    have l := of_decide_eq_true q.2
    unfold fR
    cases hc : (cS n).getD a [] with
    | nil =>
      rw [hc] at l
      have := two_pow_pos n
      simp at l
      omega
    | cons x r => exact ⟨_, _, rfl⟩
  · obtain ⟨a, ha, rfl⟩ := List.mem_map.mp hd
    exact of_decide_eq_true (q4 a (hp.mem_iff.mp ha))
theorem rS_perm {n : Nat} (n1 : 1 ≤ n) (n3 : n ≤ 3) : (rS n).Perm (List.range (cS n).length) := by
  have h2 := factC2_ok n1 n3
  unfold factC2 at h2
  rw [Bool.and_eq_true, Bool.and_eq_true, Bool.and_eq_true] at h2
  exact of_decide_eq_true h2.1.1.2
/-- the rules as data, in order -/
def rulesD (n : Nat) : List PyData := (cS n).map fun c => .tuple (ruleD c)
theorem rulesD_eq (n : Nat) : (List.range (cS n).length).map (fR n) = rulesD n := by
  unfold rulesD
  have h := congrArg (List.map fun c => PyData.tuple (ruleD c)) (range_getD (cS n) [])
  rw [List.map_map] at h
  exact h
def RallRules (n : Nat) (ds es : List PyData) : Prop := ds = [] ∧ es = rulesD n

theorem q_asgR {D : Ends} {tz : TS} {te : TE} {i : Nat} {σ : L2.St} {H : Hp} (h : te σ H fun v H1 => tz D (σ.set i (some v)) H1) : tSeq (tAsg te (gName i)) tz D σ H := h
/-! a list of lists, one of them longer -/
theorem Lsts.snocAt {K : PySem.W.Frag} {H0 H : Hp} {as : List Addr} {dss : List (List PyData)} {i : Nat} {a : Addr} {ys : List V} {ds : List PyData} {v : V} {d : PyData} (h : Lsts K H0 H as dss) (hn : ∀ ds, ds ∈ dss → noLs ds = true) (ha : as[i]? = some a) (hd : dss[i]? = some ds) (hy : H a = some (.lst ys)) (nd : noL d = true) (hv : Dp K H v d) :
    Lsts K H0 (upd H a (.lst (ys ++ [v]))) as (dss.set i (ds ++ [d])) := by
  have t : Tx K H (upd H a (.lst (ys ++ [v]))) := Tx.updL hy
  refine ⟨by rw [List.length_set]; exact h.len, h.nd, h.old, fun j b es g1 g2 => ?_⟩
  by_cases e : i = j
  · subst e
    rw [ha] at g1
    cases g1
    rw [List.getElem?_set_self (List.getElem?_eq_some_iff.mp hd).1] at g2
    cases g2
    obtain ⟨ys', h3, h4⟩ := h.get i a ds ha hd
    rw [hy] at h3
    cases h3
    exact ⟨_, upd_same, DpAll.append (DpAll.tx t _ _ (hn ds (List.mem_of_getElem? hd)) h4) (DpAll.one (Dp.tx t _ _ nd hv))⟩
  · rw [List.getElem?_set_ne e] at g2
    obtain ⟨ys', h3, h4⟩ := h.get j b es g1 g2
    have nab : b ≠ a := fun z => by
      subst z
      obtain ⟨hi, q1⟩ := List.getElem?_eq_some_iff.mp ha
      obtain ⟨hj, q2⟩ := List.getElem?_eq_some_iff.mp g1
      have pw := List.pairwise_iff_getElem.mp h.nd
      rcases Nat.lt_or_gt_of_ne e with z | z
      · exact pw i j hi hj z (q1.trans q2.symm)
      · exact pw j i hj hi z (q2.trans q1.symm)
    exact ⟨ys', by rw [upd_ne nab]; exact h3, DpAll.tx t _ _ (hn es (List.mem_of_getElem? g2)) h4⟩
end K41
set_option Elab.async false
set_option linter.all false
set_option maxRecDepth 100000
set_option maxHeartbeats 5000000
/-! dicts with tuple keys: the pairs walked, the values summed, the display of one pair -/
namespace L2
open PySem PySem.Spec PyProof.Rows
/-- the dict of tuple keys at d, entry by entry -/
structure TD (H : Hp) (h : Heap) (d : Addr) (kvs : List (List Key × V)) (o : Obj) (es : Array DictEntry) (ep : Nat) : Prop where
  sys : (d == sysModules) = false
  at_ : h.get? d = some o
  exact : o.ExactDict
  data : o.data = .dict es ep
  size : es.size = kvs.length
  ent : ∀ (i : Nat) (hi : i < es.size), ∃ (k : List Key) (v : V) (q : Addr), kvs[i]? = some (k, v) ∧ es[i].key = .ref q ∧ H q = some (.tup (k.map kV)) ∧ RelV v es[i].val
section
variable {P : Program} {w : World} {h : Heap} {H : Hp} {d : Addr} {kvs : List (List Key × V)} {o : Obj} {es : Array DictEntry} {ep : Nat}
theorem TD.raw (t : TD H h d kvs o es ep) : h.DictRaw d es ep := ⟨o, t.at_, t.exact, t.data⟩
theorem TD.of (ok : ObjOk P w H h d (.dT kvs)) : ∃ o es ep, TD H h d kvs o es ep := by
  rcases ok with ⟨_, sys, xs, pr, o, es, ep, at_, ex, data, list, _⟩
  refine ⟨o, es, ep, sys, at_, ex, data, (size_of_entries list).trans (Paired.length pr).symm, fun i hi => ?_⟩
  have small : i < kvs.length := by
    rw [Paired.length pr, ← size_of_entries list]
    exact hi
  obtain ⟨y, hy, _, keyAt, val⟩ := paired_get pr (List.getElem?_eq_getElem small)
  have place := entry_at list i
  rw [hy] at place
  have same : es[i] = entryOfKey (tupleKind (mixKind P w)) y := Option.some.inj ((Array.getElem?_eq_getElem hi).symm.trans place)
  refine ⟨kvs[i].1, kvs[i].2, y.2.1, List.getElem?_eq_getElem small, ?_, keyAt, ?_⟩
  · rw [same]
    rfl
  · rw [same]
    exact val
theorem TD.frz (ok : ObjOk P w H h d (.frz o (.dT kvs))) : ∃ es ep, TD H h d kvs o es ep := by
  rcases ok with ⟨at_, rest⟩
  rcases TD.of rest with ⟨o', es, ep, t⟩
  cases t.at_.symm.trans at_
  exact ⟨es, ep, t⟩
theorem TD.same {o' : Obj} {es' : Array DictEntry} {ep' : Nat} (t : TD H h d kvs o es ep) (e : o.data = .dict es' ep') : es' = es ∧ ep' = ep := by
  have z := e.symm.trans t.data
  injection z with z1 z2
  exact ⟨z1, z2⟩
end
/-- the pairs of the locked dict at d, each a new tuple of the key's own tuple and the value -/
def Itit (d : Addr) (o : Obj) (kvs : List (List Key × V)) : It :=
  ⟨fun i H => H d = some (.frz o (.dT kvs)) ∧ i < kvs.length, fun i H x H' => ∃ (T : Addr) (k : List Key) (v : V) (q : Addr), kvs[i]? = some (k, v) ∧ x = .ref T ∧ H T = none ∧ H q = some (.tup (k.map kV)) ∧ H' = upd H T (.tup [.ref q, v]), fun i H => H d = some (.frz o (.dT kvs)) ∧ kvs.length ≤ i⟩
section
variable {P : Program} {w : World} {K : PySem.W.Frag} {d it : Addr} {o : Obj} {kvs : List (List Key × V)} {es : Array DictEntry} {ep : Nat}
theorem alone {b : Addr} (m : b ∈ [it]) : b = it := List.mem_singleton.mp m
theorem turn_itemsT {elts : List Expr} {kk : Nat} {tpos : Pos} (hod : o.data = .dict es ep) :
    Turn P w K (.Tuple elts kk tpos) (Itit d o kvs) [it] it (fun i h => ∃ ok ov, IsItemIter h it d i kvs.length ep ok ov) where
  mem := List.mem_singleton_self it
  obj := fun i h ⟨ok, ov, iter⟩ b hb => by
    cases alone hb
    exact ⟨_, iter, fun v => by intro q; cases q⟩
  keep := fun i h h' ⟨ok, ov, iter⟩ k => ⟨ok, ov, k it (List.mem_singleton_self it) _ iter⟩
  self := fun A i s Q E ⟨ok, ov, iter⟩ fin => PySem.W.kcp_self iter fin
  done := by
    intro X pe we ke calm i pins s σ H _ I fps ⟨ok, ov, iter⟩ ⟨fr, far⟩
    subst pe we ke
    obtain ⟨es', ep', t⟩ := TD.frz (I.hok d _ fr)
    obtain ⟨rfl, rfl⟩ := t.same (o' := o) hod
    rw [← t.size] at iter far
    refine PySem.wpAny_pyNext_items_end_raw (I.ok.hd calm) iter t.raw far fun h1 kept => ⟨rfl, ?_⟩
    obtain ⟨f0, f1, _, f3, f4, _⟩ := fps it (List.mem_singleton_self it)
    exact I.turned (t' := s.toks) (fun b ob far' at_ => kept b ob far' at_) f0 f1 f3 f4 (fps it (List.mem_singleton_self it)).2.2.2.2.2
  item := by
    intro X pe we ke calm i pins s σ H _ I fps ⟨ok, ov, iter⟩ ⟨fr, small⟩
    subst pe we ke
    obtain ⟨es', ep', t⟩ := TD.frz (I.hok d _ fr)
    obtain ⟨rfl, rfl⟩ := t.same (o' := o) hod
    rw [← t.size] at iter small
    obtain ⟨k, v, q, pair, key, keyAt, val⟩ := t.ent i small
    have low := Heap.lt_size iter
    refine PySem.wpAny_pyNext_items_item_raw iter t.raw small fun h1 own made _ kept => ⟨_, rfl, ?_⟩
    refine wpAny_letOwnedTupleGo_items (s := { s with heap := h1 }) own fun h2 iter2 but => ?_
    have at2 := (but.2 _ (Nat.ne_of_gt low)).trans made
    rw [key] at at2
    have old : ∀ b ob, b ∉ [it] → s.heap.get? b = some ob → h2.get? b = some ob := fun b ob nb z =>
      (but.2 b fun e => nb (by rw [e]; exact List.mem_singleton_self it)).trans (kept b ob (fun e => nb (by rw [e]; exact List.mem_singleton_self it)) z)
    refine ⟨.ref s.heap.objs.size, _, I.turnedNew (t' := s.toks) (ch := [it]) (ob := .tup [.ref q, v]) old fps (Nat.le_refl _) ?_, rfl, ⟨_, k, v, q, pair, rfl, I.hok.fresh (Nat.le_refl _), keyAt, rfl⟩, ⟨es[i].key, es[i].val, ?_⟩, fun b hb => ?_⟩
    · exact ⟨by show 2 ≤ sizeLine; decide, [.ref q, es[i].val], .cons rfl (.cons val .nil), ⟨_, at2, rfl, _, rfl⟩⟩
    · rw [← t.size]
      exact iter2
    · cases alone hb
      rw [upd_ne (fun e => Nat.lt_irrefl _ (e ▸ low))]
      exact (fps it hb).1
end
def iItemsT (td : TE) : TI := fun σ H R => td σ H fun x H1 => ∃ d o kvs, x = .ref d ∧ H1 d = some (.frz o (.dT kvs)) ∧ R (Itit d o kvs) H1
/-- the view over the dict at d -/
abbrev viewO (c : String) (d : Addr) : Obj := { cls := .type c, data := .fields #[.ref d] }
section
variable {X : Cx} {c : Expr} {td : TE} {apos cpos : Pos}
theorem pi_itemsT {elts : List Expr} {kk : Nat} {tpos : Pos} (hc : PE X c td) (base : attributeBase c "items" X.env (eval c X.env) = eval c X.env := by rfl) (line : (apos.endLine == cpos.line) = true := by rfl) :
    PI X (.Tuple elts kk tpos) (.Call (.Attribute c "items" apos) [] [] cpos) (iItemsT td) := by
  constructor
  intro pins s σ H R I h
  have walked := hc.run pins s σ H _ I h
  refine wpAny_Call_method (T := "dict") (id := "dict.items") base rfl line F.plainAttrs_dict F.slot_dict_items F.type_dict_items (thn walked fun u s1 got => ?_)
  obtain ⟨x, H1, I1, rx, d, o, kvs, rfl, fr, q⟩ := got
  cases (show u = Value.ref d from rx)
  obtain ⟨es, ep, t⟩ := TD.frz (I1.hok d _ fr)
  refine ⟨t.raw.typeIs, fun b z => ?_, ?_⟩
  · cases z
    exact ⟨o, t.at_, t.exact.2.1⟩
  · have old : ∀ (b : Addr) (ob : Obj), s1.heap.get? b = some ob → (s1.heap.push (viewO "dict_items" d)).get? b = some ob := fun b ob z => Heap.get?_push_of_some _ z
    have I2 := I1.kept (t' := s1.toks) (h' := s1.heap.push (viewO "dict_items" d)) old
    have fin : wpAny (model X.prog X.w) X.A (pyIter (.ref s1.heap.objs.size)) (PIE X pins σ (.Tuple elts kk tpos) R) X.xe { s1 with heap := s1.heap.push (viewO "dict_items" d) } := by
      refine PySem.wpAny_pyIter_items_raw (d := d) ⟨_, Heap.get?_push_size _ rfl, rfl, rfl⟩ (t.raw.at fun ob z => old _ ob z) ?_
      refine pi_one (tk := s1.toks) I2 _ (turn_itemsT (kvs := kvs) t.data) ⟨.none, .none, ?_⟩ q
      rw [← t.size]
      apply Heap.get?_push_size
      rfl
    exact method_meetsIn F.slot_dict_items F.entry_dict_items rfl (PySem.evalArgs_none ⟨rfl, t.raw.typeIs, F.args_dict_items_1 _, _, PySem.meets_dict_items_raw d t.sys, ⟨⟨es, ep, t.raw⟩, fin⟩⟩)
/-! the values' view, and its sum -/
def VwO (p d : Addr) (h : Heap) : Prop := h.get? p = some (viewO "dict_values" d)
def tValsT (td : TE) : TE := fun σ H Q => td σ H fun x H1 => ∃ d kvs, x = .ref d ∧ H1 d = some (.dT kvs) ∧ ∀ p, H1 p = none → Q (.ref p) (upd H1 p (.ext (VwO p d)))
theorem pe_valsT (hc : PE X c td) (base : attributeBase c "values" X.env (eval c X.env) = eval c X.env := by rfl) (line : (apos.endLine == cpos.line) = true := by rfl) : PE X (.Call (.Attribute c "values" apos) [] [] cpos) (tValsT td) := by
  constructor
  intro pins s σ H Q I h
  have walked := hc.run pins s σ H _ I h
  refine wpAny_Call_method (T := "dict") (id := "dict.values") base rfl line F.plainAttrs_dict F.slot_dict_values F.type_dict_values (thn walked fun u s1 got => ?_)
  obtain ⟨x, H1, I1, rx, d, kvs, rfl, hd, q⟩ := got
  cases (show u = Value.ref d from rx)
  obtain ⟨o, es, ep, t⟩ := TD.of (I1.hok d _ hd)
  refine ⟨t.raw.typeIs, fun b z => ?_, ?_⟩
  · cases z
    exact ⟨o, t.at_, t.exact.2.1⟩
  · have I2 := I1.laid (a := s1.heap.objs.size) (o := .ext (VwO s1.heap.objs.size d)) (h' := s1.heap.push (viewO "dict_values" d)) (t' := s1.toks) (fun b ob z => Heap.get?_push_of_some _ z) (Nat.le_refl _)
      ⟨Heap.get?_push_size _ rfl, ⟨_, Heap.get?_push_size _ rfl⟩, fun g1 g2 z k => k _ z⟩
    have fin : EP X pins σ Q (.ref s1.heap.objs.size) { s1 with heap := s1.heap.push (viewO "dict_values" d) } := ⟨.ref _, _, I2, rfl, q _ (I1.hok.fresh (Nat.le_refl _))⟩
    exact method_meetsIn F.slot_dict_values F.entry_dict_values rfl (PySem.evalArgs_none ⟨rfl, t.raw.typeIs, F.args_dict_values_1 _, _, PySem.meets_dict_values_raw d t.sys, ⟨⟨es, ep, t.raw⟩, fin⟩⟩)
def rSumVT : List V → Hp → VK → Prop := fun vs H Q => ∃ (p d : Addr) (kvs : List (List Key × V)) (ns : List Int), vs = [V.ref p] ∧ H p = some (.ext (VwO p d)) ∧ H d = some (.dT kvs) ∧ kvs.map (·.2) = ns.map V.int ∧ Q (.int ns.sum) H
theorem preSum_ns (ns : List Int) : ∀ j, j ≤ ns.length → preSum (fun i => ns.getD i 0) j = (ns.take j).sum
  | 0, _ => by rw [List.take_zero]; rfl
  | j + 1, h => by
    show preSum (fun i => ns.getD i 0) j + ns.getD j 0 = _
    rw [preSum_ns ns j (by omega), List.take_succ, List.sum_append, List.getD_eq_getElem?_getD, List.getElem?_eq_getElem (by omega)]
    simp
theorem cr_sumVT (calm : X.calm = true) : CallR X (.builtin "sum") rSumVT := by
  intro pins s σ H _ _ Q I r want
  obtain ⟨p, d, kvs, ns, rfl, hp, hd, hk, q⟩ := want
  rw [Vals.ref1 r]
  have vw : VwO p d s.heap := (I.hok p _ hp).1
  obtain ⟨o, es, ep, t⟩ := TD.of (I.hok d _ hd)
  have many : ns.length = es.size := by
    have z := congrArg List.length hk
    rw [List.length_map, List.length_map] at z
    rw [t.size, z]
  have low := Heap.lt_size t.at_
  have quiet : X.A.in1.handled = none := I.ok.hd calm
  have W := PySem.Walks.rawValues (prog := X.prog) (w := X.w) quiet s.heap.objs.size d (Nat.ne_of_lt low) es ep
  refine PySem.call_sum_walkAnyS (PySem.wpAny_pyIter_values_raw (d := d) ⟨_, vw, rfl, rfl⟩ t.raw ?_)
  refine ⟨s.heap.objs.size, _, _, _, es.size, _, _, (fun i => ns.getD i 0), rfl, W.toS, ⟨⟨_, Heap.get?_push_size _ rfl, rfl, rfl⟩, t.raw.at fun ob z => Heap.get?_push_of_some _ z⟩, fun b hb => ?_, fun i v hv => ?_, fun s' t' hm => ?_⟩
  · rw [Heap.size_push]
    rcases (show b = s.heap.objs.size ∨ b = d by simpa using hb) with rfl | rfl
    · exact Nat.lt_succ_of_le (Nat.le_refl _)
    · exact Nat.lt_succ_of_lt low
  · obtain ⟨hi, rfl⟩ := hv
    obtain ⟨k, v, _, pair, _, _, val⟩ := t.ent i hi
    have z : (kvs.map (·.2))[i]? = some v := by
      rw [List.getElem?_map, pair]
      rfl
    rw [hk, List.getElem?_map, List.getElem?_eq_getElem (many ▸ hi)] at z
    cases z
    obtain ⟨tk, ht⟩ := val
    refine ⟨tk, ?_⟩
    have at_ : ns.getD i 0 = ns[i]'(many ▸ hi) := by simp [List.getD_eq_getElem?_getD, many, hi]
    show es[i].val = Value.int (ns.getD i 0) tk
    rw [at_]
    exact ht
  · have total : preSum (fun i => ns.getD i 0) es.size = ns.sum := by
      rw [← many, preSum_ns ns ns.length (Nat.le_refl _), List.take_length]
    have old : ∀ (b : Addr) (ob : Obj), s.heap.get? b = some ob → s'.heap.get? b = some ob := by
      intro b ob z
      refine hm.heap b ob (fun m => ?_) (Heap.get?_push_of_some _ z)
      have far := Heap.lt_size z
      rw [List.mem_singleton.mp m] at far
      exact absurd far (Nat.lt_irrefl _)
    rw [total, Moved.eq_with hm]
    exact ⟨.int _, H, I.kept old, ⟨_, rfl⟩, q⟩
end
end L2
set_option Elab.async false
set_option linter.all false
set_option maxRecDepth 100000
set_option maxHeartbeats 5000000
/-! the display of one pair, its key a tuple -/
namespace L2
open PySem PySem.Spec PyProof.Rows
def tDisp1T (tk tv : TE) : TE := fun σ H Q => ∀ p, H p = none → tk σ (upd H p (.dT [])) fun x H1 => tv σ H1 fun y H2 => ∃ k b, x = .ref b ∧ H2 p = some (.dT []) ∧ H2 b = some (.tup (k.map kV)) ∧ Q (.ref p) (upd H2 p (.dT [(k, y)]))
theorem pe_disp1T {X : Cx} {pos : Pos} {ke ve : Expr} {tk tv : TE} (hu : X.A.units + 1 < cLine) (hk : PE X ke tk) (hv : PE X ve tv) : PE X (.Dict [some ke] [ve] pos) (tDisp1T tk tv) := by
  constructor
  intro pins s σ H Q I want
  have free := I.hok.fresh (Nat.le_refl s.heap.objs.size)
  have I1 := I.laid (a := s.heap.objs.size) (o := .dT []) (h' := s.heap.push { cls := .type "dict", data := .dict #[] }) (t' := s.toks) (fun _ _ z => Heap.get?_push_of_some _ z) (Nat.le_refl _) (dt_empty s.heap I.big)
  have units : X.A.units < cLine := by omega
  rw [arm_eval_Dict, zip_pairTrees [some ke] [ve] X.env pos rfl rfl, dictDisplay_pairs _ (by intro z; cases z) (by show 1 < 17; decide)]
  apply wpAny_bind
  apply wpAny_standAt
  apply wpAny_bind
  refine PySem.wpAny_subDictH (knd := tupleKind (mixKind X.prog X.w)) (Q := fun d s' => wpAny (model X.prog X.w) X.A (pure (Value.ref d)) (EP X pins σ Q) X.xe s') units (by show 1 ≤ 15; decide) ?_
  refine pairTrees_cons_walk (thn (hk.run pins _ σ _ _ I1 (want _ free)) fun u s2 ⟨x, H1, I2, rx, second⟩ => thn (hv.run pins s2 σ H1 _ I2 second) fun v s3 ⟨y, H2, I3, ry, rest⟩ => pairTrees_nil_walk ?_)
  obtain ⟨k, b, rfl, hp, hb, fin⟩ := rest
  cases (show u = Value.ref b from rx)
  obtain ⟨_, sys, xs, pr, empty⟩ := dt_rd I3.hok (.inl hp)
  cases pr
  refine ⟨[(k, b, v)], ⟨rfl, rfl, key_of I3.hok hb, trivial⟩, empty, fun h' tk' full wr => wpAny_pure ⟨.ref s.heap.objs.size, _, ?_, rfl, fin⟩⟩
  obtain ⟨o, es, ep, at_, d1, d2, d3, _, d4⟩ := full
  have apart : b ≠ s.heap.objs.size := ne_of hb hp fun z => by cases z
  exact d_write I3 (by rw [hp]; exact True.intro) wr ⟨o, at_⟩ ⟨by show 1 ≤ sizeLine; decide, sys, [(k, b, v)], .cons ⟨rfl, by rw [upd_ne apart]; exact hb, ry⟩ .nil, o, es, ep, at_, d1, d2, d3, d4⟩
end L2
set_option Elab.async false
set_option linter.all false
set_option maxRecDepth 100000
set_option maxHeartbeats 5000000
/-! rules counted: the mirror of the dict, the walk over its pairs -/
namespace K41
open PySem PySem.Spec PyProof.Rows L2 Evl
abbrev Cnt := List (List Int × Int)
def encK (p : List Int) : List Key := p.map Sum.inl
def kvE (e : List Int × Int) : List Key × V := (encK e.1, .int e.2)
theorem encK_V (p : List Int) : (encK p).map kV = p.map V.int := by
  unfold encK
  rw [List.map_map]
  rfl
theorem encK_inj {p q : List Int} : encK p = encK q ↔ p = q := by
  constructor
  · intro h
    induction p generalizing q with
    | nil =>
      cases q with
      | nil => rfl
      | cons a q => cases h
    | cons a p ih =>
      cases q with
      | nil => cases h
      | cons b q =>
        have h' : (Sum.inl a :: encK p : List Key) = Sum.inl b :: encK q := h
        injection h' with h1 h2
        injection h1 with h3
        rw [h3, ih h2]
  · intro h
    rw [h]
def cfind (c : Cnt) (k : List Int) : Option Int := (c.find? fun e => decide (e.1 = k)).map (·.2)
def cput (c : Cnt) (k : List Int) (w : Int) : Cnt := if (c.any fun e => decide (e.1 = k)) = true then c.map (fun e => if e.1 = k then (e.1, w) else e) else c ++ [(k, w)]
theorem dec_encK (a b : List Int) : decide (encK a = encK b) = decide (a = b) := by
  by_cases h : a = b
  · rw [decide_eq_true h, decide_eq_true (encK_inj.mpr h)]
  · rw [decide_eq_false h, decide_eq_false (fun z => h (encK_inj.mp z))]
theorem valV_kv (c : Cnt) (k : List Int) : valV (c.map kvE) (encK k) = (cfind c k).map V.int := by
  unfold cfind
  induction c with
  | nil => rfl
  | cons e c ih =>
    by_cases h : e.1 = k
    · rw [List.map_cons, valV_pos (show (kvE e).1 = encK k from encK_inj.mpr h), List.find?_cons, decide_eq_true h]
      rfl
    · rw [List.map_cons, valV_neg (show ¬ (kvE e).1 = encK k from fun z => h (encK_inj.mp z)), ih, List.find?_cons, decide_eq_false h]
theorem putK_kv (c : Cnt) (k : List Int) (w : Int) : putK (c.map kvE) (encK k) (.int w) = (cput c k w).map kvE := by
  unfold putK cput
  have e1 : ((c.map kvE).any fun kv => decide (kv.1 = encK k)) = c.any fun e => decide (e.1 = k) := by
    rw [List.any_map]
    congr 1
    funext e
    exact dec_encK e.1 k
  rw [e1]
  by_cases h : (c.any fun e => decide (e.1 = k)) = true
  · rw [if_pos h, if_pos h, List.map_map, List.map_map]
    refine List.map_congr_left fun e _ => ?_
    show (if encK e.1 = encK k then _ else _) = kvE (if e.1 = k then _ else _)
    by_cases z : e.1 = k
    · rw [if_pos z, if_pos (encK_inj.mpr z)]
      rfl
    · rw [if_neg z, if_neg (fun q => z (encK_inj.mp q))]
  · rw [if_neg h, if_neg h, List.map_append]
    rfl
theorem cput_len (c : Cnt) (k : List Int) (w : Int) : (cput c k w).length ≤ c.length + 1 := by
  unfold cput
  split
  · rw [List.length_map]
    omega
  · rw [List.length_append]
    exact Nat.le_refl _
def cB (n i : Nat) (e : List Int × Int) (l : Cnt) (b : Bool) : Cnt := if goodF n i e.1 b then cput l (fillP e.1 (tieAt n i) b b) ((cfind l (fillP e.1 (tieAt n i) b b)).getD 0 + e.2) else l
def cIn (n i : Nat) (e : List Int × Int) (l : Cnt) : Nat → Cnt
  | 0 => l
  | m + 1 => cB n i e (cIn n i e l m) (decide (m = 1))
def cMid (n i : Nat) (c : Cnt) : Nat → Cnt
  | 0 => []
  | j + 1 => cIn n i (c.getD j ([], 0)) (cMid n i c j) 2
def cnt (n : Nat) : Nat → Cnt
  | 0 => [(List.replicate (2 ^ n) 0, 1)]
  | i + 1 => cMid n i (cnt n i) (cnt n i).length
theorem cIn_len (n i : Nat) (e : List Int × Int) (l : Cnt) : ∀ m, (cIn n i e l m).length ≤ l.length + m
  | 0 => Nat.le_refl _
  | m + 1 => by
    have h := cIn_len n i e l m
    show (cB n i e (cIn n i e l m) _).length ≤ _
    unfold cB
    split
    · have := cput_len (cIn n i e l m) (fillP e.1 (tieAt n i) (decide (m = 1)) (decide (m = 1))) ((cfind (cIn n i e l m) (fillP e.1 (tieAt n i) (decide (m = 1)) (decide (m = 1)))).getD 0 + e.2)
      omega
    · omega
theorem cMid_len (n i : Nat) (c : Cnt) : ∀ j, (cMid n i c j).length ≤ 2 * j
  | 0 => Nat.le_refl _
  | j + 1 => by
    have h := cMid_len n i c j
    have := cIn_len n i (c.getD j ([], 0)) (cMid n i c j) 2
    show (cIn n i (c.getD j ([], 0)) (cMid n i c j) 2).length ≤ _
    omega
def factK (n : Nat) : Bool := (List.range 13).all (fun i => decide ((cnt n i).length ≤ 20) && (cnt n i).all fun e => decide (e.1.length = 2 ^ n)) && decide (((cnt n (tiesN n).length).map (·.2)).sum ≤ 2000)
theorem factK_ok {n : Nat} (n1 : 1 ≤ n) (n3 : n ≤ 3) : factK n = true := by
  have : n = 1 ∨ n = 2 ∨ n = 3 := by omega
  rcases this with e | e | e <;> (subst e; decide +kernel)
theorem cnt_facts {n i : Nat} (n1 : 1 ≤ n) (n3 : n ≤ 3) (hi : i ≤ 12) : (cnt n i).length ≤ 20 ∧ ∀ e, e ∈ cnt n i → e.1.length = 2 ^ n := by
  have h := factK_ok n1 n3
  unfold factK at h
  rw [Bool.and_eq_true, List.all_eq_true] at h
  have q := h.1 i (List.mem_range.mpr (by omega))
  rw [Bool.and_eq_true, List.all_eq_true] at q
  exact ⟨of_decide_eq_true q.1, fun e he => of_decide_eq_true (q.2 e he)⟩
theorem cnt_sum {n : Nat} (n1 : 1 ≤ n) (n3 : n ≤ 3) : ((cnt n (tiesN n).length).map (·.2)).sum ≤ 2000 := by
  have h := factK_ok n1 n3
  unfold factK at h
  rw [Bool.and_eq_true] at h
  exact of_decide_eq_true h.2
def RcountRules (n : Nat) (ds : List PyData) (d : PyData) : Prop := ds = [] ∧ d = .int (if still n (List.replicate (2 ^ n) 0) (leftAt n (tiesN n) 0) then ((cnt n (tiesN n).length).map (·.2)).sum else 0)
section
variable {K : PySem.W.Frag} {σ : L2.St} {H : Hp} {td : TE}
theorem src_itemsT {d : Addr} {od : Obj} {c : Cnt} (h : Ev td σ H (.ref d)) (hd : H d = some (.frz od (.dT (c.map kvE)))) :
    SrcD K (iItemsT td) σ H c.length (fun i => .tuple [.tuple (encI (c.getD i ([], 0)).1), .int (c.getD i ([], 0)).2]) (fun _ H' => H' d = some (.frz od (.dT (c.map kvE)))) := fun H1 e R q =>
  h H1 e _ fun H2 e2 => by
    have W : Walk (Itit d od (c.map kvE)) c.length (fun H => H d = some (.frz od (.dT (c.map kvE)))) (Itit d od (c.map kvE)).yld :=
      ⟨fun i H hi g => ⟨g, by rw [List.length_map]; exact hi⟩, fun H g => ⟨g, by rw [List.length_map]; exact Nat.le_refl _⟩, fun i H v H' hi g y => y⟩
    refine ⟨d, od, c.map kvE, rfl, (e.trans e2) _ _ hd, q _ H2 _ _ e2 W (fun Hi k => k) fun i Hi x Hi' hi k y => ?_⟩
    obtain ⟨T, kk, v, qq, hkv, rfl, hT, hq, rfl⟩ := y
    rw [List.getElem?_map, List.getElem?_eq_getElem hi] at hkv
    have hg : c.getD i ([], 0) = c[i] := by rw [List.getD_eq_getElem?_getD, List.getElem?_eq_getElem hi]; rfl
    have e3 : kvE c[i] = (kk, v) := Option.some.inj hkv
    have ek : kk = encK c[i].1 := (congrArg Prod.fst e3).symm
    have ev : v = .int c[i].2 := (congrArg Prod.snd e3).symm
    subst ek ev
    rw [encK_V] at hq
    refine ⟨Ex.new hT, ?_⟩
    show Dp K _ (.ref T) (.tuple [.tuple (encI (c.getD i ([], 0)).1), .int (c.getD i ([], 0)).2])
    rw [hg]
    exact .tup (SqT.of upd_same) (.cons (dx (Ex.new hT) (.tup (SqT.of hq) (DpAll.ints _))) (.cons (.int _) .nil))
theorem tx_unfrz {p : Addr} {od : Obj} {ys : List (List Key × V)} {o : HO} (h : H p = some (.frz od (.dT ys))) : Tx K H (upd H p o) := fun a xs hs => by
  rcases hs with (q | ⟨ob, q⟩) | q
  · refine .inl (.inl ?_)
    rw [upd_ne (fun e => by rw [e, h] at q; cases q)]
    exact q
  · refine .inl (.inr ⟨ob, ?_⟩)
    rw [upd_ne (fun e => by rw [e, h] at q; cases q)]
    exact q
  · exact .inr q
theorem ex_bs {S : Addr → Prop} {H0 H H' : Hp} (e : Ex H0 H) (b : Bs S H H') (n : ∀ a, S a → H0 a = none) : Ex H0 H' := fun a u h => b a u (fun s => by rw [n a s] at h; cases h) (e a u h)
end
end K41
set_option Elab.async false
set_option linter.all false
set_option maxRecDepth 100000
set_option maxHeartbeats 5000000
namespace K41
open PySem PySem.Spec PyProof.Rows L2 Evl
section
variable {P : Program} {w : World} {K : PySem.W.Frag} {mg : Str → Option Value} {base : Heap}
theorem ok_check_listed (T : Txt K mg) : Cal P w K mg base "check_listed" 1 ["book"] [] (spBD K mg RcheckListed) := by
  refine T.d_check_listed.ok sc_check_listed (fun _ _ _ _ _ _ us hl => match us, hl with | [_], _ => rfl) (fun vs H Q E h => by obtain ⟨b, n, us, ds, d, rfl, B, hu, n1, n3, ⟨rfl, _⟩, _⟩ := h; cases hu; rfl) (fun f cdv A outer s H vs Q E hr h => ?_)
  obtain ⟨b, n, us, ds, d, rfl, B, hu, n1, n3, ⟨rfl, rfl⟩, q⟩ := h
  cases hu
  refine ⟨_, (pss_one (ps_if (pt_cmpR op_gt (pe_fldK (K := K) rfl (pv 0 (hd := nd_book) (hcd := nc_book)) rfl) (pe_gI T.c_MOST_LISTED_listing (by rfl) nd_MOST_LISTED_listing) (nomark _)) (pss_one ps_never)
      pss_nil)), ?_⟩
  refine s_when (b := decide ((3 : Int) < (n : Int))) (et_D (evd_op (ev_bMany B (ev_var rfl)) evd_int rd_gt)) (fun z => ?_) (fun _ H1 e1 => ?_)
  · have := of_decide_eq_true z
    omega
  · exact q .non H1 e1 .non
end
end K41
set_option Elab.async false
set_option linter.all false
set_option maxRecDepth 100000
set_option maxHeartbeats 5000000
namespace K41
open PySem PySem.Spec PyProof.Rows L2 Evl
section
variable {P : Program} {w : World} {K : PySem.W.Frag} {mg : Str → Option Value} {base : Heap}
theorem ok_own_ties (T : Txt K mg) : Cal P w K mg base "own_ties" 3 ["book"] [] (spBL K mg RownTies) := by
  refine T.d_own_ties.ok sc_own_ties (fun _ _ _ _ _ _ us hl => match us, hl with | [_], _ => rfl) (fun vs H Q E h => by obtain ⟨b, n, us, ds, d, rfl, B, hu, n1, n3, ⟨rfl, _⟩, _⟩ := h; cases hu; rfl) (fun f cdv A outer s H vs Q E hr h => ?_)
  obtain ⟨b, n, us, ds, d, rfl, B, hu, n1, n3, ⟨rfl, rfl⟩, q⟩ := h
  cases hu
  refine ⟨_, (pss_cons (ps_set (i := 1) sc_own_ties.nd rfl (by first | exact Or.inl rfl | exact Or.inr rfl) (pe_lst pa_nil))
      (pss_cons (ps_for PassesOwn.never rfl (pi_range1 (by rfl) T.z_range (pa_cons (pe_ix (ix_tupK (K := K) rfl) (pe_gTK (K := K) rfl T.c_POWERS (by rfl) nd_POWERS) (pe_fldK (K := K) rfl (pv 0 (hd := nd_book) (hcd := nc_book)) rfl) (fun _ _ => rfl)) pa_nil)) (pg_name (i := 2) sc_own_ties.nd rfl (by first | exact Or.inl rfl | exact Or.inr rfl))
        (pss_one (ps_for PassesOwn.never rfl (pi_range1 (by rfl) T.z_range (pa_cons (pe_fldK (K := K) rfl (pv 0 (hd := nd_book) (hcd := nc_book)) rfl) pa_nil)) (pg_name (i := 3) sc_own_ties.nd rfl (by first | exact Or.inl rfl | exact Or.inr rfl))
          (pss_one (ps_if (pt_not (pt_val (pe_cal (ok_has_yes T) (hr.mono (by decide)) (by rfl) (pa_cons (pe_fldK (K := K) rfl (pv 0 (hd := nd_book) (hcd := nc_book)) rfl) (pa_cons (pv 2 (hd := nd_row) (hcd := nc_row)) (pa_cons (pv 3 (hd := nd_member) (hcd := nc_member)) pa_nil))) (hdb := nd_has_yes)))) (pss_one (ps_expr (bmK (K := K) rfl (pe_bm PySem.F.plainAttrs_list PySem.F.slot_list_append PySem.F.type_list_append mt_append (pv 1 (hd := nd_found) (hcd := nc_found)) (pa_cons (pe_tup (pa_cons (pv 2 (hd := nd_row) (hcd := nc_row)) (pa_cons (pv 3 (hd := nd_member) (hcd := nc_member)) (pa_cons (pe_cal (ok_turned T) (hr.mono (by decide)) (by rfl) (pa_cons (pe_fldK (K := K) rfl (pv 0 (hd := nd_book) (hcd := nc_book)) rfl) (pa_cons (pv 2 (hd := nd_row) (hcd := nc_row)) (pa_cons (pv 3 (hd := nd_member) (hcd := nc_member)) pa_nil))) (hdb := nd_turned)) pa_nil)))) pa_nil)))))
          pss_nil)))))
      (pss_one (ps_ret (pv 1 (hd := nd_found) (hcd := nc_found)))))), ?_⟩
  have hp := two_pow_pos n
  have hp8 := pow_le8 (show n ≤ 8 by omega)
  have n8 : n ≤ 8 := by omega
  have hp2 : 2 ^ n ≤ 8 := by
    have : 2 ^ n ≤ 2 ^ 3 := Nat.pow_le_pow_right (by decide) n3
    omega
  refine q_asgDL (K := K) (evdl_lst evds_nil (by simp)) fun l xs H1 hl e1 h1 hd1 => ?_
  cases hd1
  have S := src_rng (K := K) (H := H1) (σ := [some (.ref b), some (.ref l), none, none]) (n := ((2 ^ n : Nat) : Int)) (tr := tCons (tOp (rIxT K) (tGT K powV) (tFld K (tVar 0) "many")) tNil) (evds_cons (ev_pow (k := n) (ev_bMany (B.ex' e1) (ev_var rfl)) rfl n8) evds_nil) (by omega) (by omega)
  rw [Int.toNat_natCast] at S
  refine q_for S (fun _ r σ' G => Ex H G ∧ (∃ xs, G l = some (.lst xs) ∧ DpAll K G xs ((tiesUp n r).map tieD)) ∧ ∃ o2 o3, σ' = [some (.ref b), some (.ref l), o2, o3]) (fun G e => ⟨e1.trans e, ⟨[], e _ _ h1, .nil⟩, _, _, rfl⟩) (fun _ _ _ _ _ _ => trivial)
    (fun _ r σ' G G' ⟨p1, ⟨xs, p2, p3⟩, p4⟩ e => ⟨p1.trans e, ⟨xs, e _ _ p2, dxs e p3⟩, p4⟩) (fun _ r σ' G v hr1 p hv => ?_) (fun _ σ' G p => ?_)
  · obtain ⟨p1, ⟨xs, p2, p3⟩, o2, o3, rfl⟩ := p
    rw [hv.intV]
    have S2 := src_rng (K := K) (H := G) (σ := [some (.ref b), some (.ref l), some (.int (r : Int)), o3]) (n := (n : Int)) (tr := tCons (tFld K (tVar 0) "many") tNil) (evds_cons (ev_bMany (B.ex' p1) (ev_var rfl)) evds_nil) (by omega) (by omega)
    rw [Int.toNat_natCast] at S2
    refine s_for S2 (fun _ m σ' G => Ex H G ∧ (∃ xs, G l = some (.lst xs) ∧ DpAll K G xs ((tiesUp n r ++ tiesIn n r m).map tieD)) ∧ ∃ o3, σ' = [some (.ref b), some (.ref l), some (.int (r : Int)), o3]) (fun G e => ⟨p1.trans e, ⟨xs, e _ _ p2, ?_⟩, _, rfl⟩) (fun _ _ _ _ _ _ => trivial)
      (fun _ m σ' G G' ⟨p1, ⟨xs, p2, p3⟩, p4⟩ e => ⟨p1.trans e, ⟨xs, e _ _ p2, dxs e p3⟩, p4⟩) (fun _ m σ' G v hm p hv => ?_) (fun _ σ' G p => ?_)
    · rw [show tiesUp n r ++ tiesIn n r 0 = tiesUp n r from List.append_nil _]
      exact dxs e p3
    · obtain ⟨p1, ⟨xs, p2, p3⟩, o3, rfl⟩ := p
      rw [hv.intV]
      have B2 := B.ex' p1
      refine s_when (b := !yes n r m) (et_not (et_DB (evd_call (evds_cons (ev_bMany B2 (ev_var rfl)) (evds_cons (evd_var rfl (.int (r : Int))) (evds_cons (evd_var rfl (.int (m : Int))) evds_nil))) ⟨n, r, m, rfl, hm, n8, rfl⟩))) (fun hb G2 e2 => ?_) (fun hb G2 e2 => ?_)
      · have B3 := B2.ex' e2
        have hl2 := DpAll.length p3
        have t1 := tiesUp_len n r
        have t2 := tiesIn_len n r m
        have t3 : r * n ≤ 8 * 3 := Nat.mul_le_mul (by omega) n3
        refine s_appD (K := K) (e2 _ _ p2) (ev_var rfl) (evd_tup (evds_cons (evd_var rfl (.int (r : Int))) (evds_cons (evd_var rfl (.int (m : Int))) (evds_cons (evd_call (evds_cons (ev_bMany B3 (ev_var rfl)) (evds_cons (evd_var rfl (.int (r : Int))) (evds_cons (evd_var rfl (.int (m : Int))) evds_nil))) ⟨n, r, m, rfl, hm, n8, rfl⟩) evds_nil))) (by simp)) (by rw [hl2, List.length_map, List.length_append]; omega) fun v3 G3 e3 hv3 => ?_
        have hT : Tx K G3 (upd G3 l (.lst (xs ++ [v3]))) := Tx.updL ((e2.trans e3) _ _ p2)
        refine ⟨Ex.mut (p1.trans (e2.trans e3)) hl, ⟨_, upd_same, ?_⟩, _, rfl⟩
        rw [tiesIn_no (by rw [← Bool.not_not (yes n r m), hb]; rfl), ← List.append_assoc, List.map_append]
        exact DpAll.append (DpAll.tx hT _ _ (tieD_noLs _) (dxs (e2.trans e3) p3)) (DpAll.one (Dp.tx hT (tieD (r, m, turn n r m)) _ rfl hv3))
      · refine ⟨p1.trans e2, ⟨xs, e2 _ _ p2, ?_⟩, _, rfl⟩
        rw [tiesIn_yes (by rw [← Bool.not_not (yes n r m), hb]; rfl)]
        exact dxs e2 p3
    · obtain ⟨p1, ⟨xs, p2, p3⟩, o3, rfl⟩ := p
      refine ⟨p1, ⟨xs, p2, ?_⟩, _, _, rfl⟩
      rw [tiesUp_succ]
      exact p3
  · obtain ⟨p1, ⟨xs, p2, p3⟩, o2, o3, rfl⟩ := p
    exact s_ret (ev_var rfl) fun H5 e5 => q l _ H5 hl (p1.trans e5) (e5 _ _ p2) (dxs e5 p3)
end
end K41
set_option Elab.async false
set_option linter.all false
set_option maxRecDepth 100000
set_option maxHeartbeats 5000000
namespace K41
open PySem PySem.Spec PyProof.Rows L2 Evl
section
variable {P : Program} {w : World} {K : PySem.W.Frag} {mg : Str → Option Value} {base : Heap}
theorem ints_sub (c : List Int) (i : Nat) : (c.map V.int).set i (.int (c.getD i 0 - 1)) = (subAt c i).map V.int := by
  unfold subAt
  rw [List.map_set]
theorem leftD_noLs (n : Nat) (ts : List Tie) (is : List Nat) : noLs (is.map fun i => PyData.tuple (encI (leftAt n ts i))) = true := noLs_all fun d hd => by
  obtain ⟨t, _, rfl⟩ := List.mem_map.mp hd
  exact encI_noL _
theorem q_opA {D : Ends} {tz : TS} {r : R2} {ta tb : TE} {i : Nat} {σ : L2.St} {H : Hp} (h : ta σ H fun x H1 => tb σ H1 fun y H2 => r x y H2 fun v H3 => tz D (σ.set i (some v)) H3) : tSeq (tAsg (tOp r ta tb) (gName i)) tz D σ H := h
theorem ok_ties_left (T : Txt K mg) : Cal P w K mg base "ties_left" 1 ["book", "ties"] [] (spBL K mg RtiesLeft) := by
  refine T.d_ties_left.ok sc_ties_left (fun _ _ _ _ _ _ us hl => match us, hl with | [_, _], _ => rfl) (fun vs H Q E h => by obtain ⟨b, n, us, ds, d, rfl, B, hu, n1, n3, ⟨ts, rfl, _⟩, _⟩ := h; obtain ⟨x, rfl, _⟩ := all1 hu; rfl) (fun f cdv A outer s H vs Q E hr h => ?_)
  obtain ⟨b, n, us, ds, d, rfl, B, hu, n1, n3, ⟨ts, rfl, tl, tok, rfl⟩, q⟩ := h
  obtain ⟨x, rfl, h1⟩ := all1 hu
  obtain ⟨at', xt, rfl, hs, ha⟩ := h1.lstV
  refine ⟨_, (pss_cons (ps_set (i := 2) sc_ties_left.nd rfl (by first | exact Or.inl rfl | exact Or.inr rfl) (pe_lst pa_nil))
      (pss_cons (ps_set (i := 3) sc_ties_left.nd rfl (by first | exact Or.inl rfl | exact Or.inr rfl) (pe_op op_rep (pe_lst (pa_cons (pe_fldK (K := K) rfl (pv 0 (hd := nd_book) (hcd := nc_book)) rfl) pa_nil)) (pe_ix (ix_tupK (K := K) rfl) (pe_gTK (K := K) rfl T.c_POWERS (by rfl) nd_POWERS) (pe_fldK (K := K) rfl (pv 0 (hd := nd_book) (hcd := nc_book)) rfl) (fun _ _ => rfl))))
      (pss_cons (ps_expr (bmK (K := K) rfl (pe_bm PySem.F.plainAttrs_list PySem.F.slot_list_append PySem.F.type_list_append mt_append (pv 2 (hd := nd_found) (hcd := nc_found)) (pa_cons (pe_callTy (call_tupK (K := K) rfl) (by rfl) T.z_tuple bt_tuple (pa_cons (pv 3 (hd := nd_left) (hcd := nc_left)) pa_nil) (hn := nn_tuple) (hdb := nd_tuple)) pa_nil))))
      (pss_cons (ps_for PassesOwn.never rfl (pi_listK (K := K) rfl (pv 1 (hd := nd_ties) (hcd := nc_ties))) (pg_name (i := 4) sc_ties_left.nd rfl (by first | exact Or.inl rfl | exact Or.inr rfl))
        (pss_cons (ps_augS (pv 3 (hd := nd_left) (hcd := nc_left)) (pe_ix (ix_tupK (K := K) rfl) (pv 4 (hd := nd_tie) (hcd := nc_tie)) pe_int (fun _ _ => rfl)) get_list pe_int ip_sub set_list)
        (pss_cons (ps_augS (pv 3 (hd := nd_left) (hcd := nc_left)) (pe_ix (ix_tupK (K := K) rfl) (pv 4 (hd := nd_tie) (hcd := nc_tie)) pe_int (fun _ _ => rfl)) get_list pe_int ip_sub set_list)
        (pss_one (ps_expr (bmK (K := K) rfl (pe_bm PySem.F.plainAttrs_list PySem.F.slot_list_append PySem.F.type_list_append mt_append (pv 2 (hd := nd_found) (hcd := nc_found)) (pa_cons (pe_callTy (call_tupK (K := K) rfl) (by rfl) T.z_tuple bt_tuple (pa_cons (pv 3 (hd := nd_left) (hcd := nc_left)) pa_nil) (hn := nn_tuple) (hdb := nd_tuple)) pa_nil))))))))
      (pss_one (ps_ret (pv 2 (hd := nd_found) (hcd := nc_found)))))))), ?_⟩
  have hp := two_pow_pos n
  have hp2 : 2 ^ n ≤ 8 := by
    have : 2 ^ n ≤ 2 ^ 3 := Nat.pow_le_pow_right (by decide) n3
    omega
  refine q_asgDL (K := K) (evdl_lst evds_nil (by simp)) fun l xs H1 hl e1 g1 hd1 => ?_
  cases hd1
  have LT : ∀ {c : Addr} {ys : List Int} {G : Hp} {σ' : L2.St}, σ'[3]? = some (some (.ref c)) → G c = some (.lst (ys.map V.int)) → EvD K (tCB (rTupOf K) (tCons (tVar 3) tNil)) σ' G (.tuple (encI ys)) := fun h3 hc => evd_cb (evds_cons (evd_var h3 (.lst (SqL.of hc) (DpAll.ints _))) evds_nil) rq_tup
  refine q_opA ?_
  refine (evdl_lst (K := K) (σ := [some (.ref b), some (.ref at'), some (.ref l), none, none]) (H := H1) (ds := [.int (n : Int)]) (evds_cons (ev_bMany (B.ex' e1) (ev_var (i := 0) rfl)) evds_nil) (by simp)) H1 (Ex.refl _) _ fun m ys H2 hm e2 g2 hd2 => ?_
  refine (ev_pow (K := K) (σ := [some (.ref b), some (.ref at'), some (.ref l), none, none]) (k := n) (ev_bMany (B.ex' (e1.trans e2)) (ev_var (i := 0) rfl)) rfl (by omega)) H2 (Ex.refl _) _ fun v H3 e3 hv => ?_
  have eys : ys = [(n : Int)].map V.int := DpAll.intsV hd2
  subst eys
  refine ⟨m, ((2 ^ n : Nat) : Int), _, rfl, hv.intV, e3 _ _ g2, by omega, by omega, ?_, fun c hc => ?_⟩
  · rw [Int.toNat_natCast]
    show 1 * 2 ^ n ≤ sizeLine
    have : 100 ≤ sizeLine := by decide
    omega
  have er : (List.replicate ((2 ^ n : Nat) : Int).toNat ([(n : Int)].map V.int)).flatten = (leftAt n ts 0).map V.int := by
    rw [Int.toNat_natCast]
    show _ = (List.replicate (2 ^ n) (n : Int)).map V.int
    generalize 2 ^ n = k
    induction k with
    | zero => rfl
    | succ k ih =>
      rw [List.replicate_succ, List.replicate_succ, List.flatten_cons, ih]
      rfl
  rw [er]
  have e5 : Ex H1 (upd H3 c (.lst ((leftAt n ts 0).map V.int))) := (e2.trans e3).trans (Ex.new hc)
  have l5 := e5 _ _ g1
  have nlc : l ≠ c := ne_of_none ((e2.trans e3) _ _ g1) hc
  have cH : H c = none := fresh_back (e1.trans (e2.trans e3)) hc
  refine q_appD (K := K) l5 (ev_var rfl) (LT rfl upd_same) (by simp) fun v6 H6 e6 hv6 => ?_
  refine q_for (src_lstA (K := K) (ev_var rfl) (ex_l (Ex.mut ((e1.trans e5).trans e6) hl) hs) (dxs (Ex.mut ((e1.trans e5).trans e6) hl) ha) (tieD_noLs ts))
    (fun H7 i σ' G => Ex H G ∧ Tx K H7 G ∧ (∃ xs, G l = some (.lst xs) ∧ DpAll K G xs ((List.range (i + 1)).map fun i => .tuple (encI (leftAt n ts i)))) ∧ G c = some (.lst ((leftAt n ts i).map V.int)) ∧ ∃ o4, σ' = [some (.ref b), some (.ref at'), some (.ref l), some (.ref c), o4])
    (fun H7 e7 => ⟨(Ex.mut ((e1.trans e5).trans e6) hl).trans e7, Tx.refl, ⟨_, e7 _ _ upd_same, dxs e7 (DpAll.one (Dp.tx (Tx.updL (e6 _ _ l5)) _ _ (encI_noL _) hv6))⟩, e7 _ _ (by rw [upd_ne (Ne.symm nlc)]; exact e6 _ _ upd_same), _, rfl⟩) (fun H7 i σ' G _ p => ⟨p.2.1, ex_l p.1 hs⟩)
    (fun H3 i σ' Hi Hi' ⟨p1, p2, ⟨xs, p3, p4⟩, p5, p6⟩ e => ⟨p1.trans e, p2.trans (Ex.tx e), ⟨xs, e _ _ p3, dxs e p4⟩, e _ _ p5, p6⟩) (fun H7 i σ' Hi v hi pv hv => ?_) (fun H7 σ' G pv => ?_)
  · obtain ⟨p1, p2, ⟨xs, p3, p4⟩, p5, o4, rfl⟩ := pv
    have hi' : i < ts.length := by rw [List.length_map] at hi; exact hi
    rw [tieD_getD hi'] at hv
    obtain ⟨k1, k2, k3⟩ := okTie_iff (tok _ (getD_mem (z := (0, 0, 0)) hi'))
    have ll := leftAt_len n ts i
    refine q_augD (K := K) (j := (ts.getD i (0, 0, 0)).1) (a := (leftAt n ts i).getD (ts.getD i (0, 0, 0)).1 0) (b := 1) (f := (· - ·)) p5 (ev_var rfl) (evd_op (evd_var rfl hv) evd_int (rd_ixT (j := 0) rfl)) (intsV_get (by rw [ll]; exact k1)) evd_int fun G2 x2 => ?_
    rw [ints_sub]
    have x3 : Ex H (upd G2 c (.lst ((subAt (leftAt n ts i) (ts.getD i (0, 0, 0)).1).map V.int))) := Ex.mut (p1.trans x2) cH
    have t3 : Tx K Hi (upd G2 c (.lst ((subAt (leftAt n ts i) (ts.getD i (0, 0, 0)).1).map V.int))) := (Ex.tx x2).trans (Tx.updL (x2 _ _ p5))
    have hv3 := Dp.tx t3 (tieD _) _ rfl hv
    refine q_augD (K := K) (j := (ts.getD i (0, 0, 0)).2.2) (a := (subAt (leftAt n ts i) (ts.getD i (0, 0, 0)).1).getD (ts.getD i (0, 0, 0)).2.2 0) (b := 1) (f := (· - ·)) upd_same (ev_var rfl) (evd_op (evd_var rfl hv3) evd_int (rd_ixT (j := 2) rfl)) (intsV_get (by rw [subAt_len, ll]; exact k3)) evd_int fun G4 x4 => ?_
    rw [ints_sub]
    have x5 : Ex H (upd G4 c (.lst ((leftAt n ts (i + 1)).map V.int))) := Ex.mut (x3.trans x4) cH
    have t5 : Tx K Hi (upd G4 c (.lst ((leftAt n ts (i + 1)).map V.int))) := t3.trans ((Ex.tx x4).trans (Tx.updL (x4 _ _ upd_same)))
    have l7 : upd G4 c (.lst ((leftAt n ts (i + 1)).map V.int)) l = some (.lst xs) := by
      rw [upd_ne nlc]
      refine x4 _ _ ?_
      rw [upd_ne nlc]
      exact x2 _ _ p3
    have hl4 := DpAll.length p4
    refine s_appD (K := K) l7 (ev_var rfl) (LT rfl upd_same) (by rw [hl4, List.length_map, List.length_range]; omega) fun v8 G8 x8 hv8 => ?_
    have t9 : Tx K G8 (upd G8 l (.lst (xs ++ [v8]))) := Tx.updL (x8 _ _ l7)
    refine ⟨Ex.mut (x5.trans x8) hl, p2.trans (t5.trans ((Ex.tx x8).trans t9)), ⟨_, upd_same, ?_⟩, ?_, _, rfl⟩
    · rw [List.range_succ, List.map_append]
      exact DpAll.append (DpAll.tx (t5.trans ((Ex.tx x8).trans t9)) _ _ (leftD_noLs n ts _) p4) (DpAll.one (Dp.tx t9 _ _ (encI_noL _) hv8))
    · rw [upd_ne (Ne.symm nlc)]
      exact x8 _ _ upd_same
  · obtain ⟨p1, p2, ⟨xs, p3, p4⟩, p5, o4, rfl⟩ := pv
    rw [List.length_map] at p4
    exact s_ret (ev_var rfl) fun H5 e5 => q l _ H5 hl (p1.trans e5) (e5 _ _ p3) (dxs e5 p4)
end
end K41
set_option Elab.async false
set_option linter.all false
set_option maxRecDepth 100000
set_option maxHeartbeats 5000000
namespace K41
open PySem PySem.Spec PyProof.Rows L2 Evl
section
variable {P : Program} {w : World} {K : PySem.W.Frag} {mg : Str → Option Value} {base : Heap}
theorem ok_keeps_duty (T : Txt K mg) : Cal P w K mg base "keeps_duty" 1 ["duty", "one", "other"] [] (spD K RkeepsDuty) := by
  refine T.d_keeps_duty.ok sc_keeps_duty (fun _ _ _ _ _ _ us hl => match us, hl with | [_, _, _], _ => rfl) (len_D (by rintro ds d ⟨a, b, rfl, _⟩; rfl)) (fun f cdv A outer s H vs Q E hr h => ?_)
  obtain ⟨ds, d, hd, ⟨a, b, rfl, rfl⟩, k⟩ := h
  obtain ⟨x, y, z, rfl, h1, h2, h3⟩ := all3 hd
  refine ⟨_, (pss_cons (ps_if (pt_cmpR op_eq (pv 0 (hd := nd_duty) (hcd := nc_duty)) pe_str (nomark _)) (pss_one (ps_ret (pe_cmpR op_eq (pv 1 (hd := nd_one) (hcd := nc_one)) (pv 2 (hd := nd_other) (hcd := nc_other)) (nomark _))))
      pss_nil)
      (pss_one (ps_ret (pe_or (pe_cmpR op_eq (pv 0 (hd := nd_duty) (hcd := nc_duty)) pe_str (nomark _)) (pe_one (pe_cmpR op_ne (pv 1 (hd := nd_one) (hcd := nc_one)) (pv 2 (hd := nd_other) (hcd := nc_other)) (nomark _))))))), ?_⟩
  refine q_when (b := true) (et_D (evd_is (evd_op (evd_var rfl (by first | assumption | exact .int _ | exact .bl _ | exact .str _ | exact .non)) evd_str rd_eqS) (congrArg PyData.bool (decide_eq_true rfl)))) (fun _ H1 e1 => ?_) (fun q => nomatch q)
  exact s_retD (evd_op (evd_var rfl (dx e1 h2)) (evd_var rfl (dx e1 h3)) rd_eqB) fun v H2 e2 hv => k v H2 (e1.trans e2) hv
end
end K41
set_option Elab.async false
set_option linter.all false
set_option maxRecDepth 100000
set_option maxHeartbeats 5000000
namespace K41
open PySem PySem.Spec PyProof.Rows L2 Evl
section
variable {P : Program} {w : World} {K : PySem.W.Frag} {mg : Str → Option Value} {base : Heap}
theorem ok_lets (T : Txt K mg) : Cal P w K mg base "lets" 1 ["sign", "flag"] [] (spD K Rlets) := by
  refine T.d_lets.ok sc_lets (fun _ _ _ _ _ _ us hl => match us, hl with | [_, _], _ => rfl) (len_D (by rintro ds d ⟨k, rfl, _⟩; rfl)) (fun f cdv A outer s H vs Q E hr h => ?_)
  obtain ⟨ds, d, hd, ⟨b, rfl, rfl⟩, q⟩ := h
  obtain ⟨x, y, rfl, h1, h2⟩ := all2 hd
  refine ⟨_, (pss_one (ps_ret (pe_or (pe_cmpR op_eq (pv 0 (hd := nd_sign) (hcd := nc_sign)) pe_str (nomark _)) (pe_one (pe_cmpR op_eq (pe_cmpR op_eq (pv 0 (hd := nd_sign) (hcd := nc_sign)) pe_str (nomark _)) (pv 1 (hd := nd_flag) (hcd := nc_flag)) (nomark _)))))), ?_⟩
  exact s_retD (K := K) (evd_is (evd_or (a := true) (b := true) (evd_is (evd_op (evd_var rfl h1) evd_str rd_eqS) (congrArg PyData.bool (decide_eq_true rfl))) (fun z => nomatch z)) rfl) fun v H1 e1 hv => q v H1 e1 hv
end
end K41
set_option Elab.async false
set_option linter.all false
set_option maxRecDepth 100000
set_option maxHeartbeats 5000000
namespace K41
open PySem PySem.Spec PyProof.Rows L2 Evl
section
variable {P : Program} {w : World} {K : PySem.W.Frag} {mg : Str → Option Value} {base : Heap}
theorem rd_sign {c n i : Nat} {H : Hp} (h : i < n) (hn : n ≤ 1000) : RD K rIxS (.str (rep1 c n)) (.int (i : Int)) H (.str ⟨#[c]⟩) := fun vx vy H1 e dx' dy Q q => by
  refine ⟨rep1 c n, i, c, dx'.strV, dy.intV, sz_of (by rw [rep1_len]; omega), ?_, q _ H1 (Ex.refl _) (.str _)⟩
  refine atI_n ?_
  unfold rep1
  simp [h]
def fils (i j : Nat) : List PyData := ((List.range i).map fun a => filD (decide (a = 1)) (decide (a = 1))) ++ (if i < j then [filD (decide (i = 1)) (decide (i = 1))] else [])
theorem fils_noL : ∀ i j, noLs (fils i j) = true := fun i j => noLs_all fun d hd => by
  unfold fils at hd
  rcases List.mem_append.mp hd with m | m
  · obtain ⟨a, _, rfl⟩ := List.mem_map.mp m
    rfl
  · split at m
    · rw [List.mem_singleton] at m
      rw [m]; rfl
    · cases m
theorem bl_item {i : Nat} (h : i < 2) : ([PyData.bool false, .bool true]).getD i .none = .bool (decide (i = 1)) := by
  have : i = 0 ∨ i = 1 := by omega
  rcases this with e | e <;> (subst e; rfl)
theorem ok_fillings (T : Txt K mg) : Cal P w K mg base "fillings" 2 ["book", "tie"] [] (spBL K mg Rfillings) := by
  refine T.d_fillings.ok sc_fillings (fun _ _ _ _ _ _ us hl => match us, hl with | [_, _], _ => rfl) (fun vs H Q E h => by obtain ⟨b, n, us, ds, d, rfl, B, hu, n1, n3, ⟨ts, rfl, _⟩, _⟩ := h; obtain ⟨x, rfl, _⟩ := all1 hu; rfl) (fun f cdv A outer s H vs Q E hr h => ?_)
  obtain ⟨b, n, us, ds, d, rfl, B, hu, n1, n3, ⟨t, rfl, ht, rfl⟩, q⟩ := h
  obtain ⟨x, rfl, h1⟩ := all1 hu
  obtain ⟨t1, t2, t3⟩ := okTie_iff ht
  refine ⟨_, (pss_cons (ps_asg (pv 1 (hd := nd_tie) (hcd := nc_tie)) (pg_tupK (K := K) rfl rfl (pgs_cons (pg_name (i := 2) sc_fillings.nd rfl (by first | exact Or.inl rfl | exact Or.inr rfl)) (pgs_cons (pg_name (i := 3) sc_fillings.nd rfl (by first | exact Or.inl rfl | exact Or.inr rfl)) (pgs_cons (pg_name (i := 4) sc_fillings.nd rfl (by first | exact Or.inl rfl | exact Or.inr rfl)) pgs_nil)))))
      (pss_cons (ps_set (i := 5) sc_fillings.nd rfl (by first | exact Or.inl rfl | exact Or.inr rfl) (pe_lst pa_nil))
      (pss_cons (ps_for PassesOwn.never rfl (pi_tupK (K := K) rfl (pe_tup (pa_cons pe_bl (pa_cons pe_bl pa_nil)))) (pg_name (i := 6) sc_fillings.nd rfl (by first | exact Or.inl rfl | exact Or.inr rfl))
        (pss_one (ps_for PassesOwn.never rfl (pi_tupK (K := K) rfl (pe_tup (pa_cons pe_bl (pa_cons pe_bl pa_nil)))) (pg_name (i := 7) sc_fillings.nd rfl (by first | exact Or.inl rfl | exact Or.inr rfl))
          (pss_one (ps_if (PW.pt (pw_and (pt_val (pe_cal (ok_lets T) (hr.mono (by decide)) (by rfl) (pa_cons (pe_ix ix_str (pe_ix (ix_tupK (K := K) rfl) (pe_fldK (K := K) rfl (pv 0 (hd := nd_book) (hcd := nc_book)) rfl) (pv 2 (hd := nd_row) (hcd := nc_row)) (fun _ _ => rfl)) (pv 3 (hd := nd_member) (hcd := nc_member)) (fun _ _ => rfl)) (pa_cons (pv 6 (hd := nd_one) (hcd := nc_one)) pa_nil)) (hdb := nd_lets))) (pw_and1 (pt_val (pe_cal (ok_lets T) (hr.mono (by decide)) (by rfl) (pa_cons (pe_ix ix_str (pe_ix (ix_tupK (K := K) rfl) (pe_fldK (K := K) rfl (pv 0 (hd := nd_book) (hcd := nc_book)) rfl) (pv 4 (hd := nd_other) (hcd := nc_other)) (fun _ _ => rfl)) (pv 3 (hd := nd_member) (hcd := nc_member)) (fun _ _ => rfl)) (pa_cons (pv 7 (hd := nd_two) (hcd := nc_two)) pa_nil)) (hdb := nd_lets)))))) (pss_one (ps_if (pt_val (pe_cal (ok_keeps_duty T) (hr.mono (by decide)) (by rfl) (pa_cons (pe_ix ix_str (pe_fldK (K := K) rfl (pv 0 (hd := nd_book) (hcd := nc_book)) rfl) (pv 3 (hd := nd_member) (hcd := nc_member)) (fun _ _ => rfl)) (pa_cons (pv 6 (hd := nd_one) (hcd := nc_one)) (pa_cons (pv 7 (hd := nd_two) (hcd := nc_two)) pa_nil))) (hdb := nd_keeps_duty))) (pss_one (ps_expr (bmK (K := K) rfl (pe_bm PySem.F.plainAttrs_list PySem.F.slot_list_append PySem.F.type_list_append mt_append (pv 5 (hd := nd_found) (hcd := nc_found)) (pa_cons (pe_tup (pa_cons (pv 6 (hd := nd_one) (hcd := nc_one)) (pa_cons (pv 7 (hd := nd_two) (hcd := nc_two)) pa_nil))) pa_nil)))))
            pss_nil))
          pss_nil)))))
      (pss_one (ps_ret (pv 5 (hd := nd_found) (hcd := nc_found))))))), ?_⟩
  refine q_tup3 (K := K) (evd_var rfl h1) fun x1 x2 x3 H1 e1 y1 y2 y3 => ?_
  rw [y1.intV, y2.intV, y3.intV]
  refine q_asgDL (K := K) (evdl_lst evds_nil (by simp)) fun l xs H2 hl e2 g2 hd2 => ?_
  cases hd2
  have src : ∀ {G : Hp} {σ' : L2.St}, SrcD K (iTup K (tTup (tCons (tC (.bl false)) (tCons (tC (.bl true)) tNil)))) σ' G 2 (fun i => ([PyData.bool false, .bool true]).getD i .none) (Tx K) := src_tup (ss := [.bool false, .bool true]) (evd_tup (evds_cons evd_bl (evds_cons evd_bl evds_nil)) (by simp)) rfl
  have hl0 : H l = none := fresh_back e1 hl
  refine q_for src (fun H3 i σ' G => Ex H G ∧ Tx K H3 G ∧ (∃ xs, G l = some (.lst xs) ∧ DpAll K G xs (fils i 0)) ∧ ∃ o6 o7, σ' = [some (.ref b), some x, some (.int (t.1 : Int)), some (.int (t.2.1 : Int)), some (.int (t.2.2 : Int)), some (.ref l), o6, o7])
    (fun G e => ⟨(e1.trans e2).trans e, Tx.refl, ⟨[], e _ _ g2, .nil⟩, _, _, rfl⟩) (fun _ _ _ _ _ p => p.2.1) (fun H3 i σ' G G' ⟨p1, p2, ⟨xs, p3, p4⟩, p5⟩ e => ⟨p1.trans e, p2.trans (Ex.tx e), ⟨xs, e _ _ p3, dxs e p4⟩, p5⟩) (fun H3 i σ' G v hi p hv => ?_) (fun H3 σ' G p => ?_)
  · obtain ⟨p1, p2, ⟨xs, p3, p4⟩, o6, o7, rfl⟩ := p
    rw [bl_item hi] at hv
    rw [hv.blV]
    refine s_for src (fun H4 j σ' G => Ex H G ∧ Tx K H3 G ∧ Tx K H4 G ∧ (∃ xs, G l = some (.lst xs) ∧ DpAll K G xs (fils i j)) ∧ ∃ o7, σ' = [some (.ref b), some x, some (.int (t.1 : Int)), some (.int (t.2.1 : Int)), some (.int (t.2.2 : Int)), some (.ref l), some (.bl (decide (i = 1))), o7])
      (fun G e => ⟨p1.trans e, p2.trans (Ex.tx e), Tx.refl, ⟨xs, e _ _ p3, dxs e p4⟩, _, rfl⟩) (fun _ _ _ _ _ p => p.2.2.1) (fun H4 j σ' G G' ⟨p1, p2, p2', ⟨xs, p3, p4⟩, p5⟩ e => ⟨p1.trans e, p2.trans (Ex.tx e), p2'.trans (Ex.tx e), ⟨xs, e _ _ p3, dxs e p4⟩, p5⟩) (fun H4 j σ' G v hj p hv => ?_) (fun H4 σ' G p => ?_)
    · obtain ⟨p1, p2, p2', ⟨xs, p3, p4⟩, o7, rfl⟩ := p
      rw [bl_item hj] at hv
      rw [hv.blV]
      have B1 := B.ex' p1
      have mk : ∀ {G' : Hp} {k : Nat} {y : Nat}, Ex G G' → ([some (.ref b), some x, some (.int (t.1 : Int)), some (.int (t.2.1 : Int)), some (.int (t.2.2 : Int)), some (.ref l), some (.bl (decide (i = 1))), some (.bl (decide (j = 1)))] : L2.St)[k]? = some (some (.int (y : Int))) → y < 2 ^ n →
          EvD K (tOp rIxS (tOp (rIxT K) (tFld K (tVar 0) "marks") (tVar k)) (tVar 3)) [some (.ref b), some x, some (.int (t.1 : Int)), some (.int (t.2.1 : Int)), some (.int (t.2.2 : Int)), some (.ref l), some (.bl (decide (i = 1))), some (.bl (decide (j = 1)))] G' (.str ".") := fun e hk hy => by
        refine evd_is (evd_op (evd_op (ev_bMarks (B1.ex' e) (ev_var rfl)) (evd_var hk (.int _)) (rd_ixT (z := .str (rep1 46 n)) ?_)) (evd_var rfl (.int (t.2.1 : Int))) (rd_sign t2 (by omega))) (congrArg PyData.str str_dot.symm)
        unfold mrkD
        rw [List.getElem?_replicate, if_pos hy]
      refine s_when (b := true && true) (et_and (et_DB (evd_call (evds_cons (mk (Ex.refl _) rfl t1) (evds_cons (evd_var rfl (.bl (decide (i = 1)))) evds_nil)) ⟨_, rfl, rfl⟩)) fun _ => et_DB (evd_call (evds_cons (mk (Ex.refl _) rfl t3) (evds_cons (evd_var rfl (.bl (decide (j = 1)))) evds_nil)) ⟨_, rfl, rfl⟩)) (fun _ G2 x2 => ?_) (fun z => nomatch z)
      refine s_when (b := decide (decide (i = 1) = decide (j = 1))) (et_DB (evd_call (evds_cons (evd_is (evd_op (ev_bDuties (B1.ex' x2) (ev_var rfl)) (evd_var rfl (.int (t.2.1 : Int))) (rd_sign t2 (by omega))) (congrArg PyData.str str_n.symm)) (evds_cons (evd_var rfl (.bl (decide (i = 1)))) (evds_cons (evd_var rfl (.bl (decide (j = 1)))) evds_nil))) ⟨_, _, rfl, rfl⟩)) (fun hb G3 x3 => ?_) (fun hb G3 x3 => ?_)
      · have ij : i = j := by
          have h1 := of_decide_eq_true hb
          have : i = 0 ∨ i = 1 := by omega
          have : j = 0 ∨ j = 1 := by omega
          rcases ‹i = 0 ∨ i = 1› with e | e <;> rcases ‹j = 0 ∨ j = 1› with e' | e' <;> subst e <;> subst e' <;> first | rfl | exact absurd h1 (by decide)
        subst ij
        have l3 := (x2.trans x3) _ _ p3
        have hl4 := DpAll.length p4
        refine s_appD (K := K) l3 (ev_var rfl) (evd_tup (evds_cons (evd_var rfl (.bl (decide (i = 1)))) (evds_cons (evd_var rfl (.bl (decide (i = 1)))) evds_nil)) (by simp)) (by rw [hl4]; unfold fils; rw [if_neg (by omega), List.length_append, List.length_map, List.length_range]; exact Nat.lt_of_lt_of_le (Nat.lt_succ_of_le (Nat.le_refl _)) (by show i + 0 + 1 ≤ 100000; omega)) fun v8 G8 x8 hv8 => ?_
        have t9 : Tx K G8 (upd G8 l (.lst (xs ++ [v8]))) := Tx.updL (x8 _ _ l3)
        have t8 : Tx K G (upd G8 l (.lst (xs ++ [v8]))) := (Ex.tx ((x2.trans x3).trans x8)).trans t9
        refine ⟨Ex.mut (p1.trans ((x2.trans x3).trans x8)) hl0, p2.trans t8, p2'.trans t8, ⟨_, upd_same, ?_⟩, _, rfl⟩
        have ef : fils i (i + 1) = fils i i ++ [filD (decide (i = 1)) (decide (i = 1))] := by
          unfold fils
          rw [if_pos (by omega), if_neg (by omega), List.append_nil]
        rw [ef]
        exact DpAll.append (DpAll.tx t8 _ _ (fils_noL _ _) p4) (DpAll.one (Dp.tx t9 (filD _ _) _ rfl hv8))
      · have ij : i ≠ j := fun e => by
          rw [e] at hb
          exact absurd hb (by simp)
        have ef : fils i (j + 1) = fils i j := by
          unfold fils
          have same : (i < j + 1) = (i < j) := propext ⟨fun _ => by omega, fun _ => by omega⟩
          simp only [same]
        refine ⟨p1.trans (x2.trans x3), p2.trans (Ex.tx (x2.trans x3)), p2'.trans (Ex.tx (x2.trans x3)), ⟨xs, (x2.trans x3) _ _ p3, ?_⟩, _, rfl⟩
        rw [ef]
        exact dxs (x2.trans x3) p4
    · obtain ⟨p1, p2, p2', ⟨xs, p3, p4⟩, o7, rfl⟩ := p
      refine ⟨p1, p2, ⟨xs, p3, ?_⟩, _, _, rfl⟩
      have ef : fils (i + 1) 0 = fils i 2 := by
        unfold fils
        have hi' : i < 2 := hi
        rw [if_neg (by omega), if_pos hi', List.append_nil, List.range_succ, List.map_append]
        rfl
      rw [ef]
      exact p4
  · obtain ⟨p1, p2, ⟨xs, p3, p4⟩, o6, o7, rfl⟩ := p
    exact s_ret (ev_var rfl) fun H5 e5 => q l _ H5 hl0 (p1.trans e5) (e5 _ _ p3) (dxs e5 p4)
end
end K41
set_option Elab.async false
set_option linter.all false
set_option maxRecDepth 100000
set_option maxHeartbeats 5000000
namespace K41
open PySem PySem.Spec PyProof.Rows L2 Evl
section
variable {P : Program} {w : World} {K : PySem.W.Frag} {mg : Str → Option Value} {base : Heap}
theorem ints_set (c : List Int) (i : Nat) (x : Int) : (c.map V.int).set i (.int (c.getD i 0 + x)) = (addAt c i x).map V.int := by
  unfold addAt
  rw [List.map_set]
/-- a new tuple that is tracked -/
def spFil (K : PySem.W.Frag) : Sp := fun vs H Q _ => ∃ (p : List Int) (t : Tie) (a b : Bool), DpAll K H vs [.tuple (encI p), tieD t, filD a b] ∧ t.1 < p.length ∧ t.2.2 < p.length ∧ p.length ≤ 256 ∧ ∀ q H', Ex H H' → H' q = some (.tup ((fillP p t a b).map V.int)) → Q (.ref q) H'
theorem evd_fil {K : PySem.W.Frag} {σ : L2.St} {H : Hp} {E : XK} {tr : TA} {ds : List PyData} {p : List Int} {t : Tie} {a b : Bool} (h : EvDs K tr σ H ds) (hd : ds = [.tuple (encI p), tieD t, filD a b]) (h1 : t.1 < p.length) (h2 : t.2.2 < p.length) (h3 : p.length ≤ 256) : EvD K (tCall (spFil K) [] E tr) σ H (.tuple (encI (fillP p t a b))) := fun H1 e Q q =>
  h H1 e _ fun us H2 e2 hu => ⟨p, t, a, b, by rw [List.append_nil, ← hd]; exact hu, h1, h2, h3, fun r H3 e3 hr => q _ H3 (e2.trans e3) (.tup (SqT.of hr) (DpAll.ints _))⟩
theorem ok_filled (T : Txt K mg) : Cal P w K mg base "filled" 1 ["many", "tie", "filling"] [] (spFil K) := by
  refine T.d_filled.ok sc_filled (fun _ _ _ _ _ _ us hl => match us, hl with | [_, _, _], _ => rfl) (fun vs H Q E h => by obtain ⟨p, t, a, b, hd, _⟩ := h; exact DpAll.length hd) (fun f cdv A outer s H vs Q E hr h => ?_)
  obtain ⟨p, t, a, b, hd, t1, t2, pl, q⟩ := h
  obtain ⟨x, y, z, rfl, h1, h2, h3⟩ := all3 hd
  refine ⟨_, (pss_cons (ps_set (i := 3) sc_filled.nd rfl (by first | exact Or.inl rfl | exact Or.inr rfl) (pe_callTy (call_lstK (K := K) rfl) (by rfl) T.z_list bt_list (pa_cons (pv 0 (hd := nd_many) (hcd := nc_many)) pa_nil) (hn := nn_list) (hdb := nd_list)))
      (pss_cons (ps_augS (pv 3 (hd := nd_found) (hcd := nc_found)) (pe_ix (ix_tupK (K := K) rfl) (pv 1 (hd := nd_tie) (hcd := nc_tie)) pe_int (fun _ _ => rfl)) get_list (pe_callTy call_intK (by rfl) T.z_int bt_int (pa_cons (pe_ix (ix_tupK (K := K) rfl) (pv 2 (hd := nd_filling) (hcd := nc_filling)) pe_int (fun _ _ => rfl)) pa_nil) (hn := nn_int) (hdb := nd_int)) ip_add set_list)
      (pss_cons (ps_augS (pv 3 (hd := nd_found) (hcd := nc_found)) (pe_ix (ix_tupK (K := K) rfl) (pv 1 (hd := nd_tie) (hcd := nc_tie)) pe_int (fun _ _ => rfl)) get_list (pe_callTy call_intK (by rfl) T.z_int bt_int (pa_cons (pe_ix (ix_tupK (K := K) rfl) (pv 2 (hd := nd_filling) (hcd := nc_filling)) pe_int (fun _ _ => rfl)) pa_nil) (hn := nn_int) (hdb := nd_int)) ip_add set_list)
      (pss_one (ps_ret (pe_callTy (call_tupK (K := K) rfl) (by rfl) T.z_tuple bt_tuple (pa_cons (pv 3 (hd := nd_found) (hcd := nc_found)) pa_nil) (hn := nn_tuple) (hdb := nd_tuple))))))), ?_⟩
  refine q_asgDL (evdq_listT (evd_var rfl h1)) fun l xs H1 hl e1 g1 hd1 => ?_
  have exs := DpAll.intsV hd1
  subst exs
  refine q_augD (K := K) (j := t.1) (a := p.getD t.1 0) (b := bI a) (f := (· + ·)) g1 (ev_var rfl) (evd_op (evd_var rfl (dx e1 h2)) evd_int (rd_ixT (j := 0) rfl)) (intsV_get t1) (evd_cb (evds_cons (evd_op (evd_var rfl (dx e1 h3)) evd_int (rd_ixT (j := 0) (z := .bool a) rfl)) evds_nil) rq_intB) fun H2 e2 => ?_
  rw [ints_set]
  have e3 : Ex H (upd H2 l (.lst ((addAt p t.1 (bI a)).map V.int))) := Ex.mut (e1.trans e2) hl
  refine q_augD (K := K) (j := t.2.2) (a := (addAt p t.1 (bI a)).getD t.2.2 0) (b := bI b) (f := (· + ·)) upd_same (ev_var rfl) (evd_op (evd_var rfl (dx e3 h2)) evd_int (rd_ixT (j := 2) rfl)) (intsV_get (by rw [addAt_len]; exact t2)) (evd_cb (evds_cons (evd_op (evd_var rfl (dx e3 h3)) evd_int (rd_ixT (j := 1) (z := .bool b) rfl)) evds_nil) rq_intB) fun H4 e4 => ?_
  rw [ints_set]
  have e5 : Ex H (upd H4 l (.lst ((fillP p t a b).map V.int))) := Ex.mut (e3.trans e4) hl
  exact ⟨_, rfl, l, _, rfl, Or.inl ⟨SqL.of upd_same, fun r hr => q r _ (e5.trans (Ex.new hr)) upd_same⟩⟩
end
end K41
set_option Elab.async false
set_option linter.all false
set_option maxRecDepth 100000
set_option maxHeartbeats 5000000
namespace K41
open PySem PySem.Spec PyProof.Rows L2 Evl
section
variable {P : Program} {w : World} {K : PySem.W.Frag} {mg : Str → Option Value} {base : Heap}
theorem ok_can_still (T : Txt K mg) : Cal P w K mg base "can_still" 1 ["book", "many", "left"] [] (spBD K mg RcanStill) := by
  refine T.d_can_still.ok sc_can_still (fun _ _ _ _ _ _ us hl => match us, hl with | [_, _, _], _ => rfl) (fun vs H Q E h => by obtain ⟨b, n, us, ds, d, rfl, B, hu, n1, n3, ⟨p, l, rfl, _⟩, _⟩ := h; obtain ⟨x, y, rfl, _⟩ := all2 hu; rfl) (fun f cdv A outer s H vs Q E hr h => ?_)
  obtain ⟨b, n, us, ds, d, rfl, B, hu, n1, n3, ⟨p, l, rfl, pl, ll, rfl⟩, q⟩ := h
  obtain ⟨x, y, rfl, h1, h2⟩ := all2 hu
  refine ⟨_, (pss_cons (ps_for PassesOwn.never rfl (z3K (K := K) rfl (pi_z3 (by rfl) T.z_zip (pa_cons (pv 1 (hd := nd_many) (hcd := nc_many)) (pa_cons (pv 2 (hd := nd_left) (hcd := nc_left)) (pa_cons (pe_fldK (K := K) rfl (pv 0 (hd := nd_book) (hcd := nc_book)) rfl) pa_nil))))) (pg_tupK (K := K) rfl rfl (pgs_cons (pg_name (i := 3) sc_can_still.nd rfl (by first | exact Or.inl rfl | exact Or.inr rfl)) (pgs_cons (pg_name (i := 4) sc_can_still.nd rfl (by first | exact Or.inl rfl | exact Or.inr rfl)) (pgs_cons (pg_name (i := 5) sc_can_still.nd rfl (by first | exact Or.inl rfl | exact Or.inr rfl)) pgs_nil))))
        (pss_one (ps_if (PW.pt (pw_or (pt_cmpR op_gt (pv 3 (hd := nd_picks) (hcd := nc_picks)) (pe_ix (ix_tupK (K := K) rfl) (pv 5 (hd := nd_count) (hcd := nc_count)) pe_int (fun _ _ => rfl)) (nomark _)) (pw_or1 (pt_cmpR op_lt (pe_op op_add (pv 3 (hd := nd_picks) (hcd := nc_picks)) (pv 4 (hd := nd_more) (hcd := nc_more))) (pe_ix (ix_tupK (K := K) rfl) (pv 5 (hd := nd_count) (hcd := nc_count)) pe_int (fun _ _ => rfl)) (nomark _))))) (pss_one (ps_ret pe_bl))
        pss_nil)))
      (pss_one (ps_ret pe_bl))), ?_⟩
  have S := src_z3T (K := K) (σ := L2.start ["book", "many", "left", "picks", "more", "count"] [.ref b, x, y]) (H := H) (ta := tVar 1) (tb := tVar 2) (tc := tFld K (tVar 0) "counts") (evd_var rfl h1) (evd_var rfl h2) (ev_bCounts B (ev_var rfl)) (encI_noL p) (encI_noL l) (cntD_noL n)
  rw [encI_len, encI_len, pl, ll, show (cntD n).length = 2 ^ n from List.length_replicate, Nat.min_self, Nat.min_self] at S
  refine q_for S (fun H3 i σ' G => Ex H G ∧ Tx K H3 G ∧ (∀ j, j < i → stillAt p l j = true) ∧ ∃ o1 o2 o3, σ' = [some (.ref b), some x, some y, o1, o2, o3]) (fun H3 e3 => ⟨e3, Tx.refl, fun j hj => by omega, _, _, _, rfl⟩) (fun H3 i σ' G _ p => p.2.1)
    (fun H3 i σ' Hi Hi' p e => ⟨p.1.trans e, p.2.1.trans (Ex.tx e), p.2.2⟩) (fun H3 i σ' Hi v hi pv hv => ?_) (fun H3 σ' G pv => ?_)
  · obtain ⟨p1, p2, p3, o1, o2, o3, rfl⟩ := pv
    refine g_tup3 (K := K) hv fun u1 u2 u3 hu1 hu2 hu3 => ?_
    rw [encI_getD (by rw [pl]; exact hi)] at hu1
    rw [encI_getD (by rw [ll]; exact hi)] at hu2
    have e4 : (cntD n).getD i .none = .tuple [.int 1, .int 1] := by
      unfold cntD
      rw [List.getD_eq_getElem?_getD, List.getElem?_replicate, if_pos hi]
      rfl
    rw [e4] at hu3
    rw [hu1.intV, hu2.intV]
    have c1 : EvD K (tOp (rIxT K) (tVar 5) (tC (.int 1))) (([some (.ref b), some x, some y, o1, o2, o3].set 3 (some (.int (p.getD i 0)))).set 4 (some (.int (l.getD i 0))) |>.set 5 (some u3)) Hi (.int 1) := evd_op (evd_var rfl hu3) evd_int (rd_ixT (j := 1) rfl)
    have c0 : EvD K (tOp (rIxT K) (tVar 5) (tC (.int 0))) (([some (.ref b), some x, some y, o1, o2, o3].set 3 (some (.int (p.getD i 0)))).set 4 (some (.int (l.getD i 0))) |>.set 5 (some u3)) Hi (.int 1) := evd_op (evd_var rfl hu3) evd_int (rd_ixT (j := 0) rfl)
    refine s_when (b := !stillAt p l i) ?_ (fun hb H4 e5 => ?_) (fun hb H4 e5 => ?_)
    · unfold stillAt
      rw [Bool.not_not]
      exact et_or (et_D (evd_op (evd_var rfl (.int _)) c1 rd_gt)) fun _ => et_D (evd_op (evd_op (evd_var rfl (.int _)) (evd_var rfl (.int _)) rd_add) c0 rd_lt)
    · refine s_retD (K := K) evd_bl fun v5 H5 e6 hv5 => q v5 H5 (p1.trans (e5.trans e6)) ?_
      rw [show still n p l = false from ?_]
      · exact hv5
      · unfold still
        rw [List.all_eq_false]
        exact ⟨i, List.mem_range.mpr hi, by rw [← Bool.not_not (stillAt p l i), hb]; decide⟩
    · refine ⟨p1.trans e5, p2.trans (Ex.tx e5), fun j hj => ?_, _, _, _, rfl⟩
      by_cases h : j = i
      · rw [h, ← Bool.not_not (stillAt p l i), hb]; rfl
      · exact p3 j (by omega)
  · obtain ⟨p1, p2, p3, o1, o2, o3, rfl⟩ := pv
    refine s_retD (K := K) evd_bl fun v5 H5 e6 hv5 => q v5 H5 (p1.trans e6) ?_
    rw [show still n p l = true from ?_]
    · exact hv5
    · unfold still
      rw [List.all_eq_true]
      exact fun j hj => p3 j (List.mem_range.mp hj)
end
end K41
set_option Elab.async false
set_option linter.all false
set_option maxRecDepth 100000
set_option maxHeartbeats 5000000
namespace K41
open PySem PySem.Spec PyProof.Rows L2 Evl
section
variable {P : Program} {w : World} {K : PySem.W.Frag} {mg : Str → Option Value} {base : Heap}
theorem ok_count_rules (T : Txt K mg) : Cal P w K mg base "count_rules" 4 ["book"] [] (spBD K mg RcountRules) := by
  refine T.d_count_rules.ok sc_count_rules (fun _ _ _ _ _ _ us hl => match us, hl with | [_], _ => rfl) (fun vs H Q E h => by obtain ⟨b, n, us, ds, d, rfl, B, hu, n1, n3, ⟨rfl, _⟩, _⟩ := h; cases hu; rfl) (fun f cdv A outer s H vs Q E hr h => ?_)
  obtain ⟨b, n, us, ds, d, rfl, B, hu, n1, n3, ⟨rfl, rfl⟩, q⟩ := h
  cases hu
  refine ⟨_, (pss_cons (ps_expr (pe_cal (ok_check_listed T) (hr.mono (by decide)) (by rfl) (pa_cons (pv 0 (hd := nd_book) (hcd := nc_book)) pa_nil) (hdb := nd_check_listed)))
      (pss_cons (ps_set (i := 1) sc_count_rules.nd rfl (by first | exact Or.inl rfl | exact Or.inr rfl) (pe_cal (ok_own_ties T) (hr.mono (by decide)) (by rfl) (pa_cons (pv 0 (hd := nd_book) (hcd := nc_book)) pa_nil) (hdb := nd_own_ties)))
      (pss_cons (ps_set (i := 2) sc_count_rules.nd rfl (by first | exact Or.inl rfl | exact Or.inr rfl) (pe_cal (ok_ties_left T) (hr.mono (by decide)) (by rfl) (pa_cons (pv 0 (hd := nd_book) (hcd := nc_book)) (pa_cons (pv 1 (hd := nd_ties) (hcd := nc_ties)) pa_nil)) (hdb := nd_ties_left)))
      (pss_cons (ps_set (i := 3) sc_count_rules.nd rfl (by first | exact Or.inl rfl | exact Or.inr rfl) (pe_disp1T (hu_of hr) (pe_op (op_repTK (K := K) rfl) (pe_tup (pa_cons pe_int pa_nil)) (pe_ix (ix_tupK (K := K) rfl) (pe_gTK (K := K) rfl T.c_POWERS (by rfl) nd_POWERS) (pe_fldK (K := K) rfl (pv 0 (hd := nd_book) (hcd := nc_book)) rfl) (fun _ _ => rfl))) pe_int))
      (pss_cons (ps_for PassesOwn.never rfl (enK (K := K) rfl (pi_en (by rfl) T.z_enumerate (pa_cons (pv 1 (hd := nd_ties) (hcd := nc_ties)) pa_nil))) (pg_tupK (K := K) rfl rfl (pgs_cons (pg_name (i := 4) sc_count_rules.nd rfl (by first | exact Or.inl rfl | exact Or.inr rfl)) (pgs_cons (pg_name (i := 5) sc_count_rules.nd rfl (by first | exact Or.inl rfl | exact Or.inr rfl)) pgs_nil)))
        (pss_cons (ps_set (i := 6) sc_count_rules.nd rfl (by first | exact Or.inl rfl | exact Or.inr rfl) pe_dnewT)
        (pss_cons (ps_lock (ps_for PassesOwn.never rfl (pi_itemsT (pv 3 (hd := nd_found) (hcd := nc_found))) (pg_tupK (K := K) rfl rfl (pgs_cons (pg_name (i := 7) sc_count_rules.nd rfl (by first | exact Or.inl rfl | exact Or.inr rfl)) (pgs_cons (pg_name (i := 8) sc_count_rules.nd rfl (by first | exact Or.inl rfl | exact Or.inr rfl)) pgs_nil)))
          (pss_one (ps_for PassesOwn.never rfl (pi_listK (K := K) rfl (pe_cal (ok_fillings T) (hr.mono (by decide)) (by rfl) (pa_cons (pv 0 (hd := nd_book) (hcd := nc_book)) (pa_cons (pv 5 (hd := nd_tie) (hcd := nc_tie)) pa_nil)) (hdb := nd_fillings))) (pg_name (i := 9) sc_count_rules.nd rfl (by first | exact Or.inl rfl | exact Or.inr rfl))
            (pss_cons (ps_set (i := 10) sc_count_rules.nd rfl (by first | exact Or.inl rfl | exact Or.inr rfl) (pe_cal (ok_filled T) (hr.mono (by decide)) (by rfl) (pa_cons (pv 7 (hd := nd_many) (hcd := nc_many)) (pa_cons (pv 5 (hd := nd_tie) (hcd := nc_tie)) (pa_cons (pv 9 (hd := nd_filling) (hcd := nc_filling)) pa_nil))) (hdb := nd_filled)))
            (pss_one (ps_if (pt_val (pe_cal (ok_can_still T) (hr.mono (by decide)) (by rfl) (pa_cons (pv 0 (hd := nd_book) (hcd := nc_book)) (pa_cons (pv 10 (hd := nd_picks) (hcd := nc_picks)) (pa_cons (pe_ix (ix_listK (K := K) rfl) (pv 2 (hd := nd_left) (hcd := nc_left)) (pe_op op_add (pv 4 (hd := nd_index) (hcd := nc_index)) pe_int) (fun _ _ => rfl)) pa_nil))) (hdb := nd_can_still))) (pss_one (ps_dput (hu_of hr) (pv 6 (hd := nd_later) (hcd := nc_later)) (pv 10 (hd := nd_picks) (hcd := nc_picks)) (pe_op op_add (pe_dget2 (hu_of hr) (pv 6 (hd := nd_later) (hcd := nc_later)) (pv 10 (hd := nd_picks) (hcd := nc_picks)) pe_int ⟨rfl, rfl, rfl, rfl⟩) (pv 8 (hd := nd_ways) (hcd := nc_ways))) rfl))
            pss_nil)))))))
        (pss_one (ps_set (i := 3) sc_count_rules.nd rfl (by first | exact Or.inl rfl | exact Or.inr rfl) (pv 6 (hd := nd_later) (hcd := nc_later)))))))
      (pss_one (ps_ret (pe_ifExp (pt_val (pe_cal (ok_can_still T) (hr.mono (by decide)) (by rfl) (pa_cons (pv 0 (hd := nd_book) (hcd := nc_book)) (pa_cons (pe_op (op_repTK (K := K) rfl) (pe_tup (pa_cons pe_int pa_nil)) (pe_ix (ix_tupK (K := K) rfl) (pe_gTK (K := K) rfl T.c_POWERS (by rfl) nd_POWERS) (pe_fldK (K := K) rfl (pv 0 (hd := nd_book) (hcd := nc_book)) rfl) (fun _ _ => rfl))) (pa_cons (pe_ix (ix_listK (K := K) rfl) (pv 2 (hd := nd_left) (hcd := nc_left)) pe_int (fun _ _ => rfl)) pa_nil))) (hdb := nd_can_still))) (pe_callB (cr_sumVT rfl) (by rfl) T.z_sum bt_sum (pa_cons (pe_valsT (pv 3 (hd := nd_found) (hcd := nc_found))) pa_nil) (hn := nn_sum) (hdb := nd_sum)) pe_int)))))))), ?_⟩
  have hp := two_pow_pos n
  have h2n : 2 ≤ 2 ^ n := by
    have : 2 ^ 1 ≤ 2 ^ n := Nat.pow_le_pow_right (by decide) n1
    omega
  have n8 : n ≤ 8 := by omega
  have hp8 := pow_le8 n8
  obtain ⟨tok, tl⟩ := ties_facts n1 n3
  refine q_dropD (K := K) (evd_bk B n1 n3 (ev_var rfl) evds_nil ⟨rfl, rfl⟩) fun H0 e0 => ?_
  refine q_asgDL (K := K) (evdl_bk (B.ex' e0) n1 n3 (ev_var rfl) evds_nil ⟨rfl, rfl⟩) fun lt xt H1 hlt e1 g1 hd1 => ?_
  refine q_asgDL (K := K) (ds := leftD n) (evdl_bk (B.ex' (e0.trans e1)) n1 n3 (ev_var rfl) (evds_cons (evd_var rfl (.lst (SqL.of g1) hd1)) evds_nil) ⟨tiesN n, rfl, by omega, tok, rfl⟩) fun ll xl H2 hll e2 g2 hd2 => ?_
  have b2 : Ex H H2 := (e0.trans e1).trans e2
  have g1' := e2 _ _ g1
  have d1' := dxs e2 hd1
  have zt : ∀ {G : Hp} {σ' : L2.St}, Ex H G → σ'[0]? = some (some (.ref b)) → ∀ Q : VK, (∀ p G2, Ex G G2 → G2 p = some (.tup ((List.replicate (2 ^ n) (0 : Int)).map V.int)) → Q (.ref p) G2) → (tOp (rRepT K) (tTup (tCons (tC (.int 0)) tNil)) (tOp (rIxT K) (tGT K powV) (tFld K (tVar 0) "many"))) σ' G Q := fun {G σ'} e h0 Q k =>
    (evd_tup (K := K) (ds := [.int 0]) (evds_cons evd_int evds_nil) (show 1 ≤ 100000 by decide)) G (Ex.refl _) _ fun v1 G1 x1 hv1 => (ev_pow (K := K) (k := n) (ev_bMany (B.ex' e) (ev_var h0)) rfl n8) G1 x1 _ fun v2 G2 x2 hv2 => by
      obtain ⟨a, xs, rfl, hs, ha⟩ := hv1.tupV
      have ex : xs = [(0 : Int)].map V.int := DpAll.intsV ha
      subst ex
      refine ⟨a, ((2 ^ n : Nat) : Int), _, rfl, hv2.intV, ex_t x2 hs, (fun z => nomatch z), by omega, by omega, (by show 1 ≤ 1000; decide), fun p hpp => k p _ (x1.trans (x2.trans (Ex.new hpp))) ?_⟩
      have er : ∀ k : Nat, (List.replicate k ([(0 : Int)].map V.int)).flatten = (List.replicate k (0 : Int)).map V.int := fun k => by
        induction k with
        | zero => rfl
        | succ k ih =>
          rw [List.replicate_succ, List.replicate_succ, List.flatten_cons, ih]
          rfl
      rw [Int.toNat_natCast, er]
      exact upd_same
  refine q_asgR fun df hdf => ?_
  refine zt (b2.trans (Ex.new hdf)) rfl _ fun kz G2 x2 hkz => ?_
  refine ⟨encK (List.replicate (2 ^ n) 0), kz, rfl, x2 _ _ upd_same, by rw [encK_V]; exact hkz, ?_⟩
  have b3 : Ex H2 (upd G2 df (.dT ((cnt n 0).map kvE))) := Ex.mut ((Ex.new (o := .dT []) hdf).trans x2) hdf
  have f3 : (upd G2 df (.dT ((cnt n 0).map kvE))) df = some (.dT ((cnt n 0).map kvE)) := upd_same
  change tSeq _ _ _ _ (upd G2 df (.dT ((cnt n 0).map kvE)))
  generalize upd G2 df (.dT ((cnt n 0).map kvE)) = H3 at b3 f3 ⊢
  have S0 := src_enA (K := K) (σ := [some (.ref b), some (.ref lt), some (.ref ll), some (.ref df), none, none, none, none, none, none, none]) (H := H3) (tl := tVar 1) (ev_var rfl) (SqL.of (b3 _ _ g1')) (dxs b3 d1') (tieD_noLs (tiesN n))
  rw [List.length_map] at S0
  refine q_for S0 (fun Ha i σ' G => Ex H2 G ∧ Tx K Ha G ∧ ∃ (df : Addr) (o4 o5 o6 o7 o8 o9 o10 : Option V), H2 df = none ∧ G df = some (.dT ((cnt n i).map kvE)) ∧ σ' = [some (.ref b), some (.ref lt), some (.ref ll), some (.ref df), o4, o5, o6, o7, o8, o9, o10])
    (fun G e => ⟨b3.trans e, Tx.refl, df, _, _, _, _, _, _, _, hdf, e _ _ f3, rfl⟩) (fun Ha i σ' G _ p => ⟨p.2.1, SqL.of (p.1 _ _ g1')⟩)
    (fun Ha i σ' G G' ⟨p1, p2, df, o4, o5, o6, o7, o8, o9, o10, p3, p4, p5⟩ e => ⟨p1.trans e, p2.trans (Ex.tx e), df, o4, o5, o6, o7, o8, o9, o10, p3, e _ _ p4, p5⟩) (fun Ha i σ' G v hi pv hv => ?_) (fun Ha σ' G pv => ?_)
  · obtain ⟨p1, p2, df, o4, o5, o6, o7, o8, o9, o10, p3, p4, rfl⟩ := pv
    rw [tieD_getD hi] at hv
    obtain ⟨fl, ff⟩ := cnt_facts n1 n3 (show i ≤ 12 by omega)
    obtain ⟨k1, k2, k3⟩ := okTie_iff (tok _ (getD_mem (z := (0, 0, 0)) hi))
    refine g_tup2 (K := K) hv fun u4 u5 hu4 hu5 => ?_
    rw [hu4.intV]
    refine q_asgR fun dl hdl => ?_
    have nlf : dl ≠ df := (ne_of_none p4 hdl).symm
    have h2dl : H2 dl = none := fresh_back p1 hdl
    have f1 : (upd G dl (.dT [])) df = some (.dT ((cnt n i).map kvE)) := Ex.new hdl _ _ p4
    refine ⟨df, _, f1, True.intro, fun od => ?_⟩
    have t1 : Tx K G (upd (upd G dl (.dT [])) df (.frz od (.dT ((cnt n i).map kvE)))) := (Tx.new hdl).trans (Tx.updD f1)
    have b4 : Ex H2 (upd (upd G dl (.dT [])) df (.frz od (.dT ((cnt n i).map kvE)))) := Ex.mut (p1.trans (Ex.new hdl)) p3
    have f4 : (upd (upd G dl (.dT [])) df (.frz od (.dT ((cnt n i).map kvE)))) df = some (.frz od (.dT ((cnt n i).map kvE))) := upd_same
    have l4 : (upd (upd G dl (.dT [])) df (.frz od (.dT ((cnt n i).map kvE)))) dl = some (.dT ([].map kvE)) := by
      rw [upd_ne nlf]
      exact upd_same
    generalize upd (upd G dl (.dT [])) df (.frz od (.dT ((cnt n i).map kvE))) = G4 at t1 b4 f4 l4 ⊢
    have hu5' := Dp.tx t1 (tieD _) _ rfl hu5
    refine s_for (src_itemsT (K := K) (σ := [some (.ref b), some (.ref lt), some (.ref ll), some (.ref df), some (.int (i : Int)), some u5, some (.ref dl), o7, o8, o9, o10]) (H := G4) (td := tVar 3) (ev_var rfl) f4) (fun Hb j σ' G' => Ex H2 G' ∧ Tx K G4 G' ∧ G' df = some (.frz od (.dT ((cnt n i).map kvE))) ∧ G' dl = some (.dT ((cMid n i (cnt n i) j).map kvE)) ∧
        ∃ (o7 o8 o9 o10 : Option V), σ' = [some (.ref b), some (.ref lt), some (.ref ll), some (.ref df), some (.int (i : Int)), some u5, some (.ref dl), o7, o8, o9, o10])
      (fun G' e => ⟨b4.trans e, Ex.tx e, e _ _ f4, e _ _ l4, _, _, _, _, rfl⟩) (fun Hb j σ' G' _ p => p.2.2.1)
      (fun Hb j σ' G' G'' ⟨p1, p2, p3, p4, p5⟩ e => ⟨p1.trans e, p2.trans (Ex.tx e), e _ _ p3, e _ _ p4, p5⟩) (fun Hb j σ' G' v hj pv hv => ?_) (fun Hb σ' G' pv => ?_)
    · obtain ⟨r1, r2, r3, r4, o7, o8, o9, o10, rfl⟩ := pv
      have w2 := ff _ (getD_mem (z := ([], 0)) hj)
      have emid : cMid n i (cnt n i) (j + 1) = cIn n i ((cnt n i).getD j ([], 0)) (cMid n i (cnt n i) j) 2 := rfl
      have ml := cMid_len n i (cnt n i) j
      rw [emid]
      have hj20 : j < 20 := by
        have hj' : j < (cnt n i).length := hj
        omega
      generalize (cnt n i).getD j ([], 0) = ent at hv w2 ⊢
      generalize cMid n i (cnt n i) j = lat at r4 ml ⊢
      refine g_tup2 (K := K) hv fun u7 u8 hu7 hu8 => ?_
      rw [hu8.intV]
      have hu5'' := Dp.tx r2 (tieD _) _ rfl hu5'
      have S2 := src_lstF (K := K) (σ := [some (.ref b), some (.ref lt), some (.ref ll), some (.ref df), some (.int (i : Int)), some u5, some (.ref dl), some u7, some (.int ent.2), o9, o10]) (H := G') (tl := tCall (spBL K mg Rfillings) [] E0 (tCons (tVar 0) (tCons (tVar 5) tNil))) (ss := [filD false false, filD true true])
        (evdl_bk (B.ex' (b2.trans r1)) n1 n3 (ev_var rfl) (evds_cons (evd_var rfl hu5'') evds_nil) ⟨_, rfl, tok _ (getD_mem hi), rfl⟩) rfl (fun a => a = dl) (fun a e h => by rw [e, r4] at h; cases h)
      refine s_for S2 (fun Hc m σ' G2 => Ex H2 G2 ∧ Tx K G4 G2 ∧ Tx K G' G2 ∧ Tx K Hc G2 ∧ Bs (fun a => a = dl) Hc G2 ∧ G2 df = some (.frz od (.dT ((cnt n i).map kvE))) ∧ G2 dl = some (.dT ((cIn n i ent lat m).map kvE)) ∧
          ∃ (o9 o10 : Option V), σ' = [some (.ref b), some (.ref lt), some (.ref ll), some (.ref df), some (.int (i : Int)), some u5, some (.ref dl), some u7, some (.int ent.2), o9, o10])
        (fun G2 e => ⟨r1.trans e, r2.trans (Ex.tx e), Ex.tx e, Tx.refl, Bs.refl, e _ _ r3, e _ _ r4, _, _, rfl⟩) (fun Hc m σ' G2 _ p => ⟨p.2.2.2.1, p.2.2.2.2.1⟩)
        (fun Hc m σ' G2 G3 ⟨p1, p2, p2', p2'', p2b, p3, p4, p5⟩ e => ⟨p1.trans e, p2.trans (Ex.tx e), p2'.trans (Ex.tx e), p2''.trans (Ex.tx e), p2b.trans (Bs.ex e), e _ _ p3, e _ _ p4, p5⟩) (fun Hc m σ' G2 v hm pv hv => ?_) (fun Hc σ' G2 pv => ?_)
      · obtain ⟨s1, s2, s2', s2'', s2b, s3, s4, o9, o10, rfl⟩ := pv
        have hm2 : m < 2 := hm
        have ev2 : ([filD false false, filD true true]).getD m .none = filD (decide (m = 1)) (decide (m = 1)) := by
          have : m = 0 ∨ m = 1 := by omega
          rcases this with e | e <;> (subst e; rfl)
        rw [ev2] at hv
        have hu7' := Dp.tx s2' (.tuple (encI ent.1)) _ (encI_noL _) hu7
        have hu5z := Dp.tx s2' (tieD _) _ rfl hu5''
        have ein : cIn n i ent lat (m + 1) = cB n i ent (cIn n i ent lat m) (decide (m = 1)) := rfl
        have cl := cIn_len n i ent lat m
        rw [ein]
        generalize cIn n i ent lat m = lat2 at s4 cl ⊢
        generalize decide (m = 1) = fb at hv ⊢
        refine q_asgR ?_
        refine (evds_cons (K := K) (evd_var (i := 7) rfl hu7') (evds_cons (evd_var (i := 5) rfl hu5z) (evds_cons (evd_var (i := 9) rfl hv) evds_nil))) G2 (Ex.refl _) _ fun us G3 x3 hu => ?_
        refine ⟨ent.1, tieAt n i, fb, fb, by rw [List.append_nil]; exact hu, by rw [w2]; exact k1, by rw [w2]; exact k3, by omega, fun r G5 x5 hr => ?_⟩
        have x35 := x3.trans x5
        have b5 : Ex H G5 := (b2.trans s1).trans x35
        refine s_when (b := goodF n i ent.1 fb) (et_DB (K := K) (evd_bk (B.ex' b5) n1 n3 (ev_var rfl) (evds_cons (evd_var rfl (.tup (SqT.of hr) (DpAll.ints _))) (evds_cons (evd_op (evd_var rfl (.lst (SqL.of ((s1.trans x35) _ _ g2)) (dxs (s1.trans x35) hd2))) (evd_op (evd_var rfl (.int (i : Int))) evd_int rd_add) (rd_ixL (j := i + 1) (leftD_get (by omega)))) evds_nil)) ⟨_, _, rfl, by rw [fillP_len]; exact w2, leftAt_len _ _ _, rfl⟩)) (fun hb G6 x6 => ?_) (fun hb G6 x6 => ?_)
        · have x36 := x35.trans x6
          have l6 := x36 _ _ s4
          have hr6 := x6 _ _ hr
          have hr7 : G6 r = some (.tup ((encK (fillP ent.1 (tieAt n i) fb fb)).map kV)) := by rw [encK_V]; exact hr6
          refine ⟨.ref dl, rfl, dl, rfl, .inr ⟨_, .inl l6⟩, .ref r, rfl, _, DGet.t l6 hr7, .int ent.2, rfl, (cfind lat2 (fillP ent.1 (tieAt n i) fb fb)).getD 0, ent.2, ?_, rfl, .ref dl, rfl, .ref r, rfl, dl, _, rfl, DPut.t l6 hr7 ?_, ?_⟩
          · rw [valV_kv]
            cases cfind lat2 (fillP ent.1 (tieAt n i) fb fb) <;> rfl
          · rw [List.length_map]
            have : 100000 ≤ sizeLine := by decide
            omega
          · rw [putK_kv]
            have t7 : Tx K G6 (upd G6 dl (.dT ((cput lat2 (fillP ent.1 (tieAt n i) fb fb) ((cfind lat2 (fillP ent.1 (tieAt n i) fb fb)).getD 0 + ent.2)).map kvE))) := Tx.updD l6
            have t8 := (Ex.tx (K := K) x36).trans t7
            have ec : cB n i ent lat2 fb = cput lat2 (fillP ent.1 (tieAt n i) fb fb) ((cfind lat2 (fillP ent.1 (tieAt n i) fb fb)).getD 0 + ent.2) := by
              unfold cB
              rw [if_pos hb]
            rw [ec]
            exact ⟨Ex.mut (s1.trans x36) h2dl, s2.trans t8, s2'.trans t8, s2''.trans t8, s2b.trans ((Bs.ex x36).trans (Bs.upd rfl)), (by rw [upd_ne (Ne.symm nlf)]; exact x36 _ _ s3), upd_same, _, _, rfl⟩
        · have x36 := x35.trans x6
          have ec : cB n i ent lat2 fb = lat2 := by
            unfold cB
            rw [if_neg (by rw [hb]; decide)]
          rw [ec]
          exact ⟨s1.trans x36, s2.trans (Ex.tx x36), s2'.trans (Ex.tx x36), s2''.trans (Ex.tx x36), s2b.trans (Bs.ex x36), x36 _ _ s3, x36 _ _ s4, _, _, rfl⟩
      · obtain ⟨s1, s2, s2', s2'', s2b, s3, s4, o9, o10, rfl⟩ := pv
        exact ⟨s1, s2, s3, s4, _, _, _, _, rfl⟩
    · obtain ⟨r1, r2, r3, r4, o7, o8, o9, o10, rfl⟩ := pv
      refine ⟨r3, ?_⟩
      have b5 : Ex H2 (upd G' df (.dT ((cnt n i).map kvE))) := Ex.mut r1 p3
      have t5 : Tx K G' (upd G' df (.dT ((cnt n i).map kvE))) := tx_unfrz r3
      have l5 : (upd G' df (.dT ((cnt n i).map kvE))) dl = some (.dT ((cnt n (i + 1)).map kvE)) := by
        rw [upd_ne nlf]
        exact r4
      generalize upd G' df (.dT ((cnt n i).map kvE)) = G5 at b5 t5 l5 ⊢
      exact s_asg (ev_var rfl) fun G6 x6 => ⟨b5.trans x6, p2.trans (t1.trans (r2.trans (t5.trans (Ex.tx x6)))), dl, _, _, _, _, _, _, _, h2dl, x6 _ _ l5, rfl⟩
  · obtain ⟨p1, p2, df, o4, o5, o6, o7, o8, o9, o10, p3, p4, rfl⟩ := pv
    have zd : EvD K (tOp (rRepT K) (tTup (tCons (tC (.int 0)) tNil)) (tOp (rIxT K) (tGT K powV) (tFld K (tVar 0) "many"))) [some (.ref b), some (.ref lt), some (.ref ll), some (.ref df), o4, o5, o6, o7, o8, o9, o10] G (.tuple (encI (List.replicate (2 ^ n) 0))) := fun G1 x1 Q' k => zt ((b2.trans p1).trans x1) rfl Q' fun p G2 x2 h2 => k _ G2 x2 (.tup (SqT.of h2) (DpAll.ints _))
    have sm : EvD K (tCB rSumVT (tCons (tValsT (tVar 3)) tNil)) [some (.ref b), some (.ref lt), some (.ref ll), some (.ref df), o4, o5, o6, o7, o8, o9, o10] G (.int ((cnt n (tiesN n).length).map (·.2)).sum) := fun G1 x1 Q' k =>
      ⟨.ref df, rfl, df, _, rfl, x1 _ _ p4, fun p hpp => ⟨p, df, _, (cnt n (tiesN n).length).map (·.2), rfl, upd_same, (by rw [upd_ne (ne_of_none (x1 _ _ p4) hpp)]; exact x1 _ _ p4), (by rw [List.map_map, List.map_map]; rfl), k _ _ (Ex.new hpp) (.int _)⟩⟩
    refine s_retD (K := K) (evd_if (b := still n (List.replicate (2 ^ n) 0) (leftAt n (tiesN n) 0)) (et_DB (evd_bk (B.ex' (b2.trans p1)) n1 n3 (ev_var rfl) (evds_cons zd (evds_cons (evd_op (evd_var rfl (.lst (SqL.of (p1 _ _ g2)) (dxs p1 hd2))) evd_int (rd_ixL (j := 0) (leftD_get (by omega)))) evds_nil)) ⟨_, _, rfl, List.length_replicate, leftAt_len _ _ _, rfl⟩)) (fun hy => ?_) (fun hy => ?_)) fun v G5 x5 hv => q v G5 ((b2.trans p1).trans x5) hv
    · rw [hy]
      exact sm
    · rw [hy]
      exact evd_int
end
end K41
set_option Elab.async false
set_option linter.all false
set_option maxRecDepth 100000
set_option maxHeartbeats 5000000
namespace K41
open PySem PySem.Spec PyProof.Rows L2 Evl
section
variable {P : Program} {w : World} {K : PySem.W.Frag} {mg : Str → Option Value} {base : Heap}
theorem ok_all_fillings (T : Txt K mg) : Cal P w K mg base "all_fillings" 4 ["book"] [] (spBL K mg RallFillings) := by
  refine T.d_all_fillings.ok sc_all_fillings (fun _ _ _ _ _ _ us hl => match us, hl with | [_], _ => rfl) (fun vs H Q E h => by obtain ⟨b, n, us, ds, d, rfl, B, hu, n1, n3, ⟨rfl, _⟩, _⟩ := h; cases hu; rfl) (fun f cdv A outer s H vs Q E hr h => ?_)
  obtain ⟨b, n, us, ds, d, rfl, B, hu, n1, n3, ⟨rfl, rfl⟩, q⟩ := h
  cases hu
  refine ⟨_, (pss_cons (ps_set (i := 1) sc_all_fillings.nd rfl (by first | exact Or.inl rfl | exact Or.inr rfl) (pe_cal (ok_own_ties T) (hr.mono (by decide)) (by rfl) (pa_cons (pv 0 (hd := nd_book) (hcd := nc_book)) pa_nil) (hdb := nd_own_ties)))
      (pss_cons (ps_set (i := 2) sc_all_fillings.nd rfl (by first | exact Or.inl rfl | exact Or.inr rfl) (pe_cal (ok_ties_left T) (hr.mono (by decide)) (by rfl) (pa_cons (pv 0 (hd := nd_book) (hcd := nc_book)) (pa_cons (pv 1 (hd := nd_ties) (hcd := nc_ties)) pa_nil)) (hdb := nd_ties_left)))
      (pss_cons (ps_set (i := 3) sc_all_fillings.nd rfl (by first | exact Or.inl rfl | exact Or.inr rfl) (pe_lst (pa_cons (pe_tup (pa_cons (pe_tup pa_nil) (pa_cons (pe_op (op_repTK (K := K) rfl) (pe_tup (pa_cons pe_int pa_nil)) (pe_ix (ix_tupK (K := K) rfl) (pe_gTK (K := K) rfl T.c_POWERS (by rfl) nd_POWERS) (pe_fldK (K := K) rfl (pv 0 (hd := nd_book) (hcd := nc_book)) rfl) (fun _ _ => rfl))) pa_nil))) pa_nil)))
      (pss_cons (ps_for PassesOwn.never rfl (enK (K := K) rfl (pi_en (by rfl) T.z_enumerate (pa_cons (pv 1 (hd := nd_ties) (hcd := nc_ties)) pa_nil))) (pg_tupK (K := K) rfl rfl (pgs_cons (pg_name (i := 4) sc_all_fillings.nd rfl (by first | exact Or.inl rfl | exact Or.inr rfl)) (pgs_cons (pg_name (i := 5) sc_all_fillings.nd rfl (by first | exact Or.inl rfl | exact Or.inr rfl)) pgs_nil)))
        (pss_cons (ps_set (i := 6) sc_all_fillings.nd rfl (by first | exact Or.inl rfl | exact Or.inr rfl) (pe_lst pa_nil))
        (pss_cons (ps_for PassesOwn.never rfl (pi_listK (K := K) rfl (pv 3 (hd := nd_found) (hcd := nc_found))) (pg_tupK (K := K) rfl rfl (pgs_cons (pg_name (i := 7) sc_all_fillings.nd rfl (by first | exact Or.inl rfl | exact Or.inr rfl)) (pgs_cons (pg_name (i := 8) sc_all_fillings.nd rfl (by first | exact Or.inl rfl | exact Or.inr rfl)) pgs_nil)))
          (pss_one (ps_for PassesOwn.never rfl (pi_listK (K := K) rfl (pe_cal (ok_fillings T) (hr.mono (by decide)) (by rfl) (pa_cons (pv 0 (hd := nd_book) (hcd := nc_book)) (pa_cons (pv 5 (hd := nd_tie) (hcd := nc_tie)) pa_nil)) (hdb := nd_fillings))) (pg_name (i := 9) sc_all_fillings.nd rfl (by first | exact Or.inl rfl | exact Or.inr rfl))
            (pss_cons (ps_set (i := 10) sc_all_fillings.nd rfl (by first | exact Or.inl rfl | exact Or.inr rfl) (pe_cal (ok_filled T) (hr.mono (by decide)) (by rfl) (pa_cons (pv 8 (hd := nd_many) (hcd := nc_many)) (pa_cons (pv 5 (hd := nd_tie) (hcd := nc_tie)) (pa_cons (pv 9 (hd := nd_filling) (hcd := nc_filling)) pa_nil))) (hdb := nd_filled)))
            (pss_one (ps_if (pt_val (pe_cal (ok_can_still T) (hr.mono (by decide)) (by rfl) (pa_cons (pv 0 (hd := nd_book) (hcd := nc_book)) (pa_cons (pv 10 (hd := nd_picks) (hcd := nc_picks)) (pa_cons (pe_ix (ix_listK (K := K) rfl) (pv 2 (hd := nd_left) (hcd := nc_left)) (pe_op op_add (pv 4 (hd := nd_index) (hcd := nc_index)) pe_int) (fun _ _ => rfl)) pa_nil))) (hdb := nd_can_still))) (pss_one (ps_expr (bmK (K := K) rfl (pe_bm PySem.F.plainAttrs_list PySem.F.slot_list_append PySem.F.type_list_append mt_append (pv 6 (hd := nd_later) (hcd := nc_later)) (pa_cons (pe_tup (pa_cons (pe_op (op_catK (K := K) rfl) (pv 7 (hd := nd_row) (hcd := nc_row)) (pe_tup (pa_cons (pv 9 (hd := nd_filling) (hcd := nc_filling)) pa_nil))) (pa_cons (pv 10 (hd := nd_picks) (hcd := nc_picks)) pa_nil))) pa_nil)))))
            pss_nil))))))
        (pss_one (ps_set (i := 3) sc_all_fillings.nd rfl (by first | exact Or.inl rfl | exact Or.inr rfl) (pv 6 (hd := nd_later) (hcd := nc_later)))))))
      (pss_one (ps_ret (pe_lc (own := [("row", 7), ("many", 8)]) (g := (gTup K 2 (gCons (gName 7) (gCons (gName 8) gNil)))) (tt := tYes) rfl sc_all_fillings.nd (pi_listK (K := K) rfl (pv 3 (hd := nd_found) (hcd := nc_found))) (blkOk_by (N := ["book", "ties", "left", "found", "index", "tie", "later", "row", "many", "filling", "picks"]) (sc := defScope st_all_fillings) (own := [("row", 7), ("many", 8)]) (by decide +kernel)) (fun _ _ _ _ _ => (pg_tupK (K := K) rfl rfl (pgs_cons (pg_name (i := 7) sc_all_fillings.nd rfl (by first | exact Or.inl rfl | exact Or.inr rfl)) (pgs_cons (pg_name (i := 8) sc_all_fillings.nd rfl (by first | exact Or.inl rfl | exact Or.inr rfl)) pgs_nil)))) (fun _ _ _ _ _ => pts_nil) (fun _ _ _ _ _ => (pv 7 (hd := nd_row) (hcd := nc_row)))))))))), ?_⟩
  have hp := two_pow_pos n
  have h2n : 2 ≤ 2 ^ n := by
    have : 2 ^ 1 ≤ 2 ^ n := Nat.pow_le_pow_right (by decide) n1
    omega
  have n8 : n ≤ 8 := by omega
  have hp8 := pow_le8 n8
  obtain ⟨tok, tl⟩ := ties_facts n1 n3
  refine q_asgDL (K := K) (evdl_bk B n1 n3 (ev_var rfl) evds_nil ⟨rfl, rfl⟩) fun lt xt H1 hlt e1 g1 hd1 => ?_
  refine q_asgDL (K := K) (ds := leftD n) (evdl_bk (B.ex' e1) n1 n3 (ev_var rfl) (evds_cons (evd_var rfl (.lst (SqL.of g1) hd1)) evds_nil) ⟨tiesN n, rfl, by omega, tok, rfl⟩) fun ll xl H2 hll e2 g2 hd2 => ?_
  have P9 : ∀ {G : Hp} {σ' : L2.St}, Ex H G → σ'[0]? = some (some (.ref b)) → EvD K (tOp (rRepT K) (tTup (tCons (tC (.int 0)) tNil)) (tOp (rIxT K) (tGT K powV) (tFld K (tVar 0) "many"))) σ' G (.tuple (encI (List.replicate (2 ^ n) 0))) := fun e h0 => evd_is (evd_op (evd_tup (evds_cons evd_int evds_nil) (show 1 ≤ 100000 by decide)) (ev_pow (k := n) (ev_bMany (B.ex' e) (ev_var h0)) rfl n8) (rd_repT h2n (by omega))) (congrArg PyData.tuple (zeroD n).symm)
  refine q_asgDL (K := K) (ds := (allF n 0).map entD) (evdl_lst (evds_cons (evd_tup (evds_cons (evd_tup evds_nil (show 0 ≤ 100000 by decide)) (evds_cons (P9 (e1.trans e2) rfl) evds_nil)) (show 2 ≤ 100000 by decide)) evds_nil) (show 1 ≤ 100000 by decide)) fun lf xf H3 hlf e3 g3 hd3 => ?_
  have b3 : Ex H H3 := (e1.trans e2).trans e3
  have g1' := (e2.trans e3) _ _ g1
  have g2' := e3 _ _ g2
  have d1' := dxs (e2.trans e3) hd1
  have d2' := dxs e3 hd2
  have S0 := src_enA (K := K) (σ := [some (.ref b), some (.ref lt), some (.ref ll), some (.ref lf), none, none, none, none, none, none, none]) (H := H3) (tl := tVar 1) (ev_var rfl) (SqL.of g1') d1' (tieD_noLs (tiesN n))
  rw [List.length_map] at S0
  refine q_for S0 (fun Ha i σ' G => Ex H3 G ∧ Tx K Ha G ∧ ∃ (lf : Addr) (xs : List V) (o4 o5 o6 o7 o8 o9 o10 : Option V), G lf = some (.lst xs) ∧ DpAll K G xs ((allF n i).map entD) ∧ σ' = [some (.ref b), some (.ref lt), some (.ref ll), some (.ref lf), o4, o5, o6, o7, o8, o9, o10])
    (fun G e => ⟨e, Tx.refl, lf, xf, _, _, _, _, _, _, _, e _ _ g3, dxs e hd3, rfl⟩) (fun Ha i σ' G _ p => ⟨p.2.1, SqL.of (p.1 _ _ g1')⟩)
    (fun Ha i σ' G G' ⟨p1, p2, lf, xs, o4, o5, o6, o7, o8, o9, o10, p3, p4, p5⟩ e => ⟨p1.trans e, p2.trans (Ex.tx e), lf, xs, o4, o5, o6, o7, o8, o9, o10, e _ _ p3, dxs e p4, p5⟩) (fun Ha i σ' G v hi pv hv => ?_) (fun Ha σ' G pv => ?_)
  · obtain ⟨p1, p2, lf, xs, o4, o5, o6, o7, o8, o9, o10, p3, p4, rfl⟩ := pv
    rw [tieD_getD hi] at hv
    obtain ⟨fl, ff⟩ := allF_facts n1 n3 (show i ≤ 12 by omega)
    obtain ⟨k1, k2, k3⟩ := okTie_iff (tok _ (getD_mem (z := (0, 0, 0)) hi))
    refine g_tup2 (K := K) hv fun u4 u5 hu4 hu5 => ?_
    rw [hu4.intV]
    refine q_asgDL (K := K) (evdl_lst evds_nil (by simp)) fun l ys G1 hl f1 gl hdl => ?_
    cases hdl
    have nf : lf ≠ l := ne_of_none p3 hl
    have S1 := src_lstA (K := K) (σ := [some (.ref b), some (.ref lt), some (.ref ll), some (.ref lf), some (.int (i : Int)), some u5, some (.ref l), o7, o8, o9, o10]) (H := G1) (tl := tVar 3) (ev_var rfl) (SqL.of (f1 _ _ p3)) (dxs f1 p4) (entD_noLs _)
    rw [List.length_map] at S1
    refine q_for S1 (fun Hb j σ' G' => Ex G G' ∧ Tx K Hb G' ∧ ∃ (ys : List V) (o7 o8 o9 o10 : Option V), G' l = some (.lst ys) ∧ DpAll K G' ys ((midF n i j).map entD) ∧ σ' = [some (.ref b), some (.ref lt), some (.ref ll), some (.ref lf), some (.int (i : Int)), some u5, some (.ref l), o7, o8, o9, o10])
      (fun G' e => ⟨f1.trans e, Tx.refl, [], _, _, _, _, e _ _ gl, .nil, rfl⟩) (fun Hb j σ' G' _ p => ⟨p.2.1, SqL.of (p.1 _ _ p3)⟩)
      (fun Hb j σ' G' G'' ⟨p1, p2, ys, o7, o8, o9, o10, p3, p4, p5⟩ e => ⟨p1.trans e, p2.trans (Ex.tx e), ys, o7, o8, o9, o10, e _ _ p3, dxs e p4, p5⟩) (fun Hb j σ' G' v hj pv hv => ?_) (fun Hb σ' G' pv => ?_)
    · obtain ⟨r1, r2, ys, o7, o8, o9, o10, r3, r4, rfl⟩ := pv
      have ei : ((allF n i).map entD).getD j .none = entD ((allF n i).getD j ([], [])) := by
        rw [List.getD_eq_getElem?_getD, List.getD_eq_getElem?_getD, List.getElem?_map, List.getElem?_eq_getElem hj]
        rfl
      rw [ei] at hv
      obtain ⟨w1, w2⟩ := ff _ (getD_mem (z := ([], [])) hj)
      have ein := inF_zero n i j
      generalize he : (allF n i).getD j ([], []) = ent at hv w1 w2
      refine g_tup2 (K := K) hv fun u7 u8 hu7 hu8 => ?_
      have hu5' := dx r1 hu5
      have S2 := src_lstF (K := K) (σ := [some (.ref b), some (.ref lt), some (.ref ll), some (.ref lf), some (.int (i : Int)), some u5, some (.ref l), some u7, some u8, o9, o10]) (H := G') (tl := tCall (spBL K mg Rfillings) [] E0 (tCons (tVar 0) (tCons (tVar 5) tNil))) (ss := [filD false false, filD true true])
        (evdl_bk (B.ex' ((b3.trans p1).trans r1)) n1 n3 (ev_var rfl) (evds_cons (evd_var rfl hu5') evds_nil) ⟨_, rfl, tok _ (getD_mem hi), rfl⟩) rfl (fun a => a = l) (fun a e h => by rw [e, r3] at h; cases h)
      refine s_for S2 (fun Hc m σ' G2 => Ex G G2 ∧ Tx K Hb G2 ∧ Tx K G' G2 ∧ Tx K Hc G2 ∧ Bs (fun a => a = l) Hc G2 ∧ ∃ (ys : List V) (o9 o10 : Option V), G2 l = some (.lst ys) ∧ DpAll K G2 ys ((inF n i j m).map entD) ∧ σ' = [some (.ref b), some (.ref lt), some (.ref ll), some (.ref lf), some (.int (i : Int)), some u5, some (.ref l), some u7, some u8, o9, o10])
        (fun G2 e => ⟨r1.trans e, r2.trans (Ex.tx e), Ex.tx e, Tx.refl, Bs.refl, ys, _, _, e _ _ r3, by rw [ein]; exact dxs e r4, rfl⟩) (fun Hc m σ' G2 _ p => ⟨p.2.2.2.1, p.2.2.2.2.1⟩)
        (fun Hc m σ' G2 G3 ⟨p1, p2, p2', p2'', p2b, ys, o9, o10, p3, p4, p5⟩ e => ⟨p1.trans e, p2.trans (Ex.tx e), p2'.trans (Ex.tx e), p2''.trans (Ex.tx e), p2b.trans (Bs.ex e), ys, o9, o10, e _ _ p3, dxs e p4, p5⟩) (fun Hc m σ' G2 v hm pv hv => ?_) (fun Hc σ' G2 pv => ?_)
      · obtain ⟨s1, s2, s2', s2'', s2b, ys, o9, o10, s3, s4, rfl⟩ := pv
        have hm2 : m < 2 := hm
        have ev2 : ([filD false false, filD true true]).getD m .none = filD (decide (m = 1)) (decide (m = 1)) := by
          have : m = 0 ∨ m = 1 := by omega
          rcases this with e | e <;> (subst e; rfl)
        rw [ev2] at hv
        have hu8' := Dp.tx s2' (.tuple (encI ent.2)) _ (encI_noL _) hu8
        have hu7' := Dp.tx s2' _ _ (rowD_noL _) hu7
        have hu5'' := Dp.tx s2' (tieD _) _ rfl hu5'
        refine q_asgD (K := K) (evd_fil (evds_cons (evd_var rfl hu8') (evds_cons (evd_var rfl hu5'') (evds_cons (evd_var rfl hv) evds_nil))) rfl (by rw [w2]; exact k1) (by rw [w2]; exact k3) (by omega)) fun v10 G3 x3 hv10 => ?_
        have b4 : Ex H G3 := ((b3.trans p1).trans s1).trans x3
        refine s_when (b := goodF n i ent.2 (decide (m = 1))) (et_DB (K := K) (evd_bk (B.ex' b4) n1 n3 (ev_var rfl) (evds_cons (evd_var rfl hv10) (evds_cons (evd_op (evd_var rfl (.lst (SqL.of (((p1.trans s1).trans x3) _ _ g2')) (dxs ((p1.trans s1).trans x3) d2'))) (evd_op (evd_var rfl (.int (i : Int))) evd_int rd_add) (rd_ixL (j := i + 1) (leftD_get (by omega)))) evds_nil)) ⟨_, _, rfl, by rw [fillP_len]; exact w2, leftAt_len _ _ _, rfl⟩)) (fun hb G4 x4 => ?_) (fun hb G4 x4 => ?_)
        · have x34 := x3.trans x4
          have l4 := x34 _ _ s3
          have hly := DpAll.length s4
          have hin := inF_len (n := n) (i := i) (j := j) (b := m) (by omega)
          refine s_appD (K := K) l4 (ev_var rfl) (d := entD (ent.1 ++ [decide (m = 1)], fillP ent.2 (tieAt n i) (decide (m = 1)) (decide (m = 1)))) (evd_is (evd_tup (evds_cons (evd_op (evd_var rfl (dx x34 hu7')) (evd_tup (evds_cons (evd_var rfl (dx x34 hv)) evds_nil) (show 1 ≤ 100000 by decide)) (rd_catA (by rw [List.length_map, w1]; show i + 1 ≤ 100000; omega))) (evds_cons (evd_var rfl (dx x4 hv10)) evds_nil)) (show 2 ≤ 100000 by decide)) ?_) (by rw [hly, List.length_map]; omega) fun v11 G5 x5 hv11 => ?_
          · show PyData.tuple [PyData.tuple _, PyData.tuple _] = PyData.tuple [PyData.tuple ((ent.1 ++ [decide (m = 1)]).map _), _]
            rw [List.map_append]
            rfl
          · have l5 := x5 _ _ l4
            have t6 : Tx K G5 (upd G5 l (.lst (ys ++ [v11]))) := Tx.updL l5
            have t7 : Tx K G2 (upd G5 l (.lst (ys ++ [v11]))) := (Ex.tx (x34.trans x5)).trans t6
            refine ⟨Ex.mut (s1.trans (x34.trans x5)) hl, s2.trans t7, s2'.trans t7, s2''.trans t7, s2b.trans ((Bs.ex (x34.trans x5)).trans (Bs.upd rfl)), _, _, _, upd_same, ?_, rfl⟩
            rw [inF_yes hm2 (by rw [he]; exact hb), List.map_append, he]
            exact DpAll.append (DpAll.tx t7 _ _ (entD_noLs _) s4) (DpAll.one (Dp.tx t6 _ _ (entD_noL _) hv11))
        · have x34 := x3.trans x4
          refine ⟨s1.trans x34, s2.trans (Ex.tx x34), s2'.trans (Ex.tx x34), s2''.trans (Ex.tx x34), s2b.trans (Bs.ex x34), ys, _, _, x34 _ _ s3, ?_, rfl⟩
          rw [inF_no hm2 (by rw [he]; exact hb)]
          exact dxs x34 s4
      · obtain ⟨s1, s2, s2', s2'', s2b, ys, o9, o10, s3, s4, rfl⟩ := pv
        refine ⟨s1, s2, ys, _, _, _, _, s3, ?_, rfl⟩
        rw [midF_succ hj]
        exact s4
    · obtain ⟨r1, r2, ys, o7, o8, o9, o10, r3, r4, rfl⟩ := pv
      rw [midF_all] at r4
      exact s_asg (ev_var rfl) fun G2 x2 => ⟨p1.trans (r1.trans x2), p2.trans (Ex.tx (r1.trans x2)), l, ys, _, _, _, _, _, _, _, x2 _ _ r3, dxs x2 r4, rfl⟩
  · obtain ⟨p1, p2, lf, xs, o4, o5, o6, o7, o8, o9, o10, p3, p4, rfl⟩ := pv
    have S5 := src_lst (K := K) (σ := [some (.ref b), some (.ref lt), some (.ref ll), some (.ref lf), o4, o5, o6, o7, o8, o9, o10]) (H := G) (ss := (allF n (tiesN n).length).map entD) (tl := tVar 3) (evd_var rfl (.lst (SqL.of p3) p4))
    rw [List.length_map] at S5
    obtain ⟨fl, ff⟩ := allF_facts n1 n3 tl
    have lc := evdl_lcE (vs := [7, 8]) (g := gTup K 2 (gCons (gName 7) (gCons (gName 8) gNil))) (te := tVar 7) S5 (fun _ _ e => Ex.kx e) (by omega) (fun i => rowD ((allF n (tiesN n).length).getD i ([], [])).1) (fun i _ => rowD_noL _) (fun i x Hi Q hi e hx k => by
      have ei : ((allF n (tiesN n).length).map entD).getD i .none = entD ((allF n (tiesN n).length).getD i ([], [])) := by
        rw [List.getD_eq_getElem?_getD, List.getD_eq_getElem?_getD, List.getElem?_map, List.getElem?_eq_getElem hi]
        rfl
      rw [ei] at hx
      exact g_tup2 (K := K) hx fun u7 u8 h7 h8 => k _ rfl (evd_var (v := u7) rfl h7))
    have er : ((List.range (allF n (tiesN n).length).length).map fun i => rowD ((allF n (tiesN n).length).getD i ([], [])).1) = (allF n (tiesN n).length).map fun e => rowD e.1 := by
      have hh := congrArg (List.map fun e : Ent => rowD e.1) (range_getD (allF n (tiesN n).length) ([], []))
      rw [List.map_map] at hh
      exact hh
    rw [er] at lc
    exact s_retDL lc fun p ys G5 hp5 x5 g5 hd5 => q p ys G5 (fresh_back (b3.trans p1) hp5) ((b3.trans p1).trans x5) g5 hd5
end
end K41
set_option Elab.async false
set_option linter.all false
set_option maxRecDepth 100000
set_option maxHeartbeats 5000000
namespace K41
open PySem PySem.Spec PyProof.Rows L2 Evl
section
variable {P : Program} {w : World} {K : PySem.W.Frag} {mg : Str → Option Value} {base : Heap}
theorem pkD_noL (pk : List (List Nat)) : ∀ ds, ds ∈ pk.map encN → noLs ds = true := fun ds h => by
  obtain ⟨k, _, rfl⟩ := List.mem_map.mp h
  exact encN_noL k
theorem ok_rule_filled (T : Txt K mg) : Cal P w K mg base "rule_filled" 4 ["book", "row"] [] (spBD K mg RruleFilled) := by
  refine T.d_rule_filled.ok sc_rule_filled (fun _ _ _ _ _ _ us hl => match us, hl with | [_, _], _ => rfl) (fun vs H Q E h => by obtain ⟨b, n, us, ds, d, rfl, B, hu, n1, n3, ⟨ts, c, rfl, _⟩, _⟩ := h; obtain ⟨x, rfl, _⟩ := all1 hu; rfl) (fun f cdv A outer s H vs Q E hr h => ?_)
  obtain ⟨b, n, us, ds, d, rfl, B, hu, n1, n3, ⟨row, c, rfl, rl, rc, rfl⟩, q⟩ := h
  obtain ⟨x, rfl, h1⟩ := all1 hu
  refine ⟨_, (pss_cons (ps_setLc (i := 2) (own := [("place", 3)]) (g := (gName 3)) (tt := tYes) rfl sc_rule_filled.nd rfl rfl (sw_true rfl rfl rfl (by decide +kernel)) (pi_range1 (by rfl) T.z_range (pa_cons (pe_ix (ix_tupK (K := K) rfl) (pe_gTK (K := K) rfl T.c_POWERS (by rfl) nd_POWERS) (pe_fldK (K := K) rfl (pv 0 (hd := nd_book) (hcd := nc_book)) rfl) (fun _ _ => rfl)) pa_nil)) (blkOk_by (N := ["book", "row", "picked", "place", "tie", "filling", "flag", "lot"]) (sc := defScope st_rule_filled) (own := [("place", 3)]) (by decide +kernel)) (fun _ _ _ _ _ => (pg_name (i := 3) sc_rule_filled.nd rfl (by first | exact Or.inl rfl | exact Or.inr rfl))) (fun _ _ _ _ _ => pts_nil) (fun _ _ _ _ _ => (pe_lst pa_nil)))
      (pss_cons (ps_for PassesOwn.never rfl (z2K (K := K) rfl (pi_z2 (by rfl) T.z_zip (pa_cons (pe_cal (ok_own_ties T) (hr.mono (by decide)) (by rfl) (pa_cons (pv 0 (hd := nd_book) (hcd := nc_book)) pa_nil) (hdb := nd_own_ties)) (pa_cons (pv 1 (hd := nd_row) (hcd := nc_row)) pa_nil)))) (pg_tupK (K := K) rfl rfl (pgs_cons (pg_name (i := 4) sc_rule_filled.nd rfl (by first | exact Or.inl rfl | exact Or.inr rfl)) (pgs_cons (pg_name (i := 5) sc_rule_filled.nd rfl (by first | exact Or.inl rfl | exact Or.inr rfl)) pgs_nil)))
        (pss_one (ps_for PassesOwn.never rfl (z2K (K := K) rfl (pi_z2 (by rfl) T.z_zip (pa_cons (pe_tup (pa_cons (pe_ix (ix_tupK (K := K) rfl) (pv 4 (hd := nd_tie) (hcd := nc_tie)) pe_int (fun _ _ => rfl)) (pa_cons (pe_ix (ix_tupK (K := K) rfl) (pv 4 (hd := nd_tie) (hcd := nc_tie)) pe_int (fun _ _ => rfl)) pa_nil))) (pa_cons (pv 5 (hd := nd_filling) (hcd := nc_filling)) pa_nil)))) (pg_tupK (K := K) rfl rfl (pgs_cons (pg_name (i := 3) sc_rule_filled.nd rfl (by first | exact Or.inl rfl | exact Or.inr rfl)) (pgs_cons (pg_name (i := 6) sc_rule_filled.nd rfl (by first | exact Or.inl rfl | exact Or.inr rfl)) pgs_nil)))
          (pss_one (ps_if (pt_val (pv 6 (hd := nd_flag) (hcd := nc_flag))) (pss_one (ps_expr (bmK (K := K) rfl (pe_bm PySem.F.plainAttrs_list PySem.F.slot_list_append PySem.F.type_list_append mt_append (pe_ix (ix_listK (K := K) rfl) (pv 2 (hd := nd_picked) (hcd := nc_picked)) (pv 3 (hd := nd_place) (hcd := nc_place)) (fun _ _ => rfl)) (pa_cons (pe_ix (ix_tupK (K := K) rfl) (pv 4 (hd := nd_tie) (hcd := nc_tie)) pe_int (fun _ _ => rfl)) pa_nil)))))
          pss_nil)))))
      (pss_one (ps_ret (pe_callTy (call_tupK (K := K) rfl) (by rfl) T.z_tuple bt_tuple (pa_cons (pe_lc (own := [("lot", 7)]) (g := (gName 7)) (tt := tYes) rfl sc_rule_filled.nd (pi_listK (K := K) rfl (pv 2 (hd := nd_picked) (hcd := nc_picked))) (blkOk_by (N := ["book", "row", "picked", "place", "tie", "filling", "flag", "lot"]) (sc := defScope st_rule_filled) (own := [("lot", 7)]) (by decide +kernel)) (fun _ _ _ _ _ => (pg_name (i := 7) sc_rule_filled.nd rfl (by first | exact Or.inl rfl | exact Or.inr rfl))) (fun _ _ _ _ _ => pts_nil) (fun _ _ _ _ _ => (pe_callTy (call_tupK (K := K) rfl) (by rfl) T.z_tuple bt_tuple (pa_cons (pe_callB (cr_sortedK (K := K) rfl hr.units) (by rfl) T.z_sorted bt_sorted (pa_cons (pv 7 (hd := nd_lot) (hcd := nc_lot)) pa_nil) (hn := nn_sorted) (hdb := nd_sorted)) pa_nil) (hn := nn_tuple) (hdb := nd_tuple)))) pa_nil) (hn := nn_tuple) (hdb := nd_tuple)))))), ?_⟩
  have hp := two_pow_pos n
  have n8 : n ≤ 8 := by omega
  have hp8 := pow_le8 n8
  obtain ⟨tok, tl⟩ := ties_facts n1 n3
  have S0 := src_rng (K := K) (H := H) (σ := L2.start ["book", "row", "picked", "place", "tie", "filling", "flag", "lot"] [.ref b, x]) (n := ((2 ^ n : Nat) : Int)) (tr := tCons (tOp (rIxT K) (tGT K powV) (tFld K (tVar 0) "many")) tNil) (evds_cons (ev_pow (k := n) (ev_bMany B (ev_var rfl)) rfl n8) evds_nil) (by omega) (by omega)
  rw [Int.toNat_natCast] at S0
  refine q_asgR ?_
  refine evl_lcL (te := tLst tNil) (vs := [3]) (j := 3) S0 (fun _ _ _ => trivial) (by omega) (fun _ => []) (fun _ _ => rfl) (fun _ => rfl) (fun i v Hi hi e hv => evdl_lst evds_nil (by simp)) H (Ex.refl _) _ fun lp as H1 hlp e1 g1 nlp L => ?_
  have eL : ((List.range (2 ^ n)).map fun _ => ([] : List PyData)) = (pkAt n row 0).map encN := by
    refine List.ext_getElem (by simp [pkAt]) fun i h1 h2 => ?_
    simp [pkAt, encN]
  rw [eL] at L
  have S1 := src_z2F (K := K) (σ := [some (.ref b), some x, some (.ref lp), none, none, none, none, none]) (H := H1) (ta := tCall (spBL K mg RownTies) [] E0 (tCons (tVar 0) tNil)) (tb := tVar 1) (ss := (tiesN n).map tieD) (ts := row.map fun b => filD b b) (evdl_bk (B.ex' e1) n1 n3 (ev_var rfl) evds_nil ⟨rfl, rfl⟩) (evd_var rfl (dx e1 h1)) (tieD_noLs _) (rowD_noL row) (fun a => a ∈ as) (fun a m z => by
    obtain ⟨ys, hy⟩ := L.mem m
    rw [hy] at z
    cases z)
  rw [List.length_map, List.length_map, rl, Nat.min_self] at S1
  refine q_for S1 (fun Ha i σ' G => Ex H G ∧ Tx K Ha G ∧ Bs (fun a => a ∈ as) Ha G ∧ G lp = some (.lst (as.map V.ref)) ∧ Lsts K H G as ((pkAt n row i).map encN) ∧ ∃ o3 o4 o5 o6 o7, σ' = [some (.ref b), some x, some (.ref lp), o3, o4, o5, o6, o7])
    (fun G e => ⟨e1.trans e, Tx.refl, Bs.refl, e _ _ g1, L.ex e, _, _, _, _, _, rfl⟩) (fun Ha i σ' G _ p => ⟨p.2.1, p.2.2.1⟩)
    (fun Ha i σ' G G' ⟨p1, p2, p3, p4, p5, p6⟩ e => ⟨p1.trans e, p2.trans (Ex.tx e), p3.trans (Bs.ex e), e _ _ p4, p5.ex e, p6⟩) (fun Ha i σ' G v hi pv hv => ?_) (fun Ha σ' G pv => ?_)
  · obtain ⟨p1, p2, p3, p4, p5, o3, o4, o5, o6, o7, rfl⟩ := pv
    rw [tieD_getD hi] at hv
    have er : (row.map fun b => filD b b).getD i .none = filD (row.getD i false) (row.getD i false) := by
      rw [List.getD_eq_getElem?_getD, List.getD_eq_getElem?_getD, List.getElem?_map, List.getElem?_eq_getElem (by rw [rl]; exact hi)]
      rfl
    rw [er] at hv
    obtain ⟨k1, k2, k3⟩ := okTie_iff (tok _ (getD_mem (z := (0, 0, 0)) hi))
    have ep : pkAt n row (i + 1) = pkIn (pkAt n row i) (tieAt n i) (row.getD i false) 2 := rfl
    have lots := pkAt_lots n row i
    have plen := pkAt_len n row i
    change (tieAt n i).1 < 2 ^ n at k1
    change (tieAt n i).2.2 < 2 ^ n at k3
    change Dp K G v (.tuple [tieD (tieAt n i), _]) at hv
    rw [ep]
    generalize tieAt n i = t at hv k1 k2 k3 ⊢
    generalize row.getD i false = fl at hv ⊢
    generalize pkAt n row i = pk at p5 lots plen ⊢
    refine g_tup2 (K := K) hv fun u4 u5 hu4 hu5 => ?_
    have S2 := src_z2T (K := K) (σ := [some (.ref b), some x, some (.ref lp), o3, some u4, some u5, o6, o7]) (H := G) (ta := tTup (tCons (tOp (rIxT K) (tVar 4) (tC (.int 0))) (tCons (tOp (rIxT K) (tVar 4) (tC (.int 2))) tNil))) (tb := tVar 5) (ss := [.int (t.1 : Int), .int (t.2.2 : Int)]) (ts := [.bool fl, .bool fl])
      (evd_tup (evds_cons (evd_op (evd_var rfl hu4) evd_int (rd_ixT (j := 0) rfl)) (evds_cons (evd_op (evd_var rfl hu4) evd_int (rd_ixT (j := 2) rfl)) evds_nil)) (show 2 ≤ 100000 by decide)) (evd_var rfl hu5) rfl rfl
    refine s_for S2 (fun Hb k σ' G' => Ex H G' ∧ Tx K Ha G' ∧ Tx K G G' ∧ Tx K Hb G' ∧ Bs (fun a => a ∈ as) Ha G' ∧ G' lp = some (.lst (as.map V.ref)) ∧ Lsts K H G' as ((pkIn pk t fl k).map encN) ∧ ∃ o3 o6, σ' = [some (.ref b), some x, some (.ref lp), o3, some u4, some u5, o6, o7])
      (fun G' e => ⟨p1.trans e, p2.trans (Ex.tx e), Ex.tx e, Tx.refl, p3.trans (Bs.ex e), e _ _ p4, p5.ex e, _, _, rfl⟩) (fun Hb k σ' G' _ p => p.2.2.2.1)
      (fun Hb k σ' G' G'' ⟨p1, p2, p2', p2'', p3, p4, p5, p6⟩ e => ⟨p1.trans e, p2.trans (Ex.tx e), p2'.trans (Ex.tx e), p2''.trans (Ex.tx e), p3.trans (Bs.ex e), e _ _ p4, p5.ex e, p6⟩) (fun Hb k σ' G' v hk pv hv => ?_) (fun Hb σ' G' pv => ?_)
    · obtain ⟨r1, r2, r2', r2'', r3, r4, r5, o3, o6, rfl⟩ := pv
      have hk2 : k < 2 := hk
      have ei : PyData.tuple [([.int (t.1 : Int), .int (t.2.2 : Int)] : List PyData).getD k .none, ([.bool fl, .bool fl] : List PyData).getD k .none] = .tuple [.int ((if k = 0 then t.1 else t.2.2 : Nat) : Int), .bool fl] := by
        have : k = 0 ∨ k = 1 := by omega
        rcases this with e | e <;> (subst e; rfl)
      rw [ei] at hv
      have hz : (if k = 0 then t.1 else t.2.2 : Nat) < 2 ^ n := by split <;> assumption
      have ek : pkIn pk t fl (k + 1) = if fl then pickS (pkIn pk t fl k) (if k = 0 then t.1 else t.2.2) t.2.1 else pkIn pk t fl k := rfl
      rw [ek]
      generalize (if k = 0 then t.1 else t.2.2 : Nat) = z at hv hz ⊢
      refine g_tup2 (K := K) hv fun u3 u6 hu3 hu6 => ?_
      rw [hu3.intV]
      refine s_when (b := fl) (et_DB (evd_var rfl hu6)) (fun hb G2 x2 => ?_) (fun hb G2 x2 => ?_)
      · have r4' := x2 _ _ r4
        have r5' := r5.ex x2
        have hlen := r5'.len
        rw [List.length_map, pkIn_len, plen] at hlen
        obtain ⟨a, ha⟩ : ∃ a, as[z]? = some a := ⟨_, List.getElem?_eq_getElem (by omega)⟩
        have hzp : z < (pkIn pk t fl k).length := by rw [pkIn_len, plen]; exact hz
        have hd : ((pkIn pk t fl k).map encN)[z]? = some (encN ((pkIn pk t fl k).getD z [])) := by
          rw [List.getElem?_map, List.getD_eq_getElem?_getD, List.getElem?_eq_getElem hzp]
          rfl
        obtain ⟨ys, hy, hyd⟩ := r5'.get z a _ ha hd
        have hly := DpAll.length hyd
        have lots2 := pkIn_lots (t := t) (b := fl) lots k _ (getD_mem (z := []) hzp)
        have eva : Ev (tOp (rIxL K) (tVar 2) (tVar 3)) [some (.ref b), some x, some (.ref lp), some (.int (z : Int)), some u4, some u5, some u6, o7] G2 (.ref a) := ev_op (ev_var rfl) (ev_var rfl) (rv_ixL (SqL.of r4') (atI_n (by rw [List.getElem?_map, ha]; rfl)))
        have hu4' := dx x2 (Dp.tx r2' (tieD t) _ rfl hu4)
        refine s_appD (K := K) hy eva (evd_op (evd_var rfl hu4') evd_int (rd_ixT (j := 1) rfl)) (by rw [hly, encN_len]; omega) fun v7 G3 x3 hv7 => ?_
        have hy3 := x3 _ _ hy
        have mem : a ∈ as := List.mem_of_getElem? ha
        have t4 : Tx K G3 (upd G3 a (.lst (ys ++ [v7]))) := Tx.updL hy3
        have t5 : Tx K G' (upd G3 a (.lst (ys ++ [v7]))) := (Ex.tx (x2.trans x3)).trans t4
        refine ⟨Ex.mut (r1.trans (x2.trans x3)) (r5.old a mem), r2.trans t5, r2'.trans t5, r2''.trans t5, r3.trans ((Bs.ex (x2.trans x3)).trans (Bs.upd mem)), ?_, ?_, _, _, rfl⟩
        · rw [upd_ne (fun e => nlp (by rw [e]; exact mem))]
          exact x3 _ _ r4'
        · rw [if_pos hb]
          have q1 := (r5'.ex x3).snocAt (pkD_noL _) ha hd hy3 (d := .int (t.2.1 : Int)) rfl hv7
          have eq2 : ((pkIn pk t fl k).map encN).set z (encN ((pkIn pk t fl k).getD z []) ++ [.int (t.2.1 : Int)]) = (pickS (pkIn pk t fl k) z t.2.1).map encN := by
            unfold pickS
            rw [List.map_set]
            congr 1
            unfold encN
            rw [List.map_append]
            rfl
          rw [eq2] at q1
          exact q1
      · rw [if_neg (by rw [hb]; decide)]
        exact ⟨r1.trans x2, r2.trans (Ex.tx x2), r2'.trans (Ex.tx x2), r2''.trans (Ex.tx x2), r3.trans (Bs.ex x2), x2 _ _ r4, r5.ex x2, _, _, rfl⟩
    · obtain ⟨r1, r2, r2', r2'', r3, r4, r5, o3, o6, rfl⟩ := pv
      exact ⟨r1, r2, r3, r4, r5, _, _, _, _, _, rfl⟩
  · obtain ⟨p1, p2, p3, p4, p5, o3, o4, o5, o6, o7, rfl⟩ := pv
    rw [rc] at p5
    have dp5 := p5.dp
    have cl : c.length = 2 ^ n := by
      have h := congrArg List.length rc
      rw [pkAt_len, List.length_map] at h
      exact h.symm
    have S5 := src_lst (K := K) (σ := [some (.ref b), some x, some (.ref lp), o3, o4, o5, o6, o7]) (H := G) (tl := tVar 2) (evd_var rfl (.lst (SqL.of p4) dp5))
    rw [List.length_map, List.length_map, List.length_map, cl] at S5
    have lc := evdl_lc1 (vs := [7]) (j := 7) (te := tCB (rTupOf K) (tCons (tCB (rSortedD K) (tCons (tVar 7) tNil)) tNil)) S5 (fun _ _ e => Ex.kx e) (by omega) (fun i => .tuple [.int ((c.getD i 0 : Nat) : Int)]) (fun _ _ => rfl) (fun _ => rfl) (fun i v Hi hi e hv => by
      have ei : (((c.map fun x => [x]).map encN).map PyData.list).getD i .none = .list [.int ((c.getD i 0 : Nat) : Int)] := by
        rw [List.getD_eq_getElem?_getD, List.getD_eq_getElem?_getD, List.getElem?_map, List.getElem?_map, List.getElem?_map, List.getElem?_eq_getElem (by omega)]
        rfl
      rw [ei] at hv
      have so := evd_cb (K := K) (σ := (wipe [some (.ref b), some x, some (.ref lp), o3, o4, o5, o6, o7] [7]).set 7 (some v)) (H := Hi) (tr := tCons (tVar 7) tNil) (evds_cons (evd_var (v := v) rfl hv) evds_nil) (rc_sortedD (fun d hd d' hd' => by
          rw [List.mem_singleton] at hd hd'
          rw [hd, hd']
          rfl) (.inr fun d hd => by
          rw [List.mem_singleton] at hd
          rw [hd]
          exact ⟨(fun z => nomatch z), (fun _ z => nomatch z)⟩) (fun d hd => by
          rw [List.mem_singleton] at hd
          rw [hd]
          exact Nat.le_of_ble_eq_true rfl))
      rw [List.mergeSort_singleton] at so
      exact evd_cb (evds_cons so evds_nil) rq_tup)
    have er : ((List.range (2 ^ n)).map fun i => PyData.tuple [.int ((c.getD i 0 : Nat) : Int)]) = ruleD c := by
      have hh := congrArg (List.map fun (x : Nat) => PyData.tuple [.int (x : Int)]) (range_getD c 0)
      rw [List.map_map, cl] at hh
      exact hh
    rw [er] at lc
    exact s_retD (K := K) (evd_cb (evds_cons (evd_of_l lc) evds_nil) rq_tup) fun v G5 x5 hv => q v G5 (p1.trans x5) hv
end
end K41
set_option Elab.async false
set_option linter.all false
set_option maxRecDepth 100000
set_option maxHeartbeats 5000000
namespace K41
open PySem PySem.Spec PyProof.Rows L2 Evl
section
variable {P : Program} {w : World} {K : PySem.W.Frag} {mg : Str → Option Value} {base : Heap}
theorem ok_check_many (T : Txt K mg) : Cal P w K mg base "check_many" 3 ["many", "least", "most"] [.int 1, .int 8] (spD K RcheckMany) := by
  obtain ⟨f, fd, F, hm⟩ := T.d_check_many
  obtain ⟨ds, hds, hb⟩ := F.binds1 (ps := ["many", "least", "most"]) 1 0 (fun q => nomatch q) rfl (fun T kV doc pm an cdv ct us its h1 h2 => match us, its, h1, h2 with | [_], [_, _], _, _ => ⟨_, rfl, rfl⟩)
  refine ⟨f, fd, ds, F.ok sc_check_many (len_D (by rintro ds d ⟨i, a, b, rfl, _⟩; rfl)) (fun cdv A outer s H vs Q E hr h => ?_), hm, F.kp, hb, hds⟩
  obtain ⟨ds, d, hd, ⟨i, a, b, rfl, ha, hb, rfl⟩, k⟩ := h
  obtain ⟨x, y, z, rfl, h1, h2, h3⟩ := all3 hd
  refine ⟨_, PSs.nox (pss_one (ps_if (pt_not (pt_val (pe_cal (ok_is_within T) (hr.mono (by decide)) (by rfl) (pa_cons (pv 0 (hd := nd_many) (hcd := nc_many)) (pa_cons (pv 1 (hd := nd_least) (hcd := nc_least)) (pa_cons (pv 2 (hd := nd_most) (hcd := nc_most)) pa_nil))) (hdb := nd_is_within)))) (pss_one ps_never)
      pss_nil)), ?_⟩
  refine s_when (b := !true) (et_not (et_DB (evd_is (evd_call (evds_cons (evd_var rfl (by first | assumption | exact .int _ | exact .bl _ | exact .str _ | exact .non)) (evds_cons (evd_var rfl (by first | assumption | exact .int _ | exact .bl _ | exact .str _ | exact .non)) (evds_cons (evd_var rfl (by first | assumption | exact .int _ | exact .bl _ | exact .str _ | exact .non)) evds_nil))) ⟨i, a, b, rfl, rfl⟩) (congrArg PyData.bool ?_)))) (fun q => nomatch q) fun _ H1 e1 => k _ H1 e1 .non
  rw [decide_eq_true ha, decide_eq_true hb]
  rfl
end
end K41
set_option Elab.async false
set_option linter.all false
set_option maxRecDepth 100000
set_option maxHeartbeats 5000000
namespace K41
open PySem PySem.Spec PyProof.Rows L2 Evl
section
variable {P : Program} {w : World} {K : PySem.W.Frag} {mg : Str → Option Value} {base : Heap}
theorem ok_next_open (T : Txt K mg) : Cal P w K mg base "next_open" 1 ["known"] [] (spD K RnextOpen) := by
  refine T.d_next_open.ok sc_next_open (fun _ _ _ _ _ _ us hl => match us, hl with | [_], _ => rfl) (len_D (by rintro ds d ⟨k, rfl, _⟩; rfl)) (fun f cdv A outer s H vs Q E hr h => ?_)
  obtain ⟨ds, d, hd, ⟨k, rfl, kl, rfl⟩, q⟩ := h
  obtain ⟨x, rfl, h1⟩ := all1 hd
  obtain ⟨a, xs, rfl, hs, ha⟩ := h1.lstV
  refine ⟨_, (pss_cons (ps_for PassesOwn.never rfl (enK (K := K) rfl (pi_en (by rfl) T.z_enumerate (pa_cons (pv 0 (hd := nd_known) (hcd := nc_known)) pa_nil))) (pg_tupK (K := K) rfl rfl (pgs_cons (pg_name (i := 1) sc_next_open.nd rfl (by first | exact Or.inl rfl | exact Or.inr rfl)) (pgs_cons (pg_name (i := 2) sc_next_open.nd rfl (by first | exact Or.inl rfl | exact Or.inr rfl)) pgs_nil)))
        (pss_one (ps_if (pt_cmpR op_isNK (pv 2 (hd := nd_member) (hcd := nc_member)) pe_non (nomark _)) (pss_one (ps_ret (pv 1 (hd := nd_row) (hcd := nc_row))))
        pss_nil)))
      (pss_one (ps_ret pe_non))), ?_⟩
  refine q_for (src_enA (K := K) (ev_var rfl) hs ha (oD_noLs k)) (fun H3 i σ' G => Ex H G ∧ Tx K H3 G ∧ (∀ j, j < i → (k.getD j none).isNone = false) ∧ ∃ o1 o2, σ' = [some (.ref a), o1, o2]) (fun H3 e3 => ⟨e3, Tx.refl, fun j hj => by omega, _, _, rfl⟩) (fun H3 i σ' G _ p => ⟨p.2.1, ex_l p.1 hs⟩)
    (fun H3 i σ' Hi Hi' p e => ⟨p.1.trans e, p.2.1.trans (Ex.tx e), p.2.2⟩) (fun H3 i σ' Hi v hi p hv => ?_) (fun H3 σ' G p => ?_)
  · obtain ⟨p1, p2, p3, o1, o2, rfl⟩ := p
    have hi' : i < k.length := by rw [List.length_map] at hi; exact hi
    refine g_tup2 (K := K) hv fun u1 u2 hu1 hu2 => ?_
    rw [hu1.intV]
    have e4 : (k.map oD).getD i .none = oD (k.getD i none) := by rw [List.getD_eq_getElem?_getD, oD_get hi']; rfl
    rw [e4] at hu2
    refine s_when (b := (k.getD i none).isNone) (et_D (evd_is (evd_op (evd_var rfl hu2) evd_non rq_isN) (congrArg PyData.bool (isNon_oD _)))) (fun hb H4 e5 => ?_) (fun hb H4 e5 => ?_)
    · refine s_retD (K := K) (evd_var rfl (.int (i : Int))) fun v5 H5 e6 hv5 => q v5 H5 (p1.trans (e5.trans e6)) ?_
      rw [show nextOpen k = some i from find_range hi' hb p3]
      exact hv5
    · refine ⟨p1.trans e5, p2.trans (Ex.tx e5), fun j hj => ?_, _, _, rfl⟩
      by_cases h : j = i
      · rw [h]; exact hb
      · exact p3 j (by omega)
  · obtain ⟨p1, p2, p3, o1, o2, rfl⟩ := p
    refine s_retD (K := K) evd_non fun v5 H5 e6 hv5 => q v5 H5 (p1.trans e6) ?_
    rw [List.length_map] at p3
    rw [show nextOpen k = none from find_none p3]
    exact hv5
end
end K41
set_option Elab.async false
set_option linter.all false
set_option maxRecDepth 100000
set_option maxHeartbeats 5000000
namespace K41
open PySem PySem.Spec PyProof.Rows L2 Evl
section
variable {P : Program} {w : World} {K : PySem.W.Frag} {mg : Str → Option Value} {base : Heap}
theorem oV_set (k : List (Option Nat)) (i m : Nat) : (k.map oV).set i (.int (m : Int)) = (k.set i (some m)).map oV := by
  rw [List.map_set]
  rfl
theorem ok_with_tie (T : Txt K mg) : Cal P w K mg base "with_tie" 3 ["many", "known", "row", "member"] [] (spL K RwithTie) := by
  refine T.d_with_tie.ok sc_with_tie (fun _ _ _ _ _ _ us hl => match us, hl with | [_, _, _, _], _ => rfl) (len_L (by rintro ds d ⟨n, r, m, k, rfl, _⟩; rfl)) (fun f cdv A outer s H vs Q E hr h => ?_)
  obtain ⟨ds, d, hd, ⟨n, r, m, k, rfl, kl, hr1, hm, n8, rfl⟩, q⟩ := h
  obtain ⟨x, y, z, u, rfl, h1, h2, h3, h4⟩ := all4 hd
  refine ⟨_, (pss_cons (ps_set (i := 4) sc_with_tie.nd rfl (by first | exact Or.inl rfl | exact Or.inr rfl) (pe_callTy (call_lstK (K := K) rfl) (by rfl) T.z_list bt_list (pa_cons (pv 1 (hd := nd_known) (hcd := nc_known)) pa_nil) (hn := nn_list) (hdb := nd_list)))
      (pss_cons (ps_asg (pv 3 (hd := nd_member) (hcd := nc_member)) (pg_sub (pv 4 (hd := nd_later) (hcd := nc_later)) (pv 2 (hd := nd_row) (hcd := nc_row)) set_list))
      (pss_cons (ps_asg (pv 3 (hd := nd_member) (hcd := nc_member)) (pg_sub (pv 4 (hd := nd_later) (hcd := nc_later)) (pe_cal (ok_turned T) (hr.mono (by decide)) (by rfl) (pa_cons (pv 0 (hd := nd_many) (hcd := nc_many)) (pa_cons (pv 2 (hd := nd_row) (hcd := nc_row)) (pa_cons (pv 3 (hd := nd_member) (hcd := nc_member)) pa_nil))) (hdb := nd_turned)) set_list))
      (pss_one (ps_ret (pv 4 (hd := nd_later) (hcd := nc_later))))))), ?_⟩
  refine q_asgDL (evdq_listL (evd_var rfl h2)) fun l xs H1 hl e1 g1 hd1 => ?_
  have exs := oV_of hd1
  subst exs
  refine q_setD (K := K) (j := r) g1 (evd_var rfl (dx e1 h4)) (ev_var rfl) (evd_var rfl (dx e1 h3)) (by rw [List.length_map, kl]; exact hr1) fun v2 H2 e2 hv2 => ?_
  rw [hv2.intV, oV_set]
  have e3 : Ex H (upd H2 l (.lst ((k.set r (some m)).map oV))) := Ex.mut (e1.trans e2) hl
  refine q_setD (K := K) (j := turn n r m) upd_same (evd_var rfl (dx e3 h4)) (ev_var rfl) (evd_call (evds_cons (evd_var rfl (dx e3 h1)) (evds_cons (evd_var rfl (dx e3 h3)) (evds_cons (evd_var rfl (dx e3 h4)) evds_nil))) ⟨n, r, m, rfl, hm, n8, rfl⟩) (by rw [List.length_map, List.length_set, kl]; exact (turn_facts n8 hm hr1).1) fun v4 H4 e4 hv4 => ?_
  rw [hv4.intV, oV_set]
  exact s_ret (ev_var rfl) fun H5 e5 => q l _ H5 hl ((Ex.mut (e3.trans e4) hl).trans e5) (e5 _ _ upd_same) (oV_dp _)
end
end K41
set_option Elab.async false
set_option linter.all false
set_option maxRecDepth 100000
set_option maxHeartbeats 5000000
namespace K41
open PySem PySem.Spec PyProof.Rows L2 Evl
section
variable {P : Program} {w : World} {K : PySem.W.Frag} {mg : Str → Option Value} {base : Heap}
theorem evdl_rep1 {K : PySem.W.Frag} {σ : L2.St} {H : Hp} {te tk : TE} {d : PyData} {k : Nat} (h : EvD K te σ H d) (hk : EvD K tk σ H (.int (k : Int))) (h1 : k ≤ 1000) : EvDL K (tOp rRep (tLst (tCons te tNil)) tk) σ H (List.replicate k d) := fun H1 e Q q =>
  (evdl_lst (evds_cons h evds_nil) (by simp)) H1 e _ fun p xs H2 hp e2 h2 hd => hk H2 (e.trans e2) _ fun v H3 e3 hv => by
    cases hd with
    | cons hv1 hn =>
      cases hn
      rename_i v1
      refine ⟨p, (k : Int), [v1], rfl, hv.intV, e3 _ _ h2, by omega, by omega, ?_, fun c hc => ?_⟩
      · rw [Int.toNat_natCast]
        show 1 * k ≤ sizeLine
        have : 1000 ≤ sizeLine := by decide
        omega
      have er : (List.replicate ((k : Nat) : Int).toNat [v1]).flatten = List.replicate k v1 := by
        rw [Int.toNat_natCast]
        clear hk h1 hv q
        induction k with
        | zero => rfl
        | succ k ih =>
          rw [List.replicate_succ, List.replicate_succ, List.flatten_cons, ih]
          rfl
      rw [er]
      refine q c _ _ (fresh_back (e2.trans e3) hc) ((e2.trans e3).trans (Ex.new hc)) upd_same ?_
      have hv2 := dx (e3.trans (Ex.new (o := .lst (List.replicate k v1)) hc)) hv1
      refine DpAll.mk (by simp) fun i v d' g1 g2 => ?_
      rw [List.getElem?_replicate] at g1 g2
      split at g1
      · rename_i z
        rw [if_pos z] at g2
        cases g1
        cases g2
        exact hv2
      · cases g1
def knL (wt : List (List (Option Nat))) : List PyData := wt.map fun k => .list (k.map oD)
theorem kn_refs {K : PySem.W.Frag} {H : Hp} : ∀ {wt : List (List (Option Nat))} {vs : List V}, DpAll K H vs (knL wt) → ∀ y, y ∈ vs → ∃ a, y = .ref a
  | [], _, h, y, m => by cases h; cases m
  | k :: wt, _, h, y, m => by
    cases h with
    | cons a b =>
      rcases List.mem_cons.mp m with e0 | e0
      · obtain ⟨c, _, q, _⟩ := a.lstV
        exact ⟨c, e0.trans q⟩
      · exact kn_refs (wt := wt) b y e0
theorem tup_refs {K : PySem.W.Frag} {H : Hp} : ∀ {fs : List (List PyData)} {vs : List V}, DpAll K H vs (fs.map PyData.tuple) → ∀ y, y ∈ vs → ∃ a, y = .ref a
  | [], _, h, y, m => by cases h; cases m
  | k :: wt, _, h, y, m => by
    cases h with
    | cons a b =>
      rcases List.mem_cons.mp m with e0 | e0
      · obtain ⟨c, _, q, _⟩ := a.tupV
        exact ⟨c, e0.trans q⟩
      · exact tup_refs (fs := wt) b y e0
theorem kn_upd1 {K : PySem.W.Frag} {H : Hp} {l : Addr} {o : HO} {ys : List V} (hl : H l = some (.lst ys)) (hr : ∀ y, y ∈ ys → ∃ a, y = .ref a) {k : List (Option Nat)} (hk : 0 < k.length) {v : V} (h : Dp K H v (.list (k.map oD))) : Dp K (upd H l o) v (.list (k.map oD)) := by
  obtain ⟨a, xs, rfl, hs, ha⟩ := h.lstV
  have ex := oV_of ha
  subst ex
  refine .lst ?_ (oV_dp k)
  rcases hs with (q | ⟨ob, q⟩) | q
  · refine .inl (.inl ?_)
    rw [upd_ne (fun e => ?_)]
    · exact q
    · rw [e, hl] at q
      cases q
      cases k with
      | nil => exact absurd hk (by decide)
      | cons z k =>
        obtain ⟨a', e'⟩ := hr (oV z) List.mem_cons_self
        cases z <;> cases e'
  · refine .inl (.inr ⟨ob, ?_⟩)
    rw [upd_ne (fun e => ?_)]
    · exact q
    · rw [e, hl] at q
      cases q
  · exact .inr q
theorem kn_upd {K : PySem.W.Frag} {H : Hp} {l : Addr} {o : HO} {ys : List V} (hl : H l = some (.lst ys)) (hr : ∀ y, y ∈ ys → ∃ a, y = .ref a) : ∀ {wt : List (List (Option Nat))} {vs : List V}, (∀ k, k ∈ wt → 0 < k.length) → DpAll K H vs (knL wt) → DpAll K (upd H l o) vs (knL wt)
  | [], _, _, h => by cases h; exact .nil
  | k :: wt, _, hk, h => by
    cases h with
    | cons a b => exact .cons (kn_upd1 hl hr (hk k List.mem_cons_self) a) (kn_upd hl hr (fun k' m => hk k' (List.mem_cons_of_mem _ m)) b)
theorem dpall_dropLast {K : PySem.W.Frag} {H : Hp} {vs : List V} {ds : List PyData} (h : DpAll K H vs ds) : DpAll K H vs.dropLast ds.dropLast := by
  have hl := DpAll.length h
  refine DpAll.mk (by rw [List.length_dropLast, List.length_dropLast, hl]) fun i v d h1 h2 => ?_
  rw [List.dropLast_eq_take] at h1 h2
  rw [List.getElem?_take] at h1 h2
  split at h1
  · split at h2
    · obtain ⟨d', h3, h4⟩ := DpAll.getV h h1
      rw [h2] at h3
      cases h3
      exact h4
    · cases h2
  · cases h1
theorem foundD_noL (fs : List (List (Option Nat))) : noLs (fs.map fun k => PyData.tuple (k.map oD)) = true := noLs_all fun d hd => by
  obtain ⟨k, _, rfl⟩ := List.mem_map.mp hd
  exact oD_noLs k
theorem evdl_sorted {K : PySem.W.Frag} {σ : L2.St} {H : Hp} {ta : TE} {ds : List PyData} (h : EvD K ta σ H (.list ds)) (h1 : PySem.W.AllAlike ds) (h2 : PySem.W.Sortable ds) (h3 : ∀ d, d ∈ ds → d.depth ≤ 8) : EvDL K (tCB (rSortedD K) (tCons ta tNil)) σ H (ds.mergeSort (PySem.W.dataLe false id)) := fun H1 e Q q =>
  h H1 e _ fun v H2 e2 hv => by
    obtain ⟨a, xs, rfl, hs, ha⟩ := hv.lstV
    exact ⟨a, xs, ds, rfl, hs, ha, h1, h2, h3, fun p ys hp hd => q p ys _ (fresh_back e2 hp) (e2.trans (Ex.new hp)) upd_same hd⟩
theorem ok_couplings (T : Txt K mg) : Cal P w K mg base "couplings" 4 ["many"] [] (spL K Rcouplings) := by
  refine T.d_couplings.ok sc_couplings (fun _ _ _ _ _ _ us hl => match us, hl with | [_], _ => rfl) (len_L (by rintro ds d ⟨k, rfl, _⟩; rfl)) (fun f cdv A outer s H vs Q E hr h => ?_)
  obtain ⟨ds, d, hd, ⟨n, rfl, n1, n3, rfl⟩, q⟩ := h
  obtain ⟨x, rfl, hx⟩ := all1 hd
  rw [hx.intV]
  refine ⟨_, (pss_cons (ps_expr (pe_cal (ok_check_many T) (hr.mono (by decide)) (by rfl) (pa_cons (pv 0 (hd := nd_many) (hcd := nc_many)) pa_nil) (hdb := nd_check_many)))
      (pss_cons (ps_if (pt_cmpR op_gt (pv 0 (hd := nd_many) (hcd := nc_many)) (pe_gI T.c_MOST_LISTED_couplings (by rfl) nd_MOST_LISTED_couplings) (nomark _)) (pss_one ps_never)
      pss_nil)
      (pss_cons (ps_set (i := 1) sc_couplings.nd rfl (by first | exact Or.inl rfl | exact Or.inr rfl) (pe_lst pa_nil))
      (pss_cons (ps_set (i := 2) sc_couplings.nd rfl (by first | exact Or.inl rfl | exact Or.inr rfl) (pe_lst (pa_cons (pe_op op_rep (pe_lst (pa_cons pe_non pa_nil)) (pe_ix (ix_tupK (K := K) rfl) (pe_gTK (K := K) rfl T.c_POWERS (by rfl) nd_POWERS) (pv 0 (hd := nd_many) (hcd := nc_many)) (fun _ _ => rfl))) pa_nil)))
      (pss_cons (ps_while PassesOwn.never (pt_cmpR op_gt (pe_callB (call_lenQ (K := K) rfl) (by rfl) T.z_len bt_len (pa_cons (pv 2 (hd := nd_waiting) (hcd := nc_waiting)) pa_nil) (hn := nn_len) (hdb := nd_len)) pe_int (nomark _))
        (pss_cons (ps_set (i := 3) sc_couplings.nd rfl (by first | exact Or.inl rfl | exact Or.inr rfl) (bm0K (K := K) rfl (pe_bm0 PySem.F.plainAttrs_list PySem.F.slot_list_pop PySem.F.type_list_pop mt_pop (pv 2 (hd := nd_waiting) (hcd := nc_waiting)))))
        (pss_cons (ps_set (i := 4) sc_couplings.nd rfl (by first | exact Or.inl rfl | exact Or.inr rfl) (pe_cal (ok_next_open T) (hr.mono (by decide)) (by rfl) (pa_cons (pv 3 (hd := nd_known) (hcd := nc_known)) pa_nil) (hdb := nd_next_open)))
        (pss_one (ps_if (pt_cmpR op_isNK (pv 4 (hd := nd_row) (hcd := nc_row)) pe_non (nomark _)) (pss_one (ps_expr (bmK (K := K) rfl (pe_bm PySem.F.plainAttrs_list PySem.F.slot_list_append PySem.F.type_list_append mt_append (pv 1 (hd := nd_found) (hcd := nc_found)) (pa_cons (pe_callTy (call_tupK (K := K) rfl) (by rfl) T.z_tuple bt_tuple (pa_cons (pv 3 (hd := nd_known) (hcd := nc_known)) pa_nil) (hn := nn_tuple) (hdb := nd_tuple)) pa_nil)))))
        (pss_cons (ps_setLc (i := 5) (own := [("member", 6)]) (g := (gName 6)) (tt := _) rfl sc_couplings.nd rfl rfl (sw_true rfl rfl rfl (by decide +kernel)) (pi_range1 (by rfl) T.z_range (pa_cons (pv 0 (hd := nd_many) (hcd := nc_many)) pa_nil)) (blkOk_by (N := ["many", "found", "waiting", "known", "row", "open_members", "member"]) (sc := defScope st_couplings) (own := [("member", 6)]) (by decide +kernel)) (fun _ _ _ _ _ => (pg_name (i := 6) sc_couplings.nd rfl (by first | exact Or.inl rfl | exact Or.inr rfl))) (fun _ _ _ _ _ => (pts_one (pt_cmpR op_isNK (pe_ix (ix_listK (K := K) rfl) (pv 3 (hd := nd_known) (hcd := nc_known)) (pe_cal (ok_turned T) (hr.mono (by decide)) (by rfl) (pa_cons (pv 0 (hd := nd_many) (hcd := nc_many)) (pa_cons (pv 4 (hd := nd_row) (hcd := nc_row)) (pa_cons (pv 6 (hd := nd_member) (hcd := nc_member)) pa_nil))) (hdb := nd_turned)) (fun _ _ => rfl)) pe_non (nomark _)))) (fun _ _ _ _ _ => (pv 6 (hd := nd_member) (hcd := nc_member))))
          (pss_one (ps_expr (bmK (K := K) rfl (pe_bm PySem.F.plainAttrs_list PySem.F.slot_list_extend PySem.F.type_list_extend mt_extend (pv 2 (hd := nd_waiting) (hcd := nc_waiting)) (pa_cons (pe_lc (own := [("member", 6)]) (g := (gName 6)) (tt := tYes) rfl sc_couplings.nd (pi_listK (K := K) rfl (pv 5 (hd := nd_open_members) (hcd := nc_open_members))) (blkOk_by (N := ["many", "found", "waiting", "known", "row", "open_members", "member"]) (sc := defScope st_couplings) (own := [("member", 6)]) (by decide +kernel)) (fun _ _ _ _ _ => (pg_name (i := 6) sc_couplings.nd rfl (by first | exact Or.inl rfl | exact Or.inr rfl))) (fun _ _ _ _ _ => pts_nil) (fun _ _ _ _ _ => (pe_cal (ok_with_tie T) (hr.mono (by decide)) (by rfl) (pa_cons (pv 0 (hd := nd_many) (hcd := nc_many)) (pa_cons (pv 3 (hd := nd_known) (hcd := nc_known)) (pa_cons (pv 4 (hd := nd_row) (hcd := nc_row)) (pa_cons (pv 6 (hd := nd_member) (hcd := nc_member)) pa_nil)))) (hdb := nd_with_tie)))) pa_nil)))))))))))
      (pss_one (ps_ret (pe_callB (cr_sortedK (K := K) rfl hr.units) (by rfl) T.z_sorted bt_sorted (pa_cons (pv 1 (hd := nd_found) (hcd := nc_found)) pa_nil) (hn := nn_sorted) (hdb := nd_sorted))))))))), ?_⟩
  have hp := two_pow_pos n
  have n8 : n ≤ 8 := by omega
  have hp8 := pow_le8 n8
  refine q_dropD (K := K) (evd_call2 (evds_cons (evd_var rfl (.int (n : Int))) evds_nil) ⟨_, _, _, rfl, by omega, by omega, rfl⟩) fun H1 e1 => ?_
  refine q_when (b := decide ((4 : Int) < (n : Int))) (et_D (K := K) (evd_op (evd_var rfl (.int (n : Int))) evd_int rd_gt)) (fun z => absurd (of_decide_eq_true z) (by omega)) fun _ H2 e2 => ?_
  refine q_asgDL (K := K) (evdl_lst evds_nil (by simp)) fun lf xs H3 hlf e3 g3 hd3 => ?_
  cases hd3
  refine q_asgDL (K := K) (ds := knL (iterC n 0).2) (evdl_lst (evds_cons (evd_is (evd_of_l (evdl_rep1 (k := 2 ^ n) evd_non (ev_pow (evd_var (i := 0) rfl (.int (n : Int))) rfl n8) (by omega))) (by
    show _ = PyData.list ((List.replicate (2 ^ n) none).map oD)
    rw [List.map_replicate]
    rfl)) evds_nil) (show 1 ≤ 100000 by decide)) fun lw ws H4 hlw e4 g4 hd4 => ?_
  have nfw : lf ≠ lw := ne_of_none g3 hlw
  have fH : H lf = none := fresh_back (e1.trans e2) hlf
  have wH : H lw = none := fresh_back ((e1.trans e2).trans e3) hlw
  refine q_while (fun m σ' G => ∃ i, i ≤ 28 ∧ m = 28 - i ∧ Ex H G ∧ (∃ xs, G lf = some (.lst xs) ∧ DpAll K G xs ((iterC n i).1.map fun k => .tuple (k.map oD))) ∧ (∃ ws, G lw = some (.lst ws) ∧ DpAll K G ws (knL (iterC n i).2)) ∧
    ∃ o3 o4 o5 o6, σ' = [some (.int (n : Int)), some (.ref lf), some (.ref lw), o3, o4, o5, o6]) 28 ⟨0, by omega, rfl, ((e1.trans e2).trans e3).trans e4, ⟨[], e4 _ _ g3, .nil⟩, ⟨ws, g4, hd4⟩, _, _, _, _, rfl⟩ (fun m σ' G p => ?_)
  obtain ⟨i, hi, rfl, p1, ⟨xs, p2, p3⟩, ⟨ws, p4, p5⟩, o3, o4, o5, o6, rfl⟩ := p
  obtain ⟨z1, z2, z3, z4, z5⟩ := iterC_facts n1 n3 hi
  have lws := DpAll.length p5
  have lkn : (knL (iterC n i).2).length = (iterC n i).2.length := List.length_map ..
  refine ⟨decide ((0 : Int) < (((knL (iterC n i).2).length : Nat) : Int)), et_D (K := K) (evd_op (evd_cb (evds_cons (evd_var rfl (.lst (SqL.of p4) p5)) evds_nil) rq_lenL) evd_int rd_gt), fun hb G1 x1 => ?_, fun hb G1 x1 => ?_⟩
  · have hne : (iterC n i).2 ≠ [] := fun e => by
      rw [e] at hb
      exact absurd hb (by decide)
    have hi2 := z5 hne
    obtain ⟨k, hk⟩ : ∃ k, (iterC n i).2.getLast? = some k := by
      cases h : (iterC n i).2.getLast? with
      | none => exact absurd (List.getLast?_eq_none_iff.mp h) hne
      | some k => exact ⟨k, rfl⟩
    have hkm : k ∈ (iterC n i).2 := List.mem_of_getLast? hk
    have kl := z1 k hkm
    refine ⟨fun σ' G => ∃ xs ws, Ex H G ∧ G lf = some (.lst xs) ∧ DpAll K G xs ((iterC n (i + 1)).1.map fun k => .tuple (k.map oD)) ∧ G lw = some (.lst ws) ∧ DpAll K G ws (knL (iterC n (i + 1)).2) ∧ ∃ o3 o4 o5 o6, σ' = [some (.int (n : Int)), some (.ref lf), some (.ref lw), o3, o4, o5, o6],
      fun σ2 G2 ⟨xs, ws, y1, y2, y3, y4, y5, y6⟩ => ⟨28 - (i + 1), by omega, i + 1, by omega, rfl, y1, ⟨xs, y2, y3⟩, ⟨ws, y4, y5⟩, y6⟩, ?_⟩
    have p4' := x1 _ _ p4
    have p5' := dxs x1 p5
    have p2' := x1 _ _ p2
    have p3' := dxs x1 p3
    obtain ⟨y, hy, hyd⟩ := DpAll.get (i := ws.length - 1) p5' (d := .list (k.map oD)) (by
      rw [lws, lkn]
      unfold knL
      rw [List.getElem?_map, ← List.getLast?_eq_getElem?, hk]
      rfl)
    have pos : ∀ k', k' ∈ (iterC n i).2 → 0 < k'.length := fun k' m => by rw [z1 k' m]; exact hp
    have fr : ∀ {vs : List V} {G : Hp} {fs : List (List (Option Nat))}, DpAll K G vs (fs.map fun k => .tuple (k.map oD)) → ∀ y, y ∈ vs → ∃ a, y = .ref a := fun {vs G fs} h => by
      refine tup_refs (K := K) (H := G) (fs := fs.map (List.map oD)) ?_
      rw [List.map_map]
      exact h
    -- pop
    refine ⟨.ref lw, rfl, Or.inl ⟨rfl, ws, SqL.of p4'⟩, lw, ws, y, rfl, rfl, p4', hy, ?_⟩
    have t0 : Tx K G1 (upd G1 lw (.lst ws.dropLast)) := Tx.updL p4'
    have ky : Dp K (upd G1 lw (.lst ws.dropLast)) y (.list (k.map oD)) := kn_upd1 p4' (kn_refs p5') (pos k hkm) hyd
    have e0 : Ex H (upd G1 lw (.lst ws.dropLast)) := Ex.mut (p1.trans x1) wH
    have f0 : (upd G1 lw (.lst ws.dropLast)) lf = some (.lst xs) := by rw [upd_ne nfw]; exact p2'
    have fd0 : DpAll K (upd G1 lw (.lst ws.dropLast)) xs ((iterC n i).1.map fun k => .tuple (k.map oD)) := DpAll.tx t0 _ _ (foundD_noL _) p3'
    have dl : knL (iterC n i).2.dropLast = (knL (iterC n i).2).dropLast := List.map_dropLast
    have wd0 : DpAll K (upd G1 lw (.lst ws.dropLast)) ws.dropLast (knL (iterC n i).2.dropLast) := by
      refine kn_upd p4' (kn_refs p5') (fun k' m => pos k' (List.dropLast_subset _ m)) ?_
      rw [dl]
      exact dpall_dropLast p5'
    have w0 : (upd G1 lw (.lst ws.dropLast)) lw = some (.lst ws.dropLast) := upd_same
    generalize upd G1 lw (.lst ws.dropLast) = G2 at t0 ky e0 f0 fd0 wd0 w0 ⊢
    have lx := DpAll.length p3'
    rw [List.length_map] at lx
    -- next_open
    refine q_asgD (K := K) (evd_call (evds_cons (evd_var rfl ky) evds_nil) ⟨k, rfl, by omega, rfl⟩) fun v4 G3 x3 hv4 => ?_
    have ky3 := dx x3 ky
    have f3 := x3 _ _ f0
    have w3 := x3 _ _ w0
    have e3' := e0.trans x3
    refine s_if (b := (nextOpen k).isNone) (et_D (K := K) (evd_is (evd_op (evd_var rfl hv4) evd_non rq_isN) (congrArg PyData.bool (isNon_oD _)))) (fun hb G4 x4 => ?_) (fun hb G4 x4 => ?_)
    · have f4 := x4 _ _ f3
      refine s_appD (K := K) f4 (ev_var rfl) (evd_cb (evds_cons (evd_var rfl (dx x4 ky3)) evds_nil) rq_tup) (by omega) fun v5 G5 x5 hv5 => ?_
      have f5 := x5 _ _ f4
      have hno : nextOpen k = none := by
        cases h : nextOpen k with
        | none => rfl
        | some r => rw [h] at hb; cases hb
      have st : iterC n (i + 1) = ((iterC n i).1 ++ [k], (iterC n i).2.dropLast) := by
        show stepC n (iterC n i) = _
        unfold stepC
        rw [hk]
        simp only []
        rw [hno]
      have t6 : Tx K G5 (upd G5 lf (.lst (xs ++ [v5]))) := Tx.updL f5
      refine ⟨_, _, Ex.mut (((e3'.trans x4)).trans x5) fH, upd_same, ?_, (by rw [upd_ne (Ne.symm nfw)]; exact (x4.trans x5) _ _ w3), ?_, _, _, _, _, rfl⟩
      · rw [st, List.map_append]
        exact DpAll.append (DpAll.tx t6 _ _ (foundD_noL _) (dxs (x3.trans (x4.trans x5)) fd0)) (DpAll.one (Dp.tx t6 (.tuple _) _ (oD_noLs k) hv5))
      · rw [st]
        exact kn_upd f5 (fr (dxs (x3.trans (x4.trans x5)) fd0)) (fun k' m => pos k' (List.dropLast_subset _ m)) (dxs (x3.trans (x4.trans x5)) wd0)
    · obtain ⟨r, hno⟩ : ∃ r, nextOpen k = some r := by
        cases h : nextOpen k with
        | none => rw [h] at hb; cases hb
        | some r => exact ⟨r, rfl⟩
      rw [hno] at hv4
      have hr2 : r < 2 ^ n := by
        have := List.mem_of_find?_eq_some hno
        rw [kl] at this
        exact List.mem_range.mp this
      have hv4' : Dp K G3 v4 (.int (r : Int)) := hv4
      rw [hv4'.intV]
      have st : iterC n (i + 1) = ((iterC n i).1, (iterC n i).2.dropLast ++ (((List.range n).filter fun m => (k.getD (turn n r m) none).isNone).map fun m => withTie n k r m)) := by
        show stepC n (iterC n i) = _
        unfold stepC
        rw [hk]
        simp only []
        rw [hno]
      obtain ⟨z1', _, _, _, _⟩ := iterC_facts n1 n3 (show i + 1 ≤ 28 by omega)
      rw [st] at z1'
      have ky4 := dx x4 ky3
      have w4 := x4 _ _ w3
      have S1 := src_rng (K := K) (σ := [some (.int (n : Int)), some (.ref lf), some (.ref lw), some y, some (.int (r : Int)), o5, o6]) (H := G4) (n := (n : Int)) (tr := tCons (tVar 0) tNil) (evds_cons (evd_var rfl (.int (n : Int))) evds_nil) (by omega) (by omega)
      rw [Int.toNat_natCast] at S1
      have lc := evdl_lc (vs := [6]) (g := gName 6) (te := tVar 6) (tt := tTest (tOp rIsNn (tOp (rIxL K) (tVar 3) (tCall (spD K Rturned) [] E0 (tCons (tVar 0) (tCons (tVar 4) (tCons (tVar 6) tNil))))) (tC V.non))) S1 (fun _ _ _ => trivial) (by omega) (fun m => (k.getD (turn n r m) none).isNone) (fun m => .int (m : Int)) (fun _ _ _ => rfl)
        (fun m u Hi Q hm e hu kk => kk _ rfl (et_D (evd_is (evd_op (evd_op (evd_var (v := y) rfl (dx e ky4)) (evd_call (evds_cons (evd_var (v := .int (n : Int)) rfl (.int _)) (evds_cons (evd_var (v := .int (r : Int)) rfl (.int _)) (evds_cons (evd_var (v := u) rfl hu) evds_nil))) ⟨n, r, m, rfl, hm, n8, rfl⟩) (rd_ixL (j := turn n r m) (oD_get (by rw [kl]; exact (turn_facts n8 hm hr2).1)))) evd_non rq_isN) (congrArg PyData.bool (isNon_oD _)))) (fun _ => evd_var (v := u) rfl hu))
      refine q_asgDL lc fun lo os G5 hlo x5 g5 hos => ?_
      have eo : givenD n (fun m => (k.getD (turn n r m) none).isNone) (fun m => .int (m : Int)) = encN ((List.range n).filter fun m => (k.getD (turn n r m) none).isNone) := rfl
      rw [eo] at hos
      generalize hop : ((List.range n).filter fun m => (k.getD (turn n r m) none).isNone) = op at st z1' hos
      have hom : ∀ m, m ∈ op → m < n := fun m hm => by
        rw [← hop, List.mem_filter] at hm
        exact List.mem_range.mp hm.1
      have hol : op.length ≤ n := by
        rw [← hop]
        have := List.length_filter_le (fun m => (k.getD (turn n r m) none).isNone) (List.range n)
        rw [List.length_range] at this
        exact this
      have w5 := x5 _ _ w4
      have ky5 := dx x5 ky4
      have S2 := src_lst (K := K) (σ := [some (.int (n : Int)), some (.ref lf), some (.ref lw), some y, some (.int (r : Int)), some (.ref lo), o6]) (H := G5) (ss := encN op) (tl := tVar 5) (evd_var rfl (.lst (SqL.of g5) hos))
      rw [encN_len] at S2
      refine ⟨.ref lw, rfl, Or.inl ⟨rfl, _, SqL.of w5⟩, ?_⟩
      refine evl_lcL (te := tCall (spL K RwithTie) [] E0 (tCons (tVar 0) (tCons (tVar 3) (tCons (tVar 4) (tCons (tVar 6) tNil))))) (vs := [6]) (j := 6) S2 (fun _ _ e => Ex.kx e) (by omega) (fun m => (withTie n k r (op.getD m 0)).map oD) (fun m hm => oD_noLs _) (fun _ => rfl)
        (fun m u Hi hm e hu => evdl_call (evds_cons (evd_var (v := .int (n : Int)) rfl (.int _)) (evds_cons (evd_var (v := y) rfl (dx e ky5)) (evds_cons (evd_var (v := .int (r : Int)) rfl (.int _)) (evds_cons (evd_var (v := u) rfl hu) evds_nil)))) ⟨n, r, op.getD m 0, k, ?_, kl, hr2, hom _ (getD_mem hm), n8, rfl⟩) G5 (Ex.refl _) _ fun l as G6 hl6 x6 g6 nl L => ?_
      · rw [encN_getD (x := op.getD m 0) (by rw [List.getD_eq_getElem?_getD, List.getElem?_eq_getElem hm]; rfl)]
      · have w6 := x6 _ _ w5
        have la := L.len
        rw [List.length_map, List.length_range] at la
        have lwd := DpAll.length wd0
        have lz : (knL (iterC n i).2.dropLast).length = (iterC n i).2.length - 1 := by
          show (List.map _ _).length = _
          rw [List.length_map, List.length_dropLast]
        refine ⟨lw, l, _, _, rfl, rfl, w6, g6, ?_, ?_⟩
        · rw [List.length_map]
          have : 1000 ≤ sizeLine := by decide
          omega
        · have xx := x3.trans (x4.trans (x5.trans x6))
          have ek : (((List.range op.length).map fun m => (withTie n k r (op.getD m 0)).map oD).map PyData.list) = knL (op.map fun m => withTie n k r m) := by
            have hh := congrArg (List.map fun m => PyData.list ((withTie n k r m).map oD)) (range_getD op 0)
            rw [List.map_map] at hh
            unfold knL
            simp only [List.map_map]
            exact hh
          have dp2 := L.dp
          rw [ek] at dp2
          have dpa := DpAll.append (dxs xx wd0) dp2
          have ek2 : knL (iterC n i).2.dropLast ++ knL (op.map fun m => withTie n k r m) = knL ((iterC n i).2.dropLast ++ op.map fun m => withTie n k r m) := by
            unfold knL
            rw [List.map_append]
          rw [ek2] at dpa
          have t7 : Tx K G6 (upd G6 lw (.lst (ws.dropLast ++ as.map V.ref))) := Tx.updL w6
          refine ⟨xs, _, Ex.mut ((((e3'.trans x4)).trans x5).trans x6) wH, (by rw [upd_ne nfw]; exact xx _ _ f0), ?_, upd_same, ?_, _, _, _, _, rfl⟩
          · rw [st]
            exact DpAll.tx t7 _ _ (foundD_noL _) (dxs xx fd0)
          · rw [st]
            exact kn_upd w6 (fun y m => kn_refs (dxs xx wd0) y m) (fun k' m => by rw [z1' k' m]; exact hp) dpa
  · have h0 : (iterC n i).2 = [] := by
      cases h : (iterC n i).2 with
      | nil => rfl
      | cons a b =>
        rw [lkn, h] at hb
        rw [List.length_cons] at hb
        exact absurd (of_decide_eq_false hb) (by omega)
    have ef := z4 h0
    have ef2 : ((iterC n i).1.map fun k => PyData.tuple (k.map oD)) = (rS n).map (fC n) := by
      rw [ef, List.map_map]
      refine List.map_congr_left fun j _ => ?_
      show PyData.tuple _ = PyData.tuple _
      rw [map_some]
    rw [ef2] at p3
    obtain ⟨s1, s2, s3, s4⟩ := sortC n1 n3
    have so := evdl_sorted (K := K) (σ := [some (.int (n : Int)), some (.ref lf), some (.ref lw), o3, o4, o5, o6]) (H := G1) (ta := tVar 1) (evd_var rfl (.lst (SqL.of (x1 _ _ p2)) (dxs x1 p3))) s2 s3 s4
    rw [s1, coupD_eq] at so
    exact s_retDL so fun p ys G5 hp5 x5 g5 hd5 => q p ys G5 (fresh_back (p1.trans x1) hp5) ((p1.trans x1).trans x5) g5 hd5
end
end K41
set_option Elab.async false
set_option linter.all false
set_option maxRecDepth 100000
set_option maxHeartbeats 5000000
namespace K41
open PySem PySem.Spec PyProof.Rows L2 Evl
section
variable {P : Program} {w : World} {K : PySem.W.Frag} {mg : Str → Option Value} {base : Heap}
theorem ok_all_rules (T : Txt K mg) : Cal P w K mg base "all_rules" 5 ["book"] [] (spBL K mg RallRules) := by
  refine T.d_all_rules.ok sc_all_rules (fun _ _ _ _ _ _ us hl => match us, hl with | [_], _ => rfl) (fun vs H Q E h => by obtain ⟨b, n, us, ds, d, rfl, B, hu, n1, n3, ⟨rfl, _⟩, _⟩ := h; cases hu; rfl) (fun f cdv A outer s H vs Q E hr h => ?_)
  obtain ⟨b, n, us, ds, d, rfl, B, hu, n1, n3, ⟨rfl, rfl⟩, q⟩ := h
  cases hu
  refine ⟨_, (pss_cons (ps_if (pt_cmpR op_gt (pe_cal (ok_count_rules T) (hr.mono (by decide)) (by rfl) (pa_cons (pv 0 (hd := nd_book) (hcd := nc_book)) pa_nil) (hdb := nd_count_rules)) (pe_gI T.c_MOST_RULES (by rfl) nd_MOST_RULES) (nomark _)) (pss_one ps_never)
      pss_nil)
      (pss_one (ps_ret (pe_callB (cr_sortedK (K := K) rfl hr.units) (by rfl) T.z_sorted bt_sorted (pa_cons (pe_lc (own := [("row", 1)]) (g := (gName 1)) (tt := tYes) rfl sc_all_rules.nd (pi_listK (K := K) rfl (pe_cal (ok_all_fillings T) (hr.mono (by decide)) (by rfl) (pa_cons (pv 0 (hd := nd_book) (hcd := nc_book)) pa_nil) (hdb := nd_all_fillings))) (blkOk_by (N := ["book", "row"]) (sc := defScope st_all_rules) (own := [("row", 1)]) (by decide +kernel)) (fun _ _ _ _ _ => (pg_name (i := 1) sc_all_rules.nd rfl (by first | exact Or.inl rfl | exact Or.inr rfl))) (fun _ _ _ _ _ => pts_nil) (fun _ _ _ _ _ => (pe_cal (ok_rule_filled T) (hr.mono (by decide)) (by rfl) (pa_cons (pv 0 (hd := nd_book) (hcd := nc_book)) (pa_cons (pv 1 (hd := nd_row) (hcd := nc_row)) pa_nil)) (hdb := nd_rule_filled)))) pa_nil) (hn := nn_sorted) (hdb := nd_sorted))))), ?_⟩
  have hs := cnt_sum n1 n3
  refine q_when (b := decide ((2000 : Int) < (if still n (List.replicate (2 ^ n) 0) (leftAt n (tiesN n) 0) then ((cnt n (tiesN n).length).map (·.2)).sum else 0))) (et_D (K := K) (evd_op (evd_bk B n1 n3 (ev_var rfl) evds_nil ⟨rfl, rfl⟩) evd_int rd_gt)) (fun z => ?_) fun _ H1 e1 => ?_
  · have z' := of_decide_eq_true z
    exfalso
    split at z' <;> omega
  obtain ⟨rl, rf⟩ := rows_facts n1 n3
  have er0 : ((allF n (tiesN n).length).map fun e => rowD e.1) = (rowsOf n).map rowD := by
    unfold rowsOf
    rw [List.map_map]
    rfl
  have S := src_lst (K := K) (σ := L2.start ["book", "row"] [.ref b]) (H := H1) (tl := tCall (spBL K mg RallFillings) [] E0 (tCons (tVar 0) tNil)) (ss := (rowsOf n).map rowD) (evd_of_l (evdl_bk (B.ex' e1) n1 n3 (ev_var rfl) evds_nil ⟨rfl, er0.symm⟩))
  rw [List.length_map, rl] at S
  have lr : (rS n).length ≤ 50000 := by
    have : n = 1 ∨ n = 2 ∨ n = 3 := by omega
    rcases this with e | e | e <;> (subst e; decide)
  have lc := evdl_lc1 (vs := [1]) (j := 1) (te := tCall (spBD K mg RruleFilled) [] E0 (tCons (tVar 0) (tCons (tVar 1) tNil))) S (fun _ _ e => Ex.kx e) lr (fun i => fR n ((rS n).getD i 0)) (fun i _ => ruleD_noL _) (fun _ => rfl) (fun i v Hi hi e hv => by
    have ei : ((rowsOf n).map rowD).getD i .none = rowD ((rowsOf n).getD i []) := by
      rw [List.getD_eq_getElem?_getD, List.getD_eq_getElem?_getD, List.getElem?_map, List.getElem?_eq_getElem (by rw [rl]; exact hi)]
      rfl
    rw [ei] at hv
    obtain ⟨w1, w2⟩ := rf i hi
    exact evd_bk (B.ex' (e1.trans e)) n1 n3 (ev_var (v := .ref b) rfl) (evds_cons (evd_var (v := v) rfl hv) evds_nil) ⟨_, _, rfl, w1, w2, rfl⟩)
  have er : ((List.range (rS n).length).map fun i => fR n ((rS n).getD i 0)) = (rS n).map (fR n) := by
    have hh := congrArg (List.map (fR n)) (range_getD (rS n) 0)
    rw [List.map_map] at hh
    exact hh
  rw [er] at lc
  obtain ⟨s1, s2, s3, s4⟩ := sortR n1 n3 (rS_perm n1 n3)
  have so := evdl_sorted (K := K) (evd_of_l lc) s2 s3 s4
  rw [s1, rulesD_eq] at so
  exact s_retDL so fun p ys G5 hp5 x5 g5 hd5 => q p ys G5 (fresh_back e1 hp5) (e1.trans x5) g5 hd5
end
end K41
set_option Elab.async false
set_option linter.all false
set_option maxRecDepth 100000
set_option maxHeartbeats 5000000
namespace K41
open PySem PySem.Spec PyProof.Rows L2 Evl
section
variable {P : Program} {w : World} {K : PySem.W.Frag} {mg : Str → Option Value} {base : Heap}
theorem ok_law_draw (T : Txt K mg) : Cal P w K mg base "_law_draw" 1 ["_law_dice_here", "_law_sides"] [] (spDraw K) := by
  refine T.d_law_draw.ok sc_law_draw (fun _ _ _ _ _ _ us hl => match us, hl with | [_, _], _ => rfl) (fun vs H Q E h => by obtain ⟨p, c, cs, k, rfl, _⟩ := h; rfl) (fun f cdv A outer s H vs Q E hr h => ?_)
  obtain ⟨p, c, cs, k, rfl, k1, k2, ⟨i, b, s0, t, d⟩, q⟩ := h
  refine ⟨_, (pss_cut (ps_if (PW.pt (pw_and (pt_cmpR op_eq (pe_ix (ix_listK (K := K) rfl) (pv 0 (hd := nd_law_dice_here) (hcd := nc_law_dice_here)) pe_int (fun _ _ => rfl)) pe_int (nomark _)) (pw_and1 (pt_cmpR op_lt (pe_ix (ix_listK (K := K) rfl) (pv 0 (hd := nd_law_dice_here) (hcd := nc_law_dice_here)) pe_int (fun _ _ => rfl)) (pe_callB (call_lenQ (K := K) rfl) (by rfl) T.z_len bt_len (pa_cons (pe_ix (ix_listK (K := K) rfl) (pv 0 (hd := nd_law_dice_here) (hcd := nc_law_dice_here)) pe_int (fun _ _ => rfl)) pa_nil) (hn := nn_len) (hdb := nd_len)) (nomark _))))) (pss_cons (ps_set (i := 2) sc_law_draw.nd rfl (by first | exact Or.inl rfl | exact Or.inr rfl) (pe_ix (ix_listK (K := K) rfl) (pe_ix (ix_listK (K := K) rfl) (pv 0 (hd := nd_law_dice_here) (hcd := nc_law_dice_here)) pe_int (fun _ _ => rfl)) (pe_ix (ix_listK (K := K) rfl) (pv 0 (hd := nd_law_dice_here) (hcd := nc_law_dice_here)) pe_int (fun _ _ => rfl)) (fun _ _ => rfl)))
        (pss_cons (ps_asg (pe_op op_add (pe_ix (ix_listK (K := K) rfl) (pv 0 (hd := nd_law_dice_here) (hcd := nc_law_dice_here)) pe_int (fun _ _ => rfl)) pe_int) (pg_sub (pv 0 (hd := nd_law_dice_here) (hcd := nc_law_dice_here)) pe_int set_list))
        (pss_one (ps_if (pt_cmpR op_ge (pv 2 (hd := nd_law_cell) (hcd := nc_law_cell)) (pe_op op_pow pe_int pe_int) (nomark _)) (pss_one (ps_asg (pv 2 (hd := nd_law_cell) (hcd := nc_law_cell)) (pg_sub (pv 0 (hd := nd_law_dice_here) (hcd := nc_law_dice_here)) pe_int set_list)))
        (pss_one (ps_asg (pe_op op_mod (pe_callTy call_intK (by rfl) T.z_int bt_int (pa_cons (pe_op op_add (pe_op op_add (pe_op op_mul (pe_ix (ix_listK (K := K) rfl) (pv 0 (hd := nd_law_dice_here) (hcd := nc_law_dice_here)) pe_int (fun _ _ => rfl)) pe_int) (pe_op op_mul (pv 2 (hd := nd_law_cell) (hcd := nc_law_cell)) pe_int)) (pe_ix (ix_listK (K := K) rfl) (pv 0 (hd := nd_law_dice_here) (hcd := nc_law_dice_here)) pe_int (fun _ _ => rfl))) pa_nil) (hn := nn_int) (hdb := nd_int)) pe_int) (pg_sub (pv 0 (hd := nd_law_dice_here) (hcd := nc_law_dice_here)) pe_int set_list)))))))
      pss_nil)
      (pss_cons (ps_if (pt_cmpR op_gt (pe_ix (ix_listK (K := K) rfl) (pv 0 (hd := nd_law_dice_here) (hcd := nc_law_dice_here)) pe_int (fun _ _ => rfl)) pe_int (nomark _)) (pss_cons (ps_set (i := 3) sc_law_draw.nd rfl (by first | exact Or.inl rfl | exact Or.inr rfl) (pe_op op_mod (pe_callTy call_intK (by rfl) T.z_int bt_int (pa_cons (pe_ix (ix_listK (K := K) rfl) (pv 0 (hd := nd_law_dice_here) (hcd := nc_law_dice_here)) pe_int (fun _ _ => rfl)) pa_nil) (hn := nn_int) (hdb := nd_int)) (pv 1 (hd := nd_law_sides) (hcd := nc_law_sides))))
        (pss_cons (ps_asg (pe_op op_fdiv (pe_callTy call_intK (by rfl) T.z_int bt_int (pa_cons (pe_ix (ix_listK (K := K) rfl) (pv 0 (hd := nd_law_dice_here) (hcd := nc_law_dice_here)) pe_int (fun _ _ => rfl)) pa_nil) (hn := nn_int) (hdb := nd_int)) (pv 1 (hd := nd_law_sides) (hcd := nc_law_sides))) (pg_sub (pv 0 (hd := nd_law_dice_here) (hcd := nc_law_dice_here)) pe_int set_list))
        (pss_one (ps_ret (pv 3 (hd := nd_law_digit) (hcd := nc_law_digit))))))
      pss_nil)
      (pss_cons (ps_asg (pe_op op_add (pe_ix (ix_listK (K := K) rfl) (pv 0 (hd := nd_law_dice_here) (hcd := nc_law_dice_here)) pe_int (fun _ _ => rfl)) pe_int) (pg_sub (pv 0 (hd := nd_law_dice_here) (hcd := nc_law_dice_here)) pe_int set_list))
      (pss_cons (ps_asg (pe_op op_mod (pe_callTy call_intK (by rfl) T.z_int bt_int (pa_cons (pe_op op_add (pe_op op_add (pe_op op_mul (pe_ix (ix_listK (K := K) rfl) (pv 0 (hd := nd_law_dice_here) (hcd := nc_law_dice_here)) pe_int (fun _ _ => rfl)) pe_int) (pe_op op_mul (pe_ix (ix_listK (K := K) rfl) (pv 0 (hd := nd_law_dice_here) (hcd := nc_law_dice_here)) pe_int (fun _ _ => rfl)) pe_int)) pe_int) pa_nil) (hn := nn_int) (hdb := nd_int)) pe_int) (pg_sub (pv 0 (hd := nd_law_dice_here) (hcd := nc_law_dice_here)) pe_int set_list))
      (pss_cons (ps_set (i := 4) sc_law_draw.nd rfl (by first | exact Or.inl rfl | exact Or.inr rfl) (pe_op op_mod (pe_callTy call_intK (by rfl) T.z_int bt_int (pa_cons (pe_op op_mul (pe_ix (ix_listK (K := K) rfl) (pv 0 (hd := nd_law_dice_here) (hcd := nc_law_dice_here)) pe_int (fun _ _ => rfl)) (pe_op op_add (pe_op op_fdiv (pe_ix (ix_listK (K := K) rfl) (pv 0 (hd := nd_law_dice_here) (hcd := nc_law_dice_here)) pe_int (fun _ _ => rfl)) pe_int) pe_int)) pa_nil) (hn := nn_int) (hdb := nd_int)) pe_int))
      (pss_cons (ps_set (i := 4) sc_law_draw.nd rfl (by first | exact Or.inl rfl | exact Or.inr rfl) (pe_op op_mod (pe_callTy call_intK (by rfl) T.z_int bt_int (pa_cons (pe_op op_mul (pv 4 (hd := nd_law_mixed) (hcd := nc_law_mixed)) (pe_op op_add (pe_op op_fdiv (pv 4 (hd := nd_law_mixed) (hcd := nc_law_mixed)) pe_int) pe_int)) pa_nil) (hn := nn_int) (hdb := nd_int)) pe_int))
      (pss_one (ps_ret (pe_op op_mod (pe_callTy call_intK (by rfl) T.z_int bt_int (pa_cons (pe_op op_fdiv (pv 4 (hd := nd_law_mixed) (hcd := nc_law_mixed)) pe_int) pa_nil) (hn := nn_int) (hdb := nd_int)) (pv 1 (hd := nd_law_sides) (hcd := nc_law_sides))))))))))), ?_⟩
  have hsz : ∀ (H : Hp), H p ≠ none → True := fun _ _ => trivial
  have txu : ∀ {H : Hp} {xs : List V} {o : HO}, H p = some (.lst xs) → Tx K H (upd H p o) := fun h => Tx.updL h
  refine ⟨fun σ' H' => ∃ cell, σ' = [some (.ref p), some (.int k), cell, none, none] ∧ Bx p H H' ∧ Tx K H H' ∧ ∃ i b s0 t, DSt K H' p c cs i b s0 t, ?_, ?_⟩
  · refine s_when (b := decide (b = 0) && decide (i < ((cs.map PyData.int).length : Int))) (et_and (et_D (evd_op (evd_op (evd_var rfl d.dp) evd_int (rd_ixL (j := 2) rfl)) evd_int rd_eqI)) fun _ => et_D (evd_op (evd_op (evd_var rfl d.dp) evd_int (rd_ixL (j := 1) rfl)) (evd_cb (evds_cons (evd_op (evd_var rfl d.dp) evd_int (rd_ixL (j := 0) rfl)) evds_nil) rq_lenL) rd_lt)) (fun hb H1 e1 => ?_) (fun _ H1 e1 => ⟨none, rfl, Bx.ex e1, Ex.tx e1, i, b, s0, t, d.ex e1⟩)
    rw [Bool.and_eq_true, decide_eq_true_eq, decide_eq_true_eq, List.length_map] at hb
    obtain ⟨hb0, hi⟩ := hb
    have d1 := d.ex e1
    obtain ⟨j, rfl⟩ := Int.eq_ofNat_of_zero_le d.i0
    have hj : j < cs.length := by omega
    have hcell : (cs.map PyData.int)[j]? = some (.int cs[j]) := by rw [List.getElem?_map, List.getElem?_eq_getElem hj]; rfl
    have hc0 : 0 ≤ cs[j] := d.pos _ (List.getElem_mem hj)
    refine q_asgD (evd_op (evd_op (evd_var rfl d1.dp) evd_int (rd_ixL (j := 0) rfl)) (evd_op (evd_var rfl d1.dp) evd_int (rd_ixL (j := 1) rfl)) (rd_ixL hcell)) fun v H2 e2 hv => ?_
    rw [hv.intV]
    have d2 := d1.ex e2
    refine q_setD (j := 1) d2.at_ (evd_op (evd_op (evd_var rfl d2.dp) evd_int (rd_ixL (j := 1) rfl)) evd_int rd_add) (ev_var rfl) evd_int (by simp) fun v3 H3 e3 hv3 => ?_
    rw [hv3.intV]
    have d3 := (d2.ex e3).put (i' := (j : Int) + 1) (b' := b) (s' := s0) (t' := t) (by omega) (by omega) d.b0 d.s0 d.s1
    have b3 : Bx p H (upd H3 p (.lst [.ref c, .int ((j : Int) + 1), .int b, .int s0, .int t])) := (Bx.ex ((e1.trans e2).trans e3)).trans Bx.upd
    have t3 : Tx K H (upd H3 p (.lst [.ref c, .int ((j : Int) + 1), .int b, .int s0, .int t])) := (Ex.tx ((e1.trans e2).trans e3)).trans (txu (d2.ex e3).at_)
    show tIfS _ _ _ _ _ (upd H3 p (.lst [.ref c, .int ((j : Int) + 1), .int b, .int s0, .int t]))
    revert b3 t3 d3
    generalize upd H3 p (.lst [.ref c, .int ((j : Int) + 1), .int b, .int s0, .int t]) = G
    intro d3 b3 t3
    refine s_if (b := decide ((10 : Int) ^ (18 : Int).toNat ≤ cs[j])) (et_D (K := K) (evd_op (evd_var rfl (.int _)) (evd_op evd_int evd_int (rd_pow ⟨by decide, by decide, by decide⟩)) rd_ge)) (fun _ H4 e4 => ?_) (fun hlt H4 e4 => ?_)
    · have d4 := d3.ex e4
      refine s_setD (K := K) (j := 2) d4.at_ (evd_var rfl (.int cs[j])) (ev_var rfl) evd_int (by simp) fun v5 H5 e5 hv5 => ?_
      rw [hv5.intV]
      exact ⟨_, rfl, (b3.trans (Bx.ex (e4.trans e5))).trans Bx.upd, (t3.trans (Ex.tx (e4.trans e5))).trans (txu (d4.ex e5).at_), (j : Int) + 1, cs[j], s0, t, (d4.ex e5).put (by omega) (by omega) hc0 d.s0 d.s1⟩
    · have d4 := d3.ex e4
      refine s_setD (j := 3) d4.at_ (evd_op (evd_cb (evds_cons (evd_op (evd_op (evd_op (evd_op (evd_var rfl d4.dp) evd_int (rd_ixL (j := 3) rfl)) evd_int (rd_mul (.inr ⟨by decide, by decide⟩))) (evd_op (evd_var rfl (.int cs[j])) evd_int (rd_mul (.inr ⟨by decide, by decide⟩))) rd_add) (evd_op (evd_var rfl d4.dp) evd_int (rd_ixL (j := 1) rfl)) rd_add) evds_nil) rq_int) evd_int (rd_mod (by decide))) (ev_var rfl) evd_int (by simp) fun v5 H5 e5 hv5 => ?_
      rw [hv5.intV]
      exact ⟨_, rfl, (b3.trans (Bx.ex (e4.trans e5))).trans Bx.upd, (t3.trans (Ex.tx (e4.trans e5))).trans (txu (d4.ex e5).at_), (j : Int) + 1, b, _, t, (d4.ex e5).put (by omega) (by omega) d.b0 (Int.emod_nonneg _ (by decide)) (Int.emod_lt_of_pos _ (by decide))⟩
  · rintro σ' H1 ⟨cell, rfl, bx, tx, i, b, s0, t, d⟩
    refine q_when (b := decide (0 < b)) (et_D (evd_op (evd_op (evd_var rfl d.dp) evd_int (rd_ixL (j := 2) rfl)) evd_int rd_gt)) (fun hb H2 e2 => ?_) (fun _ H2 e2 => ?_)
    · have d2 := d.ex e2
      refine q_asgD (evd_op (evd_cb (evds_cons (evd_op (evd_var rfl d2.dp) evd_int (rd_ixL (j := 2) rfl)) evds_nil) rq_int) (evd_var rfl (.int k)) (rd_mod (by omega))) fun v3 H3 e3 hv3 => ?_
      rw [hv3.intV]
      have d3 := d2.ex e3
      refine q_setD (j := 2) d3.at_ (evd_op (evd_cb (evds_cons (evd_op (evd_var rfl d3.dp) evd_int (rd_ixL (j := 2) rfl)) evds_nil) rq_int) (evd_var rfl (.int k)) (rd_fdiv ⟨by omega, by omega⟩)) (ev_var rfl) evd_int (by simp) fun v4 H4 e4 hv4 => ?_
      rw [hv4.intV]
      have d4 := (d3.ex e4).put (i' := i) (b' := b / k) (s' := s0) (t' := t) d.i0 d.i1 (Int.ediv_nonneg d.b0 (by omega)) d.s0 d.s1
      refine s_retD (K := K) (evd_var rfl (.int (b % k))) fun v5 H5 e5 hv5 => ?_
      rw [hv5.intV]
      have m0 : 0 ≤ b % k := Int.emod_nonneg _ (by omega)
      have m1 : b % k < k := Int.emod_lt_of_pos _ (by omega)
      obtain ⟨r, hr⟩ := Int.eq_ofNat_of_zero_le m0
      rw [hr]
      refine q r H5 (by omega) ?_ ?_ ⟨i, _, s0, t, DSt.ex d4 e5⟩
      · exact ((bx.trans (Bx.ex ((e2.trans e3).trans e4))).trans Bx.upd).trans (Bx.ex e5)
      · exact ((tx.trans (Ex.tx ((e2.trans e3).trans e4))).trans (txu (d3.ex e4).at_)).trans (Ex.tx e5)
    · have d2 := d.ex e2
      refine q_setD (j := 4) d2.at_ (evd_op (evd_op (evd_var rfl d2.dp) evd_int (rd_ixL (j := 4) rfl)) evd_int rd_add) (ev_var rfl) evd_int (by simp) fun v3 H3 e3 hv3 => ?_
      rw [hv3.intV]
      have d3 := (d2.ex e3).put (i' := i) (b' := b) (s' := s0) (t' := t + 1) d.i0 d.i1 d.b0 d.s0 d.s1
      have b3 : Bx p H (upd H3 p (.lst [.ref c, .int i, .int b, .int s0, .int (t + 1)])) := (bx.trans (Bx.ex (e2.trans e3))).trans Bx.upd
      have t3 : Tx K H (upd H3 p (.lst [.ref c, .int i, .int b, .int s0, .int (t + 1)])) := (tx.trans (Ex.tx (e2.trans e3))).trans (txu (d2.ex e3).at_)
      show tSeq _ _ _ _ (upd H3 p (.lst [.ref c, .int i, .int b, .int s0, .int (t + 1)]))
      revert b3 t3 d3
      generalize upd H3 p (.lst [.ref c, .int i, .int b, .int s0, .int (t + 1)]) = G
      intro d3 b3 t3
      refine q_setD (j := 3) d3.at_ (evd_op (evd_cb (evds_cons (evd_op (evd_op (evd_op (evd_op (evd_var rfl d3.dp) evd_int (rd_ixL (j := 3) rfl)) evd_int (rd_mul (.inr ⟨by decide, by decide⟩))) (evd_op (evd_op (evd_var rfl d3.dp) evd_int (rd_ixL (j := 4) rfl)) evd_int (rd_mul (.inr ⟨by decide, by decide⟩))) rd_add) evd_int rd_add) evds_nil) rq_int) evd_int (rd_mod (by decide))) (ev_var rfl) evd_int (by simp) fun v5 H5 e5 hv5 => ?_
      rw [hv5.intV]
      generalize hs5 : (s0 * 48271 + (t + 1) * 7919 + 1) % 2147483647 = s5
      have s50 : 0 ≤ s5 := by rw [← hs5]; exact Int.emod_nonneg _ (by decide)
      have s51 : s5 < 2147483647 := by rw [← hs5]; exact Int.emod_lt_of_pos _ (by decide)
      have d5 := (d3.ex e5).put (i' := i) (b' := b) (s' := s5) (t' := t + 1) d.i0 d.i1 d.b0 s50 s51
      have b5 : Bx p H (upd H5 p (.lst [.ref c, .int i, .int b, .int s5, .int (t + 1)])) := (b3.trans (Bx.ex e5)).trans Bx.upd
      have t5 : Tx K H (upd H5 p (.lst [.ref c, .int i, .int b, .int s5, .int (t + 1)])) := (t3.trans (Ex.tx e5)).trans (txu (d3.ex e5).at_)
      show tSeq _ _ _ _ (upd H5 p (.lst [.ref c, .int i, .int b, .int s5, .int (t + 1)]))
      revert b5 t5 d5
      generalize upd H5 p (.lst [.ref c, .int i, .int b, .int s5, .int (t + 1)]) = G2
      intro d5 b5 t5
      refine q_asgD (evd_op (evd_cb (evds_cons (evd_op (evd_op (evd_var rfl d5.dp) evd_int (rd_ixL (j := 3) rfl)) (evd_op (evd_op (evd_op (evd_var rfl d5.dp) evd_int (rd_ixL (j := 3) rfl)) evd_int (rd_fdiv ⟨by decide, by decide⟩)) evd_int rd_add) (rd_mul (.inl ⟨by omega, by omega⟩))) evds_nil) rq_int) evd_int (rd_mod (by decide))) fun v6 H6 e6 hv6 => ?_
      rw [hv6.intV]
      generalize hm6 : (s5 * (s5 / 1009 + 69623)) % 2147483399 = m6
      have m60 : 0 ≤ m6 := by rw [← hm6]; exact Int.emod_nonneg _ (by decide)
      have m61 : m6 < 2147483399 := by rw [← hm6]; exact Int.emod_lt_of_pos _ (by decide)
      refine q_asgD (K := K) (evd_op (evd_cb (evds_cons (evd_op (evd_var rfl (.int m6)) (evd_op (evd_op (evd_var rfl (.int m6)) evd_int (rd_fdiv ⟨by decide, by decide⟩)) evd_int rd_add) (rd_mul (.inl ⟨by omega, by omega⟩))) evds_nil) rq_int) evd_int (rd_mod (by decide))) fun v7 H7 e7 hv7 => ?_
      rw [hv7.intV]
      refine s_retD (K := K) (evd_op (evd_cb (evds_cons (evd_op (evd_var rfl (.int _)) evd_int (rd_fdiv ⟨by decide, by decide⟩)) evds_nil) rq_int) (evd_var rfl (.int k)) (rd_mod (by omega))) fun v8 H8 e8 hv8 => ?_
      rw [hv8.intV]
      generalize hy : (m6 * (m6 / 2003 + 40693)) % 2147483563 / 16 = y
      have m0 : 0 ≤ y % k := Int.emod_nonneg _ (by omega)
      have m1 : y % k < k := Int.emod_lt_of_pos _ (by omega)
      obtain ⟨r, hr⟩ := Int.eq_ofNat_of_zero_le m0
      rw [hr]
      have e58 := (e6.trans e7).trans e8
      exact q r H8 (by omega) (b5.trans (Bx.ex e58)) (t5.trans (Ex.tx e58)) ⟨i, b, s5, t + 1, d5.ex e58⟩
end
end K41
set_option Elab.async false
set_option linter.all false
set_option maxRecDepth 100000
set_option maxHeartbeats 5000000
namespace K41
open PySem PySem.Spec PyProof.Rows L2 Evl
section
variable {P : Program} {w : World} {K : PySem.W.Frag} {mg : Str → Option Value} {base : Heap}
theorem ok_law_power (T : Txt K mg) : Cal P w K mg base "_law_power" 1 ["_law_many"] [] (spD K RlawPower) := by
  refine T.d_law_power.ok sc_law_power (fun _ _ _ _ _ _ us hl => match us, hl with | [_], _ => rfl) (len_D (by rintro ds d ⟨a, rfl, _⟩; rfl)) (fun f cdv A outer s H vs Q E hr h => ?_)
  obtain ⟨ds, d, hd, ⟨a, rfl, ha, rfl⟩, k⟩ := h
  obtain ⟨x, rfl, h1⟩ := all1 hd
  refine ⟨_, (pss_one (ps_ret (pe_ix (ix_tupK (K := K) rfl) (pe_tup (pa_cons pe_int (pa_cons pe_int (pa_cons pe_int (pa_cons pe_int (pa_cons pe_int (pa_cons pe_int (pa_cons pe_int (pa_cons pe_int (pa_cons pe_int pa_nil)))))))))) (pv 0 (hd := nd_law_many) (hcd := nc_law_many)) (fun _ _ => rfl)))), ?_⟩
  exact s_retD (evd_op (x := .tuple powD) (evd_tup (evds_cons evd_int (evds_cons evd_int (evds_cons evd_int (evds_cons evd_int (evds_cons evd_int (evds_cons evd_int (evds_cons evd_int (evds_cons evd_int (evds_cons evd_int evds_nil))))))))) (by decide)) (evd_var rfl (by first | assumption | exact .int _ | exact .bl _ | exact .str _ | exact .non)) (rd_ixT (powD_at a ha))) fun v H1 e hv => k v H1 e hv
end
end K41
set_option Elab.async false
set_option linter.all false
set_option maxRecDepth 100000
set_option maxHeartbeats 5000000
namespace K41
open PySem PySem.Spec PyProof.Rows L2 Evl
section
variable {P : Program} {w : World} {K : PySem.W.Frag} {mg : Str → Option Value} {base : Heap}
theorem ok_law_row_with (T : Txt K mg) : Cal P w K mg base "_law_row_with" 2 ["_law_many", "_law_member", "_law_slip", "_law_rest"] [] (spD K RlawRowWith) := by
  refine T.d_law_row_with.ok sc_law_row_with (fun _ _ _ _ _ _ us hl => match us, hl with | [_, _, _, _], _ => rfl) (len_D (by rintro ds d ⟨n, m, s, r, rfl, _⟩; rfl)) (fun f cdv A outer s H vs Q E hr h => ?_)
  obtain ⟨ds, d, hd, ⟨n, m, t, r, rfl, hm, hn, ht, hr8, rfl⟩, k⟩ := h
  obtain ⟨x, y, z, u, rfl, h1, h2, h3, h4⟩ := all4 hd
  refine ⟨_, (pss_cons (ps_set (i := 4) sc_law_row_with.nd rfl (by first | exact Or.inl rfl | exact Or.inr rfl) (pe_cal (ok_law_power T) (hr.mono (by decide)) (by rfl) (pa_cons (pe_op op_sub (pe_op op_sub (pv 0 (hd := nd_law_many) (hcd := nc_law_many)) pe_int) (pv 1 (hd := nd_law_member) (hcd := nc_law_member))) pa_nil) (hdb := nd_law_power)))
      (pss_one (ps_ret (pe_op op_add (pe_op op_add (pe_op op_mul (pe_op op_mul (pe_op op_fdiv (pv 3 (hd := nd_law_rest) (hcd := nc_law_rest)) (pv 4 (hd := nd_law_low) (hcd := nc_law_low))) (pv 4 (hd := nd_law_low) (hcd := nc_law_low))) pe_int) (pe_op op_mul (pv 2 (hd := nd_law_slip) (hcd := nc_law_slip)) (pv 4 (hd := nd_law_low) (hcd := nc_law_low)))) (pe_op op_mod (pe_callTy call_intK (by rfl) T.z_int bt_int (pa_cons (pv 3 (hd := nd_law_rest) (hcd := nc_law_rest)) pa_nil) (hn := nn_int) (hdb := nd_int)) (pv 4 (hd := nd_law_low) (hcd := nc_law_low))))))), ?_⟩
  refine q_asgD (evd_call (evds_cons (evd_op (evd_op (evd_var rfl (by first | assumption | exact .int _ | exact .bl _ | exact .str _ | exact .non)) evd_int rd_sub) (evd_var rfl (by first | assumption | exact .int _ | exact .bl _ | exact .str _ | exact .non)) rd_sub) evds_nil) ⟨n - 1 - m, ?_, by omega, rfl⟩) fun v1 H1 e1 hv1 => ?_
  · rw [show (n : Int) - 1 - (m : Int) = ((n - 1 - m : Nat) : Int) by omega]
  have g3 := dx e1 h3
  have g4 := dx e1 h4
  have hp := two_pow_pos (n - 1 - m)
  have hp2 := pow_le8 (show n - 1 - m ≤ 8 by omega)
  refine s_retD (evd_is (evd_op (evd_op (evd_op (evd_op (evd_op (evd_var rfl g4) (evd_var rfl hv1) (rd_fdiv ⟨by omega, by omega⟩)) (evd_var rfl hv1) (rd_mul (.inr ⟨by omega, by omega⟩))) evd_int (rd_mul (.inr ⟨by decide, by decide⟩))) (evd_op (evd_var rfl g3) (evd_var rfl hv1) (rd_mul (.inr ⟨by omega, by omega⟩))) rd_add)
    (evd_op (evd_cb (evds_cons (evd_var rfl g4) evds_nil) rq_int) (evd_var rfl hv1) (rd_mod (by omega))) rd_add) (congrArg PyData.int ?_)) fun v H2 e2 hv => k v H2 (e1.trans e2) hv
  unfold rowWith
  push_cast
  rfl
end
end K41
set_option Elab.async false
set_option linter.all false
set_option maxRecDepth 100000
set_option maxHeartbeats 5000000
namespace K41
open PySem PySem.Spec PyProof.Rows L2 Evl
section
variable {P : Program} {w : World} {K : PySem.W.Frag} {mg : Str → Option Value} {base : Heap}
theorem ok_law_turned (T : Txt K mg) : Cal P w K mg base "_law_turned" 2 ["_law_many", "_law_row", "_law_member"] [] (spD K Rturned) := by
  refine T.d_law_turned.ok sc_law_turned (fun _ _ _ _ _ _ us hl => match us, hl with | [_, _, _], _ => rfl) (len_D (by rintro ds d ⟨n, r, m, rfl, _⟩; rfl)) (fun f cdv A outer s H vs Q E hr h => ?_)
  obtain ⟨ds, d, hd, ⟨n, r, m, rfl, hm, hn, rfl⟩, k⟩ := h
  obtain ⟨x, y, z, rfl, h1, h2, h3⟩ := all3 hd
  refine ⟨_, (pss_cons (ps_set (i := 3) sc_law_turned.nd rfl (by first | exact Or.inl rfl | exact Or.inr rfl) (pe_cal (ok_law_power T) (hr.mono (by decide)) (by rfl) (pa_cons (pe_op op_sub (pe_op op_sub (pv 0 (hd := nd_law_many) (hcd := nc_law_many)) pe_int) (pv 2 (hd := nd_law_member) (hcd := nc_law_member))) pa_nil) (hdb := nd_law_power)))
      (pss_one (ps_ret (pe_ifExp (pt_cmpR op_eq (pe_op op_mod (pe_op op_fdiv (pv 1 (hd := nd_law_row) (hcd := nc_law_row)) (pv 3 (hd := nd_law_step) (hcd := nc_law_step))) pe_int) pe_int (nomark _)) (pe_op op_sub (pv 1 (hd := nd_law_row) (hcd := nc_law_row)) (pv 3 (hd := nd_law_step) (hcd := nc_law_step))) (pe_op op_add (pv 1 (hd := nd_law_row) (hcd := nc_law_row)) (pv 3 (hd := nd_law_step) (hcd := nc_law_step))))))), ?_⟩
  refine q_asgD (evd_call (evds_cons (evd_op (evd_op (evd_var rfl (by first | assumption | exact .int _ | exact .bl _ | exact .str _ | exact .non)) evd_int rd_sub) (evd_var rfl (by first | assumption | exact .int _ | exact .bl _ | exact .str _ | exact .non)) rd_sub) evds_nil) ⟨n - 1 - m, ?_, by omega, rfl⟩) fun v1 H1 e1 hv1 => ?_
  · rw [show (n : Int) - 1 - (m : Int) = ((n - 1 - m : Nat) : Int) by omega]
  have g2 := dx e1 h2
  have hp := two_pow_pos (n - 1 - m)
  have hp2 := pow_le8 (show n - 1 - m ≤ 8 by omega)
  refine s_retD (d := .int (turn n r m : Nat)) (evd_if (b := yes n r m) (et_D (evd_is (evd_op (evd_op (evd_op (evd_var rfl g2) (evd_var rfl hv1) (rd_fdiv ⟨by omega, by omega⟩)) evd_int (rd_mod (by decide))) evd_int rd_eqI) (congrArg PyData.bool ?_))) (fun hy => ?_) (fun hy => ?_)) fun v H2 e2 hv => k v H2 (e1.trans e2) hv
  · unfold yes
    rw [← Int.natCast_ediv]
    generalize r / 2 ^ (n - 1 - m) = q
    by_cases h : q % 2 = 1
    · have : ((q : Int) % 2) = 1 := by omega
      simp [h, this]
    · have : ¬ ((q : Int) % 2) = 1 := by omega
      simp [h, this]
  · refine evd_is (evd_op (evd_var rfl g2) (evd_var rfl hv1) rd_sub) (congrArg PyData.int ?_)
    have := yes_le hy
    unfold turn
    rw [if_pos hy]
    omega
  · refine evd_is (evd_op (evd_var rfl g2) (evd_var rfl hv1) rd_add) (congrArg PyData.int ?_)
    unfold turn
    rw [if_neg (by rw [hy]; exact Bool.false_ne_true)]
    omega
end
end K41
set_option Elab.async false
set_option linter.all false
set_option maxRecDepth 100000
set_option maxHeartbeats 5000000
namespace K41
open PySem PySem.Spec PyProof.Rows L2 Evl
section
variable {P : Program} {w : World} {K : PySem.W.Frag} {mg : Str → Option Value} {base : Heap}
def spSw (K : PySem.W.Frag) : Sp := fun vs H Q _ => ∃ (p m dc : Addr) (ds : List Int) (n : Nat) (t : Int) (c : List Nat), vs = [.ref p, .int n, .ref m, .int t] ∧ Rw n c ∧ isC n c = true ∧ Dp K H (.ref m) (.list (encN c)) ∧ 0 ≤ t ∧ t ≤ 1000 ∧ DiceAt K H p dc ds ∧
  ∀ v c' H', Bx p H H' → Tx K H H' → DiceAt K H' p dc ds → Rw n c' → isC n c' = true → Dp K H' v (.tuple (encN c')) → Q v H'
theorem ok_law_switched (T : Txt K mg) : Cal P w K mg base "_law_switched" 3 ["_law_dice_here", "_law_many", "_law_coupling_here", "_law_turns"] [] (spSw K) := by
  refine T.d_law_switched.ok sc_law_switched (fun _ _ _ _ _ _ us hl => match us, hl with | [_, _, _, _], _ => rfl) (fun vs H Q E h => by obtain ⟨p, m, dc, ds, n, t, c, rfl, _⟩ := h; rfl) (fun f cdv A outer s H vs Q E hr h => ?_)
  obtain ⟨p, m, dc, ds, n, t, c, rfl, R, C, hm, t0, t1, D, q⟩ := h
  refine ⟨_, (pss_cons (ps_set (i := 4) sc_law_switched.nd rfl (by first | exact Or.inl rfl | exact Or.inr rfl) (pe_callTy (call_lstK (K := K) rfl) (by rfl) T.z_list bt_list (pa_cons (pv 2 (hd := nd_law_coupling_here) (hcd := nc_law_coupling_here)) pa_nil) (hn := nn_list) (hdb := nd_list)))
      (pss_cons (ps_for PassesOwn.never rfl (pi_range1 (by rfl) T.z_range (pa_cons (pv 3 (hd := nd_law_turns) (hcd := nc_law_turns)) pa_nil)) (pg_name (i := 5) sc_law_switched.nd rfl (by first | exact Or.inl rfl | exact Or.inr rfl))
        (pss_cons (ps_set (i := 6) sc_law_switched.nd rfl (by first | exact Or.inl rfl | exact Or.inr rfl) (pe_cal (ok_law_draw T) (hr.mono (by decide)) (by rfl) (pa_cons (pv 0 (hd := nd_law_dice_here) (hcd := nc_law_dice_here)) (pa_cons (pe_callB (call_lenQ (K := K) rfl) (by rfl) T.z_len bt_len (pa_cons (pv 4 (hd := nd_law_made) (hcd := nc_law_made)) pa_nil) (hn := nn_len) (hdb := nd_len)) pa_nil)) (hdb := nd_law_draw)))
        (pss_cons (ps_set (i := 7) sc_law_switched.nd rfl (by first | exact Or.inl rfl | exact Or.inr rfl) (pe_cal (ok_law_draw T) (hr.mono (by decide)) (by rfl) (pa_cons (pv 0 (hd := nd_law_dice_here) (hcd := nc_law_dice_here)) (pa_cons (pv 1 (hd := nd_law_many) (hcd := nc_law_many)) pa_nil)) (hdb := nd_law_draw)))
        (pss_cons (ps_set (i := 8) sc_law_switched.nd rfl (by first | exact Or.inl rfl | exact Or.inr rfl) (pe_ix (ix_listK (K := K) rfl) (pv 4 (hd := nd_law_made) (hcd := nc_law_made)) (pv 6 (hd := nd_law_row) (hcd := nc_law_row)) (fun _ _ => rfl)))
        (pss_cons (ps_set (i := 9) sc_law_switched.nd rfl (by first | exact Or.inl rfl | exact Or.inr rfl) (pe_cal (ok_law_turned T) (hr.mono (by decide)) (by rfl) (pa_cons (pv 1 (hd := nd_law_many) (hcd := nc_law_many)) (pa_cons (pv 6 (hd := nd_law_row) (hcd := nc_law_row)) (pa_cons (pv 7 (hd := nd_law_other) (hcd := nc_law_other)) pa_nil))) (hdb := nd_law_turned)))
        (pss_one (ps_if (PW.pt (pw_and (pt_cmpR op_ne (pv 7 (hd := nd_law_other) (hcd := nc_law_other)) (pv 8 (hd := nd_law_member) (hcd := nc_law_member)) (nomark _)) (pw_and1 (pt_cmpR op_eq (pe_ix (ix_listK (K := K) rfl) (pv 4 (hd := nd_law_made) (hcd := nc_law_made)) (pv 9 (hd := nd_law_beside) (hcd := nc_law_beside)) (fun _ _ => rfl)) (pv 8 (hd := nd_law_member) (hcd := nc_law_member)) (nomark _))))) (pss_one (ps_for PassesOwn.never rfl (pi_tupK (K := K) rfl (pe_tup (pa_cons (pv 6 (hd := nd_law_row) (hcd := nc_law_row)) (pa_cons (pv 9 (hd := nd_law_beside) (hcd := nc_law_beside)) pa_nil)))) (pg_name (i := 10) sc_law_switched.nd rfl (by first | exact Or.inl rfl | exact Or.inr rfl))
            (pss_cons (ps_asg (pv 7 (hd := nd_law_other) (hcd := nc_law_other)) (pg_sub (pv 4 (hd := nd_law_made) (hcd := nc_law_made)) (pv 10 (hd := nd_law_place) (hcd := nc_law_place)) set_list))
            (pss_one (ps_asg (pv 7 (hd := nd_law_other) (hcd := nc_law_other)) (pg_sub (pv 4 (hd := nd_law_made) (hcd := nc_law_made)) (pe_cal (ok_law_turned T) (hr.mono (by decide)) (by rfl) (pa_cons (pv 1 (hd := nd_law_many) (hcd := nc_law_many)) (pa_cons (pv 10 (hd := nd_law_place) (hcd := nc_law_place)) (pa_cons (pv 8 (hd := nd_law_member) (hcd := nc_law_member)) pa_nil))) (hdb := nd_law_turned)) set_list))))))
        pss_nil)))))))
      (pss_one (ps_ret (pe_callTy (call_tupK (K := K) rfl) (by rfl) T.z_tuple bt_tuple (pa_cons (pv 4 (hd := nd_law_made) (hcd := nc_law_made)) pa_nil) (hn := nn_tuple) (hdb := nd_tuple)))))), ?_⟩
  have hp := two_pow_pos n
  have hp8 := pow_le8 R.n8
  have n1 := R.n1
  have n8 := R.n8
  refine q_asgDL (evdq_listL (evd_var rfl hm)) fun l xs H1 hl e1 h1 hd1 => ?_
  have exs := encV_of hd1
  subst exs
  obtain ⟨xp, hxp⟩ := D.lst
  have nlp : l ≠ p := (ne_of_none hxp hl).symm
  refine q_for (src_rng (K := K) (evds_cons (evd_var rfl (.int t)) evds_nil) t0 (by omega)) (fun _ i σ' H' => Bx p H H' ∧ Tx K H H' ∧ DiceAt K H' p dc ds ∧ ∃ c' o5 o6 o7 o8 o9 o10, Rw n c' ∧ isC n c' = true ∧ H' l = some (.lst (encV c')) ∧ σ' = [some (.ref p), some (.int n), some (.ref m), some (.int t), some (.ref l), o5, o6, o7, o8, o9, o10])
    (fun H2 e2 => ⟨Bx.ex (e1.trans e2), Ex.tx (e1.trans e2), D.ex (e1.trans e2), c, none, none, none, none, none, none, R, C, e2 _ _ h1, rfl⟩) (fun _ _ _ _ _ _ => trivial)
    (fun _ i σ' Hi Hi' ⟨a1, a2, a3, c', o5, o6, o7, o8, o9, o10, a4, a5, a6, a7⟩ e => ⟨a1.trans (Bx.ex e), a2.trans (Ex.tx e), a3.ex e, c', o5, o6, o7, o8, o9, o10, a4, a5, e _ _ a6, a7⟩) (fun _ i σ' Hi v hi pv hv => ?_) (fun _ σ' H' pv => ?_)
  · obtain ⟨a1, a2, a3, c', o5, o6, o7, o8, o9, o10, R', C', a6, rfl⟩ := pv
    have len' : (encN c').length = 2 ^ n := by rw [encN_len, R'.len]
    have lst : ∀ {G : Hp}, G l = some (.lst (encV c')) → Dp K G (.ref l) (.list (encN c')) := fun h => .lst (SqL.of h) (encV_dp c')
    -- row, other
    refine draw_run (ev_var rfl) (evd_cb (evds_cons (evd_var rfl (lst a6)) evds_nil) rq_lenL) (by rw [len']; omega) (by rw [len']; omega) a3 fun r H2 hr b2 t2 d2 => ?_
    rw [len'] at hr
    have hr' : r < 2 ^ n := by omega
    have l2 := b2 _ _ nlp a6
    refine draw_run (K := K) (ev_var rfl) (evd_var rfl (.int (n : Int))) (by omega) (by omega) d2 fun o H3 ho b3 t3 d3 => ?_
    have ho' : o < n := by omega
    have l3 := b3 _ _ nlp l2
    obtain ⟨g1, g2⟩ := R'.get hr'
    -- member, beside
    refine q_asgD (evd_op (evd_var rfl (lst l3)) (evd_var rfl (.int (r : Int))) (rd_ixL (encN_get g2))) fun v4 H4 e4 hv4 => ?_
    rw [hv4.intV]
    have l4 := e4 _ _ l3
    refine q_asgD (K := K) (evd_call (evds_cons (evd_var rfl (.int (n : Int))) (evds_cons (evd_var rfl (.int (r : Int))) (evds_cons (evd_var rfl (.int (o : Int))) evds_nil))) ⟨n, r, o, rfl, ho', R'.n8, rfl⟩) fun v5 H5 e5 hv5 => ?_
    rw [hv5.intV]
    have l5 := e5 _ _ l4
    obtain ⟨w1, w2, w3⟩ := turn_facts R'.n8 ho' hr'
    obtain ⟨g3, g4⟩ := R'.get w1
    have bb : Bx p H H5 := ((a1.trans b2).trans b3).trans (Bx.ex (e4.trans e5))
    have tt : Tx K H H5 := ((a2.trans t2).trans t3).trans (Ex.tx (e4.trans e5))
    have dd : DiceAt K H5 p dc ds := (d3.ex e4).ex e5
    refine s_when (b := (!decide ((o : Int) = ((c'.getD r 0 : Nat) : Int))) && decide (((c'.getD (turn n r o) 0 : Nat) : Int) = ((c'.getD r 0 : Nat) : Int))) (et_and (et_D (K := K) (evd_op (evd_var rfl (.int _)) (evd_var rfl (.int _)) rd_neI)) fun _ => et_D (evd_op (evd_op (evd_var rfl (lst l5)) (evd_var rfl (.int _)) (rd_ixL (encN_get g4))) (evd_var rfl (.int _)) rd_eqI)) (fun hb H6 e6 => ?_) (fun _ H6 e6 => ⟨bb.trans (Bx.ex e6), tt.trans (Ex.tx e6), dd.ex e6, c', _, _, _, _, _, _, R', C', e6 _ _ l5, rfl⟩)
    rw [Bool.and_eq_true, natEq, natEq] at hb
    have hb2 := of_decide_eq_true hb.2
    have l6 := e6 _ _ l5
    have hm8 : c'.getD r 0 < n := g1
    have core : ∀ (b : List Nat) (y : Nat) (G : Hp) (u : V) (D' : Ends), Rw n b → y < 2 ^ n → Bx p H G → Tx K H G → DiceAt K G p dc ds → G l = some (.lst (encV b)) → Dp K G u (.int (y : Int)) →
        (∀ G', Bx p H G' → Tx K H G' → DiceAt K G' p dc ds → Tx K G G' → G' l = some (.lst (encV (sq n b y o (c'.getD r 0)))) → D'.nx [some (.ref p), some (.int n), some (.ref m), some (.int t), some (.ref l), some v, some (.int r), some (.int o), some (.int ((c'.getD r 0 : Nat) : Int)), some (.int ((turn n r o : Nat) : Int)), some u] G') →
        tSeq (tAsg (tVar 7) (gSub (tVar 4) (tVar 10) rSetL)) (tAsg (tVar 7) (gSub (tVar 4) (tCall (spD K Rturned) [] E0 (tCons (tVar 1) (tCons (tVar 10) (tCons (tVar 8) tNil)))) rSetL)) D'
          [some (.ref p), some (.int n), some (.ref m), some (.int t), some (.ref l), some v, some (.int r), some (.int o), some (.int ((c'.getD r 0 : Nat) : Int)), some (.int ((turn n r o : Nat) : Int)), some u] G := by
      intro b y G u D' Rb hy x1 x2 x3 x5 hu z
      have lb : (encV b).length = 2 ^ n := by rw [encV_len, Rb.len]
      refine q_setD (K := K) (j := y) x5 (evd_var rfl (.int (o : Int))) (ev_var rfl) (evd_var rfl hu) (by omega) fun v7 H7 e7 hv7 => ?_
      rw [hv7.intV, encV_set]
      have u1 : Bx p H (upd H7 l (.lst (encV (b.set y o)))) := Bx.mut (x1.trans (Bx.ex e7)) hl
      have u2 : Tx K G (upd H7 l (.lst (encV (b.set y o)))) := (Ex.tx e7).trans (Tx.updL (e7 _ _ x5))
      have u3 : DiceAt K (upd H7 l (.lst (encV (b.set y o)))) p dc ds := D.keep hl (x3.ex e7)
      have u4 : upd H7 l (.lst (encV (b.set y o))) l = some (.lst (encV (b.set y o))) := upd_same
      revert u1 u2 u3 u4
      generalize upd H7 l (.lst (encV (b.set y o))) = G1
      intro u1 u2 u3 u4
      have hu' : Dp K G1 u (.int (y : Int)) := Dp.tx u2 _ _ rfl hu
      refine s_setD (K := K) (j := turn n y (c'.getD r 0)) u4 (evd_var rfl (.int (o : Int))) (ev_var rfl) (evd_call (evds_cons (evd_var rfl (.int (n : Int))) (evds_cons (evd_var rfl hu') (evds_cons (evd_var rfl (.int ((c'.getD r 0 : Nat) : Int))) evds_nil))) ⟨n, y, c'.getD r 0, rfl, hm8, n8, rfl⟩)
        (by rw [encV_len, List.length_set, Rb.len]; exact (turn_facts n8 hm8 hy).1) fun v8 H8 e8 hv8 => ?_
      rw [hv8.intV, encV_set]
      exact z _ (Bx.mut (u1.trans (Bx.ex e8)) hl) ((x2.trans u2).trans ((Ex.tx e8).trans (Tx.updL (e8 _ _ u4)))) (D.keep hl (u3.ex e8)) (u2.trans ((Ex.tx e8).trans (Tx.updL (e8 _ _ u4)))) upd_same
    refine s_for (src_tup (K := K) (evd_tup (evds_cons (evd_var rfl (.int (r : Int))) (evds_cons (evd_var rfl (.int ((turn n r o : Nat) : Int))) evds_nil)) (by simp)) (by rfl)) (fun G0 j σ' G => Bx p H G ∧ Tx K H G ∧ DiceAt K G p dc ds ∧ Tx K G0 G ∧ ∃ o10, G l = some (.lst (encV (if j = 0 then c' else if j = 1 then sq n c' r o (c'.getD r 0) else sq n (sq n c' r o (c'.getD r 0)) (turn n r o) o (c'.getD r 0)))) ∧
      σ' = [some (.ref p), some (.int n), some (.ref m), some (.int t), some (.ref l), some v, some (.int r), some (.int o), some (.int ((c'.getD r 0 : Nat) : Int)), some (.int ((turn n r o : Nat) : Int)), o10])
      (fun G e => ⟨bb.trans (Bx.ex (e6.trans e)), tt.trans (Ex.tx (e6.trans e)), dd.ex (e6.trans e), Tx.refl, _, e _ _ l6, rfl⟩) (fun _ _ _ _ _ ⟨_, _, _, k, _⟩ => k)
      (fun _ j σ' G G' ⟨x1, x2, x3, x4, o10, x5, x6⟩ e => ⟨x1.trans (Bx.ex e), x2.trans (Ex.tx e), x3.ex e, x4.trans (Ex.tx e), o10, e _ _ x5, x6⟩) (fun G0 j σ' G u hj pv hu => ?_) (fun G0 σ' G pv => ?_)
    · obtain ⟨x1, x2, x3, x4, o10, x5, rfl⟩ := pv
      have hj2 : j = 0 ∨ j = 1 := by
        have : j < 2 := hj
        omega
      rcases hj2 with q0 | q0
      · subst q0
        exact core c' r G u _ R' hr' x1 x2 x3 x5 hu fun G' y1 y2 y3 y4 y5 => ⟨y1, y2, y3, x4.trans y4, _, y5, rfl⟩
      · subst q0
        exact core (sq n c' r o (c'.getD r 0)) (turn n r o) G u _ (sq_rw R' _ _ ho') w1 x1 x2 x3 x5 hu fun G' y1 y2 y3 y4 y5 => ⟨y1, y2, y3, x4.trans y4, _, y5, rfl⟩
    · obtain ⟨x1, x2, x3, x4, o10, x5, rfl⟩ := pv
      exact ⟨x1, x2, x3, _, _, _, _, _, _, _, sq_rw (sq_rw R' _ _ ho') _ _ ho', switch_C R' C' hr' ho' hb2, x5, rfl⟩
  · obtain ⟨a1, a2, a3, c', o5, o6, o7, o8, o9, o10, R', C', a6, rfl⟩ := pv
    exact s_retD (K := K) (evd_cb (evds_cons (evd_var rfl (.lst (SqL.of a6) (encV_dp c'))) evds_nil) rq_tup) fun v H5 e5 hv => q v c' H5 (a1.trans (Bx.ex e5)) (a2.trans (Ex.tx e5)) (a3.ex e5) R' C' hv
end
end K41
set_option Elab.async false
set_option linter.all false
set_option maxRecDepth 100000
set_option maxHeartbeats 5000000
namespace K41
open PySem PySem.Spec PyProof.Rows L2 Evl
section
variable {P : Program} {w : World} {K : PySem.W.Frag} {mg : Str → Option Value} {base : Heap}
def spCoup (K : PySem.W.Frag) (N : Nat) : Sp := fun vs H Q _ => ∃ (p dc : Addr) (ds : List Int) (n : Nat), vs = [.ref p, .int n] ∧ 1 ≤ n ∧ n ≤ N ∧ n ≤ 8 ∧ DiceAt K H p dc ds ∧
  ∀ v c' H', Bx p H H' → Tx K H H' → DiceAt K H' p dc ds → Rw n c' → isC n c' = true → Dp K H' v (.tuple (encN c')) → Q v H'
theorem coup_run {σ : L2.St} {H : Hp} {ta tk : TE} {p dc : Addr} {ds : List Int} {N n : Nat} {Q : VK} {E : XK} (ha : Ev ta σ H (.ref p)) (hk : EvD K tk σ H (.int (n : Int))) (h1 : 1 ≤ n) (h2 : n ≤ N) (h8 : n ≤ 8) (D : DiceAt K H p dc ds)
    (q : ∀ v c' H', Bx p H H' → Tx K H H' → DiceAt K H' p dc ds → Rw n c' → isC n c' = true → Dp K H' v (.tuple (encN c')) → Q v H') : tCall (spCoup K N) [] E (tCons ta (tCons tk tNil)) σ H Q :=
  ha H (Ex.refl H) _ fun H1 e1 => (ev_int hk) H1 e1 _ fun H2 e2 => ⟨p, dc, ds, n, rfl, h1, h2, h8, D.ex (e1.trans e2), fun v c' H' b t d R C hv => q v c' H' ((Bx.ex (e1.trans e2)).trans b) ((Ex.tx (e1.trans e2)).trans t) d R C hv⟩
theorem row_ne {n m s r s' r' : Nat} (hn : n ≤ 8) (hm : m < n) (hs : s < 2) (hr : r < 2 ^ (n - 1)) (hs' : s' < 2) (hr' : r' < 2 ^ (n - 1)) (h : s ≠ s' ∨ r ≠ r') : rowWith n m s r ≠ rowWith n m s' r' := fun e => by
  obtain ⟨_, b1, r1, _⟩ := half_facts hn hm hs hr
  obtain ⟨_, b2, r2, _⟩ := half_facts hn hm hs' hr'
  rw [e] at b1 r1
  rcases h with q | q
  · exact q (b1.symm.trans b2)
  · exact q (r1.symm.trans r2)
theorem coup_base (T : Txt K mg) : Cal P w K mg base "_law_coupling" (3 + 1) ["_law_dice_here", "_law_many"] [] (spCoup K 0) := by
  refine T.d_law_coupling.ok (k := 3) sc_law_coupling (fun _ _ _ _ _ _ us hl => match us, hl with | [_, _], _ => rfl) (fun vs H Q E h => by obtain ⟨p, dc, ds, n, rfl, _⟩ := h; rfl) (fun f cdv A outer s H vs Q E hr h => ?_)
  obtain ⟨p, dc, ds, n, rfl, h1, h2, _⟩ := h
  omega
theorem coup_step (T : Txt K mg) (N : Nat) (IH : Cal P w K mg base "_law_coupling" (3 + N + 1) ["_law_dice_here", "_law_many"] [] (spCoup K N)) : Cal P w K mg base "_law_coupling" (3 + (N + 1) + 1) ["_law_dice_here", "_law_many"] [] (spCoup K (N + 1)) := by
  refine T.d_law_coupling.ok (k := 3 + (N + 1)) sc_law_coupling (fun _ _ _ _ _ _ us hl => match us, hl with | [_, _], _ => rfl) (fun vs H Q E h => by obtain ⟨p, dc, ds, n, rfl, _⟩ := h; rfl) (fun f cdv A outer s H vs Q E hr h => ?_)
  obtain ⟨p, dc, ds, n, rfl, n1, nN, n8, D, q⟩ := h
  refine ⟨_, (pss_cons (ps_set (i := 2) sc_law_coupling.nd rfl (by first | exact Or.inl rfl | exact Or.inr rfl) (pe_cal (ok_law_draw T) (hr.mono (by omega)) (by rfl) (pa_cons (pv 0 (hd := nd_law_dice_here) (hcd := nc_law_dice_here)) (pa_cons (pv 1 (hd := nd_law_many) (hcd := nc_law_many)) pa_nil)) (hdb := nd_law_draw)))
      (pss_cons (ps_setLc (i := 3) (own := [("_law_row", 4)]) (g := (gName 4)) (tt := tYes) rfl sc_law_coupling.nd rfl rfl (sw_true rfl rfl rfl (by decide +kernel)) (pi_range1 (by rfl) T.z_range (pa_cons (pe_cal (ok_law_power T) (hr.mono (by omega)) (by rfl) (pa_cons (pv 1 (hd := nd_law_many) (hcd := nc_law_many)) pa_nil) (hdb := nd_law_power)) pa_nil)) (blkOk_by (N := ["_law_dice_here", "_law_many", "_law_member", "_law_made", "_law_row", "_law_slip", "_law_half", "_law_rest"]) (sc := defScope st_law_coupling) (own := [("_law_row", 4)]) (by decide +kernel)) (fun _ _ _ _ _ => (pg_name (i := 4) sc_law_coupling.nd rfl (by first | exact Or.inl rfl | exact Or.inr rfl))) (fun _ _ _ _ _ => pts_nil) (fun _ _ _ _ _ => (pv 2 (hd := nd_law_member) (hcd := nc_law_member))))
      (pss_cut (ps_if (PW.pt (pw_and (pt_cmpR op_gt (pv 1 (hd := nd_law_many) (hcd := nc_law_many)) pe_int (nomark _)) (pw_and1 (pt_cmpR op_gt (pe_cal (ok_law_draw T) (hr.mono (by omega)) (by rfl) (pa_cons (pv 0 (hd := nd_law_dice_here) (hcd := nc_law_dice_here)) (pa_cons pe_int pa_nil)) (hdb := nd_law_draw)) pe_int (nomark _))))) (pss_one (ps_for PassesOwn.never rfl (pi_range1 (by rfl) T.z_range (pa_cons pe_int pa_nil)) (pg_name (i := 5) sc_law_coupling.nd rfl (by first | exact Or.inl rfl | exact Or.inr rfl))
          (pss_cons (ps_set (i := 6) sc_law_coupling.nd rfl (by first | exact Or.inl rfl | exact Or.inr rfl) (pe_cal IH (hr.mono (by omega)) (by rfl) (pa_cons (pv 0 (hd := nd_law_dice_here) (hcd := nc_law_dice_here)) (pa_cons (pe_op op_sub (pv 1 (hd := nd_law_many) (hcd := nc_law_many)) pe_int) pa_nil)) (hdb := nd_law_coupling)))
          (pss_one (ps_for PassesOwn.never rfl (pi_range1 (by rfl) T.z_range (pa_cons (pe_callB (call_lenQ (K := K) rfl) (by rfl) T.z_len bt_len (pa_cons (pv 6 (hd := nd_law_half) (hcd := nc_law_half)) pa_nil) (hn := nn_len) (hdb := nd_len)) pa_nil)) (pg_name (i := 7) sc_law_coupling.nd rfl (by first | exact Or.inl rfl | exact Or.inr rfl))
            (pss_one (ps_asg (pe_op op_add (pe_ix (ix_tupK (K := K) rfl) (pv 6 (hd := nd_law_half) (hcd := nc_law_half)) (pv 7 (hd := nd_law_rest) (hcd := nc_law_rest)) (fun _ _ => rfl)) (pe_callTy call_intK (by rfl) T.z_int bt_int (pa_cons (pe_cmpR op_ge (pe_ix (ix_tupK (K := K) rfl) (pv 6 (hd := nd_law_half) (hcd := nc_law_half)) (pv 7 (hd := nd_law_rest) (hcd := nc_law_rest)) (fun _ _ => rfl)) (pv 2 (hd := nd_law_member) (hcd := nc_law_member)) (nomark _)) pa_nil) (hn := nn_int) (hdb := nd_int))) (pg_sub (pv 3 (hd := nd_law_made) (hcd := nc_law_made)) (pe_cal (ok_law_row_with T) (hr.mono (by omega)) (by rfl) (pa_cons (pv 1 (hd := nd_law_many) (hcd := nc_law_many)) (pa_cons (pv 2 (hd := nd_law_member) (hcd := nc_law_member)) (pa_cons (pv 5 (hd := nd_law_slip) (hcd := nc_law_slip)) (pa_cons (pv 7 (hd := nd_law_rest) (hcd := nc_law_rest)) pa_nil)))) (hdb := nd_law_row_with)) set_list))))))))
      pss_nil)
      (pss_one (ps_ret (pe_cal (ok_law_switched T) (hr.mono (by omega)) (by rfl) (pa_cons (pv 0 (hd := nd_law_dice_here) (hcd := nc_law_dice_here)) (pa_cons (pv 1 (hd := nd_law_many) (hcd := nc_law_many)) (pa_cons (pv 3 (hd := nd_law_made) (hcd := nc_law_made)) (pa_cons (pe_cal (ok_law_draw T) (hr.mono (by omega)) (by rfl) (pa_cons (pv 0 (hd := nd_law_dice_here) (hcd := nc_law_dice_here)) (pa_cons (pe_op op_add (pe_op op_mul pe_int (pe_callB (call_lenQ (K := K) rfl) (by rfl) T.z_len bt_len (pa_cons (pv 3 (hd := nd_law_made) (hcd := nc_law_made)) pa_nil) (hn := nn_len) (hdb := nd_len))) pe_int) pa_nil)) (hdb := nd_law_draw)) pa_nil)))) (hdb := nd_law_switched))))))), ?_⟩
  have hp := two_pow_pos n
  have hp8 := pow_le8 n8
  -- member
  refine draw_run (K := K) (ev_var rfl) (evd_var rfl (.int (n : Int))) (by omega) (by omega) D fun m H1 hm b1 t1 d1 => ?_
  have hm' : m < n := by omega
  -- made
  have S := src_rng (K := K) (σ := L2.start ["_law_dice_here", "_law_many", "_law_member", "_law_made", "_law_row", "_law_slip", "_law_half", "_law_rest"] [.ref p, .int n, .int m]) (H := H1) (n := ((2 ^ n : Nat) : Int)) (tr := tCons (tCall (spD K RlawPower) [] E0 (tCons (tVar 1) tNil)) tNil) (evds_cons (evd_call (evds_cons (evd_var rfl (.int (n : Int))) evds_nil) ⟨n, rfl, n8, rfl⟩) evds_nil) (by omega) (by omega)
  rw [Int.toNat_natCast] at S
  have lc := evdl_lc1 (j := 4) (vs := [4]) (te := tVar 2) S (fun _ _ _ => trivial) (by omega) (fun _ => .int (m : Int)) (fun _ _ => rfl) (fun _ => rfl) (fun i v Hi hi e hv => evd_var rfl (.int (m : Int)))
  refine q_asgDL lc fun l xs H2 hl e2 h2 hd2 => ?_
  have el : ((List.range (2 ^ n)).map fun _ => PyData.int (m : Int)) = encN (List.replicate (2 ^ n) m) := by
    unfold encN
    apply List.ext_getElem
    · simp
    · intros
      simp
  rw [el] at hd2
  have exs := encV_of hd2
  subst exs
  have d2 := d1.ex e2
  obtain ⟨xp, hxp⟩ := d1.lst
  have nlp : l ≠ p := (ne_of_none hxp hl).symm
  have hl0 : ∀ a o, H a = some o → a ≠ p → a ≠ l := fun a o h n0 => ne_of_none (b1 _ _ n0 h) hl
  obtain ⟨R0, C0⟩ := const_C hm' n8
  refine ⟨fun σ' H' => Bx p H1 H' ∧ Tx K H1 H' ∧ DiceAt K H' p dc ds ∧ ∃ c' o4 o5 o6 o7, Rw n c' ∧ isC n c' = true ∧ H' l = some (.lst (encV c')) ∧ σ' = [some (.ref p), some (.int n), some (.int m), some (.ref l), o4, o5, o6, o7], ?_, ?_⟩
  · unfold tIfS tAnd
    refine (et_D (K := K) (b := decide ((1 : Int) < (n : Int))) (evd_op (evd_var rfl (.int (n : Int))) evd_int rd_gt)) H2 (Ex.refl _) _ fun H3 e3 => ?_
    have l3 := e3 _ _ h2
    have d3 := d2.ex e3
    have bb3 : Bx p H1 H3 := Bx.ex (e2.trans e3)
    have tt3 : Tx K H1 H3 := Ex.tx (e2.trans e3)
    by_cases hn1 : (1 : Int) < (n : Int)
    · rw [decide_eq_true hn1, if_pos rfl]
      refine draw_run (K := K) (ev_var rfl) evd_int (by decide) (by decide) d3 fun r4 H4 hr4 b4 t4 d4 => ?_
      have l4 := b4 _ _ nlp l3
      refine ⟨_, _, rfl, rfl, _, rfl, ?_⟩
      by_cases hr0 : (0 : Int) < (r4 : Int)
      · rw [decide_eq_true hr0]
        refine iteT ?_
        refine s_for (src_rng (K := K) (evds_cons evd_int evds_nil) (by decide) (by decide)) (fun _ s' σ' G => Bx p H1 G ∧ Tx K H1 G ∧ DiceAt K G p dc ds ∧ ∃ c' o4 o5 o6 o7, Rw n c' ∧ H1 l = none ∧ G l = some (.lst (encV c')) ∧
          (∀ s, s < s' → ∃ a, Rw (n - 1) a ∧ isC (n - 1) a = true ∧ ∀ r, r < 2 ^ (n - 1) → c'.getD (rowWith n m s r) 0 = up m (a.getD r 0)) ∧ σ' = [some (.ref p), some (.int n), some (.int m), some (.ref l), o4, o5, o6, o7])
          (fun G e => ⟨(bb3.trans b4).trans (Bx.ex e), (tt3.trans t4).trans (Ex.tx e), d4.ex e, _, none, none, none, none, R0, hl, e _ _ l4, fun s hs => by omega, rfl⟩) (fun _ _ _ _ _ _ => trivial)
          (fun _ i σ' G G' ⟨x1, x2, x3, c', o4, o5, o6, o7, x4, x5, x6, x7, x8⟩ e => ⟨x1.trans (Bx.ex e), x2.trans (Ex.tx e), x3.ex e, c', o4, o5, o6, o7, x4, x5, e _ _ x6, x7, x8⟩) (fun _ sl σ' G v hs pv hv => ?_) (fun _ σ' G pv => ?_)
        · obtain ⟨x1, x2, x3, c', o4, o5, o6, o7, x4, x5, x6, x7, rfl⟩ := pv
          have hs' : sl < 2 := hs
          rw [hv.intV]
          refine coup_run (K := K) (n := n - 1) (ev_var rfl) (evd_is (evd_op (evd_var rfl (.int (n : Int))) evd_int rd_sub) (congrArg PyData.int (by omega))) (by omega) (by omega) (by omega) x3 fun u a G1 b5 t5 d5 Ra Ca hu => ?_
          have l5 := b5 _ _ nlp x6
          have la : (encN a).length = 2 ^ (n - 1) := by rw [encN_len, Ra.len]
          have hpa := pow_le8 (show n - 1 ≤ 8 by omega)
          have S2 := src_rng (K := K) (σ := [some (.ref p), some (.int n), some (.int m), some (.ref l), o4, some (.int (sl : Int)), some u, o7]) (H := G1) (n := ((encN a).length : Int)) (tr := tCons (tCB (rLenQ K) (tCons (tVar 6) tNil)) tNil) (evds_cons (evd_cb (evds_cons (evd_var rfl hu) evds_nil) rq_len) evds_nil) (by omega) (by rw [la]; omega)
          rw [Int.toNat_natCast, la] at S2
          refine s_for S2 (fun _ r' σ' G => Bx p H1 G ∧ Tx K H1 G ∧ Tx K G1 G ∧ DiceAt K G p dc ds ∧ ∃ c' o7, Rw n c' ∧ G l = some (.lst (encV c')) ∧
            (∀ s, s < sl → ∃ a, Rw (n - 1) a ∧ isC (n - 1) a = true ∧ ∀ r, r < 2 ^ (n - 1) → c'.getD (rowWith n m s r) 0 = up m (a.getD r 0)) ∧ (∀ r, r < r' → c'.getD (rowWith n m sl r) 0 = up m (a.getD r 0)) ∧ σ' = [some (.ref p), some (.int n), some (.int m), some (.ref l), o4, some (.int (sl : Int)), some u, o7])
            (fun G e => ⟨(x1.trans b5).trans (Bx.ex e), (x2.trans t5).trans (Ex.tx e), Ex.tx e, d5.ex e, c', _, x4, e _ _ l5, x7, fun r hr => by omega, rfl⟩) (fun _ _ _ _ _ _ => trivial)
            (fun _ i σ' G G' ⟨y1, y2, y3, y4, c', o7, y5, y6, y7, y8, y9⟩ e => ⟨y1.trans (Bx.ex e), y2.trans (Ex.tx e), y3.trans (Ex.tx e), y4.ex e, c', o7, y5, e _ _ y6, y7, y8, y9⟩) (fun _ r σ' G v' hr' pv hv' => ?_) (fun _ σ' G pv => ?_)
          · obtain ⟨y1, y2, y3, y4, c2, o7', y5, y6, y7, y8, rfl⟩ := pv
            rw [hv'.intV]
            obtain ⟨ga, ga2⟩ := Ra.get hr'
            have hu2 : Dp K G u (.tuple (encN a)) := Dp.tx y3 _ _ (encN_noL a) hu
            obtain ⟨f1, f2, f3, f4⟩ := half_facts n8 hm' hs' hr'
            have ix : EvD K (tOp (rIxT K) (tVar 6) (tVar 7)) [some (.ref p), some (.int n), some (.int m), some (.ref l), o4, some (.int (sl : Int)), some u, some (.int (r : Int))] G (.int ((a.getD r 0 : Nat) : Int)) := evd_op (evd_var rfl hu2) (evd_var rfl (.int (r : Int))) (rd_ixT (encN_get ga2))
            have hup : up m (a.getD r 0) < n := by
              unfold up
              split <;> omega
            refine s_setD (K := K) (d := .int ((up m (a.getD r 0) : Nat) : Int)) (j := rowWith n m sl r) y6 (evd_is (evd_op ix (evd_cb (evds_cons (evd_op ix (evd_var rfl (.int (m : Int))) rd_ge) evds_nil) rq_intB) rd_add) (congrArg PyData.int ?_)) (ev_var rfl) (evd_call (evds_cons (evd_var rfl (.int (n : Int))) (evds_cons (evd_var rfl (.int (m : Int))) (evds_cons (evd_var rfl (.int (sl : Int))) (evds_cons (evd_var rfl (.int (r : Int))) evds_nil)))) ⟨n, m, sl, r, rfl, hm', n8, by omega, by omega, rfl⟩)
              (by rw [encV_len, y5.len]; exact f1) fun v8 H8 e8 hv8 => ?_
            · unfold up
              by_cases hc : m ≤ a.getD r 0
              · rw [decide_eq_true (by omega), if_pos rfl, if_pos hc]
                omega
              · rw [decide_eq_false (by omega), if_neg Bool.false_ne_true, if_neg hc]
                omega
            · rw [hv8.intV, encV_set]
              have len2 : ∀ x, x < 2 ^ n → x < c2.length := fun x hx => by rw [y5.len]; exact hx
              refine ⟨Bx.mut (y1.trans (Bx.ex e8)) hl, y2.trans ((Ex.tx e8).trans (Tx.updL (e8 _ _ y6))), y3.trans ((Ex.tx e8).trans (Tx.updL (e8 _ _ y6))), d1.keep hl (y4.ex e8), _, _, y5.set _ hup, upd_same, fun s hsl => ?_, fun r2 hr2 => ?_, rfl⟩
              · obtain ⟨a', Ra', Ca', ha'⟩ := y7 s hsl
                refine ⟨a', Ra', Ca', fun r2 hr2 => ?_⟩
                rw [getD_set (len2 _ (half_facts n8 hm' (by omega) hr2).1), if_neg (row_ne n8 hm' hs' hr' (by omega) hr2 (.inl (by omega))), ha' r2 hr2]
              · by_cases e0 : r2 = r
                · subst e0
                  rw [getD_set (len2 _ f1), if_pos rfl]
                · have hr3 : r2 < 2 ^ (n - 1) := by omega
                  rw [getD_set (len2 _ (half_facts n8 hm' hs' hr3).1), if_neg (row_ne n8 hm' hs' hr' hs' hr3 (.inr (Ne.symm e0))), y8 r2 (by omega)]
          · obtain ⟨y1, y2, y3, y4, c2, o7', y5, y6, y7, y8, rfl⟩ := pv
            refine ⟨y1, y2, y4, c2, _, _, _, _, y5, hl, y6, fun s hs2 => ?_, rfl⟩
            by_cases e0 : s = sl
            · subst e0
              exact ⟨a, Ra, Ca, y8⟩
            · exact y7 s (by omega)
        · obtain ⟨x1, x2, x3, c', o4, o5, o6, o7, x4, x5, x6, x7, rfl⟩ := pv
          obtain ⟨a, Ra, Ca, ha⟩ := x7 0 (by decide)
          obtain ⟨b, Rb, Cb, hb⟩ := x7 1 (by decide)
          exact ⟨x1, x2, x3, c', _, _, _, _, x4, halves_C x4 hm' Ra Rb Ca Cb ha hb, x6, rfl⟩
      · rw [decide_eq_false hr0]
        refine iteF ?_
        exact ⟨bb3.trans b4, tt3.trans t4, d4, _, none, none, none, none, R0, C0, l4, rfl⟩
    · rw [decide_eq_false hn1, if_neg Bool.false_ne_true]
      exact ⟨bb3, tt3, d3, _, none, none, none, none, R0, C0, l3, rfl⟩
  · rintro σ' H5 ⟨x1, x2, x3, c', o4, o5, o6, o7, R', C', x6, rfl⟩
    have lc' : (encN c').length = 2 ^ n := by rw [encN_len, R'.len]
    refine ⟨.ref p, rfl, .int n, rfl, .ref l, rfl, ?_⟩
    refine draw_run (K := K) (ev_var rfl) (evd_op (evd_op evd_int (evd_cb (evds_cons (evd_var rfl (.lst (SqL.of x6) (encV_dp c'))) evds_nil) rq_lenL) (rd_mul (.inl ⟨by decide, by decide⟩))) evd_int rd_add) (by rw [lc']; omega) (by rw [lc']; omega) x3 fun r H6 hr6 b6 t6 d6 => ?_
    rw [lc'] at hr6
    have l6 := b6 _ _ nlp x6
    exact ⟨p, l, dc, ds, n, r, c', rfl, R', C', .lst (SqL.of l6) (encV_dp c'), by omega, by omega, d6, fun v c2 H7 b7 t7 d7 R2 C2 hv => q v c2 H7 (b1.trans ((x1.trans b6).trans b7)) (t1.trans ((x2.trans t6).trans t7)) d7 R2 C2 hv⟩
theorem ok_law_coupling (T : Txt K mg) : ∀ N : Nat, Cal P w K mg base "_law_coupling" (3 + N + 1) ["_law_dice_here", "_law_many"] [] (spCoup K N)
  | 0 => coup_base T
  | N + 1 => coup_step T N (ok_law_coupling T N)
end
end K41
set_option Elab.async false
set_option linter.all false
set_option maxRecDepth 100000
set_option maxHeartbeats 5000000
namespace K41
open PySem PySem.Spec PyProof.Rows L2 Evl
section
variable {P : Program} {w : World} {K : PySem.W.Frag} {mg : Str → Option Value} {base : Heap}
theorem ok_law_dice (T : Txt K mg) : Cal P w K mg base "_law_dice" 1 ["_law_script"] [] (fun vs H Q _ => ∃ (a : Addr) (ns : List Int), vs = [.ref a] ∧ SqL K H a (ns.map V.int) ∧ ns.length ≤ 63 ∧ ∀ p c cs H', H p = none → Ex H H' → DiceAt K H' p c cs → Q (.ref p) H') := by
  refine T.d_law_dice.ok sc_law_dice (fun _ _ _ _ _ _ us hl => match us, hl with | [_], _ => rfl) (fun vs H Q E h => by obtain ⟨p, k, rfl, _⟩ := h; rfl) (fun f cdv A outer s H vs Q E hr h => ?_)
  obtain ⟨a, ns, rfl, hs, hn, q⟩ := h
  refine ⟨_, (pss_one (ps_ret (pe_lst (pa_cons (pe_lc (own := [("_law_cell", 1)]) (g := (gName 1)) (tt := tYes) rfl sc_law_dice.nd (pi_listK (K := K) rfl (pe_slice (sl_listK (K := K) rfl) (pv 0 (hd := nd_law_script) (hcd := nc_law_script)) po_none (po_some pe_int))) (blkOk_by (N := ["_law_script", "_law_cell"]) (sc := defScope st_law_dice) (own := [("_law_cell", 1)]) (by decide +kernel)) (fun _ _ _ _ _ => (pg_name (i := 1) sc_law_dice.nd rfl (by first | exact Or.inl rfl | exact Or.inr rfl))) (fun _ _ _ _ _ => pts_nil) (fun _ _ _ _ _ => (pe_callB call_absK (by rfl) T.z_abs bt_abs (pa_cons (pe_callTy call_intK (by rfl) T.z_int bt_int (pa_cons (pv 1 (hd := nd_law_cell) (hcd := nc_law_cell)) pa_nil) (hn := nn_int) (hdb := nd_int)) pa_nil) (hn := nn_abs) (hdb := nd_abs)))) (pa_cons pe_int (pa_cons pe_int (pa_cons pe_int (pa_cons pe_int pa_nil)))))))), ?_⟩
  obtain ⟨ms, hms, hml⟩ : ∃ ms : List Int, cutV (ns.map V.int) none (some 63) = ms.map V.int ∧ ms.length ≤ 63 := by
    unfold cutV
    refine ⟨(ns.drop (HT.sIx (ns.map V.int).length 0 none)).take (HT.sIx (ns.map V.int).length (ns.map V.int).length (some 63) - HT.sIx (ns.map V.int).length 0 none), by rw [List.map_take, List.map_drop], ?_⟩
    have := List.length_take_le' (HT.sIx (ns.map V.int).length (ns.map V.int).length (some 63) - HT.sIx (ns.map V.int).length 0 none) (ns.drop (HT.sIx (ns.map V.int).length 0 none))
    have := List.length_drop (i := HT.sIx (ns.map V.int).length 0 none) (l := ns)
    omega
  have hsl : EvL (tSl (rSlL K) (tVar 0) tNoPart (tPart (tC (.int 63)))) (L2.start ["_law_script", "_law_cell"] [.ref a]) H (ms.map V.int) := by
    rw [← hms]
    exact el_sl (ev_var rfl) eo_none (eo_some ev_c) hs
  have hsd : EvD K (tSl (rSlL K) (tVar 0) tNoPart (tPart (tC (.int 63)))) (L2.start ["_law_script", "_law_cell"] [.ref a]) H (.list (ms.map PyData.int)) := fun H1 e Q' q' => hsl H1 e Q' fun p H2 _ e2 h2 => q' _ H2 e2 (.lst (SqL.of h2) (DpAll.ints ms))
  have S := src_lst hsd
  rw [List.length_map] at S
  have lc : EvDL K _ (L2.start ["_law_script", "_law_cell"] [.ref a]) H _ := evdl_lc1 (j := 1) (vs := [1]) (te := tCB rAbs (tCons (tCB rIntOf (tCons (tVar 1) tNil)) tNil)) S (fun _ _ e => Ex.kx e) (by omega) (fun i => .int (if ms.getD i 0 < 0 then -(ms.getD i 0) else ms.getD i 0)) (fun _ _ => rfl) (fun _ => rfl) (fun i v Hi hi e hv => by
    have hv' : Dp K Hi v (.int (ms.getD i 0)) := by
      have e1 : (ms.map PyData.int).getD i .none = .int (ms.getD i 0) := by
        rw [List.getD_eq_getElem?_getD, List.getElem?_map, List.getD_eq_getElem?_getD, List.getElem?_eq_getElem hi]
        rfl
      rw [← e1]
      exact hv
    exact evd_cb (evds_cons (evd_cb (evds_cons (evd_var rfl hv') evds_nil) rq_int) evds_nil) rq_abs)
  unfold tRet tLst tCons
  refine lc H (Ex.refl _) _ fun c xs H2 hc e2 h2 hd => ?_
  have el : ((List.range ms.length).map fun i => PyData.int (if ms.getD i 0 < 0 then -(ms.getD i 0) else ms.getD i 0)) = ((ms.map fun x => if x < 0 then -x else x)).map PyData.int := by
    refine List.ext_getElem (by simp) fun i small _ => ?_
    simp only [List.getElem_map, List.getElem_range]
    have hi : i < ms.length := by simpa using small
    have at_ : ms.getD i 0 = ms[i] := by simp [List.getD_eq_getElem?_getD, hi]
    rw [at_]
  rw [el] at hd
  have ex := DpAll.intsV hd
  subst ex
  refine ⟨by show 5 ≤ sizeLine; decide, fun p hp => ?_⟩
  have ncp : c ≠ p := ne_of_none h2 hp
  refine q p c _ _ (fresh_back e2 hp) (e2.trans (Ex.new hp)) ⟨0, 0, 1, 0, ncp, upd_same, (by rw [upd_ne ncp]; exact h2), Int.le_refl _, by omega, fun x hx => ?_, Int.le_refl _, by decide, by decide⟩
  obtain ⟨y, _, rfl⟩ := List.mem_map.mp hx
  split <;> omega
end
end K41
set_option Elab.async false
set_option linter.all false
set_option maxRecDepth 100000
set_option maxHeartbeats 5000000
namespace K41
open PySem PySem.Spec PyProof.Rows L2 Evl
section
variable {P : Program} {w : World} {K : PySem.W.Frag} {mg : Str → Option Value} {base : Heap}
theorem ok_law_flag (T : Txt K mg) : Cal P w K mg base "_law_flag" 1 ["_law_told", "_law_due"] [] (spD K RlawFlag) := by
  refine T.d_law_flag.ok sc_law_flag (fun _ _ _ _ _ _ us hl => match us, hl with | [_, _], _ => rfl) (len_D (by rintro ds d ⟨n, r, rfl, _⟩; rfl)) (fun f cdv A outer s H vs Q E hr h => ?_)
  obtain ⟨ds, d, hd, ⟨a, b, rfl, rfl⟩, k⟩ := h
  obtain ⟨x, y, rfl, h1, h2⟩ := all2 hd
  refine ⟨_, (pss_one (ps_ret (pe_and (pe_callB (call_isiK' (K := K) rfl) (by rfl) T.z_isinstance bt_isinstance (pa_cons (pv 0 (hd := nd_law_told) (hcd := nc_law_told)) (pa_cons (pe_bltn (v := .ty "bool") (by rfl) T.z_bool bt_bool rfl nn_bool nd_bool) pa_nil)) (hn := nn_isinstance) (hdb := nd_isinstance)) (pe_one (pe_cmpR op_eq (pv 0 (hd := nd_law_told) (hcd := nc_law_told)) (pv 1 (hd := nd_law_due) (hcd := nc_law_due)) (nomark _)))))), ?_⟩
  exact s_retD (d := .bool (true && decide (a = b))) (evd_and (evd_isi (evd_var rfl h1) (fun _ q => nomatch q) (fun q => nomatch q) kit_bb) fun _ => evd_op (evd_var rfl (by first | assumption | exact .int _ | exact .bl _ | exact .str _ | exact .non)) (evd_var rfl (by first | assumption | exact .int _ | exact .bl _ | exact .str _ | exact .non)) rd_eqB) fun v H1 e hv => k v H1 e hv
end
end K41
set_option Elab.async false
set_option linter.all false
set_option maxRecDepth 100000
set_option maxHeartbeats 5000000
namespace K41
open PySem PySem.Spec PyProof.Rows L2 Evl
section
variable {P : Program} {w : World} {K : PySem.W.Frag} {mg : Str → Option Value} {base : Heap}
theorem ok_law_is_count (T : Txt K mg) : Cal P w K mg base "_law_is_count" 1 ["_law_thing", "_law_many"] [] (spD K RlawIsCount) := by
  refine T.d_law_is_count.ok sc_law_is_count (fun _ _ _ _ _ _ us hl => match us, hl with | [_, _], _ => rfl) (len_D (by rintro ds d ⟨n, r, rfl, _⟩; rfl)) (fun f cdv A outer s H vs Q E hr h => ?_)
  obtain ⟨ds, d, hd, ⟨i, n, rfl, rfl⟩, k⟩ := h
  obtain ⟨x, y, rfl, h1, h2⟩ := all2 hd
  refine ⟨_, (pss_one (ps_ret (pe_and (pe_callB (call_isiK' (K := K) rfl) (by rfl) T.z_isinstance bt_isinstance (pa_cons (pv 0 (hd := nd_law_thing) (hcd := nc_law_thing)) (pa_cons (pe_bltn (v := .ty "int") (by rfl) T.z_int bt_int rfl nn_int nd_int) pa_nil)) (hn := nn_isinstance) (hdb := nd_isinstance)) (pe_and (pe_not (pe_callB (call_isiK' (K := K) rfl) (by rfl) T.z_isinstance bt_isinstance (pa_cons (pv 0 (hd := nd_law_thing) (hcd := nc_law_thing)) (pa_cons (pe_bltn (v := .ty "bool") (by rfl) T.z_bool bt_bool rfl nn_bool nd_bool) pa_nil)) (hn := nn_isinstance) (hdb := nd_isinstance))) (pe_one (pe_chain op_le op_lt pe_int (pv 0 (hd := nd_law_thing) (hcd := nc_law_thing)) (pv 1 (hd := nd_law_many) (hcd := nc_law_many)))))))), ?_⟩
  exact s_retD (d := .bool (true && (!false && (decide (0 ≤ i) && decide (i < n))))) (evd_and (evd_isi (evd_var rfl h1) (fun _ q => nomatch q) (fun q => nomatch q) kit_ii) fun _ => evd_and (evd_not (evd_isi (evd_var rfl h1) (fun _ q => nomatch q) (fun q => nomatch q) kit_ib)) fun _ => evd_chain evd_int (evd_var rfl (by first | assumption | exact .int _ | exact .bl _ | exact .str _ | exact .non)) rd_le (evd_var rfl (by first | assumption | exact .int _ | exact .bl _ | exact .str _ | exact .non)) fun _ => rd_lt) fun v H1 e hv => k v H1 e hv
end
end K41
set_option Elab.async false
set_option linter.all false
set_option maxRecDepth 100000
set_option maxHeartbeats 5000000
namespace K41
open PySem PySem.Spec PyProof.Rows L2 Evl
section
variable {P : Program} {w : World} {K : PySem.W.Frag} {mg : Str → Option Value} {base : Heap}
theorem ok_law_is_coupling (T : Txt K mg) : Cal P w K mg base "_law_is_coupling" 3 ["_law_many", "_law_thing"] [] (spD K RisCoupling) := by
  refine T.d_law_is_coupling.ok sc_law_is_coupling (fun _ _ _ _ _ _ us hl => match us, hl with | [_, _], _ => rfl) (len_D (by rintro ds d ⟨n, r, rfl, _⟩; rfl)) (fun f cdv A outer s H vs Q E hr h => ?_)
  obtain ⟨ds, d, hd, ⟨n, c, rfl, R, rfl⟩, k⟩ := h
  obtain ⟨x, y, rfl, h1, h2⟩ := all2 hd
  have hl : (encN c).length = 2 ^ n := by rw [encN_len, R.len]
  have hp := two_pow_pos n
  have hp8 := pow_le8 R.n8
  refine ⟨_, (pss_cons (ps_if (PW.pt (pw_or (pt_not (pt_val (pe_callB (call_isiK' (K := K) rfl) (by rfl) T.z_isinstance bt_isinstance (pa_cons (pv 1 (hd := nd_law_thing) (hcd := nc_law_thing)) (pa_cons (pe_bltn (v := .ty "tuple") (by rfl) T.z_tuple bt_tuple rfl nn_tuple nd_tuple) pa_nil)) (hn := nn_isinstance) (hdb := nd_isinstance)))) (pw_or1 (pt_cmpR op_ne (pe_callB (call_lenQ (K := K) rfl) (by rfl) T.z_len bt_len (pa_cons (pv 1 (hd := nd_law_thing) (hcd := nc_law_thing)) pa_nil) (hn := nn_len) (hdb := nd_len)) (pe_cal (ok_law_power T) (hr.mono (by decide)) (by rfl) (pa_cons (pv 0 (hd := nd_law_many) (hcd := nc_law_many)) pa_nil) (hdb := nd_law_power)) (nomark _))))) (pss_one (ps_ret pe_bl))
      pss_nil)
      (pss_cons (ps_if (pt_cmpR op_gt (pe_callB (call_lenQ (K := K) rfl) (by rfl) T.z_len bt_len (pa_cons (pe_lc (own := [("_law_member", 2)]) (g := (gName 2)) (tt := _) rfl sc_law_is_coupling.nd (pi_tupK (K := K) rfl (pv 1 (hd := nd_law_thing) (hcd := nc_law_thing))) (blkOk_by (N := ["_law_many", "_law_thing", "_law_member", "_law_row"]) (sc := defScope st_law_is_coupling) (own := [("_law_member", 2)]) (by decide +kernel)) (fun _ _ _ _ _ => (pg_name (i := 2) sc_law_is_coupling.nd rfl (by first | exact Or.inl rfl | exact Or.inr rfl))) (fun _ _ _ _ _ => (pts_one (pt_not (pt_val (pe_cal (ok_law_is_count T) (hr.mono (by decide)) (by rfl) (pa_cons (pv 2 (hd := nd_law_member) (hcd := nc_law_member)) (pa_cons (pv 0 (hd := nd_law_many) (hcd := nc_law_many)) pa_nil)) (hdb := nd_law_is_count)))))) (fun _ _ _ _ _ => (pv 2 (hd := nd_law_member) (hcd := nc_law_member)))) pa_nil) (hn := nn_len) (hdb := nd_len)) pe_int (nomark _)) (pss_one (ps_ret pe_bl))
      pss_nil)
      (pss_one (ps_ret (pe_cmpR op_eq (pe_callB (call_lenQ (K := K) rfl) (by rfl) T.z_len bt_len (pa_cons (pe_lc (own := [("_law_row", 3)]) (g := (gName 3)) (tt := _) rfl sc_law_is_coupling.nd (pi_range1 (by rfl) T.z_range (pa_cons (pe_callB (call_lenQ (K := K) rfl) (by rfl) T.z_len bt_len (pa_cons (pv 1 (hd := nd_law_thing) (hcd := nc_law_thing)) pa_nil) (hn := nn_len) (hdb := nd_len)) pa_nil)) (blkOk_by (N := ["_law_many", "_law_thing", "_law_member", "_law_row"]) (sc := defScope st_law_is_coupling) (own := [("_law_row", 3)]) (by decide +kernel)) (fun _ _ _ _ _ => (pg_name (i := 3) sc_law_is_coupling.nd rfl (by first | exact Or.inl rfl | exact Or.inr rfl))) (fun _ _ _ _ _ => (pts_one (pt_cmpR op_ne (pe_ix (ix_tupK (K := K) rfl) (pv 1 (hd := nd_law_thing) (hcd := nc_law_thing)) (pe_cal (ok_law_turned T) (hr.mono (by decide)) (by rfl) (pa_cons (pv 0 (hd := nd_law_many) (hcd := nc_law_many)) (pa_cons (pv 3 (hd := nd_law_row) (hcd := nc_law_row)) (pa_cons (pe_ix (ix_tupK (K := K) rfl) (pv 1 (hd := nd_law_thing) (hcd := nc_law_thing)) (pv 3 (hd := nd_law_row) (hcd := nc_law_row)) (fun _ _ => rfl)) pa_nil))) (hdb := nd_law_turned)) (fun _ _ => rfl)) (pe_ix (ix_tupK (K := K) rfl) (pv 1 (hd := nd_law_thing) (hcd := nc_law_thing)) (pv 3 (hd := nd_law_row) (hcd := nc_law_row)) (fun _ _ => rfl)) (nomark _)))) (fun _ _ _ _ _ => (pv 3 (hd := nd_law_row) (hcd := nc_law_row)))) pa_nil) (hn := nn_len) (hdb := nd_len)) pe_int (nomark _)))))), ?_⟩
  refine q_when (b := !true || false) (et_or (et_not (et_DB (evd_isi (evd_var rfl h2) (fun _ q => nomatch q) (fun q => nomatch q) kit_tt))) fun _ => et_D (evd_is (evd_op (evd_cb (evds_cons (evd_var rfl (by first | assumption | exact .int _ | exact .bl _ | exact .str _ | exact .non)) evds_nil) rq_len) (evd_call (evds_cons (evd_var rfl (by first | assumption | exact .int _ | exact .bl _ | exact .str _ | exact .non)) evds_nil) ⟨n, rfl, R.n8, rfl⟩) rd_neI) (congrArg PyData.bool ?_))) (fun q => nomatch q) fun _ H1 e1 => ?_
  · rw [hl, decide_eq_true rfl]
    rfl
  have g1 := dx e1 h1
  have g2 := dx e1 h2
  refine q_when (b := false) (et_D (evd_is (evd_op (evd_cb (evds_cons (evd_of_l (evdl_lc (K := K) (n := 2 ^ n) (item := fun i => (encN c).getD i .none) (Kp := Tx K) ?_ (fun _ _ e => Ex.tx e) (by omega) (fun _ => false) (fun _ => .none) (fun _ _ q => nomatch q) (fun i v Hi Q hi e hv q => ?_))) evds_nil) rq_lenL) evd_int rd_gt) (congrArg PyData.bool ?_))) (fun q => nomatch q) fun _ H2 e2 => ?_
  · have S := src_tup (K := K) (σ := L2.start ["_law_many", "_law_thing", "_law_member", "_law_row"] [x, y]) (tl := tVar 1) (evd_var rfl g2) (encN_noL c)
    rw [hl] at S
    exact S
  · obtain ⟨c1, c2⟩ := R.get hi
    have hv' : Dp K Hi v (.int ((c.getD i 0 : Nat) : Int)) := by rw [← encN_getD c2]; exact hv
    refine q _ rfl (et_is (et_not (et_DB (evd_call (evds_cons (evd_var rfl hv') (evds_cons (evd_var rfl (dx e g1)) evds_nil)) ⟨_, _, rfl, rfl⟩))) ?_) (fun q => nomatch q)
    rw [decide_eq_true (by omega), decide_eq_true (by omega)]
    rfl
  · have e3 : givenD (2 ^ n) (fun _ => false) (fun _ => PyData.none) = [] := by
      unfold givenD
      rw [List.filter_eq_nil_iff.mpr (by simp)]
      rfl
    rw [e3]
    rfl
  have f1 := dx e2 g1
  have f2 := dx e2 g2
  have S := src_rng (K := K) (σ := L2.start ["_law_many", "_law_thing", "_law_member", "_law_row"] [x, y]) (H := H2) (n := ((encN c).length : Int)) (tr := tCons (tCB (rLenQ K) (tCons (tVar 1) tNil)) tNil) (evds_cons (evd_cb (evds_cons (evd_var rfl f2) evds_nil) rq_len) evds_nil) (by omega) (by rw [hl]; omega)
  rw [Int.toNat_natCast, hl] at S
  refine s_retD (d := .bool (isC n c)) (evd_is (evd_op (evd_cb (evds_cons (evd_of_l (evdl_lc S (fun _ _ _ => trivial) (by omega) (fun r => !decide (c.getD (turn n r (c.getD r 0)) 0 = c.getD r 0)) (fun i => .int (i : Int)) (fun _ _ _ => rfl) (fun i v Hi Q hi e hv q => ?_))) evds_nil) rq_lenL) evd_int rd_eqI) (congrArg PyData.bool ?_)) fun v H3 e3 hv => k v H3 ((e1.trans e2).trans e3) hv
  · obtain ⟨c1, c2⟩ := R.get hi
    obtain ⟨t1, t2, t3⟩ := turn_facts R.n8 c1 hi
    obtain ⟨c3, c4⟩ := R.get t1
    have m2 := dx e f2
    have ix : EvD K (tOp (rIxT K) (tVar 1) (tVar 3)) ((wipe (L2.start ["_law_many", "_law_thing", "_law_member", "_law_row"] [x, y]) [3]).set 3 (some v)) Hi (.int ((c.getD i 0 : Nat) : Int)) := evd_op (evd_var rfl m2) (evd_var rfl hv) (rd_ixT (encN_get c2))
    refine q _ rfl (et_is (et_D (evd_op (evd_op (evd_var rfl m2) (evd_call (evds_cons (evd_var rfl (dx e f1)) (evds_cons (evd_var rfl hv) (evds_cons ix evds_nil))) ⟨n, i, c.getD i 0, rfl, c1, R.n8, rfl⟩) (rd_ixT (encN_get c4))) ix rd_neI)) ?_) (fun _ => evd_var rfl hv)
    rw [natEq]
  · have e3 : (givenD (2 ^ n) (fun r => !decide (c.getD (turn n r (c.getD r 0)) 0 = c.getD r 0)) (fun i => PyData.int (i : Int))).length = ((List.range (2 ^ n)).filter fun r => !decide (c.getD (turn n r (c.getD r 0)) 0 = c.getD r 0)).length := by
      unfold givenD
      rw [List.length_map]
    rw [e3]
    unfold isC
    cases hq : (List.range (2 ^ n)).all fun r => decide (c.getD (turn n r (c.getD r 0)) 0 = c.getD r 0) with
    | true =>
      rw [List.all_eq_true] at hq
      rw [List.filter_eq_nil_iff.mpr (fun r hr => by rw [hq r hr]; decide)]
      rfl
    | false =>
      refine decide_eq_false fun q => ?_
      have q0 : ((List.range (2 ^ n)).filter fun r => !decide (c.getD (turn n r (c.getD r 0)) 0 = c.getD r 0)).length = 0 := by omega
      have q1 := List.eq_nil_of_length_eq_zero q0
      rw [List.filter_eq_nil_iff] at q1
      rw [List.all_eq_false] at hq
      obtain ⟨r, hr, hr2⟩ := hq
      refine q1 r hr ?_
      cases hd : decide (c.getD (turn n r (c.getD r 0)) 0 = c.getD r 0) with
      | true => exact absurd hd hr2
      | false => rfl
end
end K41
set_option Elab.async false
set_option linter.all false
set_option maxRecDepth 100000
set_option maxHeartbeats 5000000
namespace K41
open PySem PySem.Spec PyProof.Rows L2 Evl
section
variable {P : Program} {w : World} {K : PySem.W.Frag} {mg : Str → Option Value} {base : Heap}
theorem ok_fits_coupling (T : Txt K mg) : Cal P w K mg base "fits_coupling" 3 ["many", "thing"] [] (spD K RisCoupling) := by
  refine T.d_fits_coupling.ok sc_fits_coupling (fun _ _ _ _ _ _ us hl => match us, hl with | [_, _], _ => rfl) (len_D (by rintro ds d ⟨n, r, rfl, _⟩; rfl)) (fun f cdv A outer s H vs Q E hr h => ?_)
  obtain ⟨ds, d, hd, ⟨n, c, rfl, R, rfl⟩, k⟩ := h
  obtain ⟨x, y, rfl, h1, h2⟩ := all2 hd
  have hl : (encN c).length = 2 ^ n := by rw [encN_len, R.len]
  have hp := two_pow_pos n
  have hp8 := pow_le8 R.n8
  refine ⟨_, (pss_cons (ps_if (PW.pt (pw_or (pt_not (pt_val (pe_cal (ok_is_table T) (hr.mono (by decide)) (by rfl) (pa_cons (pv 1 (hd := nd_thing) (hcd := nc_thing)) (pa_cons (pe_ix (ix_tupK (K := K) rfl) (pe_gTK (K := K) rfl T.c_POWERS (by rfl) nd_POWERS) (pv 0 (hd := nd_many) (hcd := nc_many)) (fun _ _ => rfl)) pa_nil)) (hdb := nd_is_table)))) (pw_or1 (pt_not (pt_val (pe_callB (cr_allK (K := K) rfl rfl) (by rfl) T.z_all bt_all (pa_cons (pe_lc (own := [("member", 2)]) (g := (gName 2)) (tt := tYes) rfl sc_fits_coupling.nd (pi_tupK (K := K) rfl (pv 1 (hd := nd_thing) (hcd := nc_thing))) (blkOk_by (N := ["many", "thing", "member", "row"]) (sc := defScope st_fits_coupling) (own := [("member", 2)]) (by decide +kernel)) (fun _ _ _ _ _ => (pg_name (i := 2) sc_fits_coupling.nd rfl (by first | exact Or.inl rfl | exact Or.inr rfl))) (fun _ _ _ _ _ => pts_nil) (fun _ _ _ _ _ => (pe_cal (ok_is_within T) (hr.mono (by decide)) (by rfl) (pa_cons (pv 2 (hd := nd_member) (hcd := nc_member)) (pa_cons pe_int (pa_cons (pe_op op_sub (pv 0 (hd := nd_many) (hcd := nc_many)) pe_int) pa_nil))) (hdb := nd_is_within)))) pa_nil) (hn := nn_all) (hdb := nd_all))))))) (pss_one (ps_ret pe_bl))
      pss_nil)
      (pss_one (ps_ret (pe_callB (cr_allK (K := K) rfl rfl) (by rfl) T.z_all bt_all (pa_cons (pe_lc (own := [("row", 3), ("member", 2)]) (g := (gTup K 2 (gCons (gName 3) (gCons (gName 2) gNil)))) (tt := tYes) rfl sc_fits_coupling.nd (enK (K := K) rfl (pi_en (by rfl) T.z_enumerate (pa_cons (pv 1 (hd := nd_thing) (hcd := nc_thing)) pa_nil))) (blkOk_by (N := ["many", "thing", "member", "row"]) (sc := defScope st_fits_coupling) (own := [("row", 3), ("member", 2)]) (by decide +kernel)) (fun _ _ _ _ _ => (pg_tupK (K := K) rfl rfl (pgs_cons (pg_name (i := 3) sc_fits_coupling.nd rfl (by first | exact Or.inl rfl | exact Or.inr rfl)) (pgs_cons (pg_name (i := 2) sc_fits_coupling.nd rfl (by first | exact Or.inl rfl | exact Or.inr rfl)) pgs_nil)))) (fun _ _ _ _ _ => pts_nil) (fun _ _ _ _ _ => (pe_cmpR op_eq (pe_ix (ix_tupK (K := K) rfl) (pv 1 (hd := nd_thing) (hcd := nc_thing)) (pe_cal (ok_turned T) (hr.mono (by decide)) (by rfl) (pa_cons (pv 0 (hd := nd_many) (hcd := nc_many)) (pa_cons (pv 3 (hd := nd_row) (hcd := nc_row)) (pa_cons (pv 2 (hd := nd_member) (hcd := nc_member)) pa_nil))) (hdb := nd_turned)) (fun _ _ => rfl)) (pv 2 (hd := nd_member) (hcd := nc_member)) (nomark _)))) pa_nil) (hn := nn_all) (hdb := nd_all))))), ?_⟩
  refine q_when (b := !true || !true) (et_or (et_not (et_DB (evd_is (evd_call (evds_cons (evd_var rfl (by first | assumption | exact .int _ | exact .bl _ | exact .str _ | exact .non)) (evds_cons (ev_pow (k := n) (evd_var rfl (by first | assumption | exact .int _ | exact .bl _ | exact .str _ | exact .non)) rfl R.n8) evds_nil)) ⟨_, _, rfl, rfl⟩) (congrArg PyData.bool ?_)))) fun _ => et_not (et_DB (evd_is (evd_all (n := 2 ^ n) (g := fun _ => true) ?_) (congrArg PyData.bool ?_)))) (fun q => nomatch q) fun _ H1 e1 => ?_
  · rw [hl]
    exact decide_eq_true rfl
  · have S := src_tup (K := K) (σ := L2.start ["many", "thing", "member", "row"] [x, y]) (tl := tVar 1) (evd_var rfl h2) (encN_noL c)
    rw [hl] at S
    refine evdl_lc1 S (fun _ _ e => Ex.tx e) (by omega) _ (fun _ _ => rfl) (fun _ => rfl) (fun i v Hi hi e hv => ?_)
    obtain ⟨g1, g2⟩ := R.get hi
    have hv' : Dp K Hi v (.int ((c.getD i 0 : Nat) : Int)) := by rw [← encN_getD g2]; exact hv
    refine evd_is (evd_call (evds_cons (evd_var rfl hv') (evds_cons evd_int (evds_cons (evd_op (evd_var rfl (dx e h1)) evd_int rd_sub) evds_nil))) ⟨_, _, _, rfl, rfl⟩) (congrArg PyData.bool ?_)
    rw [decide_eq_true (by omega), decide_eq_true (by have := R.n1; omega)]
    rfl
  · rw [List.all_eq_true]
    intro _ _
    rfl
  · have g1 := dx e1 h1
    have g2 := dx e1 h2
    have S := src_enT (K := K) (σ := L2.start ["many", "thing", "member", "row"] [x, y]) (tl := tVar 1) (evd_var rfl g2) (encN_noL c)
    rw [hl] at S
    refine s_retD (d := .bool (isC n c)) (evd_all (n := 2 ^ n) (g := fun r => decide (c.getD (turn n r (c.getD r 0)) 0 = c.getD r 0)) (evdl_lcE S (fun _ _ e => Ex.tx e) (by omega) _ (fun _ _ => rfl) (fun i v Hi Q hi e hv q => ?_))) fun v H2 e2 hv => k v H2 (e1.trans e2) hv
    obtain ⟨c1, c2⟩ := R.get hi
    obtain ⟨t1, t2, t3⟩ := turn_facts R.n8 c1 hi
    obtain ⟨c3, c4⟩ := R.get t1
    have hv2 : Dp K Hi v (.tuple [.int (i : Int), .int ((c.getD i 0 : Nat) : Int)]) := by rw [← encN_getD c2]; exact hv
    refine g_tup2 hv2 fun a b ha hb => q _ rfl ?_
    refine evd_is (evd_op (evd_op (evd_var rfl (dx e g2)) (evd_call (evds_cons (evd_var rfl (dx e g1)) (evds_cons (evd_var rfl ha) (evds_cons (evd_var rfl hb) evds_nil))) ⟨n, i, c.getD i 0, rfl, c1, R.n8, rfl⟩) (rd_ixT (encN_get c4))) (evd_var rfl hb) rd_eqI) (congrArg PyData.bool ?_)
    exact natEq _ _
end
end K41
set_option Elab.async false
set_option linter.all false
set_option maxRecDepth 100000
set_option maxHeartbeats 5000000
namespace K41
open PySem PySem.Spec PyProof.Rows L2 Evl
section
variable {P : Program} {w : World} {K : PySem.W.Frag} {mg : Str → Option Value} {base : Heap}
theorem ok_is_coupling (T : Txt K mg) : Cal P w K mg base "is_coupling" 4 ["many", "thing"] [] (spD K RisCoupling) := by
  refine T.d_is_coupling.ok sc_is_coupling (fun _ _ _ _ _ _ us hl => match us, hl with | [_, _], _ => rfl) (len_D (by rintro ds d ⟨n, r, rfl, _⟩; rfl)) (fun f cdv A outer s H vs Q E hr h => ?_)
  obtain ⟨ds, d, hd, ⟨n, c, rfl, R, rfl⟩, k⟩ := h
  obtain ⟨x, y, rfl, h1, h2⟩ := all2 hd
  refine ⟨_, (pss_cons (ps_expr (pe_cal (ok_check_many T) (hr.mono (by decide)) (by rfl) (pa_cons (pv 0 (hd := nd_many) (hcd := nc_many)) pa_nil) (hdb := nd_check_many)))
      (pss_one (ps_ret (pe_cal (ok_fits_coupling T) (hr.mono (by decide)) (by rfl) (pa_cons (pv 0 (hd := nd_many) (hcd := nc_many)) (pa_cons (pv 1 (hd := nd_thing) (hcd := nc_thing)) pa_nil)) (hdb := nd_fits_coupling))))), ?_⟩
  refine q_dropD (evd_call2 (evds_cons (evd_var rfl (by first | assumption | exact .int _ | exact .bl _ | exact .str _ | exact .non)) evds_nil) ⟨_, _, _, rfl, by have := R.n1; omega, by have := R.n8; omega, rfl⟩) fun H1 e1 => ?_
  exact s_retD (evd_call (evds_cons (evd_var rfl (dx e1 h1)) (evds_cons (evd_var rfl (dx e1 h2)) evds_nil)) ⟨n, c, rfl, R, rfl⟩) fun v H2 e2 hv => k v H2 (e1.trans e2) hv
end
end K41
set_option Elab.async false
set_option linter.all false
set_option maxRecDepth 100000
set_option maxHeartbeats 5000000
namespace K41
open PySem PySem.Spec PyProof.Rows L2 Evl
section
variable {P : Program} {w : World} {K : PySem.W.Frag} {mg : Str → Option Value} {base : Heap}
theorem ok_fault_at (T : Txt K mg) : Cal P w K mg base "fault_at" 3 ["book", "rule", "row"] [] (spFaultAt K mg) := by
  refine T.d_fault_at.ok sc_fault_at (fun _ _ _ _ _ _ us hl => match us, hl with | [_, _, _], _ => rfl) (fun vs H Q E h => by obtain ⟨b, n, c, r, u, rfl, _⟩ := h; rfl) (fun f cdv A outer s H vs Q E hr h => ?_)
  obtain ⟨b, n, c, r, u, rfl, B, R, hr0, hu, q⟩ := h
  refine ⟨_, (pss_cons (ps_set (i := 3) sc_fault_at.nd rfl (by first | exact Or.inl rfl | exact Or.inr rfl) (pe_ix (ix_tupK (K := K) rfl) (pv 1 (hd := nd_rule) (hcd := nc_rule)) (pv 2 (hd := nd_row) (hcd := nc_row)) (fun _ _ => rfl)))
      (pss_cons (ps_asg (pe_ix (ix_tupK (K := K) rfl) (pe_fldK (K := K) rfl (pv 0 (hd := nd_book) (hcd := nc_book)) rfl) (pv 2 (hd := nd_row) (hcd := nc_row)) (fun _ _ => rfl)) (pg_tupK (K := K) rfl rfl (pgs_cons (pg_name (i := 4) sc_fault_at.nd rfl (by first | exact Or.inl rfl | exact Or.inr rfl)) (pgs_cons (pg_name (i := 5) sc_fault_at.nd rfl (by first | exact Or.inl rfl | exact Or.inr rfl)) pgs_nil))))
      (pss_cons (ps_if (pt_not (pt_chain op_le op_le (pv 4 (hd := nd_least) (hcd := nc_least)) (pe_callB (call_lenQ (K := K) rfl) (by rfl) T.z_len bt_len (pa_cons (pv 3 (hd := nd_picked) (hcd := nc_picked)) pa_nil) (hn := nn_len) (hdb := nd_len)) (pv 5 (hd := nd_most) (hcd := nc_most)))) (pss_one (ps_ret (pe_tup (pa_cons pe_str (pa_cons (pv 2 (hd := nd_row) (hcd := nc_row)) pa_nil)))))
      pss_nil)
      (pss_cons (ps_for PassesOwn.never rfl (enK (K := K) rfl (pi_en (by rfl) T.z_enumerate (pa_cons (pe_ix (ix_tupK (K := K) rfl) (pe_fldK (K := K) rfl (pv 0 (hd := nd_book) (hcd := nc_book)) rfl) (pv 2 (hd := nd_row) (hcd := nc_row)) (fun _ _ => rfl)) pa_nil))) (pg_tupK (K := K) rfl rfl (pgs_cons (pg_name (i := 6) sc_fault_at.nd rfl (by first | exact Or.inl rfl | exact Or.inr rfl)) (pgs_cons (pg_name (i := 7) sc_fault_at.nd rfl (by first | exact Or.inl rfl | exact Or.inr rfl)) pgs_nil)))
        (pss_one (ps_if (PW.pt (pw_and (pt_cmpR op_ne (pv 7 (hd := nd_sign) (hcd := nc_sign)) pe_str (nomark _)) (pw_and1 (pt_cmpR op_ne (pe_cmpR op_eq (pv 7 (hd := nd_sign) (hcd := nc_sign)) pe_str (nomark _)) (pe_cmpR (op_inK (K := K) rfl) (pv 6 (hd := nd_member) (hcd := nc_member)) (pv 3 (hd := nd_picked) (hcd := nc_picked)) (by rfl)) (nomark _))))) (pss_one (ps_ret (pe_tup (pa_cons pe_str (pa_cons (pv 2 (hd := nd_row) (hcd := nc_row)) (pa_cons (pv 6 (hd := nd_member) (hcd := nc_member)) pa_nil))))))
        pss_nil)))
      (pss_cons (ps_for PassesOwn.never rfl (enK (K := K) rfl (pi_en (by rfl) T.z_enumerate (pa_cons (pe_fldK (K := K) rfl (pv 0 (hd := nd_book) (hcd := nc_book)) rfl) pa_nil))) (pg_tupK (K := K) rfl rfl (pgs_cons (pg_name (i := 6) sc_fault_at.nd rfl (by first | exact Or.inl rfl | exact Or.inr rfl)) (pgs_cons (pg_name (i := 8) sc_fault_at.nd rfl (by first | exact Or.inl rfl | exact Or.inr rfl)) pgs_nil)))
        (pss_one (ps_if (pt_not (pt_val (pe_cal (ok_has_yes T) (hr.mono (by decide)) (by rfl) (pa_cons (pe_fldK (K := K) rfl (pv 0 (hd := nd_book) (hcd := nc_book)) rfl) (pa_cons (pv 2 (hd := nd_row) (hcd := nc_row)) (pa_cons (pv 6 (hd := nd_member) (hcd := nc_member)) pa_nil))) (hdb := nd_has_yes)))) (pss_cons (ps_set (i := 9) sc_fault_at.nd rfl (by first | exact Or.inl rfl | exact Or.inr rfl) (pe_ix (ix_tupK (K := K) rfl) (pv 1 (hd := nd_rule) (hcd := nc_rule)) (pe_cal (ok_turned T) (hr.mono (by decide)) (by rfl) (pa_cons (pe_fldK (K := K) rfl (pv 0 (hd := nd_book) (hcd := nc_book)) rfl) (pa_cons (pv 2 (hd := nd_row) (hcd := nc_row)) (pa_cons (pv 6 (hd := nd_member) (hcd := nc_member)) pa_nil))) (hdb := nd_turned)) (fun _ _ => rfl)))
          (pss_one (ps_if (pt_not (pt_val (pe_cal (ok_keeps_duty T) (hr.mono (by decide)) (by rfl) (pa_cons (pv 8 (hd := nd_duty) (hcd := nc_duty)) (pa_cons (pe_cmpR (op_inK (K := K) rfl) (pv 6 (hd := nd_member) (hcd := nc_member)) (pv 3 (hd := nd_picked) (hcd := nc_picked)) (by rfl)) (pa_cons (pe_cmpR (op_inK (K := K) rfl) (pv 6 (hd := nd_member) (hcd := nc_member)) (pv 9 (hd := nd_other) (hcd := nc_other)) (by rfl)) pa_nil))) (hdb := nd_keeps_duty)))) (pss_one (ps_ret (pe_tup (pa_cons pe_str (pa_cons (pv 2 (hd := nd_row) (hcd := nc_row)) (pa_cons (pv 6 (hd := nd_member) (hcd := nc_member)) pa_nil))))))
          pss_nil)))
        pss_nil)))
      (pss_one (ps_ret pe_non))))))), ?_⟩
  obtain ⟨g1, g2⟩ := R.get hr0
  have nn1 := R.n1
  have nn8 := R.n8
  have lcn : (cntD n)[r]? = some (.tuple [.int 1, .int 1]) := by unfold cntD; rw [List.getElem?_replicate, if_pos hr0]
  have lmn : (mrkD n)[r]? = some (.str (rep1 46 n)) := by unfold mrkD; rw [List.getElem?_replicate, if_pos hr0]
  refine q_asgD (K := K) (evd_op (evd_var rfl hu) (evd_var rfl (.int (r : Int))) (rd_ixT (ruleD_get g2))) fun v3 H1 e1 h3 => ?_
  have B1 := B.ex' e1
  refine q_tup2 (K := K) (evd_op (ev_bCounts B1 (ev_var rfl)) (evd_var rfl (.int (r : Int))) (rd_ixT lcn)) fun x4 x5 H2 e2 h4 h5 => ?_
  rw [h4.intV, h5.intV]
  have p2 := dx e2 h3
  refine q_when (b := !(true && true)) (et_not (et_D (K := K) (evd_is (evd_chain (evd_var rfl (.int 1)) (evd_cb (evds_cons (evd_var rfl p2) evds_nil) rq_len) rd_le (evd_var rfl (.int 1)) fun _ => rd_le) (by rfl)))) (fun z => nomatch z) fun _ H3 e3 => ?_
  have B3 := B1.ex' (e2.trans e3)
  have p3 := dx e3 p2
  -- marks
  have S := src_enS (K := K) (σ := ((((L2.start ["book", "rule", "row", "picked", "least", "most", "member", "sign", "duty", "other"] [.ref b, u, .int r]).set 3 (some v3)).set 4 (some (.int 1))).set 5 (some (.int 1)))) (H := H3) (tl := tOp (rIxT K) (tFld K (tVar 0) "marks") (tVar 2)) (evd_op (ev_bMarks B3 (ev_var rfl)) (evd_var rfl (.int (r : Int))) (rd_ixT lmn))
  have hl : (signs (rep1 46 n)).length = n := by rw [rep1_signs, List.length_replicate]
  rw [hl] at S
  refine q_for S (fun _ i σ' G => Ex H3 G ∧ ∃ o6 o7, σ' = [some (.ref b), some u, some (.int r), some v3, some (.int 1), some (.int 1), o6, o7, none, none]) (fun G e => ⟨e, none, none, rfl⟩) (fun _ _ _ _ _ _ => trivial) (fun _ i σ' G G' ⟨x1, x2⟩ e => ⟨x1.trans e, x2⟩) (fun _ i σ' G v hi pv hv => ?_) (fun _ σ' G pv => ?_)
  · obtain ⟨x1, o6, o7, rfl⟩ := pv
    have hv' : Dp K G v (.tuple [.int (i : Int), .str ⟨#[46]⟩]) := by
      rw [rep1_signs, List.getD_eq_getElem?_getD, List.getElem?_replicate, if_pos hi] at hv
      exact hv
    refine g_tup2 hv' fun a bb ha hb => ?_
    refine s_when (b := false && false) (et_and (et_D (evd_is (evd_op (evd_var rfl hb) (evd_is evd_str (congrArg PyData.str str_dot)) rd_neS) (congrArg PyData.bool (by rw [decide_eq_true rfl]; rfl)))) (fun z => nomatch z)) (fun z => nomatch z) fun _ G2 e4 => ⟨x1.trans e4, _, _, rfl⟩
  · obtain ⟨x1, o6, o7, rfl⟩ := pv
    have B4 := B3.ex' x1
    have p4 := dx x1 p3
    have u4 := dx (((e1.trans e2).trans e3).trans x1) hu
    have S2 := src_enS (K := K) (σ := [some (.ref b), some u, some (.int r), some v3, some (.int 1), some (.int 1), o6, o7, none, none]) (H := G) (tl := tFld K (tVar 0) "duties") (ev_bDuties B4 (ev_var rfl))
    have hl2 : (signs (rep1 110 n)).length = n := by rw [rep1_signs, List.length_replicate]
    rw [hl2] at S2
    refine q_for S2 (fun _ i σ' G' => Ex G G' ∧ (∀ m, m < i → bad n c r m = false) ∧ ∃ o6 o8 o9, σ' = [some (.ref b), some u, some (.int r), some v3, some (.int 1), some (.int 1), o6, o7, o8, o9]) (fun G e => ⟨e, fun m hm => by omega, _, _, _, rfl⟩) (fun _ _ _ _ _ _ => trivial) (fun _ i σ' G G' ⟨x1, x2⟩ e => ⟨x1.trans e, x2⟩) (fun _ i σ' G1 v hi pv hv => ?_) (fun _ σ' G1 pv => ?_)
    · obtain ⟨y1, y2, o6, o8, o9, rfl⟩ := pv
      have hv' : Dp K G1 v (.tuple [.int (i : Int), .str ⟨#[110]⟩]) := by
        rw [rep1_signs, List.getD_eq_getElem?_getD, List.getElem?_replicate, if_pos hi] at hv
        exact hv
      refine g_tup2 hv' fun a bb ha hb => ?_
      rw [ha.intV]
      have B5 := B4.ex' y1
      have p5 := dx y1 p4
      have u5 := dx y1 u4
      obtain ⟨l1, i1, _⟩ := turn_facts R.n8 hi hr0
      obtain ⟨k1, k2⟩ := R.get l1
      refine s_when (b := !yes n r i) (et_not (et_DB (K := K) (evd_call (evds_cons (ev_bMany B5 (ev_var rfl)) (evds_cons (evd_var rfl (.int (r : Int))) (evds_cons (evd_var rfl (.int (i : Int))) evds_nil))) ⟨n, r, i, rfl, hi, nn8, rfl⟩))) (fun hy G2 e4 => ?_) (fun hy G2 e4 => ?_)
      · have B6 := B5.ex' e4
        have p6 := dx e4 p5
        have u6 := dx e4 u5
        have b6 := dx e4 hb
        refine q_asgD (K := K) (evd_op (evd_var rfl u6) (evd_call (evds_cons (ev_bMany B6 (ev_var rfl)) (evds_cons (evd_var rfl (.int (r : Int))) (evds_cons (evd_var rfl (.int (i : Int))) evds_nil))) ⟨n, r, i, rfl, hi, nn8, rfl⟩) (rd_ixT (ruleD_get k2))) fun v9 G3 e5 h9 => ?_
        have p7 := dx e5 p6
        have b7 := dx e5 b6
        have in1 : EvD K (tOp (rIn K false) (tVar 6) (tVar 3)) [some (.ref b), some u, some (.int r), some v3, some (.int 1), some (.int 1), some (.int (i : Int)), o7, some bb, some v9] G3 (.bool (decide (c.getD r 0 = i))) :=
          evd_is (evd_op (evd_var rfl (.int (i : Int))) (evd_var rfl p7) (rd_inI (ns := [((c.getD r 0 : Nat) : Int)]))) (congrArg PyData.bool (by
            by_cases h : c.getD r 0 = i
            · rw [decide_eq_true h, decide_eq_true (by rw [h]; exact List.mem_singleton.mpr rfl)]
            · rw [decide_eq_false h, decide_eq_false (fun z => h (by have := List.mem_singleton.mp z; omega))]))
        have in2 : EvD K (tOp (rIn K false) (tVar 6) (tVar 9)) [some (.ref b), some u, some (.int r), some v3, some (.int 1), some (.int 1), some (.int (i : Int)), o7, some bb, some v9] G3 (.bool (decide (c.getD (turn n r i) 0 = i))) :=
          evd_is (evd_op (evd_var rfl (.int (i : Int))) (evd_var rfl h9) (rd_inI (ns := [((c.getD (turn n r i) 0 : Nat) : Int)]))) (congrArg PyData.bool (by
            by_cases h : c.getD (turn n r i) 0 = i
            · rw [decide_eq_true h, decide_eq_true (by rw [h]; exact List.mem_singleton.mpr rfl)]
            · rw [decide_eq_false h, decide_eq_false (fun z => h (by have := List.mem_singleton.mp z; omega))]))
        have hbad : bad n c r i = !decide (decide (c.getD r 0 = i) = decide (c.getD (turn n r i) 0 = i)) := by
          unfold bad
          rw [hy, Bool.true_and]
          cases decide (c.getD r 0 = i) <;> cases decide (c.getD (turn n r i) 0 = i) <;> rfl
        have b7' : Dp K G3 bb (.str "n") := by rw [str_n]; exact b7
        refine s_when (b := bad n c r i) (et_is (et_not (et_DB (evd_call (evds_cons (evd_var rfl b7') (evds_cons in1 (evds_cons in2 evds_nil))) ⟨_, _, rfl, rfl⟩))) hbad.symm) (fun hb1 G4 e6 => ?_) (fun hb1 G4 e6 => ?_)
        · refine s_retD (K := K) (evd_tup (evds_cons evd_str (evds_cons (evd_var rfl (.int (r : Int))) (evds_cons (evd_var rfl (.int (i : Int))) evds_nil))) (by simp)) fun v G5 e7 hv => ?_
          have ef : faultD n c r = .tuple [.str "duty", .int (r : Int), .int (i : Int)] := by
            unfold faultD faultAt
            rw [find_range hi hb1 y2]
          refine q v G5 (((((((e1.trans e2).trans e3).trans x1).trans y1).trans e4).trans e5).trans (e6.trans e7)) ?_
          rw [ef]
          exact hv
        · refine ⟨y1.trans ((e4.trans e5).trans e6), fun m hm => ?_, _, _, _, rfl⟩
          by_cases h : m = i
          · rw [h]; exact hb1
          · exact y2 m (by omega)
      · refine ⟨y1.trans e4, fun m hm => ?_, _, _, _, rfl⟩
        by_cases h : m = i
        · rw [h]
          unfold bad
          rw [hy]
          rfl
        · exact y2 m (by omega)
    · obtain ⟨y1, y2, o6, o8, o9, rfl⟩ := pv
      refine s_retD (K := K) evd_non fun v G5 e7 hv => ?_
      have ef : faultD n c r = .none := by
        unfold faultD faultAt
        rw [find_none y2]
      refine q v G5 (((((e1.trans e2).trans e3).trans x1).trans y1).trans e7) ?_
      rw [ef]
      exact hv
end
end K41
set_option Elab.async false
set_option linter.all false
set_option maxRecDepth 100000
set_option maxHeartbeats 5000000
namespace K41
open PySem PySem.Spec PyProof.Rows L2 Evl
section
variable {P : Program} {w : World} {K : PySem.W.Frag} {mg : Str → Option Value} {base : Heap}
theorem ok_fault_of (T : Txt K mg) : Cal P w K mg base "fault_of" 4 ["book", "rule"] [] (spFault K mg faultsD) := by
  refine T.d_fault_of.ok sc_fault_of (fun _ _ _ _ _ _ us hl => match us, hl with | [_, _], _ => rfl) (fun vs H Q E h => by obtain ⟨b, n, c, u, rfl, _⟩ := h; rfl) (fun f cdv A outer s H vs Q E hr h => ?_)
  obtain ⟨b, n, c, u, rfl, B, R, hu, q⟩ := h
  refine ⟨_, (pss_cons (ps_for PassesOwn.never rfl (pi_range1 (by rfl) T.z_range (pa_cons (pe_callB (call_lenQ (K := K) rfl) (by rfl) T.z_len bt_len (pa_cons (pv 1 (hd := nd_rule) (hcd := nc_rule)) pa_nil) (hn := nn_len) (hdb := nd_len)) pa_nil)) (pg_name (i := 2) sc_fault_of.nd rfl (by first | exact Or.inl rfl | exact Or.inr rfl))
        (pss_cons (ps_set (i := 3) sc_fault_of.nd rfl (by first | exact Or.inl rfl | exact Or.inr rfl) (pe_cal (ok_fault_at T) (hr.mono (by decide)) (by rfl) (pa_cons (pv 0 (hd := nd_book) (hcd := nc_book)) (pa_cons (pv 1 (hd := nd_rule) (hcd := nc_rule)) (pa_cons (pv 2 (hd := nd_row) (hcd := nc_row)) pa_nil))) (hdb := nd_fault_at)))
        (pss_one (ps_if (pt_cmpR op_notNK (pv 3 (hd := nd_found) (hcd := nc_found)) pe_non (nomark _)) (pss_one (ps_ret (pv 3 (hd := nd_found) (hcd := nc_found))))
        pss_nil))))
      (pss_one (ps_ret pe_non))), ?_⟩
  have hp2 := two_pow_pos n
  have hp8 := pow_le8 R.n8
  have lr : (ruleD c).length = 2 ^ n := by rw [ruleD_len, R.len]
  have S := src_rng (K := K) (σ := L2.start ["book", "rule", "row", "found"] [.ref b, u]) (H := H) (n := ((ruleD c).length : Int)) (tr := tCons (tCB (rLenQ K) (tCons (tVar 1) tNil)) tNil) (evds_cons (evd_cb (evds_cons (evd_var rfl hu) evds_nil) rq_len) evds_nil) (by omega) (by rw [lr]; omega)
  rw [Int.toNat_natCast, lr] at S
  refine q_for S (fun _ i σ' G => Ex H G ∧ (∀ r, r < i → (faultAt n c r).isSome = false) ∧ ∃ o2 o3, σ' = [some (.ref b), some u, o2, o3]) (fun G e => ⟨e, fun m hm => by omega, _, _, rfl⟩) (fun _ _ _ _ _ _ => trivial) (fun _ i σ' G G' ⟨x1, x2⟩ e => ⟨x1.trans e, x2⟩) (fun _ i σ' G v hi pv hv => ?_) (fun _ σ' G pv => ?_)
  · obtain ⟨x1, x2, o2, o3, rfl⟩ := pv
    rw [hv.intV]
    refine q_asgD (K := K) (ev_faultAt (B.ex' x1) R hi (ev_var rfl) (evd_var rfl (dx x1 hu)) (evd_var rfl (.int (i : Int)))) fun v3 G1 e1 h3 => ?_
    refine s_when (b := (faultAt n c i).isSome) (et_is (et_D (evd_op (evd_var rfl h3) evd_non rq_notN)) (by rw [isNon_faultD, Bool.not_not])) (fun hs G2 e2 => ?_) (fun hs G2 e2 => ?_)
    · refine s_retD (evd_var rfl (dx e2 h3)) fun v G3 e3 hv => q v G3 (((x1.trans e1).trans e2).trans e3) ?_
      unfold faultsD faultR
      rw [find_range hi hs x2]
      exact hv
    · refine ⟨(x1.trans e1).trans e2, fun m hm => ?_, _, _, rfl⟩
      by_cases h : m = i
      · rw [h]; exact hs
      · exact x2 m (by omega)
  · obtain ⟨x1, x2, o2, o3, rfl⟩ := pv
    refine s_retD (K := K) evd_non fun v G3 e3 hv => q v G3 (x1.trans e3) ?_
    unfold faultsD faultR
    rw [find_none x2]
    exact hv
end
end K41
set_option Elab.async false
set_option linter.all false
set_option maxRecDepth 100000
set_option maxHeartbeats 5000000
namespace K41
open PySem PySem.Spec PyProof.Rows L2 Evl
section
variable {P : Program} {w : World} {K : PySem.W.Frag} {mg : Str → Option Value} {base : Heap}
theorem ok_is_lot (T : Txt K mg) : Cal P w K mg base "is_lot" 3 ["thing", "many"] [] (spD K RisLot) := by
  refine T.d_is_lot.ok sc_is_lot (fun _ _ _ _ _ _ us hl => match us, hl with | [_, _], _ => rfl) (len_D (by rintro ds d ⟨n, m, rfl, _⟩; rfl)) (fun f cdv A outer s H vs Q E hr h => ?_)
  obtain ⟨ds, d, hd, ⟨n, m, rfl, hm, rfl⟩, k⟩ := h
  obtain ⟨x, y, rfl, h1, h2⟩ := all2 hd
  refine ⟨_, (pss_cons (ps_if (pt_not (pt_val (pe_callB (call_isiK' (K := K) rfl) (by rfl) T.z_isinstance bt_isinstance (pa_cons (pv 0 (hd := nd_thing) (hcd := nc_thing)) (pa_cons (pe_bltn (v := .ty "tuple") (by rfl) T.z_tuple bt_tuple rfl nn_tuple nd_tuple) pa_nil)) (hn := nn_isinstance) (hdb := nd_isinstance)))) (pss_one (ps_ret pe_bl))
      pss_nil)
      (pss_cons (ps_set (i := 2) sc_is_lot.nd rfl (by first | exact Or.inl rfl | exact Or.inr rfl) (pe_un un_neg pe_int))
      (pss_cons (ps_for PassesOwn.never rfl (pi_tupK (K := K) rfl (pv 0 (hd := nd_thing) (hcd := nc_thing))) (pg_name (i := 3) sc_is_lot.nd rfl (by first | exact Or.inl rfl | exact Or.inr rfl))
        (pss_cons (ps_if (pt_not (pt_val (pe_cal (ok_is_within T) (hr.mono (by decide)) (by rfl) (pa_cons (pv 3 (hd := nd_item) (hcd := nc_item)) (pa_cons (pe_op op_add (pv 2 (hd := nd_last) (hcd := nc_last)) pe_int) (pa_cons (pe_op op_sub (pv 1 (hd := nd_many) (hcd := nc_many)) pe_int) pa_nil))) (hdb := nd_is_within)))) (pss_one (ps_ret pe_bl))
        pss_nil)
        (pss_one (ps_set (i := 2) sc_is_lot.nd rfl (by first | exact Or.inl rfl | exact Or.inr rfl) (pv 3 (hd := nd_item) (hcd := nc_item))))))
      (pss_one (ps_ret pe_bl))))), ?_⟩
  refine q_when (et_not (et_DB (evd_isi (evd_var rfl h1) (fun _ q => nomatch q) (fun q => nomatch q) kit_tt))) (fun q => nomatch q) fun _ H1 e1 => ?_
  refine q_asgD (K := K) (evd_neg evd_int) fun v1 H2 e2 hv1 => ?_
  have e12 := e1.trans e2
  have g1 := dx e12 h1
  refine q_for (src_tup (evd_var rfl g1) (by rfl)) (fun H3 i σ' H' => Ex H H' ∧ Tx K H3 H' ∧ ∃ (u : Int) (it : Option V), σ' = [some x, some y, some (.int u), it] ∧ (i = 0 → u = -1)) (fun H3 e3 => ⟨e12.trans e3, Tx.refl, -1, none, ?_, fun _ => rfl⟩) (fun H3 i σ' H' _ p => p.2.1)
    (fun H3 i σ' Hi Hi' p e => ⟨p.1.trans e, p.2.1.trans (Ex.tx e), p.2.2⟩) (fun H3 i σ' Hi v hi p hv => ?_) (fun H3 σ' H' p => ?_)
  · rw [hv1.intV]
    rfl
  · obtain ⟨p1, p2, u, it, rfl, p3⟩ := p
    have hi0 : i = 0 := by simpa using hi
    subst hi0
    have hu := p3 rfl
    subst hu
    have hv' : Dp K Hi v (.int (m : Int)) := hv
    have g2 := dx p1 h2
    show tSeq _ _ _ _ _
    refine q_when (b := !true) (et_not (et_DB (evd_is (evd_call (evds_cons (evd_var rfl hv') (evds_cons (evd_op (evd_var rfl (by first | assumption | exact .int _ | exact .bl _ | exact .str _ | exact .non)) evd_int rd_add) (evds_cons (evd_op (evd_var rfl g2) evd_int rd_sub) evds_nil))) ⟨_, _, _, rfl, rfl⟩) (congrArg PyData.bool ?_)))) (fun q => nomatch q) fun _ H4 e4 => ?_
    · rw [decide_eq_true (by omega : (-1 : Int) + 1 ≤ (m : Int)), decide_eq_true (by omega : (m : Int) ≤ (n : Int) - 1)]
      rfl
    · refine s_asgD (evd_var rfl (dx e4 hv')) fun v5 H5 e5 hv5 => ?_
      rw [hv5.intV]
      exact ⟨p1.trans (e4.trans e5), p2.trans (Ex.tx (e4.trans e5)), m, some v, rfl, fun q => by omega⟩
  · obtain ⟨p1, p2, u, it, rfl, p3⟩ := p
    exact s_retD evd_bl fun v H5 e5 hv => k v H5 (p1.trans e5) hv
end
end K41
set_option Elab.async false
set_option linter.all false
set_option maxRecDepth 100000
set_option maxHeartbeats 5000000
namespace K41
open PySem PySem.Spec PyProof.Rows L2 Evl
section
variable {P : Program} {w : World} {K : PySem.W.Frag} {mg : Str → Option Value} {base : Heap}
theorem ok_first_fault (T : Txt K mg) : Cal P w K mg base "first_fault" 5 ["book", "thing"] [] (spFault K mg faultsD) := by
  refine T.d_first_fault.ok sc_first_fault (fun _ _ _ _ _ _ us hl => match us, hl with | [_, _], _ => rfl) (fun vs H Q E h => by obtain ⟨b, n, c, u, rfl, _⟩ := h; rfl) (fun f cdv A outer s H vs Q E hr h => ?_)
  obtain ⟨b, n, c, u, rfl, B, R, hu, q⟩ := h
  refine ⟨_, (pss_cons (ps_if (pt_not (pt_val (pe_cal (ok_is_table T) (hr.mono (by decide)) (by rfl) (pa_cons (pv 1 (hd := nd_thing) (hcd := nc_thing)) (pa_cons (pe_ix (ix_tupK (K := K) rfl) (pe_gTK (K := K) rfl T.c_POWERS (by rfl) nd_POWERS) (pe_fldK (K := K) rfl (pv 0 (hd := nd_book) (hcd := nc_book)) rfl) (fun _ _ => rfl)) pa_nil)) (hdb := nd_is_table)))) (pss_one (ps_ret (pe_tup (pa_cons pe_str (pa_cons (pe_un un_neg pe_int) pa_nil)))))
      pss_nil)
      (pss_cons (ps_for PassesOwn.never rfl (enK (K := K) rfl (pi_en (by rfl) T.z_enumerate (pa_cons (pv 1 (hd := nd_thing) (hcd := nc_thing)) pa_nil))) (pg_tupK (K := K) rfl rfl (pgs_cons (pg_name (i := 2) sc_first_fault.nd rfl (by first | exact Or.inl rfl | exact Or.inr rfl)) (pgs_cons (pg_name (i := 3) sc_first_fault.nd rfl (by first | exact Or.inl rfl | exact Or.inr rfl)) pgs_nil)))
        (pss_one (ps_if (pt_not (pt_val (pe_cal (ok_is_lot T) (hr.mono (by decide)) (by rfl) (pa_cons (pv 3 (hd := nd_picked) (hcd := nc_picked)) (pa_cons (pe_fldK (K := K) rfl (pv 0 (hd := nd_book) (hcd := nc_book)) rfl) pa_nil)) (hdb := nd_is_lot)))) (pss_one (ps_ret (pe_tup (pa_cons pe_str (pa_cons (pv 2 (hd := nd_row) (hcd := nc_row)) pa_nil)))))
        pss_nil)))
      (pss_one (ps_ret (pe_cal (ok_fault_of T) (hr.mono (by decide)) (by rfl) (pa_cons (pv 0 (hd := nd_book) (hcd := nc_book)) (pa_cons (pv 1 (hd := nd_thing) (hcd := nc_thing)) pa_nil)) (hdb := nd_fault_of)))))), ?_⟩
  have hp2 := two_pow_pos n
  have hp8 := pow_le8 R.n8
  have lr : (ruleD c).length = 2 ^ n := by rw [ruleD_len, R.len]
  refine q_when (b := !true) (et_not (et_DB (K := K) (evd_is (evd_call (evds_cons (evd_var rfl hu) (evds_cons (ev_pow (k := n) (ev_bMany B (ev_var rfl)) rfl R.n8) evds_nil)) ⟨_, _, rfl, rfl⟩) (congrArg PyData.bool (by rw [lr]; exact decide_eq_true rfl))))) (fun z => nomatch z) fun _ H1 e1 => ?_
  have S := src_enT (K := K) (σ := L2.start ["book", "thing", "row", "picked"] [.ref b, u]) (H := H1) (tl := tVar 1) (evd_var rfl (dx e1 hu)) (ruleD_noL c)
  rw [lr] at S
  refine q_for S (fun H2 i σ' G => Ex H1 H2 ∧ Ex H2 G ∧ ∃ o2 o3, σ' = [some (.ref b), some u, o2, o3]) (fun G e => ⟨e, Ex.refl _, _, _, rfl⟩) (fun _ _ _ _ _ ⟨_, k, _⟩ => Ex.tx k) (fun _ i σ' G G' ⟨x0, x1, x2⟩ e => ⟨x0, x1.trans e, x2⟩) (fun _ i σ' G v hi pv hv => ?_) (fun _ σ' G pv => ?_)
  · obtain ⟨x0, x1, o2, o3, rfl⟩ := pv
    obtain ⟨g1, g2⟩ := R.get hi
    have hv' : Dp K G v (.tuple [.int (i : Int), .tuple [.int ((c.getD i 0 : Nat) : Int)]]) := by
      have e4 : (ruleD c).getD i .none = .tuple [.int ((c.getD i 0 : Nat) : Int)] := by rw [List.getD_eq_getElem?_getD, ruleD_get g2]; rfl
      rw [← e4]
      exact hv
    refine g_tup2 hv' fun a bb ha hb => ?_
    refine s_when (b := !true) (et_not (et_DB (evd_call (evds_cons (evd_var rfl hb) (evds_cons (ev_bMany (B.ex' (e1.trans (x0.trans x1))) (ev_var rfl)) evds_nil)) ⟨n, c.getD i 0, rfl, g1, rfl⟩))) (fun z => nomatch z) fun _ G2 e4 => ⟨x0, x1.trans e4, _, _, rfl⟩
  · obtain ⟨x0, x1, o2, o3, rfl⟩ := pv
    exact s_retD (ev_fault (B.ex' (e1.trans (x0.trans x1))) R (ev_var rfl) (evd_var rfl (dx (e1.trans (x0.trans x1)) hu))) fun v G3 e3 hv => q v G3 ((e1.trans (x0.trans x1)).trans e3) hv
end
end K41
set_option Elab.async false
set_option linter.all false
set_option maxRecDepth 100000
set_option maxHeartbeats 5000000
namespace K41
open PySem PySem.Spec PyProof.Rows L2 Evl
section
variable {P : Program} {w : World} {K : PySem.W.Frag} {mg : Str → Option Value} {base : Heap}
theorem ok_keeps (T : Txt K mg) : Cal P w K mg base "keeps" 6 ["book", "thing"] [] (spFault K mg fun n c => .bool (isC n c)) := by
  refine T.d_keeps.ok sc_keeps (fun _ _ _ _ _ _ us hl => match us, hl with | [_, _], _ => rfl) (fun vs H Q E h => by obtain ⟨b, n, c, u, rfl, _⟩ := h; rfl) (fun f cdv A outer s H vs Q E hr h => ?_)
  obtain ⟨b, n, c, u, rfl, B, R, hu, q⟩ := h
  refine ⟨_, (pss_one (ps_ret (pe_cmpR op_isNK (pe_cal (ok_first_fault T) (hr.mono (by decide)) (by rfl) (pa_cons (pv 0 (hd := nd_book) (hcd := nc_book)) (pa_cons (pv 1 (hd := nd_thing) (hcd := nc_thing)) pa_nil)) (hdb := nd_first_fault)) pe_non (nomark _)))), ?_⟩
  exact s_retD (evd_is (evd_op (ev_fault B R (ev_var rfl) (evd_var rfl hu)) evd_non rq_isN) (congrArg PyData.bool (faults_C R))) fun v G3 e3 hv => q v G3 e3 hv
end
end K41
set_option Elab.async false
set_option linter.all false
set_option maxRecDepth 100000
set_option maxHeartbeats 5000000
namespace K41
open PySem PySem.Spec PyProof.Rows L2 Evl
section
variable {P : Program} {w : World} {K : PySem.W.Frag} {mg : Str → Option Value} {base : Heap}
def RisDuties (ds : List PyData) (d : PyData) : Prop := ∃ n : Nat, ds = [.str (rep1 110 n)] ∧ 1 ≤ n ∧ n ≤ 8 ∧ d = .bool true
theorem ok_is_duties (T : Txt K mg) : Cal P w K mg base "is_duties" 4 ["thing"] [] (spD K RisDuties) := by
  refine T.d_is_duties.ok sc_is_duties (fun _ _ _ _ _ _ us hl => match us, hl with | [_], _ => rfl) (len_D (by rintro ds d ⟨n, rfl, _⟩; rfl)) (fun f cdv A outer s H vs Q E hr h => ?_)
  obtain ⟨ds, d, hd, ⟨n, rfl, n1, n8, rfl⟩, k⟩ := h
  obtain ⟨x, rfl, h1⟩ := all1 hd
  refine ⟨_, (pss_one (ps_ret (pe_and (pe_callB (call_isiK' (K := K) rfl) (by rfl) T.z_isinstance bt_isinstance (pa_cons (pv 0 (hd := nd_thing) (hcd := nc_thing)) (pa_cons (pe_bltn (v := .ty "str") (by rfl) T.z_str bt_str rfl nn_str nd_str) pa_nil)) (hn := nn_isinstance) (hdb := nd_isinstance)) (pe_and (pe_cal (ok_is_many T) (hr.mono (by decide)) (by rfl) (pa_cons (pe_callB (call_lenT (K := K) rfl) (by rfl) T.z_len bt_len (pa_cons (pv 0 (hd := nd_thing) (hcd := nc_thing)) pa_nil) (hn := nn_len) (hdb := nd_len)) pa_nil) (hdb := nd_is_many)) (pe_one (pe_callB (cr_allK (K := K) rfl rfl) (by rfl) T.z_all bt_all (pa_cons (pe_lc (own := [("sign", 1)]) (g := (gName 1)) (tt := tYes) rfl sc_is_duties.nd (pi_strK (pv 0 (hd := nd_thing) (hcd := nc_thing))) (blkOk_by (N := ["thing", "sign"]) (sc := defScope st_is_duties) (own := [("sign", 1)]) (by decide +kernel)) (fun _ _ _ _ _ => (pg_name (i := 1) sc_is_duties.nd rfl (by first | exact Or.inl rfl | exact Or.inr rfl))) (fun _ _ _ _ _ => pts_nil) (fun _ _ _ _ _ => (pe_cmpR (op_inK (K := K) rfl) (pv 1 (hd := nd_sign) (hcd := nc_sign)) (pe_gTK (K := K) rfl T.c_DUTIES (by rfl) nd_DUTIES) (by rfl)))) pa_nil) (hn := nn_all) (hdb := nd_all))))))), ?_⟩
  have S := src_strK (K := K) (σ := L2.start ["thing", "sign"] [x]) (H := H) (ta := tVar 0) (evd_var rfl h1)
  have hl : (signs (rep1 110 n)).length = n := by rw [rep1_signs, List.length_replicate]
  rw [hl] at S
  have lc := evd_all (n := n) (g := fun _ => true) (evdl_lc1 (j := 1) (vs := [1]) (te := tOp (rIn K false) (tVar 1) (tGT K dutV)) S (fun _ _ _ => trivial) (by omega) _ (fun _ _ => rfl) (fun _ => rfl) (fun i v Hi hi e hv => by
    have hv' : Dp K Hi v (.str ⟨#[110]⟩) := by
      rw [rep1_signs, List.getD_eq_getElem?_getD, List.getElem?_replicate, if_pos hi] at hv
      exact hv
    exact evd_op (evd_var rfl hv') (evd_gT dut_dp) (rd_inS in_n)))
  refine s_retD (evd_and (evd_isi (evd_var rfl h1) (fun _ q => nomatch q) (fun q => nomatch q) kit_ss) fun _ => evd_and (evd_call (evds_cons (evd_cb (evds_cons (evd_var rfl h1) evds_nil) (rq_lenS (by rw [rep1_len]; omega))) evds_nil) ⟨_, rfl, rfl⟩) fun _ => lc) fun v H1 e hv => k v H1 e ?_
  have e2 : (true && ((decide ((1 : Int) ≤ ((rep1 110 n).length : Int)) && decide (((rep1 110 n).length : Int) ≤ 8)) && (List.range n).all fun _ => true)) = true := by
    rw [rep1_len, decide_eq_true (by omega), decide_eq_true (by omega), List.all_eq_true.mpr (fun _ _ => rfl)]
    rfl
  rw [e2] at hv
  exact hv
end
end K41
set_option Elab.async false
set_option linter.all false
set_option maxRecDepth 100000
set_option maxHeartbeats 5000000
namespace K41
open PySem PySem.Spec PyProof.Rows L2 Evl
section
variable {P : Program} {w : World} {K : PySem.W.Frag} {mg : Str → Option Value} {base : Heap}
def RisCount (ds : List PyData) (d : PyData) : Prop := ∃ n : Nat, ds = [.int n, .tuple [.int 1, .int 1]] ∧ 1 ≤ n ∧ d = .bool true
theorem ok_is_count (T : Txt K mg) : Cal P w K mg base "is_count" 3 ["many", "thing"] [] (spD K RisCount) := by
  refine T.d_is_count.ok sc_is_count (fun _ _ _ _ _ _ us hl => match us, hl with | [_, _], _ => rfl) (len_D (by rintro ds d ⟨n, rfl, _⟩; rfl)) (fun f cdv A outer s H vs Q E hr h => ?_)
  obtain ⟨ds, d, hd, ⟨n, rfl, n1, rfl⟩, k⟩ := h
  obtain ⟨x, y, rfl, h1, h2⟩ := all2 hd
  refine ⟨_, (pss_one (ps_ret (pe_and (pe_cal (ok_is_pair T) (hr.mono (by decide)) (by rfl) (pa_cons (pv 1 (hd := nd_thing) (hcd := nc_thing)) pa_nil) (hdb := nd_is_pair)) (pe_and (pe_cal (ok_is_within T) (hr.mono (by decide)) (by rfl) (pa_cons (pe_ix (ix_tupK (K := K) rfl) (pv 1 (hd := nd_thing) (hcd := nc_thing)) pe_int (fun _ _ => rfl)) (pa_cons pe_int (pa_cons (pv 0 (hd := nd_many) (hcd := nc_many)) pa_nil))) (hdb := nd_is_within)) (pe_one (pe_cal (ok_is_within T) (hr.mono (by decide)) (by rfl) (pa_cons (pe_ix (ix_tupK (K := K) rfl) (pv 1 (hd := nd_thing) (hcd := nc_thing)) pe_int (fun _ _ => rfl)) (pa_cons (pe_ix (ix_tupK (K := K) rfl) (pv 1 (hd := nd_thing) (hcd := nc_thing)) pe_int (fun _ _ => rfl)) (pa_cons (pv 0 (hd := nd_many) (hcd := nc_many)) pa_nil))) (hdb := nd_is_within))))))), ?_⟩
  have i0 : EvD K (tOp (rIxT K) (tVar 1) (tC (.int 0))) (L2.start ["many", "thing"] [x, y]) H (.int 1) := evd_op (evd_var rfl h2) evd_int (rd_ixT (j := 0) rfl)
  have i1 : EvD K (tOp (rIxT K) (tVar 1) (tC (.int 1))) (L2.start ["many", "thing"] [x, y]) H (.int 1) := evd_op (evd_var rfl h2) evd_int (rd_ixT (j := 1) rfl)
  refine s_retD (evd_and (evd_call (evds_cons (evd_var rfl h2) evds_nil) ⟨_, rfl, rfl⟩) fun _ => evd_and (evd_call (evds_cons i0 (evds_cons evd_int (evds_cons (evd_var rfl h1) evds_nil))) ⟨_, _, _, rfl, rfl⟩) fun _ => evd_call (evds_cons i1 (evds_cons i0 (evds_cons (evd_var rfl h1) evds_nil))) ⟨_, _, _, rfl, rfl⟩) fun v H1 e hv => k v H1 e ?_
  have e2 : (decide ([PyData.int 1, PyData.int 1].length = 2) && ((decide ((0 : Int) ≤ 1) && decide ((1 : Int) ≤ (n : Int))) && (decide ((1 : Int) ≤ 1) && decide ((1 : Int) ≤ (n : Int))))) = true := by
    rw [decide_eq_true (show (1 : Int) ≤ (n : Int) by omega)]
    rfl
  rw [e2] at hv
  exact hv
end
end K41
set_option Elab.async false
set_option linter.all false
set_option maxRecDepth 100000
set_option maxHeartbeats 5000000
namespace K41
open PySem PySem.Spec PyProof.Rows L2 Evl
section
variable {P : Program} {w : World} {K : PySem.W.Frag} {mg : Str → Option Value} {base : Heap}
def RareMarks (ds : List PyData) (d : PyData) : Prop := ∃ n : Nat, ds = [.int n, .str (rep1 46 n)] ∧ n ≤ 8 ∧ d = .bool true
theorem ok_are_marks (T : Txt K mg) : Cal P w K mg base "are_marks" 1 ["many", "thing"] [] (spD K RareMarks) := by
  refine T.d_are_marks.ok sc_are_marks (fun _ _ _ _ _ _ us hl => match us, hl with | [_, _], _ => rfl) (len_D (by rintro ds d ⟨n, rfl, _⟩; rfl)) (fun f cdv A outer s H vs Q E hr h => ?_)
  obtain ⟨ds, d, hd, ⟨n, rfl, n8, rfl⟩, k⟩ := h
  obtain ⟨x, y, rfl, h1, h2⟩ := all2 hd
  refine ⟨_, (pss_one (ps_ret (pe_and (pe_callB (call_isiK' (K := K) rfl) (by rfl) T.z_isinstance bt_isinstance (pa_cons (pv 1 (hd := nd_thing) (hcd := nc_thing)) (pa_cons (pe_bltn (v := .ty "str") (by rfl) T.z_str bt_str rfl nn_str nd_str) pa_nil)) (hn := nn_isinstance) (hdb := nd_isinstance)) (pe_and (pe_cmpR op_eq (pe_callB (call_lenT (K := K) rfl) (by rfl) T.z_len bt_len (pa_cons (pv 1 (hd := nd_thing) (hcd := nc_thing)) pa_nil) (hn := nn_len) (hdb := nd_len)) (pv 0 (hd := nd_many) (hcd := nc_many)) (nomark _)) (pe_one (pe_callB (cr_allK (K := K) rfl rfl) (by rfl) T.z_all bt_all (pa_cons (pe_lc (own := [("sign", 2)]) (g := (gName 2)) (tt := tYes) rfl sc_are_marks.nd (pi_strK (pv 1 (hd := nd_thing) (hcd := nc_thing))) (blkOk_by (N := ["many", "thing", "sign"]) (sc := defScope st_are_marks) (own := [("sign", 2)]) (by decide +kernel)) (fun _ _ _ _ _ => (pg_name (i := 2) sc_are_marks.nd rfl (by first | exact Or.inl rfl | exact Or.inr rfl))) (fun _ _ _ _ _ => pts_nil) (fun _ _ _ _ _ => (pe_cmpR (op_inK (K := K) rfl) (pv 2 (hd := nd_sign) (hcd := nc_sign)) (pe_gTK (K := K) rfl T.c_SIGNS (by rfl) nd_SIGNS) (by rfl)))) pa_nil) (hn := nn_all) (hdb := nd_all))))))), ?_⟩
  have S := src_strK (K := K) (σ := L2.start ["many", "thing", "sign"] [x, y]) (H := H) (ta := tVar 1) (evd_var rfl h2)
  have hl : (signs (rep1 46 n)).length = n := by rw [rep1_signs, List.length_replicate]
  rw [hl] at S
  have lc := evd_all (n := n) (g := fun _ => true) (evdl_lc1 (j := 2) (vs := [2]) (te := tOp (rIn K false) (tVar 2) (tGT K sigV)) S (fun _ _ _ => trivial) (by omega) _ (fun _ _ => rfl) (fun _ => rfl) (fun i v Hi hi e hv => by
    have hv' : Dp K Hi v (.str ⟨#[46]⟩) := by
      rw [rep1_signs, List.getD_eq_getElem?_getD, List.getElem?_replicate, if_pos hi] at hv
      exact hv
    exact evd_op (evd_var rfl hv') (evd_gT sig_dp) (rd_inS in_dot)))
  refine s_retD (evd_and (evd_isi (evd_var rfl h2) (fun _ q => nomatch q) (fun q => nomatch q) kit_ss) fun _ => evd_and (evd_op (evd_cb (evds_cons (evd_var rfl h2) evds_nil) (rq_lenS (by rw [rep1_len]; omega))) (evd_var rfl h1) rd_eqI) fun _ => lc) fun v H1 e hv => k v H1 e ?_
  have e2 : (true && (decide (((rep1 46 n).length : Int) = (n : Int)) && (List.range n).all fun _ => true)) = true := by
    rw [rep1_len, decide_eq_true rfl, List.all_eq_true.mpr (fun _ _ => rfl)]
    rfl
  rw [e2] at hv
  exact hv
end
end K41
set_option Elab.async false
set_option linter.all false
set_option maxRecDepth 100000
set_option maxHeartbeats 5000000
namespace K41
open PySem PySem.Spec PyProof.Rows L2 Evl
section
variable {P : Program} {w : World} {K : PySem.W.Frag} {mg : Str → Option Value} {base : Heap}
def spInit (K : PySem.W.Frag) (C : Addr) : Sp := fun vs H Q _ => ∃ (p dx : Addr) (n : Nat) (vc vm : V), vs = [.ref p, .str (rep1 110 n), vc, vm] ∧ 1 ≤ n ∧ n ≤ 8 ∧ H p = some (.ins C dx []) ∧ Dp K H vc (.tuple (cntD n)) ∧ Dp K H vm (.tuple (mrkD n)) ∧
  ∀ fs H', Bx p H H' → Tx K H H' → H' p = some (.ins C dx fs) → fs.lookup ("duties" : Str) = some (.str (rep1 110 n)) → fs.lookup ("counts" : Str) = some vc → fs.lookup ("marks" : Str) = some vm → fs.lookup ("many" : Str) = some (.int (n : Int)) → Q .non H'
theorem okf_init (T : Txt K mg) {C f : Addr} {fd : FuncData} (B : Bk K mg C) (F : Fun K "__init__" "Book.__init__" st_Book_init f fd) : FnOk P w K mg base CX0 5 f fd ["self", "duties", "counts", "marks"] (spInit K C) := by
  refine F.ok sc_Book_init (fun vs H Q E h => by obtain ⟨p, dx, n, vc, vm, rfl, _⟩ := h; rfl) (fun cdv A outer s H vs Q E hr h => ?_)
  obtain ⟨p, dxa, n, vc, vm, rfl, n1, n8, hp, hc, hm, q⟩ := h
  refine ⟨_, (pss_cons (ps_if (pt_not (pt_val (pe_cal (ok_is_duties T) (hr.mono (by decide)) (by rfl) (pa_cons (pv 1 (hd := nd_duties) (hcd := nc_duties)) pa_nil) (hdb := nd_is_duties)))) (pss_one ps_never)
      pss_nil)
      (pss_cons (ps_set (i := 4) sc_Book_init.nd rfl (by first | exact Or.inl rfl | exact Or.inr rfl) (pe_callB (call_lenT (K := K) rfl) (by rfl) T.z_len bt_len (pa_cons (pv 1 (hd := nd_duties) (hcd := nc_duties)) pa_nil) (hn := nn_len) (hdb := nd_len)))
      (pss_cons (ps_if (PW.pt (pw_or (pt_not (pt_val (pe_cal (ok_is_table T) (hr.mono (by decide)) (by rfl) (pa_cons (pv 2 (hd := nd_counts) (hcd := nc_counts)) (pa_cons (pe_ix (ix_tupK (K := K) rfl) (pe_gTK (K := K) rfl T.c_POWERS (by rfl) nd_POWERS) (pv 4 (hd := nd_many) (hcd := nc_many)) (fun _ _ => rfl)) pa_nil)) (hdb := nd_is_table)))) (pw_or1 (pt_not (pt_val (pe_callB (cr_allK (K := K) rfl rfl) (by rfl) T.z_all bt_all (pa_cons (pe_lc (own := [("count", 5)]) (g := (gName 5)) (tt := tYes) rfl sc_Book_init.nd (pi_tupK (K := K) rfl (pv 2 (hd := nd_counts) (hcd := nc_counts))) (blkOk_by (N := ["self", "duties", "counts", "marks", "many", "count", "signs"]) (sc := defScope st_Book_init) (own := [("count", 5)]) (by decide +kernel)) (fun _ _ _ _ _ => (pg_name (i := 5) sc_Book_init.nd rfl (by first | exact Or.inl rfl | exact Or.inr rfl))) (fun _ _ _ _ _ => pts_nil) (fun _ _ _ _ _ => (pe_cal (ok_is_count T) (hr.mono (by decide)) (by rfl) (pa_cons (pv 4 (hd := nd_many) (hcd := nc_many)) (pa_cons (pv 5 (hd := nd_count) (hcd := nc_count)) pa_nil)) (hdb := nd_is_count)))) pa_nil) (hn := nn_all) (hdb := nd_all))))))) (pss_one ps_never)
      pss_nil)
      (pss_cons (ps_if (PW.pt (pw_or (pt_not (pt_val (pe_cal (ok_is_table T) (hr.mono (by decide)) (by rfl) (pa_cons (pv 3 (hd := nd_marks) (hcd := nc_marks)) (pa_cons (pe_ix (ix_tupK (K := K) rfl) (pe_gTK (K := K) rfl T.c_POWERS (by rfl) nd_POWERS) (pv 4 (hd := nd_many) (hcd := nc_many)) (fun _ _ => rfl)) pa_nil)) (hdb := nd_is_table)))) (pw_or1 (pt_not (pt_val (pe_callB (cr_allK (K := K) rfl rfl) (by rfl) T.z_all bt_all (pa_cons (pe_lc (own := [("signs", 6)]) (g := (gName 6)) (tt := tYes) rfl sc_Book_init.nd (pi_tupK (K := K) rfl (pv 3 (hd := nd_marks) (hcd := nc_marks))) (blkOk_by (N := ["self", "duties", "counts", "marks", "many", "count", "signs"]) (sc := defScope st_Book_init) (own := [("signs", 6)]) (by decide +kernel)) (fun _ _ _ _ _ => (pg_name (i := 6) sc_Book_init.nd rfl (by first | exact Or.inl rfl | exact Or.inr rfl))) (fun _ _ _ _ _ => pts_nil) (fun _ _ _ _ _ => (pe_cal (ok_are_marks T) (hr.mono (by decide)) (by rfl) (pa_cons (pv 4 (hd := nd_many) (hcd := nc_many)) (pa_cons (pv 6 (hd := nd_signs) (hcd := nc_signs)) pa_nil)) (hdb := nd_are_marks)))) pa_nil) (hn := nn_all) (hdb := nd_all))))))) (pss_one ps_never)
      pss_nil)
      (pss_cons (ps_fldK (K := K) rfl (pv 0 (hd := nd_self) (hcd := nc_self)) (pv 1 (hd := nd_duties) (hcd := nc_duties)) rfl)
      (pss_cons (ps_fldK (K := K) rfl (pv 0 (hd := nd_self) (hcd := nc_self)) (pv 2 (hd := nd_counts) (hcd := nc_counts)) rfl)
      (pss_cons (ps_fldK (K := K) rfl (pv 0 (hd := nd_self) (hcd := nc_self)) (pv 3 (hd := nd_marks) (hcd := nc_marks)) rfl)
      (pss_cons (ps_fldK (K := K) rfl (pv 0 (hd := nd_self) (hcd := nc_self)) (pv 4 (hd := nd_many) (hcd := nc_many)) rfl)
      (pss_one (ps_fldK (K := K) rfl (pv 0 (hd := nd_self) (hcd := nc_self)) pe_dnewK rfl)))))))))), ?_⟩
  have hp2 := two_pow_pos n
  have hp8 := pow_le8 n8
  have lcn : (cntD n).length = 2 ^ n := List.length_replicate
  have lmn : (mrkD n).length = 2 ^ n := List.length_replicate
  refine q_when (b := !true) (et_not (et_DB (K := K) (evd_call (evds_cons (evd_var rfl (.str (rep1 110 n))) evds_nil) ⟨n, rfl, n1, n8, rfl⟩))) (fun z => nomatch z) fun _ H1 e1 => ?_
  refine q_asgD (K := K) (evd_is (evd_cb (evds_cons (evd_var rfl (.str (rep1 110 n))) evds_nil) (rq_lenS (by rw [rep1_len]; omega))) (congrArg (fun k : Nat => PyData.int (k : Int)) (rep1_len 110 n))) fun v2 H2 e2 hv2 => ?_
  rw [hv2.intV]
  have c2 := dx (e1.trans e2) hc
  refine q_when (b := !true || !true) (et_or (et_not (et_DB (evd_is (evd_call (evds_cons (evd_var rfl c2) (evds_cons (ev_pow (k := n) (evd_var rfl (.int (n : Int))) rfl n8) evds_nil)) ⟨_, _, rfl, rfl⟩) (congrArg PyData.bool ?_)))) fun _ => et_not (et_DB (evd_is (evd_all (n := 2 ^ n) (g := fun _ => true) ?_) (congrArg PyData.bool (List.all_eq_true.mpr (fun _ _ => rfl)))))) (fun z => nomatch z) fun _ H3 e3 => ?_
  · rw [lcn]
    exact decide_eq_true rfl
  · have S := src_tup (K := K) (σ := (L2.start ["self", "duties", "counts", "marks", "many", "count", "signs"] [.ref p, .str (rep1 110 n), vc, vm]).set 4 (some (.int (n : Int)))) (H := H2) (tl := tVar 2) (evd_var rfl c2) (cntD_noL n)
    rw [lcn] at S
    refine evdl_lc1 S (fun _ _ e => Ex.tx e) (by omega) _ (fun _ _ => rfl) (fun _ => rfl) (fun i v Hi hi e hv => ?_)
    have hv' : Dp K Hi v (.tuple [.int 1, .int 1]) := by
      unfold cntD at hv
      rw [List.getD_eq_getElem?_getD, List.getElem?_replicate, if_pos hi] at hv
      exact hv
    exact evd_call (evds_cons (evd_var rfl (.int (n : Int))) (evds_cons (evd_var rfl hv') evds_nil)) ⟨n, rfl, n1, rfl⟩
  have m3 := dx ((e1.trans e2).trans e3) hm
  refine q_when (b := !true || !true) (et_or (et_not (et_DB (evd_is (evd_call (evds_cons (evd_var rfl m3) (evds_cons (ev_pow (k := n) (evd_var rfl (.int (n : Int))) rfl n8) evds_nil)) ⟨_, _, rfl, rfl⟩) (congrArg PyData.bool ?_)))) fun _ => et_not (et_DB (evd_is (evd_all (n := 2 ^ n) (g := fun _ => true) ?_) (congrArg PyData.bool (List.all_eq_true.mpr (fun _ _ => rfl)))))) (fun z => nomatch z) fun _ H4 e4 => ?_
  · rw [lmn]
    exact decide_eq_true rfl
  · have S := src_tup (K := K) (σ := (L2.start ["self", "duties", "counts", "marks", "many", "count", "signs"] [.ref p, .str (rep1 110 n), vc, vm]).set 4 (some (.int (n : Int)))) (H := H3) (tl := tVar 3) (evd_var rfl m3) (mrkD_noL n)
    rw [lmn] at S
    refine evdl_lc1 S (fun _ _ e => Ex.tx e) (by omega) _ (fun _ _ => rfl) (fun _ => rfl) (fun i v Hi hi e hv => ?_)
    have hv' : Dp K Hi v (.str (rep1 46 n)) := by
      unfold mrkD at hv
      rw [List.getD_eq_getElem?_getD, List.getElem?_replicate, if_pos hi] at hv
      exact hv
    exact evd_call (evds_cons (evd_var rfl (.int (n : Int))) (evds_cons (evd_var rfl hv') evds_nil)) ⟨n, rfl, n8, rfl⟩
  have ee := ((e1.trans e2).trans e3).trans e4
  have p4 := ee _ _ hp
  have txi : ∀ {G : Hp} {o : HO} {fs : List (Str × V)}, G p = some (.ins C dxa fs) → Tx K G (upd G p o) := fun h => Tx.upd (fun _ z => by rw [h] at z; cases z) (fun _ _ z => by rw [h] at z; cases z)
  have lp : ∀ {f : Str} {v : V} {fs : List (Str × V)} {k : Nat}, fs.length ≤ k → (putF f v fs).length ≤ k + 1 := fun {f v fs k} h => Nat.le_trans (length_putF f v fs) (Nat.succ_le_succ h)
  refine ⟨_, rfl, _, rfl, p, C, dxa, [], rfl, p4, B.cl, B.n_duties, (by decide), ?_⟩
  refine ⟨_, rfl, _, rfl, p, C, dxa, _, rfl, upd_same, B.cl, B.n_counts, (Nat.lt_of_le_of_lt (lp (Nat.le_refl 0)) (by decide)), ?_⟩
  refine ⟨_, rfl, _, rfl, p, C, dxa, _, rfl, upd_same, B.cl, B.n_marks, (Nat.lt_of_le_of_lt (lp (lp (Nat.le_refl 0))) (by decide)), ?_⟩
  refine ⟨_, rfl, _, rfl, p, C, dxa, _, rfl, upd_same, B.cl, B.n_many, (Nat.lt_of_le_of_lt (lp (lp (lp (Nat.le_refl 0)))) (by decide)), ?_⟩
  intro y hy
  have npy : p ≠ y := ne_of_none upd_same hy
  refine ⟨_, rfl, p, C, dxa, _, rfl, (by rw [upd_ne npy]; exact upd_same), B.cl, B.n_kept, (Nat.lt_of_le_of_lt (lp (lp (lp (lp (Nat.le_refl 0))))) (by decide)), ?_⟩
  rw [upd_upd, upd_upd, upd_upd] at hy ⊢
  have hy4 : H4 y = none := by
    rw [upd_ne npy.symm] at hy
    exact hy
  have ne : ∀ {a b : Str}, a ≠ b → ¬ a = b := fun h => h
  refine q _ _ (fun a o na ha => ?_) ?_ upd_same ?_ ?_ ?_ ?_
  · rw [upd_ne na, upd_ne (ne_of_none (ee _ _ ha) hy4), upd_ne na]
    exact ee _ _ ha
  · refine ((Ex.tx ee).trans (txi p4)).trans ((Tx.new hy).trans (txi (fs := _) (by rw [upd_ne npy]; exact upd_same)))
  · rw [lookup_putF, if_neg (by decide +kernel), lookup_putF, if_neg (by decide +kernel), lookup_putF, if_neg (by decide +kernel), lookup_putF, if_neg (by decide +kernel), lookup_putF, if_pos rfl]
  · rw [lookup_putF, if_neg (by decide +kernel), lookup_putF, if_neg (by decide +kernel), lookup_putF, if_neg (by decide +kernel), lookup_putF, if_pos rfl]
  · rw [lookup_putF, if_neg (by decide +kernel), lookup_putF, if_neg (by decide +kernel), lookup_putF, if_pos rfl]
  · rw [lookup_putF, if_neg (by decide +kernel), lookup_putF, if_pos rfl]
end
end K41
set_option Elab.async false
set_option linter.all false
set_option maxRecDepth 100000
set_option maxHeartbeats 5000000
namespace K41
open PySem PySem.Spec PyProof.Rows L2 Evl
section
variable {P : Program} {w : World} {K : PySem.W.Frag} {mg : Str → Option Value} {base : Heap}
def spBook (K : PySem.W.Frag) (mg : Str → Option Value) (mk : Nat → List V → Hp → Prop) : Sp := fun vs H Q _ => ∃ n : Nat, 1 ≤ n ∧ n ≤ 8 ∧ mk n vs H ∧ ∀ b H', H b = none → Ex H H' → BookAt K mg H' b n → Q (.ref b) H'
theorem ok_unmarked (T : Txt K mg) : Cal P w K mg base "unmarked" 7 ["duties", "counts"] [] (spBook K mg fun n vs H => ∃ vc, vs = [.str (rep1 110 n), vc] ∧ Dp K H vc (.tuple (cntD n))) := by
  refine T.d_unmarked.ok sc_unmarked (fun _ _ _ _ _ _ us hl => match us, hl with | [_, _], _ => rfl) (fun vs H Q E h => by obtain ⟨n, _, _, ⟨vc, rfl, _⟩, _⟩ := h; rfl) (fun f cdv A outer s H vs Q E hr h => ?_)
  obtain ⟨n, n1, n8, ⟨vc, rfl, hc⟩, q⟩ := h
  obtain ⟨C, B5⟩ := T.bk
  obtain ⟨fI, fdI, F5, M5⟩ := B5.ini
  have b5 : Binds K fdI ["self", "duties", "counts", "marks"] [] := F5.binds (ps := ["self", "duties", "counts", "marks"]) (fun _ _ _ _ _ _ us hl => match us, hl with | [_, _, _, _], _ => rfl)
  refine ⟨_, (pss_one (ps_ret (pe_make M5 (okf_init T B5 F5) (hr.mono (by decide)) (by rfl) B5.gC b5 .nil pass0 (pa_cons (pv 0 (hd := nd_duties) (hcd := nc_duties)) (pa_cons (pv 1 (hd := nd_counts) (hcd := nc_counts)) (pa_cons (pe_op (op_repTK (K := K) rfl) (pe_tup (pa_cons (pe_op op_mulS pe_str (pe_callB (call_lenT (K := K) rfl) (by rfl) T.z_len bt_len (pa_cons (pv 0 (hd := nd_duties) (hcd := nc_duties)) pa_nil) (hn := nn_len) (hdb := nd_len))) pa_nil)) (pe_callB (call_lenQ (K := K) rfl) (by rfl) T.z_len bt_len (pa_cons (pv 1 (hd := nd_counts) (hcd := nc_counts)) pa_nil) (hn := nn_len) (hdb := nd_len))) pa_nil)))))), ?_⟩
  have hp2 := two_pow_pos n
  have hp8 := pow_le8 n8
  have h2n : 2 ≤ 2 ^ n := by
    have : 2 ^ 1 ≤ 2 ^ n := Nat.pow_le_pow_right (by decide) n1
    omega
  have lcn : (cntD n).length = 2 ^ n := List.length_replicate
  refine ⟨_, rfl, _, rfl, ?_⟩
  refine (evd_op (K := K) (x := .tuple [.str (rep1 46 n)]) (y := .int ((2 ^ n : Nat) : Int)) (z := .tuple (mrkD n)) (evd_tup (evds_cons (evd_is (evd_op (evd_is evd_str (congrArg PyData.str str_dot)) (evd_cb (evds_cons (evd_var rfl (.str (rep1 110 n))) evds_nil) (rq_lenS (by rw [rep1_len]; omega))) (rd_mulS (by rw [rep1_len]; omega) (by rw [rep1_len]; omega))) (by rw [rep1_len, Int.toNat_natCast])) evds_nil) (by simp))
    (evd_is (evd_cb (evds_cons (evd_var rfl hc) evds_nil) rq_len) (by rw [lcn])) (rd_repT h2n (by omega))) H (Ex.refl _) _ fun vm H1 e1 hm => ?_
  intro x dx hx hdx hne
  have e2 : Ex H1 (upd (upd H1 dx (.own x)) x (.ins C dx [])) := fun a o ha => by
    rw [upd_ne (ne_of_none ha hx), upd_ne (ne_of_none ha hdx)]
    exact ha
  refine ⟨x, dx, n, vc, vm, rfl, n1, n8, upd_same, L2.dx (e1.trans e2) hc, L2.dx e2 hm, fun fs H' bx tx hx' l1 l2 l3 l4 => ⟨rfl, ?_⟩⟩
  have e3 : Ex H1 H' := Bx.base e2 bx hx
  exact q x H' (fresh_back e1 hx) (e1.trans e3) ⟨n1, n8, C, dx, fs, vc, vm, B5, hx', l1, l2, l3, l4, L2.dx (e1.trans e3) hc, L2.dx e3 hm⟩
end
end K41
set_option Elab.async false
set_option linter.all false
set_option maxRecDepth 100000
set_option maxHeartbeats 5000000
namespace K41
open PySem PySem.Spec PyProof.Rows L2 Evl
section
variable {P : Program} {w : World} {K : PySem.W.Frag} {mg : Str → Option Value} {base : Heap}
theorem ok_plain_book (T : Txt K mg) : Cal P w K mg base "plain_book" 8 ["duties", "picks"] [] (spBook K mg fun n vs H => vs = [.str (rep1 110 n), .int 1]) := by
  refine T.d_plain_book.ok sc_plain_book (fun _ _ _ _ _ _ us hl => match us, hl with | [_, _], _ => rfl) (fun vs H Q E h => by obtain ⟨n, _, _, rfl, _⟩ := h; rfl) (fun f cdv A outer s H vs Q E hr h => ?_)
  obtain ⟨n, n1, n8, rfl, q⟩ := h
  refine ⟨_, (pss_cons (ps_if (pt_not (pt_val (pe_cal (ok_is_duties T) (hr.mono (by decide)) (by rfl) (pa_cons (pv 0 (hd := nd_duties) (hcd := nc_duties)) pa_nil) (hdb := nd_is_duties)))) (pss_one ps_never)
      pss_nil)
      (pss_cons (ps_if (pt_not (pt_val (pe_cal (ok_is_within T) (hr.mono (by decide)) (by rfl) (pa_cons (pv 1 (hd := nd_picks) (hcd := nc_picks)) (pa_cons pe_int (pa_cons (pe_callB (call_lenT (K := K) rfl) (by rfl) T.z_len bt_len (pa_cons (pv 0 (hd := nd_duties) (hcd := nc_duties)) pa_nil) (hn := nn_len) (hdb := nd_len)) pa_nil))) (hdb := nd_is_within)))) (pss_one ps_never)
      pss_nil)
      (pss_one (ps_ret (pe_cal (ok_unmarked T) (hr.mono (by decide)) (by rfl) (pa_cons (pv 0 (hd := nd_duties) (hcd := nc_duties)) (pa_cons (pe_op (op_repTK (K := K) rfl) (pe_tup (pa_cons (pe_tup (pa_cons (pv 1 (hd := nd_picks) (hcd := nc_picks)) (pa_cons (pv 1 (hd := nd_picks) (hcd := nc_picks)) pa_nil))) pa_nil)) (pe_ix (ix_tupK (K := K) rfl) (pe_gTK (K := K) rfl T.c_POWERS (by rfl) nd_POWERS) (pe_callB (call_lenT (K := K) rfl) (by rfl) T.z_len bt_len (pa_cons (pv 0 (hd := nd_duties) (hcd := nc_duties)) pa_nil) (hn := nn_len) (hdb := nd_len)) (fun _ _ => rfl))) pa_nil)) (hdb := nd_unmarked)))))), ?_⟩
  have hp2 := two_pow_pos n
  have hp8 := pow_le8 n8
  have h2n : 2 ≤ 2 ^ n := by
    have : 2 ^ 1 ≤ 2 ^ n := Nat.pow_le_pow_right (by decide) n1
    omega
  have ln : ∀ {G : Hp}, EvD K (tCB (rLenT K) (tCons (tVar 0) tNil)) (L2.start ["duties", "picks"] [.str (rep1 110 n), .int 1]) G (.int (n : Int)) := evd_is (evd_cb (evds_cons (evd_var rfl (.str (rep1 110 n))) evds_nil) (rq_lenS (by rw [rep1_len]; omega))) (congrArg (fun k : Nat => PyData.int (k : Int)) (rep1_len 110 n))
  refine q_when (b := !true) (et_not (et_DB (K := K) (evd_call (evds_cons (evd_var rfl (.str (rep1 110 n))) evds_nil) ⟨n, rfl, n1, n8, rfl⟩))) (fun z => nomatch z) fun _ H1 e1 => ?_
  refine q_when (b := !true) (et_not (et_DB (K := K) (evd_is (evd_call (evds_cons (evd_var rfl (.int 1)) (evds_cons evd_int (evds_cons ln evds_nil))) ⟨_, _, _, rfl, rfl⟩) (congrArg PyData.bool ?_)))) (fun z => nomatch z) fun _ H2 e2 => ?_
  · rw [decide_eq_true (show (1 : Int) ≤ (n : Int) by omega)]
    rfl
  refine ⟨_, rfl, ?_⟩
  refine (evd_op (K := K) (x := .tuple [.tuple [.int 1, .int 1]]) (y := .int ((2 ^ n : Nat) : Int)) (z := .tuple (cntD n)) (evd_tup (evds_cons (evd_tup (evds_cons (evd_var rfl (.int 1)) (evds_cons (evd_var rfl (.int 1)) evds_nil)) (by simp)) evds_nil) (by simp)) (ev_pow (k := n) ln rfl n8) (rd_repT h2n (by omega))) H2 (Ex.refl _) _ fun vc H3 e3 hc => ?_
  exact ⟨n, n1, n8, ⟨vc, rfl, hc⟩, fun b H' hb e hB => q b H' (fresh_back ((e1.trans e2).trans e3) hb) (((e1.trans e2).trans e3).trans e) hB⟩
end
end K41
set_option Elab.async false
set_option linter.all false
set_option maxRecDepth 100000
set_option maxHeartbeats 5000000
namespace K41
open PySem PySem.Spec PyProof.Rows L2 Evl
section
variable {P : Program} {w : World} {K : PySem.W.Frag} {mg : Str → Option Value} {base : Heap}
def spLaw (K : PySem.W.Frag) : Sp := fun vs H Q _ => ∃ (a : Addr) (ns : List Int), vs = [.ref a] ∧ SqL K H a (ns.map V.int) ∧ ns.length ≤ 63 ∧ ∀ H', Q (.bl true) H'
theorem ruleD_range (c : List Nat) : ((List.range c.length).map fun i => PyData.tuple [.int ((c.getD i 0 : Nat) : Int)]) = ruleD c := by
  have hh := congrArg (List.map fun (x : Nat) => PyData.tuple [.int (x : Int)]) (range_getD c 0)
  rw [List.map_map] at hh
  exact hh
theorem encN_at {c : List Nat} {i : Nat} (hi : i < c.length) : (encN c).getD i .none = .int ((c.getD i 0 : Nat) : Int) :=
  encN_getD (by rw [List.getD_eq_getElem?_getD, List.getElem?_eq_getElem hi]; rfl)
theorem rule_ofT {H : Hp} {o0 o1 o2 o3 o4 o5 o7 o8 o9 o10 o11 o12 o13 : Option V} {v : V} {c : List Nat} (hv : Dp K H v (.tuple (encN c))) (hc : c.length ≤ 256) :
    EvD K (tCB (rTupOf K) (tCons (tLc (iTup K (tVar 6)) (gName 5) tYes (tTup (tCons (tVar 5) tNil)) [5]) tNil)) [o0, o1, o2, o3, o4, o5, some v, o7, o8, o9, o10, o11, o12, o13] H (.tuple (ruleD c)) := by
  have S := src_tup (K := K) (σ := [o0, o1, o2, o3, o4, o5, some v, o7, o8, o9, o10, o11, o12, o13]) (H := H) (tl := tVar 6) (evd_var rfl hv) (encN_noL c)
  rw [encN_len] at S
  have lc := evdl_lc1 (vs := [5]) (j := 5) (te := tTup (tCons (tVar 5) tNil)) S (fun _ _ e => Ex.tx e) (by omega) (fun i => .tuple [.int ((c.getD i 0 : Nat) : Int)]) (fun _ _ => rfl) (fun _ => rfl) (fun i x Hi hi e hx => by
    rw [encN_at hi] at hx
    exact evd_tup (evds_cons (evd_var (v := x) rfl hx) evds_nil) (show 1 ≤ 100000 by decide))
  rw [ruleD_range] at lc
  exact evd_cb (evds_cons (evd_of_l lc) evds_nil) rq_tup
theorem rule_ofL {H : Hp} {o0 o1 o2 o3 o4 o5 o6 o7 o8 o10 o11 o12 o13 : Option V} {v : V} {c : List Nat} (hv : Dp K H v (.list (encN c))) (hc : c.length ≤ 256) :
    EvD K (tCB (rTupOf K) (tCons (tLc (iList K (tVar 9)) (gName 13) tYes (tTup (tCons (tVar 13) tNil)) [13]) tNil)) [o0, o1, o2, o3, o4, o5, o6, o7, o8, some v, o10, o11, o12, o13] H (.tuple (ruleD c)) := by
  have S := src_lst (K := K) (σ := [o0, o1, o2, o3, o4, o5, o6, o7, o8, some v, o10, o11, o12, o13]) (H := H) (tl := tVar 9) (evd_var rfl hv)
  rw [encN_len] at S
  have lc := evdl_lc1 (vs := [13]) (j := 13) (te := tTup (tCons (tVar 13) tNil)) S (fun _ _ e => Ex.kx e) (by omega) (fun i => .tuple [.int ((c.getD i 0 : Nat) : Int)]) (fun _ _ => rfl) (fun _ => rfl) (fun i x Hi hi e hx => by
    rw [encN_at hi] at hx
    exact evd_tup (evds_cons (evd_var (v := x) rfl hx) evds_nil) (show 1 ≤ 100000 by decide))
  rw [ruleD_range] at lc
  exact evd_cb (evds_cons (evd_of_l lc) evds_nil) rq_tup
theorem rd_neSame {H : Hp} {ds : List PyData} (hs : SeqAt.shaped (.list ds) = true) (he : PyData.eqv (.list ds) (.list ds) = true) : RD K (rNeD K) (.list ds) (.list ds) H (.bool false) := fun vx vy H1 e dx' dy Q q => ⟨_, _, dx', dy, hs, hs, by
  rw [he]
  exact q _ H1 (Ex.refl _) (.bl _)⟩
def factE (n : Nat) : Bool := SeqAt.shaped (.list (rulesD n)) && PyData.eqv (.list (rulesD n)) (.list (rulesD n))
theorem factE_ok {n : Nat} (n1 : 1 ≤ n) (n3 : n ≤ 3) : factE n = true := by
  have : n = 1 ∨ n = 2 ∨ n = 3 := by omega
  rcases this with e | e | e <;> (subst e; decide +kernel)
/-- what stays through the law -/
structure LI (K : PySem.W.Frag) (mg : Str → Option Value) (H : Hp) (p dc : Addr) (ds : List Int) (b : Addr) (n : Nat) : Prop where
  B : BookAt K mg H b n
  D : DiceAt K H p dc ds
section
variable {H H' H0 : Hp} {p dc b l : Addr} {ds : List Int} {n : Nat}
theorem LI.ex (h : LI K mg H p dc ds b n) (e : Ex H H') : LI K mg H' p dc ds b n := ⟨h.B.ex' e, h.D.ex e⟩
theorem LI.dr (h : LI K mg H p dc ds b n) (e : Bx p H H') (t : Tx K H H') (d : DiceAt K H' p dc ds) : LI K mg H' p dc ds b n := by
  obtain ⟨xs, hx⟩ := h.D.lst
  exact ⟨h.B.bx hx e t, d⟩
theorem LI.put {xs ys : List V} (h : LI K mg H p dc ds b n) (h0 : LI K mg H0 p dc ds b n) (hl : H0 l = none) (hx : H l = some (.lst xs)) : LI K mg (upd H l (.lst ys)) p dc ds b n :=
  ⟨h.B.bx hx Bx.upd (Tx.updL hx), h0.D.keep hl h.D⟩
theorem LI.np (h : LI K mg H p dc ds b n) (hl : H l = none) : l ≠ p := by
  obtain ⟨xs, hx⟩ := h.D.lst
  exact (ne_of_none hx hl).symm
end
theorem mulS_n {H : Hp} {σ : L2.St} {n : Nat} (h : σ[2]? = some (some (.int (n : Int)))) (n1 : 1 ≤ n) (n8 : n ≤ 8) : EvD K (tOp rMulS (tC (.str "n")) (tVar 2)) σ H (.str (rep1 110 n)) :=
  evd_is (evd_op (x := .str ⟨#[110]⟩) (evd_is evd_str (congrArg PyData.str str_n)) (evd_var h (.int _)) (rd_mulS (n := (n : Int)) (by omega) (by omega))) (congrArg (fun k => PyData.str (rep1 110 k)) (Int.toNat_natCast n))
theorem g_is {i : Nat} {v w : V} {σ : L2.St} {H : Hp} {Q : L2.St → Hp → Prop} (e : v = w) (h : Q (σ.set i (some w)) H) : gName i v σ H Q := by
  rw [e]
  exact h
theorem okf_law (T : Txt K mg) {f : Addr} {fd : FuncData} (F : Fun K "law" "law" st_law f fd) : FnOk P w K mg base CX0 13 f fd ["_law_script"] (spLaw K) := by
  refine F.ok sc_law (fun vs H Q E h => by obtain ⟨a, ns, rfl, _⟩ := h; rfl) (fun cdv A outer s H vs Q E hr h => ?_)
  obtain ⟨a, ns, rfl, hs, hn, q⟩ := h
  refine ⟨_, (pss_cons (ps_set (i := 1) sc_law.nd rfl (by first | exact Or.inl rfl | exact Or.inr rfl) (pe_cal (ok_law_dice T) (hr.mono (by decide)) (by rfl) (pa_cons (pv 0 (hd := nd_law_script) (hcd := nc_law_script)) pa_nil) (hdb := nd_law_dice)))
      (pss_cons (ps_set (i := 2) sc_law.nd rfl (by first | exact Or.inl rfl | exact Or.inr rfl) (pe_op op_add pe_int (pe_cal (ok_law_draw T) (hr.mono (by decide)) (by rfl) (pa_cons (pv 1 (hd := nd_law_dice_here) (hcd := nc_law_dice_here)) (pa_cons (pe_ix (ix_listK (K := K) rfl) (pe_lst (pa_cons pe_int (pa_cons pe_int (pa_cons pe_int pa_nil)))) (pe_cal (ok_law_draw T) (hr.mono (by decide)) (by rfl) (pa_cons (pv 1 (hd := nd_law_dice_here) (hcd := nc_law_dice_here)) (pa_cons pe_int pa_nil)) (hdb := nd_law_draw)) (fun _ _ => rfl)) pa_nil)) (hdb := nd_law_draw))))
      (pss_cons (ps_set (i := 3) sc_law.nd rfl (by first | exact Or.inl rfl | exact Or.inr rfl) (pe_cal (ok_plain_book T) (hr.mono (by decide)) (by rfl) (pa_cons (pe_op op_mulS pe_str (pv 2 (hd := nd_law_many) (hcd := nc_law_many))) (pa_cons pe_int pa_nil)) (hdb := nd_plain_book)))
      (pss_cut (ps_if (pt_cmpR op_lt (pv 2 (hd := nd_law_many) (hcd := nc_law_many)) pe_int (nomark _)) (pss_cons (ps_setLc (i := 4) (own := [("_law_coupling_here", 6)]) (g := (gName 6)) (tt := tYes) rfl sc_law.nd rfl rfl (sw_true rfl rfl rfl (by decide +kernel)) (pi_listK (K := K) rfl (pe_cal (ok_couplings T) (hr.mono (by decide)) (by rfl) (pa_cons (pv 2 (hd := nd_law_many) (hcd := nc_law_many)) pa_nil) (hdb := nd_couplings))) (blkOk_by (N := ["_law_script", "_law_dice_here", "_law_many", "_law_book", "_law_due", "_law_member", "_law_coupling_here", "_law_rule", "_law_turn", "_law_made", "_law_row", "_law_good", "_law_other", "_law_picked"]) (sc := defScope st_law) (own := [("_law_coupling_here", 6)]) (by decide +kernel)) (fun _ _ _ _ _ => (pg_name (i := 6) sc_law.nd rfl (by first | exact Or.inl rfl | exact Or.inr rfl))) (fun _ _ _ _ _ => pts_nil) (fun _ _ _ _ _ => (pe_callTy (call_tupK (K := K) rfl) (by rfl) T.z_tuple bt_tuple (pa_cons (pe_lc (own := [("_law_member", 5)]) (g := (gName 5)) (tt := tYes) rfl sc_law.nd (pi_tupK (K := K) rfl (pv 6 (hd := nd_law_coupling_here) (hcd := nc_law_coupling_here))) (blkOk_by (N := ["_law_script", "_law_dice_here", "_law_many", "_law_book", "_law_due", "_law_member", "_law_coupling_here", "_law_rule", "_law_turn", "_law_made", "_law_row", "_law_good", "_law_other", "_law_picked"]) (sc := _) (own := [("_law_member", 5)]) (by kernel_rfl)) (fun _ _ _ _ _ => (pg_name (i := 5) sc_law.nd rfl (by first | exact Or.inl rfl | exact Or.inr rfl))) (fun _ _ _ _ _ => pts_nil) (fun _ _ _ _ _ => (pe_tup (pa_cons (pv 5 (hd := nd_law_member) (hcd := nc_law_member)) pa_nil)))) pa_nil) (hn := nn_tuple) (hdb := nd_tuple))))
        (pss_one (ps_if (pt_cmpR (op_neDK (K := K) rfl hr.units) (pe_cal (ok_all_rules T) (hr.mono (by decide)) (by rfl) (pa_cons (pv 3 (hd := nd_law_book) (hcd := nc_law_book)) pa_nil) (hdb := nd_all_rules)) (pe_callB (cr_sortedK (K := K) rfl hr.units) (by rfl) T.z_sorted bt_sorted (pa_cons (pv 4 (hd := nd_law_due) (hcd := nc_law_due)) pa_nil) (hn := nn_sorted) (hdb := nd_sorted)) (nomark _)) (pss_one (ps_ret pe_bl))
        pss_nil)))
      pss_nil)
      (pss_cons (ps_set (i := 6) sc_law.nd rfl (by first | exact Or.inl rfl | exact Or.inr rfl) (pe_cal (ok_law_coupling T 8) (hr.mono (by decide)) (by rfl) (pa_cons (pv 1 (hd := nd_law_dice_here) (hcd := nc_law_dice_here)) (pa_cons (pv 2 (hd := nd_law_many) (hcd := nc_law_many)) pa_nil)) (hdb := nd_law_coupling)))
      (pss_cons (ps_set (i := 7) sc_law.nd rfl (by first | exact Or.inl rfl | exact Or.inr rfl) (pe_callTy (call_tupK (K := K) rfl) (by rfl) T.z_tuple bt_tuple (pa_cons (pe_lc (own := [("_law_member", 5)]) (g := (gName 5)) (tt := tYes) rfl sc_law.nd (pi_tupK (K := K) rfl (pv 6 (hd := nd_law_coupling_here) (hcd := nc_law_coupling_here))) (blkOk_by (N := ["_law_script", "_law_dice_here", "_law_many", "_law_book", "_law_due", "_law_member", "_law_coupling_here", "_law_rule", "_law_turn", "_law_made", "_law_row", "_law_good", "_law_other", "_law_picked"]) (sc := defScope st_law) (own := [("_law_member", 5)]) (by decide +kernel)) (fun _ _ _ _ _ => (pg_name (i := 5) sc_law.nd rfl (by first | exact Or.inl rfl | exact Or.inr rfl))) (fun _ _ _ _ _ => pts_nil) (fun _ _ _ _ _ => (pe_tup (pa_cons (pv 5 (hd := nd_law_member) (hcd := nc_law_member)) pa_nil)))) pa_nil) (hn := nn_tuple) (hdb := nd_tuple)))
      (pss_cons (ps_if (PW.pt (pw_or (pt_cmpR op_notNK (pe_cal (ok_first_fault T) (hr.mono (by decide)) (by rfl) (pa_cons (pv 3 (hd := nd_law_book) (hcd := nc_law_book)) (pa_cons (pv 7 (hd := nd_law_rule) (hcd := nc_law_rule)) pa_nil)) (hdb := nd_first_fault)) pe_non (nomark _)) (pw_or1 (pt_not (pt_val (pe_cal (ok_law_flag T) (hr.mono (by decide)) (by rfl) (pa_cons (pe_cal (ok_keeps T) (hr.mono (by decide)) (by rfl) (pa_cons (pv 3 (hd := nd_law_book) (hcd := nc_law_book)) (pa_cons (pv 7 (hd := nd_law_rule) (hcd := nc_law_rule)) pa_nil)) (hdb := nd_keeps)) (pa_cons pe_bl pa_nil)) (hdb := nd_law_flag))))))) (pss_one (ps_ret pe_bl))
      pss_nil)
      (pss_cons (ps_for PassesOwn.never rfl (pi_range1 (by rfl) T.z_range (pa_cons pe_int pa_nil)) (pg_name (i := 8) sc_law.nd rfl (by first | exact Or.inl rfl | exact Or.inr rfl))
        (pss_cons (ps_set (i := 9) sc_law.nd rfl (by first | exact Or.inl rfl | exact Or.inr rfl) (pe_callTy (call_lstK (K := K) rfl) (by rfl) T.z_list bt_list (pa_cons (pv 6 (hd := nd_law_coupling_here) (hcd := nc_law_coupling_here)) pa_nil) (hn := nn_list) (hdb := nd_list)))
        (pss_cons (ps_set (i := 10) sc_law.nd rfl (by first | exact Or.inl rfl | exact Or.inr rfl) (pe_cal (ok_law_draw T) (hr.mono (by decide)) (by rfl) (pa_cons (pv 1 (hd := nd_law_dice_here) (hcd := nc_law_dice_here)) (pa_cons (pe_callB (call_lenQ (K := K) rfl) (by rfl) T.z_len bt_len (pa_cons (pv 9 (hd := nd_law_made) (hcd := nc_law_made)) pa_nil) (hn := nn_len) (hdb := nd_len)) pa_nil)) (hdb := nd_law_draw)))
        (pss_cons (ps_set (i := 5) sc_law.nd rfl (by first | exact Or.inl rfl | exact Or.inr rfl) (pe_cal (ok_law_draw T) (hr.mono (by decide)) (by rfl) (pa_cons (pv 1 (hd := nd_law_dice_here) (hcd := nc_law_dice_here)) (pa_cons (pv 2 (hd := nd_law_many) (hcd := nc_law_many)) pa_nil)) (hdb := nd_law_draw)))
        (pss_cons (ps_asg (pv 5 (hd := nd_law_member) (hcd := nc_law_member)) (pg_sub (pv 9 (hd := nd_law_made) (hcd := nc_law_made)) (pv 10 (hd := nd_law_row) (hcd := nc_law_row)) set_list))
        (pss_cut (ps_if (pt_cmpR op_eq (pe_cal (ok_law_draw T) (hr.mono (by decide)) (by rfl) (pa_cons (pv 1 (hd := nd_law_dice_here) (hcd := nc_law_dice_here)) (pa_cons pe_int pa_nil)) (hdb := nd_law_draw)) pe_int (nomark _)) (pss_one (ps_asg (pv 5 (hd := nd_law_member) (hcd := nc_law_member)) (pg_sub (pv 9 (hd := nd_law_made) (hcd := nc_law_made)) (pe_cal (ok_law_turned T) (hr.mono (by decide)) (by rfl) (pa_cons (pv 2 (hd := nd_law_many) (hcd := nc_law_many)) (pa_cons (pv 10 (hd := nd_law_row) (hcd := nc_law_row)) (pa_cons (pv 5 (hd := nd_law_member) (hcd := nc_law_member)) pa_nil))) (hdb := nd_law_turned)) set_list)))
        pss_nil)
        (pss_cons (ps_set (i := 11) sc_law.nd rfl (by first | exact Or.inl rfl | exact Or.inr rfl) (pe_cal (ok_law_is_coupling T) (hr.mono (by decide)) (by rfl) (pa_cons (pv 2 (hd := nd_law_many) (hcd := nc_law_many)) (pa_cons (pe_callTy (call_tupK (K := K) rfl) (by rfl) T.z_tuple bt_tuple (pa_cons (pv 9 (hd := nd_law_made) (hcd := nc_law_made)) pa_nil) (hn := nn_tuple) (hdb := nd_tuple)) pa_nil)) (hdb := nd_law_is_coupling)))
        (pss_cons (ps_set (i := 12) sc_law.nd rfl (by first | exact Or.inl rfl | exact Or.inr rfl) (pe_callTy (call_tupK (K := K) rfl) (by rfl) T.z_tuple bt_tuple (pa_cons (pe_lc (own := [("_law_picked", 13)]) (g := (gName 13)) (tt := tYes) rfl sc_law.nd (pi_listK (K := K) rfl (pv 9 (hd := nd_law_made) (hcd := nc_law_made))) (blkOk_by (N := ["_law_script", "_law_dice_here", "_law_many", "_law_book", "_law_due", "_law_member", "_law_coupling_here", "_law_rule", "_law_turn", "_law_made", "_law_row", "_law_good", "_law_other", "_law_picked"]) (sc := defScope st_law) (own := [("_law_picked", 13)]) (by decide +kernel)) (fun _ _ _ _ _ => (pg_name (i := 13) sc_law.nd rfl (by first | exact Or.inl rfl | exact Or.inr rfl))) (fun _ _ _ _ _ => pts_nil) (fun _ _ _ _ _ => (pe_tup (pa_cons (pv 13 (hd := nd_law_picked) (hcd := nc_law_picked)) pa_nil)))) pa_nil) (hn := nn_tuple) (hdb := nd_tuple)))
        (pss_cons (ps_if (PW.pt (pw_or (pt_not (pt_val (pe_cal (ok_law_flag T) (hr.mono (by decide)) (by rfl) (pa_cons (pe_cal (ok_keeps T) (hr.mono (by decide)) (by rfl) (pa_cons (pv 3 (hd := nd_law_book) (hcd := nc_law_book)) (pa_cons (pv 12 (hd := nd_law_other) (hcd := nc_law_other)) pa_nil)) (hdb := nd_keeps)) (pa_cons (pv 11 (hd := nd_law_good) (hcd := nc_law_good)) pa_nil)) (hdb := nd_law_flag)))) (pw_or1 (pt_not (pt_val (pe_cal (ok_law_flag T) (hr.mono (by decide)) (by rfl) (pa_cons (pe_cal (ok_is_coupling T) (hr.mono (by decide)) (by rfl) (pa_cons (pv 2 (hd := nd_law_many) (hcd := nc_law_many)) (pa_cons (pe_callTy (call_tupK (K := K) rfl) (by rfl) T.z_tuple bt_tuple (pa_cons (pv 9 (hd := nd_law_made) (hcd := nc_law_made)) pa_nil) (hn := nn_tuple) (hdb := nd_tuple)) pa_nil)) (hdb := nd_is_coupling)) (pa_cons (pv 11 (hd := nd_law_good) (hcd := nc_law_good)) pa_nil)) (hdb := nd_law_flag))))))) (pss_one (ps_ret pe_bl))
        pss_nil)
        (pss_one (ps_if (PW.pt (pw_and (pt_not (pt_val (pv 11 (hd := nd_law_good) (hcd := nc_law_good)))) (pw_and1 (pt_cmpR op_ne (pe_ix (ix_tupK (K := K) rfl) (pe_cal (ok_first_fault T) (hr.mono (by decide)) (by rfl) (pa_cons (pv 3 (hd := nd_law_book) (hcd := nc_law_book)) (pa_cons (pv 12 (hd := nd_law_other) (hcd := nc_law_other)) pa_nil)) (hdb := nd_first_fault)) pe_int (fun _ _ => rfl)) pe_str (nomark _))))) (pss_one (ps_ret pe_bl))
        pss_nil)))))))))))
      (pss_one (ps_ret pe_bl)))))))))), ?_⟩
  -- dice
  refine ⟨_, rfl, a, ns, rfl, hs, hn, fun p dc ds H1 hp e1 D1 => ?_⟩
  -- many
  refine ⟨_, rfl, ?_⟩
  refine ⟨by show 3 ≤ sizeLine; decide, fun l3 hl3 => ?_⟩
  have f3 := D1.ex (Ex.new (o := .lst [.int 3, .int 5, .int 8]) hl3)
  refine draw_run (K := K) (ev_var rfl) evd_int (by decide) (by decide) f3 fun r3 H2 hr3 b2 t2 D2 => ?_
  have nl3 : l3 ≠ p := by
    obtain ⟨xs, hx⟩ := D1.lst
    exact (ne_of_none hx hl3).symm
  have g3 := b2 _ _ nl3 upd_same
  obtain ⟨k, hk, k1, k2⟩ : ∃ k : Int, atI [V.int 3, .int 5, .int 8] (r3 : Int) = some (.int k) ∧ 1 ≤ k ∧ k ≤ 8 := by
    have : r3 = 0 ∨ r3 = 1 ∨ r3 = 2 := by omega
    rcases this with e | e | e
    · exact ⟨3, by subst e; rfl, by decide, by decide⟩
    · exact ⟨5, by subst e; rfl, by decide, by decide⟩
    · exact ⟨8, by subst e; rfl, by decide, by decide⟩
  refine ⟨l3, _, _, _, rfl, rfl, SqL.of g3, hk, ?_⟩
  refine ⟨p, dc, ds, k, rfl, k1, by omega, D2, fun r4 H3 hr4 b3 t3 D3 => ?_⟩
  refine ⟨1, (r4 : Int), rfl, rfl, ?_⟩
  obtain ⟨n, en, n1, n8⟩ : ∃ n : Nat, (1 : Int) + (r4 : Int) = (n : Int) ∧ 1 ≤ n ∧ n ≤ 8 := ⟨1 + r4, by omega, by omega, by omega⟩
  refine g_is (w := .int (n : Int)) (congrArg V.int en) ?_
  dsimp only
  have hp2 := two_pow_pos n
  have hp8 := pow_le8 n8
  -- book
  refine q_asgR ?_
  refine (evds_cons (K := K) (mulS_n rfl n1 n8) (evds_cons (evd_int (i := 1)) evds_nil)) H3 (Ex.refl _) _ fun us H4 e4 hu => ?_
  obtain ⟨x4, y4, rfl, hx4, hy4⟩ := all2 hu
  rw [hx4.strV, hy4.intV]
  refine ⟨n, n1, n8, rfl, fun b H5 hb e5 B5 => ?_⟩
  have L5 : LI K mg H5 p dc ds b n := ⟨B5, (D3.ex e4).ex e5⟩
  clear hu hx4 hy4 x4 y4 e5 e4 hb B5
  -- few members
  refine ⟨fun σ' G => LI K mg G p dc ds b n ∧ ∃ o4, σ' = [some (.ref a), some (.ref p), some (.int (n : Int)), some (.ref b), o4, none, none, none, none, none, none, none, none, none], ?_, ?_⟩
  · refine s_when (b := decide ((n : Int) < 4)) (et_D (K := K) (evd_op (evd_var rfl (.int (n : Int))) evd_int rd_lt)) (fun hb G e => ?_) (fun hb G e => ⟨L5.ex e, _, rfl⟩)
    have n3 : n ≤ 3 := by
      have := of_decide_eq_true hb
      omega
    have S := src_lst (K := K) (σ := [some (.ref a), some (.ref p), some (.int (n : Int)), some (.ref b), none, none, none, none, none, none, none, none, none, none]) (H := G) (tl := tCall (spL K Rcouplings) [] E0 (tCons (tVar 2) tNil)) (ss := coupD n) (evd_of_l (evdl_call (evds_cons (evd_var rfl (.int (n : Int))) evds_nil) ⟨n, rfl, n1, n3, rfl⟩))
    have lcd : (coupD n).length = (cS n).length := List.length_map ..
    rw [lcd] at S
    have lr : (cS n).length ≤ 50000 := by
      have : n = 1 ∨ n = 2 ∨ n = 3 := by omega
      rcases this with e | e | e <;> (subst e; decide)
    have lz : ∀ i, i < (cS n).length → ((cS n).getD i []).length ≤ 256 := fun i hi => by
      have h := factC2_ok n1 n3
      unfold factC2 at h
      rw [Bool.and_eq_true, List.all_eq_true] at h
      have h2 := h.2 i (List.mem_range.mpr hi)
      rw [Bool.and_eq_true] at h2
      have := of_decide_eq_true h2.2
      omega
    have lc := evdl_lc1 (vs := [6]) (j := 6) (te := tCB (rTupOf K) (tCons (tLc (iTup K (tVar 6)) (gName 5) tYes (tTup (tCons (tVar 5) tNil)) [5]) tNil)) S (fun _ _ e => Ex.kx e) lr (fR n) (fun i _ => ruleD_noL _) (fun _ => rfl) (fun i v Hi hi e hv => by
      have ei : (coupD n).getD i .none = .tuple (encN ((cS n).getD i [])) := by
        unfold coupD
        rw [List.getD_eq_getElem?_getD, List.getD_eq_getElem?_getD, List.getElem?_map, List.getElem?_eq_getElem hi]
        rfl
      rw [ei] at hv
      exact rule_ofT hv (lz i hi))
    rw [rulesD_eq] at lc
    refine q_asgDL lc fun ld xd G2 hld x2 g2 hd2 => ?_
    obtain ⟨s1, s2, s3, s4⟩ := sortR n1 n3 (l := List.range (cS n).length) (List.Perm.refl _)
    rw [rulesD_eq] at s1 s2 s3 s4
    have so := evdl_sorted (K := K) (σ := [some (.ref a), some (.ref p), some (.int (n : Int)), some (.ref b), some (.ref ld), none, none, none, none, none, none, none, none, none]) (H := G2) (ta := tVar 4) (evd_var rfl (.lst (SqL.of g2) hd2)) s2 s3 s4
    rw [s1] at so
    have fe := factE_ok n1 n3
    unfold factE at fe
    rw [Bool.and_eq_true] at fe
    have L6 := L5.ex (e.trans x2)
    exact s_when (b := false) (et_D (K := K) (evd_op (evd_of_l (evdl_bk L6.B n1 n3 (ev_var rfl) evds_nil ⟨rfl, rfl⟩)) (evd_of_l so) (rd_neSame fe.1 fe.2))) (fun z => nomatch z) fun _ G3 x3 => ⟨L6.ex x3, _, rfl⟩
  rintro σ' H6 ⟨L6, o4, rfl⟩
  -- a coupling
  refine coup_run (K := K) (n := n) (ev_var rfl) (evd_var rfl (.int (n : Int))) n1 n8 n8 L6.D fun vc c H7 b7 t7 D7 R C hvc => ?_
  have L7 := L6.dr b7 t7 D7
  have cl := R.len
  refine q_asgD (K := K) (rule_ofT hvc (by omega)) fun vr H8 e8 hvr => ?_
  have L8 := L7.ex e8
  have hvc8 := dx e8 hvc
  refine q_when (b := (!isNon (faultsD n c)) || !decide (isC n c = true)) (et_or (et_D (K := K) (evd_op (ev_fault L8.B R (ev_var rfl) (evd_var rfl hvr)) evd_non rq_notN)) fun _ => et_not (et_DB (evd_call (evds_cons (ev_fault L8.B R (ev_var rfl) (evd_var rfl hvr)) (evds_cons evd_bl evds_nil)) ⟨_, _, rfl, rfl⟩))) (fun z => ?_) fun _ H9 e9 => ?_
  · rw [faults_C R, C] at z
    cases z
  have L9 := L8.ex e9
  have hvc9 := dx e9 hvc8
  refine q_for (src_rng (K := K) (evds_cons evd_int evds_nil) (by decide) (by decide)) (fun _ i σ' G => LI K mg G p dc ds b n ∧ Dp K G vc (.tuple (encN c)) ∧ ∃ o5 o8 o9 o10 o11 o12 o13, σ' = [some (.ref a), some (.ref p), some (.int (n : Int)), some (.ref b), o4, o5, some vc, some vr, o8, o9, o10, o11, o12, o13])
    (fun G e => ⟨L9.ex e, dx e hvc9, _, _, _, _, _, _, _, rfl⟩) (fun _ _ _ _ _ _ => trivial)
    (fun _ i σ' G G' ⟨x1, x2, x3⟩ e => ⟨x1.ex e, dx e x2, x3⟩) (fun _ i σ' G v hi pv hv => ?_) (fun _ σ' G pv => ?_)
  · obtain ⟨L, hc, o5, o8, o9, o10, o11, o12, o13, rfl⟩ := pv
    -- made
    refine q_asgDL (evdq_listT (evd_var rfl hc)) fun l xs G1 hl x1 g1 hd1 => ?_
    have exs := encV_of hd1
    subst exs
    have nlp := L.np hl
    have L1 := L.ex x1
    have hc1 := dx x1 hc
    have lst : ∀ {G : Hp} {c' : List Nat}, G l = some (.lst (encV c')) → Dp K G (.ref l) (.list (encN c')) := fun h => .lst (SqL.of h) (encV_dp _)
    have len' : (encN c).length = 2 ^ n := by rw [encN_len, R.len]
    -- row, member
    refine draw_run (ev_var rfl) (evd_cb (evds_cons (evd_var rfl (lst g1)) evds_nil) rq_lenL) (by rw [len']; omega) (by rw [len']; omega) L1.D fun r G2 hr2 b2 t2 D2' => ?_
    rw [len'] at hr2
    have hr' : r < 2 ^ n := by omega
    have L2 := L1.dr b2 t2 D2'
    have g2 := b2 _ _ nlp g1
    have hc2 := Dp.tx t2 (.tuple (encN c)) _ (encN_noL c) hc1
    refine draw_run (K := K) (ev_var rfl) (evd_var rfl (.int (n : Int))) (by omega) (by omega) L2.D fun m G3 hm3 b3 t3 D3' => ?_
    have hm' : m < n := by omega
    have L3 := L2.dr b3 t3 D3'
    have g3' := b3 _ _ nlp g2
    have hc3 := Dp.tx t3 (.tuple (encN c)) _ (encN_noL c) hc2
    -- made[row] = member
    refine q_setD (K := K) (j := r) g3' (evd_var rfl (.int (m : Int))) (ev_var rfl) (evd_var rfl (.int (r : Int))) (by rw [encV_len, R.len]; exact hr') fun v4 G4 x4 hv4 => ?_
    rw [hv4.intV, encV_set]
    have R1 : Rw n (c.set r m) := R.set _ hm'
    have L4 : LI K mg (upd G4 l (.lst (encV (c.set r m)))) p dc ds b n := (L3.ex x4).put L hl (x4 _ _ g3')
    have hc4 : Dp K (upd G4 l (.lst (encV (c.set r m)))) vc (.tuple (encN c)) := Dp.tx ((Ex.tx x4).trans (Tx.updL (x4 _ _ g3'))) _ _ (encN_noL c) hc3
    have g4 : upd G4 l (.lst (encV (c.set r m))) l = some (.lst (encV (c.set r m))) := upd_same
    show tCut _ _ _ _ (upd G4 l (.lst (encV (c.set r m))))
    generalize upd G4 l (.lst (encV (c.set r m))) = G5 at L4 hc4 g4 ⊢
    generalize c.set r m = c1 at R1 g4
    refine ⟨fun σ' G => ∃ c2, Rw n c2 ∧ LI K mg G p dc ds b n ∧ Dp K G vc (.tuple (encN c)) ∧ G l = some (.lst (encV c2)) ∧ σ' = [some (.ref a), some (.ref p), some (.int (n : Int)), some (.ref b), o4, some (.int (m : Int)), some vc, some vr, some v, some (.ref l), some (.int (r : Int)), o11, o12, o13], ?_, ?_⟩
    · refine draw_run (K := K) (ev_var rfl) evd_int (by decide) (by decide) L4.D fun z G6 hz b6 t6 D6 => ?_
      have L6 := L4.dr b6 t6 D6
      have g6 := b6 _ _ nlp g4
      have hc6 := Dp.tx t6 (.tuple (encN c)) _ (encN_noL c) hc4
      refine ⟨rfl, _, rfl, ?_⟩
      by_cases hz0 : V.int (z : Int) = V.int 0
      · rw [decide_eq_true hz0]
        refine iteT ?_
        refine s_setD (K := K) (j := turn n r m) g6 (evd_var rfl (.int (m : Int))) (ev_var rfl) (evd_call (evds_cons (evd_var rfl (.int (n : Int))) (evds_cons (evd_var rfl (.int (r : Int))) (evds_cons (evd_var rfl (.int (m : Int))) evds_nil))) ⟨n, r, m, rfl, hm', n8, rfl⟩) (by rw [encV_len, R1.len]; exact (turn_facts n8 hm' hr').1) fun v7 G7 x7 hv7 => ?_
        rw [hv7.intV, encV_set]
        exact ⟨_, R1.set _ hm', (L6.ex x7).put L hl (x7 _ _ g6), Dp.tx ((Ex.tx x7).trans (Tx.updL (x7 _ _ g6))) _ _ (encN_noL c) hc6, upd_same, rfl⟩
      · rw [decide_eq_false hz0]
        exact iteF ⟨_, R1, L6, hc6, g6, rfl⟩
    rintro σ2 G6 ⟨c2, R2, L6, hc6, g6, rfl⟩
    have cl2 := R2.len
    -- good, other
    have isc : ∀ {G : Hp} {o11 o12 : Option V} (f : Str), True := fun _ => trivial
    refine q_asgD (K := K) (evd_call (evds_cons (evd_var rfl (.int (n : Int))) (evds_cons (evd_cb (evds_cons (evd_var rfl (lst g6)) evds_nil) rq_tup) evds_nil)) ⟨n, c2, rfl, R2, rfl⟩) fun v7 G7 x7 hv7 => ?_
    rw [hv7.blV]
    have g7 := x7 _ _ g6
    refine q_asgD (K := K) (rule_ofL (lst g7) (by omega)) fun v8 G8 x8 hv8 => ?_
    have g8 := x8 _ _ g7
    have L8 := L6.ex (x7.trans x8)
    refine q_when (b := (!decide (isC n c2 = isC n c2)) || !decide (isC n c2 = isC n c2)) (et_or (et_not (et_DB (K := K) (evd_call (evds_cons (ev_fault L8.B R2 (ev_var rfl) (evd_var rfl hv8)) (evds_cons (evd_var rfl (.bl _)) evds_nil)) ⟨_, _, rfl, rfl⟩))) fun _ => et_not (et_DB (evd_call (evds_cons (evd_call (evds_cons (evd_var rfl (.int (n : Int))) (evds_cons (evd_cb (evds_cons (evd_var rfl (lst g8)) evds_nil) rq_tup) evds_nil)) ⟨n, c2, rfl, R2, rfl⟩) (evds_cons (evd_var rfl (.bl _)) evds_nil)) ⟨_, _, rfl, rfl⟩))) (fun z => ?_) fun _ G9 x9 => ?_
    · rw [decide_eq_true (show isC n c2 = isC n c2 from rfl)] at z
      cases z
    have L9' := L8.ex x9
    have hc9 := dx ((x7.trans x8).trans x9) hc6
    have hv9 := dx x9 hv8
    cases hg : isC n c2 with
    | true => 
      exact s_when (b := (!true) && true) (et_and (et_not (et_DB (K := K) (evd_var rfl (.bl _)))) fun z => nomatch z) (fun z => nomatch z) fun _ G10 x10 => ⟨L9'.ex x10, dx x10 hc9, _, _, _, _, _, _, _, rfl⟩
    | false =>
      have hf : isNon (faultsD n c2) = false := (faults_C R2).trans hg
      obtain ⟨fx, fy, hfd⟩ := faults_duty hf
      exact s_when (b := (!false) && !decide (("duty" : Str) = "duty")) (et_and (et_not (et_DB (K := K) (evd_var rfl (.bl _)))) fun _ => et_D (K := K) (evd_op (evd_op (evd_is (ev_fault L9'.B R2 (ev_var rfl) (evd_var rfl hv9)) hfd) evd_int (rd_ixT (j := 0) rfl)) evd_str rd_neS)) (fun z => by
        rw [decide_eq_true (show ("duty" : Str) = "duty" from rfl)] at z
        cases z) fun _ G10 x10 => ⟨L9'.ex x10, dx x10 hc9, _, _, _, _, _, _, _, rfl⟩
  · obtain ⟨L, hc, o5, o8, o9, o10, o11, o12, o13, rfl⟩ := pv
    exact q G
end
end K41
set_option Elab.async false
set_option linter.all false
set_option maxRecDepth 100000
set_option maxHeartbeats 0
/-! the head -/
namespace K41
open PySem PySem.Spec PyProof.Rows L2 Evl
abbrev dd (x : Str) (st : Stmt) : He.DefD := ⟨(x, none), x, x, defArgs st, defBody st, defScope st, [], []⟩
def fnZ : List He.DefD := ([dd "is_integer" st_is_integer, dd "is_within" st_is_within, dd "is_pair" st_is_pair, dd "is_lot" st_is_lot, dd "is_table" st_is_table, dd "is_many" st_is_many, ⟨("check_many", none), "check_many", "check_many", defArgs st_check_many, defBody st_check_many, defScope st_check_many, [.int 1, .int 8], []⟩, dd "has_yes" st_has_yes, dd "turned" st_turned, dd "fits_coupling" st_fits_coupling, dd "is_coupling" st_is_coupling, dd "next_open" st_next_open, dd "with_tie" st_with_tie, dd "couplings" st_couplings, dd "is_duties" st_is_duties, dd "is_count" st_is_count, dd "are_marks" st_are_marks, dd "unmarked" st_unmarked, dd "plain_book" st_plain_book, dd "keeps_duty" st_keeps_duty, dd "fault_at" st_fault_at, dd "fault_of" st_fault_of, dd "first_fault" st_first_fault, dd "keeps" st_keeps, dd "own_ties" st_own_ties, dd "check_listed" st_check_listed, dd "lets" st_lets, dd "fillings" st_fillings, dd "can_still" st_can_still, dd "filled" st_filled] : List He.DefD) ++ ([dd "ties_left" st_ties_left, dd "count_rules" st_count_rules, dd "all_fillings" st_all_fillings, dd "rule_filled" st_rule_filled, dd "all_rules" st_all_rules, dd "_law_dice" st_law_dice, dd "_law_draw" st_law_draw, dd "_law_power" st_law_power, dd "_law_turned" st_law_turned, dd "_law_is_count" st_law_is_count, dd "_law_is_coupling" st_law_is_coupling, dd "_law_switched" st_law_switched, dd "_law_row_with" st_law_row_with, dd "_law_coupling" st_law_coupling, dd "_law_flag" st_law_flag, dd "law" st_law, ⟨("Book", some "__init__"), "__init__", "Book.__init__", defArgs st_Book_init, defBody st_Book_init, defScope st_Book_init, [], []⟩] : List He.DefD)
def faZ : List He.Fa := ([.glo "is_integer", .glo "is_within", .glo "is_pair", .glo "is_lot", .glo "is_table", .glo "is_many", .glo "check_many", .glo "has_yes", .glo "turned", .glo "fits_coupling", .glo "is_coupling", .glo "next_open", .glo "with_tie", .glo "couplings", .glo "is_duties", .glo "is_count", .glo "are_marks", .glo "unmarked", .glo "plain_book", .glo "keeps_duty", .glo "fault_at", .glo "fault_of", .glo "first_fault", .glo "keeps", .glo "own_ties", .glo "check_listed", .glo "lets", .glo "fillings", .glo "can_still", .glo "filled"] : List He.Fa) ++ ([.glo "ties_left", .glo "count_rules", .glo "all_fillings", .glo "rule_filled", .glo "all_rules", .glo "_law_dice", .glo "_law_draw", .glo "_law_power", .glo "_law_turned", .glo "_law_is_count", .glo "_law_is_coupling", .glo "_law_switched", .glo "_law_row_with", .glo "_law_coupling", .glo "_law_flag", .glo "law", .free "abs", .free "all", .free "bool", .free "enumerate", .free "int", .free "isinstance", .free "len", .free "list", .free "range", .free "sorted", .free "str", .free "sum", .free "tuple", .free "zip"] : List He.Fa) ++ ([.int "MOST_MEMBERS" 8, .int "MOST_LISTED_couplings" 4, .int "MOST_LISTED_listing" 3, .int "MOST_RULES" 2000, .glo "POWERS", .glo "DUTIES", .glo "SIGNS", .glo "Book", .cls "Book", .mkr "Book", .noat "Book" "duties", .noat "Book" "counts", .noat "Book" "marks", .noat "Book" "many", .noat "Book" "kept_facts"] : List He.Fa)
def looseZ : List Str := (["CauseError", "NoMany", "NoDuties", "NoNumber", "BadBook", "TooLarge", "TooMany", "MOST_MEMBERS", "POWERS", "is_integer", "is_within", "is_pair", "is_lot", "is_table", "is_many", "check_many", "has_yes", "turned", "MOST_LISTED_couplings", "fits_coupling", "is_coupling", "next_open", "with_tie", "couplings", "DUTIES", "SIGNS", "is_duties", "is_count", "are_marks", "Book"] : List Str) ++ (["unmarked", "plain_book", "keeps_duty", "fault_at", "fault_of", "first_fault", "keeps", "own_ties", "MOST_LISTED_listing", "MOST_RULES", "check_listed", "lets", "fillings", "can_still", "filled", "ties_left", "count_rules", "all_fillings", "rule_filled", "all_rules", "_law_dice", "_law_draw", "_law_power", "_law_turned", "_law_is_count", "_law_is_coupling", "_law_switched", "_law_row_with", "_law_coupling", "_law_flag"] : List Str)
def exZ (K : PySem.W.Frag) : Bool := He.tupB K "POWERS" [.int 1, .int 2, .int 4, .int 8, .int 16, .int 32, .int 64, .int 128, .int 256] && (He.tupB K "DUTIES" [.str "n", .str "a", .str "m"] && (He.tupB K "SIGNS" [.str "1", .str "0", .str "."]))
abbrev RZ : PySem.W.OpenRow := PySem.W.OpenLaw.row PySem.Challenge.rw_owncause_k41_whole_rules_are_couplings
abbrev hkZ : PySem.W.Hook := He.hookX 6 faZ fnZ [] [] exZ
def obZ (s : PySem.W.SharedT) : He.AlX := He.obsX 6 faZ fnZ [] [] exZ (HandSHeadRun.getT s)
theorem obZ_eq (s : PySem.W.SharedT) : obZ s = hkZ.obs s.abs := He.obsX_eq (HandSHeadRun.getT_eq s)
theorem runZ (w : World) : HandSHeadRun.RunEq RZ (PySem.W.view RZ.prog [69]) hkZ obZ 6000 looseZ w := by
  intro os
  kernel_rfl
end K41
set_option Elab.async false
set_option linter.all false
set_option maxRecDepth 100000
set_option maxHeartbeats 0
/-! the text from the head -/
namespace K41
open PySem PySem.Spec PyProof.Rows L2 Evl
section
variable {mg : Str → Option Value} {h : Heap} {K : PySem.W.Frag}
theorem fun_of {x q : Str} {st : Stmt} {f : Addr} {fd : FuncData} (F : FunD K x q (defArgs st) (defBody st) (defScope st) [] [] f fd) : Fun K x q st f fd := by
  obtain ⟨⟨oc, od, dV, kV, doc, pm, an, cdv, ct, osl, e, l, c, d, k⟩, kp⟩ := F
  rcases d with ⟨_, rfl⟩ | ⟨q, _⟩
  · exact ⟨⟨oc, od, kV, doc, pm, an, cdv, ct, osl, e, l, c⟩, kp⟩
  · exact absurd rfl q
theorem def_of (X : K.In h) (G : h.Ns mainGlobals mg) (c : He.SaysD faZ fnZ K) (i : Nat) {x : Str} {st : Stmt} (h1 : fnZ[i]? = some (dd x st)) (h2 : faZ[i]? = some (.glo x)) : Def K mg x st := by
  obtain ⟨fd, F⟩ := c.def_ i h1
  exact ⟨_, fd, fun_of F, He.glo_ok X G (c.fact i h2)⟩
theorem txtZ (X : K.In h) (G : h.Ns mainGlobals mg) (c : He.SaysD faZ fnZ K) (e : exZ K = true) : Txt K mg := by
  obtain ⟨e0, e12⟩ := He.ba e
  obtain ⟨e1, e2⟩ := He.ba e12
  obtain ⟨fc, Fc⟩ := c.def_ 6 (d := ⟨("check_many", none), "check_many", "check_many", defArgs st_check_many, defBody st_check_many, defScope st_check_many, [.int 1, .int 8], []⟩) rfl
  obtain ⟨fb, Fb⟩ := c.def_ 46 (d := ⟨("Book", some "__init__"), "__init__", "Book.__init__", defArgs st_Book_init, defBody st_Book_init, defScope st_Book_init, [], []⟩) rfl
  exact {
    d_is_integer := def_of X G c 0 rfl rfl
    d_is_within := def_of X G c 1 rfl rfl
    d_is_pair := def_of X G c 2 rfl rfl
    d_is_lot := def_of X G c 3 rfl rfl
    d_is_table := def_of X G c 4 rfl rfl
    d_is_many := def_of X G c 5 rfl rfl
    d_check_many := ⟨_, fc, Fc, He.glo_ok X G (c.fact 6 (f := .glo "check_many") rfl)⟩
    d_has_yes := def_of X G c 7 rfl rfl
    d_turned := def_of X G c 8 rfl rfl
    d_fits_coupling := def_of X G c 9 rfl rfl
    d_is_coupling := def_of X G c 10 rfl rfl
    d_next_open := def_of X G c 11 rfl rfl
    d_with_tie := def_of X G c 12 rfl rfl
    d_couplings := def_of X G c 13 rfl rfl
    d_is_duties := def_of X G c 14 rfl rfl
    d_is_count := def_of X G c 15 rfl rfl
    d_are_marks := def_of X G c 16 rfl rfl
    d_unmarked := def_of X G c 17 rfl rfl
    d_plain_book := def_of X G c 18 rfl rfl
    d_keeps_duty := def_of X G c 19 rfl rfl
    d_fault_at := def_of X G c 20 rfl rfl
    d_fault_of := def_of X G c 21 rfl rfl
    d_first_fault := def_of X G c 22 rfl rfl
    d_keeps := def_of X G c 23 rfl rfl
    d_own_ties := def_of X G c 24 rfl rfl
    d_check_listed := def_of X G c 25 rfl rfl
    d_lets := def_of X G c 26 rfl rfl
    d_fillings := def_of X G c 27 rfl rfl
    d_can_still := def_of X G c 28 rfl rfl
    d_filled := def_of X G c 29 rfl rfl
    d_ties_left := def_of X G c 30 rfl rfl
    d_count_rules := def_of X G c 31 rfl rfl
    d_all_fillings := def_of X G c 32 rfl rfl
    d_rule_filled := def_of X G c 33 rfl rfl
    d_all_rules := def_of X G c 34 rfl rfl
    d_law_dice := def_of X G c 35 rfl rfl
    d_law_draw := def_of X G c 36 rfl rfl
    d_law_power := def_of X G c 37 rfl rfl
    d_law_turned := def_of X G c 38 rfl rfl
    d_law_is_count := def_of X G c 39 rfl rfl
    d_law_is_coupling := def_of X G c 40 rfl rfl
    d_law_switched := def_of X G c 41 rfl rfl
    d_law_row_with := def_of X G c 42 rfl rfl
    d_law_coupling := def_of X G c 43 rfl rfl
    d_law_flag := def_of X G c 44 rfl rfl
    d_law := def_of X G c 45 rfl rfl
    z_abs := He.free_ok X G (c.fact 46 (f := .free "abs") rfl)
    z_all := He.free_ok X G (c.fact 47 (f := .free "all") rfl)
    z_bool := He.free_ok X G (c.fact 48 (f := .free "bool") rfl)
    z_enumerate := He.free_ok X G (c.fact 49 (f := .free "enumerate") rfl)
    z_int := He.free_ok X G (c.fact 50 (f := .free "int") rfl)
    z_isinstance := He.free_ok X G (c.fact 51 (f := .free "isinstance") rfl)
    z_len := He.free_ok X G (c.fact 52 (f := .free "len") rfl)
    z_list := He.free_ok X G (c.fact 53 (f := .free "list") rfl)
    z_range := He.free_ok X G (c.fact 54 (f := .free "range") rfl)
    z_sorted := He.free_ok X G (c.fact 55 (f := .free "sorted") rfl)
    z_str := He.free_ok X G (c.fact 56 (f := .free "str") rfl)
    z_sum := He.free_ok X G (c.fact 57 (f := .free "sum") rfl)
    z_tuple := He.free_ok X G (c.fact 58 (f := .free "tuple") rfl)
    z_zip := He.free_ok X G (c.fact 59 (f := .free "zip") rfl)
    c_MOST_MEMBERS := He.int_ok X G (c.fact 60 (f := .int "MOST_MEMBERS" 8) rfl)
    c_MOST_LISTED_couplings := He.int_ok X G (c.fact 61 (f := .int "MOST_LISTED_couplings" 4) rfl)
    c_MOST_LISTED_listing := He.int_ok X G (c.fact 62 (f := .int "MOST_LISTED_listing" 3) rfl)
    c_MOST_RULES := He.int_ok X G (c.fact 63 (f := .int "MOST_RULES" 2000) rfl)
    c_POWERS := ⟨_, He.glo_ok X G (c.fact 64 (f := .glo "POWERS") rfl), fun H' => He.tupB_ok e0 H'⟩
    c_DUTIES := ⟨_, He.glo_ok X G (c.fact 65 (f := .glo "DUTIES") rfl), fun H' => He.tupB_ok e1 H'⟩
    c_SIGNS := ⟨_, He.glo_ok X G (c.fact 66 (f := .glo "SIGNS") rfl), fun H' => He.tupB_ok e2 H'⟩
    bk := ⟨_, He.cls_ok (c.fact 68 (f := .cls "Book") rfl), He.noat_ok (c.fact 70 (f := .noat "Book" "duties") rfl), He.noat_ok (c.fact 71 (f := .noat "Book" "counts") rfl), He.noat_ok (c.fact 72 (f := .noat "Book" "marks") rfl), He.noat_ok (c.fact 73 (f := .noat "Book" "many") rfl), He.noat_ok (c.fact 74 (f := .noat "Book" "kept_facts") rfl), He.glo_ok X G (c.fact 67 (f := .glo "Book") rfl), _, fb, fun_of Fb, He.mkr_ok (c.fact 69 (f := .mkr "Book") rfl)⟩ }
end
theorem factsZ {P : Program} {w : World} {K : PySem.W.Frag} {h : Heap} {mg : Str → Option Value} {f : Addr} (X : K.In h) (G : h.Ns mainGlobals mg) (hfa : mg ("law" : Str) = some (.ref f)) (c : He.SaysD faZ fnZ K) (e : exZ K = true) :
    ∃ fd : FuncData, (∀ (s : Shared) (v : Value), BindsTo s fd ⟨[v], []⟩ [("_law_script", v)]) ∧ ∀ base : Heap, K.In base → base.Ns mainGlobals mg → FnOk P w K mg base CX0 13 f fd ["_law_script"] (spLaw K) := by
  have T := txtZ X G c e
  obtain ⟨fd, F⟩ := c.def_ 45 (d := dd "law" st_law) rfl
  have eq := hfa.symm.trans (He.glo_ok X G (c.fact 45 (f := .glo "law") rfl))
  cases eq
  have b := FunD.bindsA (ps := ["_law_script"]) F fun _ _ _ _ _ _ us hl => match us, hl with | [_], _ => rfl
  exact ⟨fd, fun s v => b s [v] rfl, fun base _ _ => okf_law T (fun_of F)⟩
end K41
open PySem PySem.W PySem.Calls PyProof.Rows
theorem PySem.Challenge.cw_owncause_k41_whole_rules_are_couplings_holds : PySem.Challenge.rw_owncause_k41_whole_rules_are_couplings.Holds := by
  w_on; o_law
  refine HandSHeadRun.head_any (r := OpenLaw.row PySem.Challenge.rw_owncause_k41_whole_rules_are_couplings) (q := view (OpenLaw.row PySem.Challenge.rw_owncause_k41_whole_rules_are_couplings).prog [69]) (H := K41.hkZ) (ob := K41.obZ) (M := 6000) (loose := K41.looseZ) (d := HandSHeadRun.topDef (OpenLaw.row PySem.Challenge.rw_owncause_k41_whole_rules_are_couplings).prog 69) (kwd := []) K41.obZ_eq
    (by kernel_rfl) (fun s => by kernel_rfl) K41.runZ (by kernel_rfl) (by kernel_rfl) (by kernel_rfl) (by rfl) (by first | assumption | decide +kernel) (by decide +kernel) ⟨rfl, rfl, rfl, rfl, rfl, by decide +kernel⟩ ?hw ?hc
  case hw => w_witness2
  case hc =>
    refine L2.walk_ofE (l := PySem.Challenge.rw_owncause_k41_whole_rules_are_couplings) (n := 63) (k := 13) (x := "_law_script") (CX := L2.CX0) rfl (by decide) (by kernel_rfl) ⟨rfl, by decide, by decide⟩ ?F (fun _ _ _ _ z => z)
    intro w mg fa h Y G hmg0
    obtain ⟨K, KX, c⟩ := Y
    have hmg : mg ("law" : PySem.Str) = some (.ref fa) := by
      have e : (HandSHeadRun.topDef (OpenLaw.row PySem.Challenge.rw_owncause_k41_whole_rules_are_couplings).prog 69).name = ("law" : PySem.Str) := by kernel_rfl
      rw [← e]
      exact hmg0
    obtain ⟨fd, hb, hF⟩ := K41.factsZ (P := (PySem.Challenge.rw_owncause_k41_whole_rules_are_couplings).prog) (w := w) KX G hmg c.t.d c.more
    exact ⟨K, fd, K41.spLaw K, KX, hb, fun H a ns hl _ hS => ⟨a, ns, rfl, hS, hl, fun _ => rfl⟩, hF⟩
