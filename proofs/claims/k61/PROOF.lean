import PyProof.Rows.All
import Wide.All
import OpenK.AllK
import Wide.FinOn
import HandS.ForMost
import HandS.Defaults
import HandS.Style
import HandS.Flow
import HandS.More
import HandS.Small
import HandS.HeadHook1
import HandS.HeadHook2
import HandS.Wide
import KE.KDictPairs
import HandS.OwnEq
import HandS.DeepEq
import KE.KSuper
import HandS.Nested
import HandS.Head0
import HandS.Head1
import HandS.Head2
import KE.KStateDown
import Lean
import HandS.Ends
import HandS.Words
import HandS.WordsExc
import HandS.HeadEnd
import PySem.Challenge.RW_caughtup_k61_main_sounds_are_told_by_div
set_option Elab.async false
set_option linter.all false
set_option maxRecDepth 100000
set_option maxHeartbeats 0
/-! Kx0: a def with its promise in one word (Fn), calls by it, constants of the module, steps of readings by their heads. -/
namespace Kx
open PySem PySem.Spec PyProof.Rows L2

/-! ### a def and its promise -/
def Fn (P : Program) (w : World) (K : PySem.W.Frag) (mg : Str → Option Value) (base : Heap) (CX : CXT) (k : Nat) (f : Addr) (ps : List Str) (sp : Sp) : Prop :=
  ∃ fd : FuncData, FnOk P w K mg base CX k f fd ps sp ∧ Binds K fd ps [] ∧ PySem.W.keepIn K (.ref f) = true
section
variable {P : Program} {w : World} {K : PySem.W.Frag} {mg : Str → Option Value} {base : Heap} {CX : CXT} {j k : Nat} {f : Addr} {ps : List Str} {sp sp' : Sp}
theorem Fn.mono (F : Fn P w K mg base CX j f ps sp) (h : j ≤ k) : Fn P w K mg base CX k f ps sp := by
  obtain ⟨fd, F, b, kp⟩ := F
  exact ⟨fd, F.mono h, b, kp⟩
theorem Fn.imp (F : Fn P w K mg base CX k f ps sp) (h : ∀ vs H Q E, sp' vs H Q E → sp vs H Q E) : Fn P w K mg base CX k f ps sp' := by
  obtain ⟨fd, F, b, kp⟩ := F
  exact ⟨fd, F.imp h, b, kp⟩
/-- a def that lets nothing out, told for any way out -/
theorem Fn.toCX (F : Fn P w K mg base CX0 k f ps sp) : Fn P w K mg base CX k f ps sp := by
  obtain ⟨fd, F, b, kp⟩ := F
  refine ⟨fd, ⟨F.len, fun A outer s H args us vs Q E hr e0 hb r hs => codeAny_mono (F.run A outer s H args us vs Q E hr e0 hb r hs) fun r s' h => ?_⟩, b, kp⟩
  cases r with
  | ok fl => cases fl <;> exact h
  | error e => exact False.elim h
end
section
variable {X : Cx} {CX : CXT} {k j : Nat} {f C : Addr} {ps : List Str} {sp : Sp} {E : XK} {x m : Str} {p pos apos : Pos} {e o : Expr} {es : List Expr} {ta : TE} {t : TA}
theorem pe_f (F : Fn X.prog X.w X.K X.mg X.base CX k f ps sp) (hr : Room j X.A) (hk : k ≤ j) (hm : X.mg x = some (.ref f)) (hx : Passes CX X E) (ha : PA X (e :: es) t) (hg : Gl X x := by rfl)
    (hdb : (x == ("__debug__" : Str)) = false := by decide) (he : starEach (e :: es) X.env = (false, eval e X.env) :: starEach es X.env := by rfl) (hpl : (backTo pos (starEach es X.env)).any (·.1) = false := by rfl) :
    PE X (.Call (.Name x p) (e :: es) [] pos) (tCall sp [] E t) := by
  obtain ⟨fd, F, b, kp⟩ := F
  exact pe_call F (hr.mono hk) hg hm kp b .nil hx ha hdb he hpl
theorem pe_f0 (F : Fn X.prog X.w X.K X.mg X.base CX k f ps sp) (hr : Room j X.A) (hk : k ≤ j) (hm : X.mg x = some (.ref f)) (hx : Passes CX X E) (hg : Gl X x := by rfl)
    (hdb : (x == ("__debug__" : Str)) = false := by decide) : PE X (.Call (.Name x p) [] [] pos) (tCall sp [] E tNil) := by
  obtain ⟨fd, F, b, kp⟩ := F
  exact pe_call0 F (hr.mono hk) hg hm kp b .nil hx hdb
theorem pe_m {pl : Sem Bool} (F : Fn X.prog X.w X.K X.mg X.base CX k f ps sp) (hr : Room j X.A) (hk : k ≤ j) (c : Cls X.K C) (hm : Meth X.K C m f) (hx : Passes CX X E) (he : PE X o ta) (ha : PA X (e :: es) t)
    (hst : starEach (e :: es) X.env = (false, eval e X.env) :: starEach es X.env := by rfl) (hpl : (backTo pos (starEach es X.env)).any (·.1) = false := by rfl)
    (ht : eval (.Call (.Attribute o m apos) (e :: es) [] pos) X.env = (do
      let ov ← eval o X.env
      standAt apos.atName
      let (f, first) ← holding [ov] (getMethod ov m pl)
      callWith pos f first (backTo pos (starEach (e :: es) X.env)) (backToKw pos (keywordEach [] X.env))) := by rfl) : PE X (.Call (.Attribute o m apos) (e :: es) [] pos) (tMeth C m sp [] E ta t) := by
  obtain ⟨fd, F, b, kp⟩ := F
  exact pe_meth he c hm F (hr.mono hk) b .nil hx ha hst hpl ht
theorem pe_m0 {pl : Sem Bool} (F : Fn X.prog X.w X.K X.mg X.base CX k f ps sp) (hr : Room j X.A) (hk : k ≤ j) (c : Cls X.K C) (hm : Meth X.K C m f) (hx : Passes CX X E) (he : PE X o ta)
    (ht : eval (.Call (.Attribute o m apos) [] [] pos) X.env = (do
      let ov ← eval o X.env
      standAt apos.atName
      let (f, first) ← holding [ov] (getMethod ov m pl)
      callWith pos f first (backTo pos (starEach [] X.env)) (backToKw pos (keywordEach [] X.env))) := by rfl) : PE X (.Call (.Attribute o m apos) [] [] pos) (tMeth C m sp [] E ta tNil) := by
  obtain ⟨fd, F, b, kp⟩ := F
  exact pe_meth0 he c hm F (hr.mono hk) b .nil hx ht
theorem pe_mk (F : Fn X.prog X.w X.K X.mg X.base CX k f ps sp) (hr : Room j X.A) (hk : k + 1 ≤ j) (M : Mk X.K C f) (hm : X.mg x = some (.ref C)) (hx : Passes CX X E) (ha : PA X (e :: es) t) (hg : Gl X x := by rfl)
    (hdb : (x == ("__debug__" : Str)) = false := by decide) (he : starEach (e :: es) X.env = (false, eval e X.env) :: starEach es X.env := by rfl) (hpl : (backTo pos (starEach es X.env)).any (·.1) = false := by rfl) :
    PE X (.Call (.Name x p) (e :: es) [] pos) (tMake C sp [] E t) := by
  obtain ⟨fd, F, b, kp⟩ := F
  exact pe_make M F (hr.mono hk) hg hm b .nil hx ha hdb he hpl
theorem pe_mk0 (F : Fn X.prog X.w X.K X.mg X.base CX k f ps sp) (hr : Room j X.A) (hk : k + 1 ≤ j) (M : Mk X.K C f) (hm : X.mg x = some (.ref C)) (hx : Passes CX X E) (hg : Gl X x := by rfl)
    (hdb : (x == ("__debug__" : Str)) = false := by decide) : PE X (.Call (.Name x p) [] [] pos) (tMake C sp [] E tNil) := by
  obtain ⟨fd, F, b, kp⟩ := F
  exact pe_make0 M F (hr.mono hk) hg hm b .nil hx hdb
/-- a whole number, a text, of the module -/
theorem pe_gi {i : Int} (hm : ∃ t, X.mg x = some (.int i t)) (hg : Gl X x := by rfl) (hd : (x == ("__debug__" : Str)) = false := by decide) : PE X (.Name x pos) (tC (.int i)) := by
  obtain ⟨t, hm⟩ := hm
  exact pe_glob hg hm ⟨t, rfl⟩ hd
theorem pe_gs {z : Str} (hm : ∃ t, X.mg x = some (.str z t)) (hg : Gl X x := by rfl) (hd : (x == ("__debug__" : Str)) = false := by decide) : PE X (.Name x pos) (tC (.str z)) := by
  obtain ⟨t, hm⟩ := hm
  exact pe_glob hg hm ⟨t, rfl⟩ hd
/-- an object of the module -/
theorem pe_gr {a : Addr} (hm : X.mg x = some (.ref a)) (hg : Gl X x := by rfl) (hd : (x == ("__debug__" : Str)) = false := by decide) : PE X (.Name x pos) (tC (.ref a)) := pe_glob hg hm rfl hd
end
/-! ### readings by names -/
def rAbs : List V → Hp → VK → Prop := fun xs H Q => ∃ i, xs = [.int i] ∧ Q (.int (if i < 0 then -i else i)) H
def rMin2 : List V → Hp → VK → Prop := fun xs H Q => ∃ i j, xs = [.int i, .int j] ∧ Q (.int (if j < i then j else i)) H
def rMax2 : List V → Hp → VK → Prop := fun xs H Q => ∃ i j, xs = [.int i, .int j] ∧ Q (.int (if j > i then j else i)) H
def rInt1 : List V → Hp → VK → Prop := fun xs H Q => (∃ i, xs = [.int i] ∧ Q (.int i) H) ∨ ∃ k, xs = [.bl k] ∧ Q (.int (if k then 1 else 0)) H
def rDictD : List V → Hp → VK → Prop := fun xs H Q => ∃ (a : Addr) (kvs : List (Key × V)), xs = [.ref a] ∧ Rd H a (.dK kvs) ∧ ∀ p, H p = none → Q (.ref p) (upd H p (.dK kvs))
def rListOf (K : PySem.W.Frag) : List V → Hp → VK → Prop := fun xs H Q => ∃ p ys, xs = [.ref p] ∧ (SqL K H p ys ∨ SqT K H p ys) ∧ ∀ l, H l = none → Q (.ref l) (upd H l (.lst ys))
def rTupleOf (K : PySem.W.Frag) : List V → Hp → VK → Prop := fun xs H Q => ∃ p ys, xs = [.ref p] ∧ ((SqL K H p ys ∧ ∀ l, H l = none → Q (.ref l) (upd H l (.tup ys))) ∨ (SqT K H p ys ∧ Q (.ref p) H))
def rLenD : List V → Hp → VK → Prop := fun xs H Q => ∃ a kvs, xs = [V.ref a] ∧ H a = some (.dK kvs) ∧ Q (.int kvs.length) H
def rAddS : R2 := fun x y H Q => ∃ i j, x = .str i ∧ y = .str j ∧ i.length + j.length ≤ sizeLine ∧ Q (.str (i ++ j)) H
def rInStr : R2 := fun x y H Q => ∃ i j, x = .str i ∧ y = .str j ∧ Q (.bl (!(Builtin.Str.occurrences j i 0 j.length 1).isEmpty)) H
def rNotInStr : R2 := fun x y H Q => ∃ i j, x = .str i ∧ y = .str j ∧ Q (.bl (!(!(Builtin.Str.occurrences j i 0 j.length 1).isEmpty))) H
/-- a test by its value's truth -/
def tTru (K : PySem.W.Frag) (ta : TE) : TT := fun σ H Q => ta σ H fun x H' => ∃ k, TruV K x H' k ∧ Q k H'
/-! ### d.update(pairs) -/
def rUpdP (K : PySem.W.Frag) : V → List V → Hp → VK → Prop := fun x xs H Q => ∃ (d a : Addr) (ps : List Addr) (acc kvs : List (Key × V)), x = .ref d ∧ xs = [.ref a] ∧ H d = some (.dK acc) ∧ SqL K H a (ps.map V.ref) ∧
  Paired (fun p kv => SqT K H p [kV kv.1, kv.2]) ps kvs ∧ acc.length + kvs.length ≤ sizeLine ∧ Q .non (upd H d (.dK (mergeK acc kvs)))
theorem mt_updateP {X : Cx} (hc : X.calm = true) : MtR X "dict.update" (rUpdP X.K) := by
  intro pins s σ H x xs v us Q I rx r q
  obtain ⟨d, a, ps, acc, kvs, ex, exs, hd, hq, hp, hz, q⟩ := q
  subst ex exs
  cases rx
  obtain ⟨u, eu, ra⟩ := vals1 r
  subst eu
  cases ra
  obtain ⟨its, rv, pl, hz2⟩ := I.list hq
  have ei := refs_at rv
  subst ei
  rw [List.length_map] at hz2
  obtain ⟨prs, rel, hl, hpr⟩ := pairs_of I hp
  obtain ⟨z, lo, vs, relA, dd⟩ := dk_of I.hok hd
  obtain ⟨o, n, ho, hcl, hdc, hdat⟩ := pl
  have hlen := rel.length
  obtain ⟨f, hf⟩ := Classical.axiomOfChoice (show ∀ j : Nat, ∃ y : Addr × Value × Value, ∀ q', prs[j]? = some q' → ps[j]? = some y.1 ∧ IsTup s.heap y.1 #[y.2.1, y.2.2] ∧ keyIs q'.1 y.2.1 = true ∧ y.2.2 = q'.2 from fun j => by
    cases e : prs[j]? with
    | none => exact ⟨(0, .none, .none), fun q' h => by cases h⟩
    | some q0 =>
      obtain ⟨b, u, e1, e2, e3⟩ := hpr j q0 e
      exact ⟨(b, u, q0.2), fun q' h => by
        cases h
        exact ⟨e1, e2, e3, rfl⟩⟩)
  have hat : ∀ j, j < prs.length → ∃ q', prs[j]? = some q' := fun j hj => ⟨_, List.getElem?_eq_getElem hj⟩
  have hne : d ∉ a :: (List.range ((List.range prs.length).map fun j => ((f j).2.1, (f j).2.2)).length).map fun j => (f j).1 := by
    intro hm
    rcases List.mem_cons.mp hm with e | hm
    · rcases hq with (hq | ⟨o', hq⟩) | ⟨o', its', n', hq, hcl', _⟩
      · rw [← e, hd] at hq
        cases hq
      · rw [← e, hd] at hq
        cases hq
      · have h1 := I.kIn a o' hq
        rw [ho] at h1
        obtain ⟨od, es', ep', h2, h3, h4⟩ := dd
        rw [← e] at ho
        rw [h2] at ho
        have := h3.1
        cases ho
        rw [hcl] at this
        exact absurd this (by decide)
    · obtain ⟨j, hj, e⟩ := List.mem_map.mp hm
      rw [List.length_map, List.length_range] at hj
      have hj := List.mem_range.mp hj
      obtain ⟨q', hq'⟩ := hat j hj
      obtain ⟨_, ⟨ot, g1, g2, _⟩, _⟩ := hf j q' hq'
      obtain ⟨od, es', ep', h2, h3, h4⟩ := dd
      rw [e, h2] at g1
      cases g1
      have := h3.1
      rw [g2] at this
      exact absurd this (by decide)
  have hmk : ∀ (h' : Heap) (tk : Nat), h'.DictOf (mixKind X.prog X.w) d (merged vs prs) → (∀ b o, b ≠ d → b ∉ ([] : List Addr) → s.heap.get? b = some o → h'.get? b = some o) → EP X pins σ Q .none { s with heap := h', toks := tk } := fun h' tk hd' hk => by
    refine ⟨.non, _, ?_, rfl, q⟩
    have he : ∃ q, h'.get? d = some q := let ⟨q, _, _, hq, _⟩ := hd'; ⟨q, hq⟩
    have hs : ∀ b u, b ≠ d → s.heap.get? b = some u → h'.get? b = some u := fun b u hb e => hk b u hb (by simp) e
    exact I.write (by rw [hd]; exact True.intro) (.inl rfl) hs he (dk_new (Nat.le_trans (length_mergeK kvs acc) hz) lo (KV.merge rel relA) hd')
  refine call_update_pairs (PairArg.list (prog := X.prog) (w := X.w) a (ps.map Value.ref).toArray (fun j => (f j).1) ((List.range prs.length).map fun j => ((f j).2.1, (f j).2.2))) (I.ok.hd hc)
    ⟨⟨o, n, ho, hcl, hdc, hdat⟩, by simp [hl], fun j k v hj => ?_⟩ hne (kvs := prs) ⟨by simp, fun i key v h => ?_⟩ dd (by rw [List.length_map, List.length_range, ← relA.length, ← rel.length]; exact hz) hmk
  · rw [List.getElem?_map] at hj
    by_cases hl2 : j < prs.length
    · rw [List.getElem?_range hl2] at hj
      obtain ⟨q', hq'⟩ := hat j hl2
      obtain ⟨g1, ⟨ot, g2, g3, m, g4⟩, _⟩ := hf j q' hq'
      have hj := Option.some.inj hj
      have e1 : (f j).2.1 = k := congrArg Prod.fst hj
      have e2 : (f j).2.2 = v := congrArg Prod.snd hj
      refine ⟨by simp [g1], .inl ⟨ot, g2, g3, m, ?_⟩⟩
      rw [g4, e1, e2]
    · rw [List.getElem?_eq_none (by simpa using hl2)] at hj
      cases hj
  · have h : ((List.range prs.length).map fun j => ((f j).2.1, (f j).2.2))[i]? = some (key, v) := h
    rw [List.getElem?_map] at h
    by_cases hl2 : i < prs.length
    · rw [List.getElem?_range hl2] at h
      obtain ⟨q', hq'⟩ := hat i hl2
      obtain ⟨_, _, g3, g4⟩ := hf i q' hq'
      have hj := Option.some.inj h
      have e1 : (f i).2.1 = key := congrArg Prod.fst hj
      have e2 : (f i).2.2 = v := congrArg Prod.snd hj
      refine ⟨q'.1, ?_, ?_⟩
      · rw [hq', ← e2, g4]
      · rw [← e1]
        exact g3
    · rw [List.getElem?_eq_none (by simpa using hl2)] at h
      cases h
end Kx
/-! KxNe: two tuples of equal items, compared by !=, by ==; items at any depth, dicts too. -/
namespace Kx
open PySem PySem.Spec PyProof.Rows L2
section
open PySem.SeqAt AutoSeq1 MeetsSeq MeetsSeq2 MeetsSeq3
variable {prog : Program} {w : World} {A : Around} {R : Result → Shared → Prop}
/-- tuple.__ne__ of two tuples whose items are equal -/
theorem tup_ne_run {l b : Addr} {xs ys : Array Value} {n m : Nat} {dx dy : Option Addr} {sx sy : Array (Option Value)} (hsz : xs.size = ys.size) {s : Shared}
    (he : ∀ i (h1 : i < xs.size) (h2 : i < ys.size), EqP prog w A.in1 s xs[i] ys[i] true)
    (hx : s.heap.get? l = some { cls := .type "tuple", dict := dx, data := .seq xs n, slots := sx })
    (hy : s.heap.get? b = some { cls := .type "tuple", dict := dy, data := .seq ys m, slots := sy }) (q : R (.ok (.ret (.bool false))) s) :
    wpAny (model prog w) A.in1 (Builtin.«tuple.__ne__» ⟨[.ref l, .ref b], []⟩) (GQ.FinOf prog w A R) (fun e s' => R (.error e) s') s := by
  have tt := AutoSeq1.sub_tuple_tuple
  have zl : (xs.toList.zip ys.toList).length = xs.size := by simp [hsz]
  have q0 := q
  obtain ⟨hp, g, d, tk, os⟩ := s
  wp_walk using wpAny_loadPart' hx, wpAny_loadPart' hy, wpAny_forIn_list _ (fun rest z s' => z.1 = none ∧ s' = ⟨hp, g, d, tk, os⟩ ∧ ∃ i, rest = (xs.toList.zip ys.toList).drop i ∧ i ≤ xs.size) _
  case turn =>
    rintro ⟨y, x⟩ rest z s' ⟨hz1, rfl, i, hz, hi⟩
    have il : i < (xs.toList.zip ys.toList).length := by
      by_cases h' : i < (xs.toList.zip ys.toList).length
      · exact h'
      · exfalso
        rw [List.drop_of_length_le (Nat.le_of_not_lt h')] at hz
        cases hz
    have i1 : i < xs.size := by omega
    have i2 : i < ys.size := by omega
    rw [List.drop_eq_getElem_cons il] at hz
    injection hz with e1 e2
    have ey : y = xs[i] := by
      have := congrArg Prod.fst e1
      simpa using this
    have ex : x = ys[i] := by
      have := congrArg Prod.snd e1
      simpa using this
    subst ey ex
    refine wpAny_bind (he i i1 i2 _ _ ?_)
    wp_walk
    exact ⟨rfl, rfl, i + 1, e2, i1⟩
  case fin =>
    rintro ⟨z1, z2⟩ s' ⟨hz1, rfl, i, hz, hi⟩
    simp only at hz1
    subst hz1
    wp_walk
    have ne : (xs.size != ys.size) = false := by rw [hsz]; simp
    simpa [Builtin.Tuple.tupleCompareSizes, hsz] using q0
  case h =>
    exact ⟨rfl, rfl, 0, rfl, Nat.zero_le _⟩
end
/-! ### equal at any depth: scalars, lists, tuples, dicts -/
def SqX (K : PySem.W.Frag) (H : Hp) (E : V → V → Prop) (x y : V) : Prop :=
  EqR K H E x y ∨ ∃ a b xs ys, x = .ref a ∧ y = .ref b ∧ SqT K H a xs ∧ SqT K H b ys ∧ Paired E xs ys
def EqX (K : PySem.W.Frag) (H : Hp) : Nat → V → V → Prop
  | 0 => fun _ _ => False
  | n + 1 => fun x y => (x = y ∧ flatB x = true) ∨ (∃ a, x = .ref a ∧ y = .ref a) ∨ SqX K H (EqX K H n) x y
section
variable {X : Cx} {pins : List (Addr × Obj)} {σ : L2.St} {H : Hp} {s : Shared}
theorem tup_facts {us ws : List Value} {xs ys : List V} {F : V → V → Prop} {A : Around} (ih : ∀ x y v u, F x y → RelV x v → RelV y u → SeqAt.EqP X.prog X.w A s v u true) (hp : Paired F xs ys)
    (r1 : Vals xs us) (r2 : Vals ys ws) : us.toArray.size = ws.toArray.size ∧ ∀ i (h1 : i < us.toArray.size) (h2 : i < ws.toArray.size), SeqAt.EqP X.prog X.w A s us.toArray[i] ws.toArray[i] true := by
  refine ⟨?_, fun j h1 h2 => ?_⟩
  · rw [List.size_toArray, List.size_toArray, ← r1.length, ← r2.length]
    exact Paired.length hp
  · have k := items_run ih hp r1 r2 j (by simpa using h1) (by simpa using h2)
    simpa using k
theorem isTuple_of {h : Heap} {a : Addr} {its : Array Value} (t : IsTup h a its) : ∃ (dx : Option Addr) (n : Nat) (sx : Array (Option Value)), h.get? a = some { cls := .type "tuple", dict := dx, data := .seq its n, slots := sx } := by
  obtain ⟨⟨c, dx, dt, sx⟩, h1, h2, n, h3⟩ := t
  simp only at h2 h3
  subst h2 h3
  exact ⟨dx, n, sx, h1⟩
theorem sqX_run (I : Inv X pins σ H s) {A : Around} {F : V → V → Prop} (hu : A.units < cLine) (ih : ∀ x y v u, F x y → RelV x v → RelV y u → SeqAt.EqP X.prog X.w A.in1 s v u true) {x y : V} {v u : Value} (h : SqX X.K H F x y) (rx : RelV x v) (ry : RelV y u)
    (E Q : Value → Shared → Prop) (q : Q (.bool true) s) : wpAny (model X.prog X.w) A (richCompare .Eq v u) Q E s := by
  rcases h with h | ⟨a, b, xs, ys, rfl, rfl, ha, hb, hp⟩
  · exact eqR_run I hu ih h rx ry E Q q
  · cases (show v = Value.ref a from rx)
    cases (show u = Value.ref b from ry)
    obtain ⟨us, r1, p1, _⟩ := I.tuple ha
    obtain ⟨ws, r2, p2, _⟩ := I.tuple hb
    obtain ⟨hsz, he⟩ := tup_facts ih hp r1 r2
    refine GQ.rc_tupG hsz hu (fun _ s' => s' = s) p1 p2 (fun i h1 h2 s' e => ?_) (fun s' e => ?_) rfl
    · subst e
      exact he i h1 h2 _ _ ⟨rfl, rfl⟩
    · subst e
      exact q
theorem eqX_run (I : Inv X pins σ H s) : ∀ (n : Nat) (A : Around), A.units + n < cLine → ∀ (x y : V) (v u : Value), EqX X.K H n x y → RelV x v → RelV y u → SeqAt.EqP X.prog X.w A s v u true
  | 0, _, _, _, _, _, _, h, _, _ => (show False from h).elim
  | n + 1, A, hu, x, y, v, u, h, rx, ry => by
    rcases h with ⟨rfl, f⟩ | ⟨a, rfl, rfl⟩ | h
    · exact (eqAt_same rx ry f).eqP
    · cases (show v = Value.ref a from rx)
      cases (show u = Value.ref a from ry)
      exact (SeqAt.EqAt.same _).eqP
    · have step := sqX_run I (A := A) (by omega) (eqX_run I n A.in1 (by show A.units + 1 + n < cLine; omega)) h rx ry
      obtain ⟨a, b, rfl, rfl⟩ : ∃ a b, x = .ref a ∧ y = .ref b := by
        rcases h with (⟨a, b, _, _, e1, e2, _⟩ | ⟨a, b, _, _, e1, e2, _⟩) | ⟨a, b, _, _, e1, e2, _⟩
        · exact ⟨a, b, e1, e2⟩
        · exact ⟨a, b, e1, e2⟩
        · exact ⟨a, b, e1, e2⟩
      cases (show v = Value.ref a from rx)
      cases (show u = Value.ref b from ry)
      by_cases e : a = b
      · subst e
        exact (SeqAt.EqAt.same _).eqP
      · exact SeqAt.eqP_refs e step
/-- x != y of two tuples whose items are equal at any depth: False -/
def rNeX (K : PySem.W.Frag) : R2 := fun x y H Q => ∃ n a b xs ys, n ≤ 60 ∧ x = .ref a ∧ y = .ref b ∧ SqT K H a xs ∧ SqT K H b ys ∧ Paired (EqX K H n) xs ys ∧ Q (.bl false) H
theorem op_neX {X : Cx} (hu : X.A.units + 64 < cLine) : OpR X (compareOp .NotEq) (rNeX X.K) := by
  intro pins s σ H x y v u Q I rx ry h
  obtain ⟨n, a, b, xs, ys, hn, rfl, rfl, ha, hb, hp, q⟩ := h
  cases (show v = Value.ref a from rx)
  cases (show u = Value.ref b from ry)
  obtain ⟨us, r1, p1, _⟩ := I.tuple ha
  obtain ⟨ws, r2, p2, _⟩ := I.tuple hb
  obtain ⟨hsz, he⟩ := tup_facts (A := X.A.in1) (eqX_run I n X.A.in1 (by show X.A.units + 1 + n < cLine; omega)) hp r1 r2
  obtain ⟨d1, n1, s1, g1⟩ := isTuple_of p1
  obtain ⟨d2, n2, s2, g2⟩ := isTuple_of p2
  refine wpAny_richCompare_same_room (op := .NotEq) ⟨_, g1, rfl⟩ ⟨_, g2, rfl⟩ PySem.F.slot_tuple_ne (GQ.call_here PySem.F.slot_tuple_ne ⟨_, g1, rfl⟩ PySem.F.entry_tuple_ne (PySem.F.args_tuple_ne_2 _ _) ?_) (by omega)
  exact tup_ne_run (R := wants (fun v s' => v ≠ .notImplemented ∧ EP X pins σ Q v s') X.xe) hsz he g1 g2 ⟨(fun x => nomatch x), .bl false, H, I, rfl, q⟩
end
end Kx
/-! Kx1: one step of a reading by its head; the walk that takes them in turn. -/
namespace Kx
open PySem PySem.Spec PyProof.Rows L2
/-! ### heaps -/
/-- a new object at p, all else as it was -/
def New (H : Hp) (p : Addr) (o : HO) (H' : Hp) : Prop := H p = none ∧ Same H H' ∧ H' p = some o
theorem New.upd {H : Hp} {p : Addr} {o : HO} (h : H p = none) : New H p o (upd H p o) := ⟨h, fun b u e => by rw [upd_ne (ne_of_none e h)]; exact e, upd_same⟩
theorem same_upd {H : Hp} {p : Addr} {o : HO} (h : H p = none) : Same H (upd H p o) := (New.upd (o := o) h).2.1
theorem New.put {H H' : Hp} {p : Addr} {o u : HO} (h : New H p o H') : New H p u (L2.upd H' p u) := ⟨h.1, fun b w e => by rw [upd_ne (ne_of_none e h.1)]; exact h.2.1 _ _ e, upd_same⟩
theorem New.trans {H H' H2 : Hp} {p : Addr} {o : HO} (h : New H p o H') (s : Same H' H2) : New H p o H2 := ⟨h.1, h.2.1.trans s, s _ _ h.2.2⟩
/-- what does not lie in F is as it was -/
def Keep (F : List Addr) (H H' : Hp) : Prop := ∀ b o, H b = some o → b ∉ F → H' b = some o
theorem Keep.of_same {F : List Addr} {H H' : Hp} (h : Same H H') : Keep F H H' := fun b o e _ => h b o e
theorem Keep.refl (F : List Addr) (H : Hp) : Keep F H H := fun _ _ e _ => e
theorem Keep.trans {F : List Addr} {H H1 H2 : Hp} (a : Keep F H H1) (b : Keep F H1 H2) : Keep F H H2 := fun c o e n => b c o (a c o e n) n
theorem Keep.mono {F G : List Addr} {H H' : Hp} (a : Keep F H H') (h : ∀ b ∈ F, b ∈ G) : Keep G H H' := fun c o e n => a c o e fun m => n (h c m)
theorem Keep.upd {F : List Addr} {H : Hp} {p : Addr} {o : HO} (h : p ∈ F) : Keep F H (upd H p o) := fun b u e n => by
  rw [upd_ne fun z => n (by rw [z]; exact h)]
  exact e
theorem Keep.same {H H' : Hp} (a : Keep [] H H') : Same H H' := fun b o e => a b o e (by simp)
theorem upd_eq {H : Hp} {p : Addr} {o u : HO} (e : o = u) : upd H p o = upd H p u := by rw [e]
theorem Same.tup {K : PySem.W.Frag} {H H' : Hp} {a : Addr} {xs : List V} (e : Same H H') (h : SqT K H a xs) : SqT K H' a xs := by
  rcases h with (h | ⟨o, h⟩) | h
  · exact .inl (.inl (e _ _ h))
  · exact .inl (.inr ⟨o, e _ _ h⟩)
  · exact .inr h

section
variable {X : Cx} {K : PySem.W.Frag} {σ : L2.St} {H : Hp} {Q : VK} {v x y : V} {ta tb tc te to tk tv : TE} {t u : TT} {t1 t2 ts : TS} {D : Ends} {tl : TA} {tr : TA} {i j : Nat} {a b n : Int} {p d l C dx : Addr} {f m : Str} {fs : List (Str × V)} {xs ys : List V} {r r2 : R2} {g : TG} {gs : TGs} {E : XK} {sp : Sp} {kvs : List (Key × V)}
/-! ### expressions -/
theorem xVar (h : σ[i]? = some (some v)) (q : Q v H) : tVar i σ H Q := ⟨v, h, q⟩
theorem xC (q : Q v H) : tC v σ H Q := q
theorem xOp (h : ta σ H fun x H1 => tb σ H1 fun y H2 => r x y H2 Q) : tOp r ta tb σ H Q := h
theorem xUn {r : V → Hp → VK → Prop} (h : ta σ H fun x H1 => r x H1 Q) : tUn r ta σ H Q := h
theorem xI0 {g : Int → Int → V} (q : Q (g a b) H) : rI0 g (.int a) (.int b) H Q := ⟨a, b, rfl, rfl, q⟩
theorem xI {c : Int → Int → Prop} {g : Int → Int → V} (h : c a b) (q : Q (g a b) H) : rI c g (.int a) (.int b) H Q := ⟨a, b, rfl, rfl, h, q⟩
theorem xU {g : Int → V} (q : Q (g a) H) : rU g (.int a) H Q := ⟨a, rfl, q⟩
theorem xEqI (q : Q (.bl (decide (a = b))) H) : rEq (.int a) (.int b) H Q := ⟨rfl, by
  have e : decide (V.int a = V.int b) = decide (a = b) := by simp
  rw [e]
  exact q⟩
theorem xNeI (q : Q (.bl (!decide (a = b))) H) : rNe (.int a) (.int b) H Q := ⟨rfl, by
  have e : decide (V.int a = V.int b) = decide (a = b) := by simp
  rw [e]
  exact q⟩
theorem xEqB {a b : Bool} (q : Q (.bl (decide (a = b))) H) : rEq (.bl a) (.bl b) H Q := ⟨rfl, by
  have e : decide (V.bl a = V.bl b) = decide (a = b) := by simp
  rw [e]
  exact q⟩
theorem xNeB {a b : Bool} (q : Q (.bl (!decide (a = b))) H) : rNe (.bl a) (.bl b) H Q := ⟨rfl, by
  have e : decide (V.bl a = V.bl b) = decide (a = b) := by simp
  rw [e]
  exact q⟩
theorem xEqS {a b : Str} (q : Q (.bl (decide (a = b))) H) : rEq (.str a) (.str b) H Q := ⟨rfl, by
  have e : decide (V.str a = V.str b) = decide (a = b) := by simp
  rw [e]
  exact q⟩
theorem xNeS {a b : Str} (q : Q (.bl (!decide (a = b))) H) : rNe (.str a) (.str b) H Q := ⟨rfl, by
  have e : decide (V.str a = V.str b) = decide (a = b) := by simp
  rw [e]
  exact q⟩
theorem xIsN (h : ta σ H fun x H1 => Q (.bl (decide (x = .non))) H1) : tIsN ta σ H Q := h
theorem xNotN (h : ta σ H fun x H1 => Q (.bl (!decide (x = .non))) H1) : tNotN ta σ H Q := h
theorem xChain (h : ta σ H fun x H1 => tb σ H1 fun y H2 => r x y H2 fun z H3 => ∃ k, z = .bl k ∧ (if k = true then tc σ H3 fun w' H4 => r2 y w' H4 Q else Q (.bl false) H3)) : tChain r r2 ta tb tc σ H Q := h
theorem xIf (h : t σ H fun c H1 => if c = true then ta σ H1 Q else tb σ H1 Q) : tIf t ta tb σ H Q := h
theorem xAndV (h : ta σ H fun x H1 => ∃ c, x = .bl c ∧ if c = true then tb σ H1 Q else Q (.bl false) H1) : tAndV ta tb σ H Q := h
theorem xOrV (h : ta σ H fun x H1 => ∃ c, x = .bl c ∧ if c = true then Q (.bl true) H1 else tb σ H1 Q) : tOrV ta tb σ H Q := h
theorem xNotV (h : ta σ H fun x H1 => ∃ c, x = .bl c ∧ Q (.bl (!c)) H1) : tNotV ta σ H Q := h
theorem xBl {c : Bool} {P : Bool → Prop} (h : P c) : ∃ k, V.bl c = .bl k ∧ P k := ⟨c, rfl, h⟩
/-! ### tests -/
theorem xTest {Q : Bool → Hp → Prop} (h : te σ H fun x H' => ∃ k, x = .bl k ∧ Q k H') : tTest te σ H Q := h
theorem xB {Q : Bool → Hp → Prop} (h : te σ H fun x H' => ∃ k, x = .bl k ∧ Q k H') : tB te σ H Q := h
theorem xAnd {Q : Bool → Hp → Prop} (h : t σ H fun c H1 => if c = true then u σ H1 Q else Q false H1) : tAnd t u σ H Q := h
theorem xOr {Q : Bool → Hp → Prop} (h : t σ H fun c H1 => if c = true then Q true H1 else u σ H1 Q) : tOr t u σ H Q := h
theorem xNot {Q : Bool → Hp → Prop} (h : t σ H fun c H1 => Q (!c) H1) : tNot t σ H Q := h
theorem xYes {Q : Bool → Hp → Prop} (q : Q true H) : tYes σ H Q := q
/-! ### arguments, displays -/
theorem xNil {Q : List V → Hp → Prop} (q : Q [] H) : tNil σ H Q := q
theorem xCons {Q : List V → Hp → Prop} (h : te σ H fun x H1 => tl σ H1 fun xs H2 => Q (x :: xs) H2) : tCons te tl σ H Q := h
theorem xTup (h : tl σ H fun xs H1 => xs.length ≤ sizeLine ∧ ∀ p, H1 p = none → Q (.ref p) (upd H1 p (.tup xs))) : tTup tl σ H Q := h
theorem xLst (h : tl σ H fun xs H1 => xs.length ≤ sizeLine ∧ ∀ p, H1 p = none → Q (.ref p) (upd H1 p (.lst xs))) : tLst tl σ H Q := h
theorem xCB {r : List V → Hp → VK → Prop} (h : tl σ H fun vs H1 => r vs H1 Q) : tCB r tl σ H Q := h
theorem xInt1I (q : Q (.int a) H) : rInt1 [.int a] H Q := .inl ⟨a, rfl, q⟩
theorem xInt1B {c : Bool} (q : Q (.int (if c then 1 else 0)) H) : rInt1 [.bl c] H Q := .inr ⟨c, rfl, q⟩
theorem xAbs (q : Q (.int (if a < 0 then -a else a)) H) : rAbs [.int a] H Q := ⟨a, rfl, q⟩
theorem xMin2 (q : Q (.int (if b < a then b else a)) H) : rMin2 [.int a, .int b] H Q := ⟨a, b, rfl, q⟩
theorem xMax2 (q : Q (.int (if b > a then b else a)) H) : rMax2 [.int a, .int b] H Q := ⟨a, b, rfl, q⟩
theorem xLenL (h : SqL K H p xs) (q : Q (.int (xs.length : Int)) H) : rLen K [.ref p] H Q := ⟨_, xs.length, rfl, .inl ⟨xs, h, rfl⟩, q⟩
theorem xLenT (h : SqT K H p xs) (q : Q (.int (xs.length : Int)) H) : rLen K [.ref p] H Q := ⟨_, xs.length, rfl, .inr ⟨xs, h, rfl⟩, q⟩
theorem xSum {ns : List Int} (h : SqL K H p (ns.map V.int)) (q : Q (.int ns.sum) H) : rSum K [.ref p] H Q := ⟨p, ns, rfl, h, q⟩
/-! ### fields, places -/
def rFld (K : PySem.W.Frag) (f : Str) : V → Hp → VK → Prop := fun x H1 Q => ∃ a C dx fs v, x = .ref a ∧ H1 a = some (.ins C dx fs) ∧ Cls K C ∧ NoAttr K C f ∧ fs.lookup f = some v ∧ Q v H1
theorem xFld (h : ta σ H fun x H1 => rFld K f x H1 Q) : tFld K ta f σ H Q := h
theorem yFld (h : H p = some (.ins C dx fs)) (c : Cls K C) (n : NoAttr K C f) (lk : fs.lookup f = some v) (q : Q v H) : rFld K f (.ref p) H Q := ⟨p, C, dx, fs, v, rfl, h, c, n, lk, q⟩
def rFldS (K : PySem.W.Frag) (f : Str) (y : V) (D : Ends) (σ : L2.St) : V → Hp → Prop := fun x H2 => ∃ a C dx fs, x = .ref a ∧ H2 a = some (.ins C dx fs) ∧ Cls K C ∧ NoAttr K C f ∧ fs.length < 1000 ∧ D.nx σ (upd H2 a (.ins C dx (putF f y fs)))
theorem xFldS (h : tv σ H fun y H1 => ta σ H1 fun x H2 => rFldS K f y D σ x H2) : sFld K ta tv f D σ H := h
theorem yFldS (h : H p = some (.ins C dx fs)) (c : Cls K C) (n : NoAttr K C f) (lk : fs.length < 1000) (q : D.nx σ (upd H p (.ins C dx (putF f y fs)))) : rFldS K f y D σ (.ref p) H := ⟨p, C, dx, fs, rfl, h, c, n, lk, q⟩
def rDG : R2 := fun x y H2 Q => ∃ a v, x = .ref a ∧ DGet H2 a y (some v) ∧ Q v H2
theorem xDG (h : ta σ H fun x H1 => tb σ H1 fun y H2 => rDG x y H2 Q) : tDGet ta tb σ H Q := h
theorem yDGs {z : Str} (h : Rd H d (.dK kvs)) (e : valV kvs (Sum.inr z) = some v) (q : Q v H) : rDG (.ref d) (.str z) H Q := ⟨d, v, rfl, .inl ⟨kvs, Sum.inr z, h, rfl, e.symm⟩, q⟩
theorem yDGi (h : Rd H d (.dK kvs)) (e : valV kvs (Sum.inl a) = some v) (q : Q v H) : rDG (.ref d) (.int a) H Q := ⟨d, v, rfl, .inl ⟨kvs, Sum.inl a, h, rfl, e.symm⟩, q⟩
def rDP (v : V) (D : Ends) (σ : L2.St) : V → V → Hp → Prop := fun x y H3 => ∃ a H4, x = .ref a ∧ DPut H3 a y v H4 ∧ D.nx σ H4
theorem xDP (h : tv σ H fun v H1 => ta σ H1 fun x H2 => tb σ H2 fun y H3 => rDP v D σ x y H3) : sDPut ta tb tv D σ H := h
theorem yDPs {z : Str} (h : H d = some (.dK kvs)) (hl : kvs.length < sizeLine) (q : D.nx σ (upd H d (.dK (putK kvs (Sum.inr z) v)))) : rDP v D σ (.ref d) (.str z) H := ⟨d, _, rfl, DPut.k (k := Sum.inr z) h hl, q⟩
theorem yDPi (h : H d = some (.dK kvs)) (hl : kvs.length < sizeLine) (q : D.nx σ (upd H d (.dK (putK kvs (Sum.inl a) v)))) : rDP v D σ (.ref d) (.int a) H := ⟨d, _, rfl, DPut.k (k := Sum.inl a) h hl, q⟩
theorem yIxL (h : SqL K H p xs) (e : atI xs a = some v) (q : Q v H) : rIxL K (.ref p) (.int a) H Q := ⟨p, xs, a, v, rfl, rfl, h, e, q⟩
theorem yIxT (h : SqT K H p xs) (e : atI xs a = some v) (q : Q v H) : rIxT K (.ref p) (.int a) H Q := ⟨p, xs, a, v, rfl, rfl, h, e, q⟩
/-! ### calls -/
theorem xCall {dvs : List V} (h : tl σ H fun vs H1 => sp (vs ++ dvs) H1 Q E) : tCall sp dvs E tl σ H Q := h
def rMeth (m : Str) (σ : L2.St) (tl : TA) (sp : Sp) (dvs : List V) (E : XK) : V → Hp → VK → Prop := fun x H1 Q => ∃ a dx fs, x = .ref a ∧ (∃ C, H1 a = some (.ins C dx fs)) ∧ fs.lookup m = none ∧ tl σ H1 fun vs H2 => sp (x :: (vs ++ dvs)) H2 Q E
theorem yMeth {dvs : List V} (h : ta σ H fun x H1 => ∃ a dx fs, x = .ref a ∧ H1 a = some (.ins C dx fs) ∧ fs.lookup m = none ∧ tl σ H1 fun vs H2 => sp (x :: (vs ++ dvs)) H2 Q E) : tMeth C m sp dvs E ta tl σ H Q := h
theorem xBM {T : String} {r : V → List V → Hp → VK → Prop} (h : ta σ H fun x H1 => tyV K T x H1 ∧ tl σ H1 fun xs H2 => r x xs H2 Q) : tBM K T r ta tl σ H Q := h
theorem xBM0 {T : String} {r : V → List V → Hp → VK → Prop} (h : ta σ H fun x H1 => tyV K T x H1 ∧ r x [] H1 Q) : tBM0 K T r ta σ H Q := h
theorem yAppend (h : H l = some (.lst xs)) (hl : xs.length < sizeLine) (q : Q .non (upd H l (.lst (xs ++ [v])))) : rAppend (.ref l) [v] H Q := ⟨l, xs, v, rfl, rfl, h, hl, q⟩
theorem tyL (h : H l = some (.lst xs)) : tyV K "list" (.ref l) H := .inl ⟨rfl, xs, SqL.of h⟩
theorem tyD (h : H d = some (.dK kvs)) : tyV K "dict" (.ref d) H := .inr (.inr (.inl ⟨rfl, .inl ⟨kvs, h⟩⟩))
theorem yCat {b : Addr} (h : H l = some (.lst xs)) (h2 : H b = some (.lst ys)) (hl : xs.length + ys.length ≤ sizeLine) (q : ∀ p, H p = none → Q (.ref p) (upd H p (.lst (xs ++ ys)))) : rCat (.ref l) (.ref b) H Q := ⟨l, b, xs, ys, rfl, rfl, h, h2, hl, q⟩
theorem yRep (h : H l = some (.lst xs)) (h1 : -(2 ^ 63) ≤ a) (h2 : a < 2 ^ 63) (hl : xs.length * a.toNat ≤ sizeLine) (q : ∀ p, H p = none → Q (.ref p) (upd H p (.lst (List.replicate a.toNat xs).flatten))) : rRep (.ref l) (.int a) H Q := ⟨l, a, xs, rfl, rfl, h, h1, h2, hl, q⟩
/-! ### statements -/
theorem xSeq (h : t1 { D with nx := t2 D } σ H) : tSeq t1 t2 D σ H := h
theorem xNext (q : D.nx σ H) : tNext D σ H := q
theorem xAsg (h : te σ H fun x H1 => g x σ H1 D.nx) : tAsg te g D σ H := h
theorem xNm {Q : L2.St → Hp → Prop} (q : Q (σ.set i (some v)) H) : gName i v σ H Q := q
theorem xDrop (h : te σ H fun _ H1 => D.nx σ H1) : tDrop te D σ H := h
theorem xRet (h : te σ H D.rt) : tRet te D σ H := h
theorem xRetN (q : D.rt .non H) : tRetN D σ H := q
theorem xIfS (h : t σ H fun b H1 => if b = true then t1 D σ H1 else t2 D σ H1) : tIfS t t1 t2 D σ H := h
theorem xPar (h : tl σ H fun vs H1 => ∃ v w, vs = [v, w] ∧ D.nx ((σ.set i (some v)).set j (some w)) H1) : tPar i j tl D σ H := h
theorem xPar3 {k : Nat} (h : tl σ H fun vs H1 => ∃ u v w, vs = [u, v, w] ∧ D.nx (((σ.set i (some u)).set j (some v)).set k (some w)) H1) : tPar3 i j k tl D σ H := h
theorem yPar {P : V → V → Prop} (q : P x y) : ∃ v w, [x, y] = [v, w] ∧ P v w := ⟨x, y, rfl, q⟩
theorem yPar3 {z : V} {P : V → V → V → Prop} (q : P x y z) : ∃ u v w, [x, y, z] = [u, v, w] ∧ P u v w := ⟨x, y, z, rfl, q⟩
theorem yGT {Q : L2.St → Hp → Prop} {k : Nat} (h : SqT K H p xs) (hl : xs.length = k) (q : gs xs σ H Q) : gTup K k gs (.ref p) σ H Q := ⟨p, xs, rfl, h, hl, q⟩
theorem xGNil {Q : L2.St → Hp → Prop} (q : Q σ H) : gNil [] σ H Q := ⟨rfl, q⟩
theorem xGCons {Q : L2.St → Hp → Prop} (q : g v σ H fun σ' H' => gs xs σ' H' Q) : gCons g gs (v :: xs) σ H Q := ⟨v, xs, rfl, q⟩
theorem xGSub {Q : L2.St → Hp → Prop} {ts : TSet} (h : ta σ H fun o H1 => tb σ H1 fun i H2 => ts o i v H2 fun H3 => Q σ H3) : gSub ta tb ts v σ H Q := h
theorem xSetD {Q : Hp → Prop} (h : ∃ H', DPut H d y v H' ∧ Q H') : rSetD (.ref d) y v H Q := by
  obtain ⟨H', h1, h2⟩ := h
  exact ⟨d, H', rfl, h1, h2⟩
end
/-! ### for -/
section
variable {K : PySem.W.Frag} {σ : L2.St} {H : Hp} {D : Ends} {g : TG} {tb : TS} {ta : TE} {tl : TA}
/-- over a list, by a word of the turn -/
theorem xForL {a : Addr} {xs : List V} (Pv : Nat → L2.St → Hp → Prop) (h : ta σ H fun x H1 => x = .ref a ∧ SqL K H1 a xs ∧ Pv 0 σ H1) (hl : ∀ i σ H, i ≤ xs.length → Pv i σ H → SqL K H a xs)
    (hs : ∀ i x σ H, xs[i]? = some x → Pv i σ H → g x σ H fun σ2 H2 => tb { D with nx := Pv (i + 1), ct := Pv (i + 1), bk := D.nx } σ2 H2) (hd : ∀ σ H, Pv xs.length σ H → D.nx σ H)
    (mono : ∀ Q Q' : VK, (∀ x H1, Q x H1 → Q' x H1) → ta σ H Q → ta σ H Q') : tFor (iList K ta) g tb D σ H :=
  mono _ _ (fun x H1 ⟨e, hq, h0⟩ => ⟨a, e, ⟨xs, hq⟩, for_list Pv h0 hl hs hd⟩) h
theorem yForL {a : Addr} {xs : List V} (hq : SqL K H a xs) (Pv : Nat → L2.St → Hp → Prop) (h0 : Pv 0 σ H) (hl : ∀ i σ H, i ≤ xs.length → Pv i σ H → SqL K H a xs)
    (hs : ∀ i x σ H, xs[i]? = some x → Pv i σ H → g x σ H fun σ2 H2 => tb { D with nx := Pv (i + 1), ct := Pv (i + 1), bk := D.nx } σ2 H2) (hd : ∀ σ H, Pv xs.length σ H → D.nx σ H) :
    ∃ c, V.ref a = .ref c ∧ (∃ ys, SqL K H c ys) ∧ ∃ W : Nat → Nat → L2.St → Hp → Prop, (∃ m, W 0 m σ H) ∧ ∀ i m σ H, W i m σ H → ((Itl K c).stop i H ∧ D.nx σ H) ∨ ((Itl K c).go i H ∧ ∃ N : L2.St → Hp → Prop, (∀ σ' H', N σ' H' → ∃ m', m' < m ∧ W (i + 1) m' σ' H') ∧
      ∀ x H', (Itl K c).yld i H x H' → g x σ H' fun σ2 H2 => tb { D with nx := N, ct := N, bk := D.nx } σ2 H2) := ⟨a, rfl, ⟨xs, hq⟩, for_list Pv h0 hl hs hd⟩
theorem xForLU (h : ta σ H fun x H1 => ∃ a, x = .ref a ∧ (∃ xs, SqL K H1 a xs) ∧ ∃ W : Nat → Nat → L2.St → Hp → Prop, (∃ m, W 0 m σ H1) ∧ ∀ i m σ H, W i m σ H → ((Itl K a).stop i H ∧ D.nx σ H) ∨ ((Itl K a).go i H ∧ ∃ N : L2.St → Hp → Prop, (∀ σ' H', N σ' H' → ∃ m', m' < m ∧ W (i + 1) m' σ' H') ∧
      ∀ x H', (Itl K a).yld i H x H' → g x σ H' fun σ2 H2 => tb { D with nx := N, ct := N, bk := D.nx } σ2 H2)) : tFor (iList K ta) g tb D σ H := h
/-- over range(n) -/
theorem xForR1 (h : tl σ H fun vs H1 => ∃ j : Int, vs = [.int j] ∧ (-(2 ^ 62) ≤ j ∧ j < 2 ^ 62) ∧ ∃ W : Nat → Nat → L2.St → Hp → Prop, (∃ m, W 0 m σ H1) ∧ ∀ i m σ H, W i m σ H → ((Itr 0 j.toNat).stop i H ∧ D.nx σ H) ∨ ((Itr 0 j.toNat).go i H ∧ ∃ N : L2.St → Hp → Prop, (∀ σ' H', N σ' H' → ∃ m', m' < m ∧ W (i + 1) m' σ' H') ∧
      ∀ x H', (Itr 0 j.toNat).yld i H x H' → g x σ H' fun σ2 H2 => tb { D with nx := N, ct := N, bk := D.nx } σ2 H2)) (mono : ∀ Q Q' : List V → Hp → Prop, (∀ x H1, Q x H1 → Q' x H1) → tl σ H Q → tl σ H Q') : tFor (iRng1 tl) g tb D σ H :=
  mono _ _ (fun vs H1 ⟨j, e, ⟨b1, b2⟩, r⟩ => ⟨j, e, b1, b2, r⟩) h
theorem xForR1U (h : tl σ H fun vs H1 => ∃ j : Int, vs = [.int j] ∧ -(2 ^ 62) ≤ j ∧ j < 2 ^ 62 ∧ ∃ W : Nat → Nat → L2.St → Hp → Prop, (∃ m, W 0 m σ H1) ∧ ∀ i m σ H, W i m σ H → ((Itr 0 j.toNat).stop i H ∧ D.nx σ H) ∨ ((Itr 0 j.toNat).go i H ∧ ∃ N : L2.St → Hp → Prop, (∀ σ' H', N σ' H' → ∃ m', m' < m ∧ W (i + 1) m' σ' H') ∧
      ∀ x H', (Itr 0 j.toNat).yld i H x H' → g x σ H' fun σ2 H2 => tb { D with nx := N, ct := N, bk := D.nx } σ2 H2)) : tFor (iRng1 tl) g tb D σ H := h
theorem yForR1 {j : Int} {n : Nat} (e : j = (n : Int)) (hn : n < 2 ^ 62) (Pv : Nat → L2.St → Hp → Prop) (h0 : Pv 0 σ H)
    (hs : ∀ (i : Nat) σ H, i < n → Pv i σ H → g (.int (i : Int)) σ H fun σ2 H2 => tb { D with nx := Pv (i + 1), ct := Pv (i + 1), bk := D.nx } σ2 H2) (hd : ∀ σ H, Pv n σ H → D.nx σ H) :
    ∃ k : Int, [V.int j] = [.int k] ∧ -(2 ^ 62) ≤ k ∧ k < 2 ^ 62 ∧ ∃ W : Nat → Nat → L2.St → Hp → Prop, (∃ m, W 0 m σ H) ∧ ∀ i m σ H, W i m σ H → ((Itr 0 k.toNat).stop i H ∧ D.nx σ H) ∨ ((Itr 0 k.toNat).go i H ∧ ∃ N : L2.St → Hp → Prop, (∀ σ' H', N σ' H' → ∃ m', m' < m ∧ W (i + 1) m' σ' H') ∧
      ∀ x H', (Itr 0 k.toNat).yld i H x H' → g x σ H' fun σ2 H2 => tb { D with nx := N, ct := N, bk := D.nx } σ2 H2) := by
  subst e
  refine ⟨(n : Int), rfl, by omega, by omega, ?_⟩
  rw [show ((n : Int)).toNat = n from by omega]
  refine for_range (lo := 0) (n := n) Pv h0 (fun i σ H hi h => ?_) hd
  rw [Int.zero_add]
  exact hs i σ H hi h
/-- over enumerate(xs), the target a pair of names -/
theorem xForEU (h : tl σ H fun vs H1 => ∃ a xs, vs = [.ref a] ∧ SqL K H1 a xs ∧ ∃ W : Nat → Nat → L2.St → Hp → Prop, (∃ m, W 0 m σ H1) ∧ ∀ i m σ H, W i m σ H → ((Ite K a).stop i H ∧ D.nx σ H) ∨ ((Ite K a).go i H ∧ ∃ N : L2.St → Hp → Prop, (∀ σ' H', N σ' H' → ∃ m', m' < m ∧ W (i + 1) m' σ' H') ∧
      ∀ x H', (Ite K a).yld i H x H' → g x σ H' fun σ2 H2 => tb { D with nx := N, ct := N, bk := D.nx } σ2 H2)) : tFor (iEnum K tl) g tb D σ H := h
theorem for_enum {a : Addr} {xs : List V} (Pv : Nat → L2.St → Hp → Prop) (h0 : Pv 0 σ H) (hl : ∀ i σ H, i ≤ xs.length → Pv i σ H → SqL K H a xs)
    (hs : ∀ (i : Nat) (x : V) (T : Addr) σ H, xs[i]? = some x → Pv i σ H → H T = none → g (.ref T) σ (upd H T (.tup [.int (i : Int), x])) fun σ2 H2 => tb { D with nx := Pv (i + 1), ct := Pv (i + 1), bk := D.nx } σ2 H2) (hd : ∀ σ H, Pv xs.length σ H → D.nx σ H) :
    ∃ W : Nat → Nat → L2.St → Hp → Prop, (∃ m, W 0 m σ H) ∧ ∀ i m σ H, W i m σ H → ((Ite K a).stop i H ∧ D.nx σ H) ∨ ((Ite K a).go i H ∧ ∃ N : L2.St → Hp → Prop, (∀ σ' H', N σ' H' → ∃ m', m' < m ∧ W (i + 1) m' σ' H') ∧
      ∀ x H', (Ite K a).yld i H x H' → g x σ H' fun σ2 H2 => tb { D with nx := N, ct := N, bk := D.nx } σ2 H2) := by
  refine ⟨fun i m σ H => i + m = xs.length ∧ Pv i σ H, ⟨xs.length, by omega, h0⟩, fun i m σ H ⟨hm, hp⟩ => ?_⟩
  by_cases hi : i < xs.length
  · refine .inr ⟨⟨xs, xs[i], hl i σ H (Nat.le_of_lt hi) hp, List.getElem?_eq_getElem hi⟩, Pv (i + 1), fun σ' H' h => ⟨m - 1, by omega, by omega, h⟩, fun x H' hy => ?_⟩
    obtain ⟨T, y, rfl, hT, rfl, hy⟩ := hy
    exact hs i y T σ H (hy xs (hl i σ H (Nat.le_of_lt hi) hp)) hp hT
  · have e : i = xs.length := by omega
    subst e
    exact .inl ⟨⟨xs, hl _ σ H (Nat.le_refl _) hp, Nat.le_refl _⟩, hd σ H hp⟩
end
/-! ### ways -/
theorem iteD {c A B : Prop} [Decidable c] (h1 : c → A) (h2 : ¬ c → B) : if decide c = true then A else B := by
  by_cases h : c
  · rw [if_pos (decide_eq_true h)]
    exact h1 h
  · rw [if_neg (by simpa using h)]
    exact h2 h
theorem iteDN {c A B : Prop} [Decidable c] (h1 : ¬ c → A) (h2 : c → B) : if (!decide c) = true then A else B := by
  by_cases h : c
  · rw [if_neg (by simpa using h)]
    exact h2 h
  · rw [if_pos (by simpa using h)]
    exact h1 h
theorem iteB {b : Bool} {A B : Prop} (h1 : b = true → A) (h2 : b = false → B) : if b = true then A else B := by
  cases b with
  | true => exact iteT (h1 rfl)
  | false => exact iteF (h2 rfl)
theorem Same.keep {H0 H H' : Hp} {F : List Addr} (a : Same H0 H) (b : Keep F H H') (h : ∀ d ∈ F, H0 d = none) : Same H0 H' := fun c o e => b c o (a c o e) fun m => by
  rw [h c m] at e
  cases e
/-! ### comprehensions -/
/-- what a comprehension over J asks, from the heap H1 on -/
def lcEnd (J : It) (g : TG) (tt : TT) (te : TE) (vs : List Nat) (σ : L2.St) (H1 : Hp) (Q : VK) : Prop := ∀ D, H1 D = none → ∃ W : Nat → Nat → Hp → Prop, (∃ m, W 0 m (upd H1 D (.lst []))) ∧ ∀ i m H, W i m H →
  (J.stop i H ∧ Q (.ref D) H) ∨ (J.go i H ∧ ∃ Nx : Hp → Prop, (∀ H', Nx H' → ∃ m', m' < m ∧ W (i + 1) m' H') ∧ ∀ x H', J.yld i H x H' → g x (wipe σ vs) H' fun σ2 H2 => wipe σ2 vs = wipe σ vs ∧ tt σ2 H2 fun b H3 =>
    if b = true then te σ2 H3 fun y H4 => ∃ acc, H4 D = some (.lst acc) ∧ acc.length < sizeLine ∧ Nx (upd H4 D (.lst (acc ++ [y]))) else Nx H3)
/-- one turn: the new list is at D -/
def lcTurn (D : Addr) (tt : TT) (te : TE) (vs : List Nat) (σ : L2.St) (Nx : Hp → Prop) : L2.St → Hp → Prop := fun σ2 H2 => wipe σ2 vs = wipe σ vs ∧ tt σ2 H2 fun b H3 =>
  if b = true then te σ2 H3 fun y H4 => ∃ acc, H4 D = some (.lst acc) ∧ acc.length < sizeLine ∧ Nx (upd H4 D (.lst (acc ++ [y]))) else Nx H3
section
variable {K : PySem.W.Frag} {σ : L2.St} {H : Hp} {Q : VK} {g : TG} {tt : TT} {te ta : TE} {tl : TA} {vs : List Nat}
theorem xLcR (h : tl σ H fun ws H1 => ∃ k : Int, ws = [.int k] ∧ -(2 ^ 62) ≤ k ∧ k < 2 ^ 62 ∧ lcEnd (Itr 0 k.toNat) g tt te vs σ H1 Q) : tLc (iRng1 tl) g tt te vs σ H Q := h
theorem yLcR {j : Int} (n : Nat) (e : j = (n : Int)) (hn : n < 2 ^ 62) (Pv : Addr → Nat → Hp → Prop) (h0 : ∀ D, H D = none → Pv D 0 (upd H D (.lst [])))
    (hs : ∀ D (i : Nat) H', i < n → Pv D i H' → g (.int (i : Int)) (wipe σ vs) H' (lcTurn D tt te vs σ (Pv D (i + 1)))) (hd : ∀ D H', H D = none → Pv D n H' → Q (.ref D) H') :
    ∃ k : Int, [V.int j] = [.int k] ∧ -(2 ^ 62) ≤ k ∧ k < 2 ^ 62 ∧ lcEnd (Itr 0 k.toNat) g tt te vs σ H Q := by
  subst e
  refine ⟨(n : Int), rfl, by omega, by omega, fun D hD => ?_⟩
  rw [show ((n : Int)).toNat = n from by omega]
  refine lc_range (lo := 0) (n := n) (Pv D) (h0 D hD) (fun i H hi h => ?_) (fun H' h => hd D H' hD h)
  rw [Int.zero_add]
  exact hs D i H hi h
theorem xLcL (h : ta σ H fun x H1 => ∃ a, x = .ref a ∧ (∃ xs, SqL K H1 a xs) ∧ lcEnd (Itl K a) g tt te vs σ H1 Q) : tLc (iList K ta) g tt te vs σ H Q := h
theorem yLcL {a : Addr} {xs : List V} (hq : SqL K H a xs) (Pv : Addr → Nat → Hp → Prop) (h0 : ∀ D, H D = none → Pv D 0 (upd H D (.lst []))) (hl : ∀ D i H', i ≤ xs.length → Pv D i H' → SqL K H' a xs)
    (hs : ∀ D (i : Nat) x H', xs[i]? = some x → Pv D i H' → g x (wipe σ vs) H' (lcTurn D tt te vs σ (Pv D (i + 1)))) (hd : ∀ D H', H D = none → Pv D xs.length H' → Q (.ref D) H') :
    ∃ c, V.ref a = .ref c ∧ (∃ ys, SqL K H c ys) ∧ lcEnd (Itl K c) g tt te vs σ H Q :=
  ⟨a, rfl, ⟨xs, hq⟩, fun D hD => lc_list (Pv D) (h0 D hD) (hl D) (hs D) (fun H' h => hd D H' hD h)⟩
theorem xLcE (h : tl σ H fun ws H1 => ∃ a xs, ws = [.ref a] ∧ SqL K H1 a xs ∧ lcEnd (Ite K a) g tt te vs σ H1 Q) : tLc (iEnum K tl) g tt te vs σ H Q := h
theorem yLcE {a : Addr} {xs : List V} (hq : SqL K H a xs) (Pv : Addr → Nat → Hp → Prop) (h0 : ∀ D, H D = none → Pv D 0 (upd H D (.lst []))) (hl : ∀ D i H', i ≤ xs.length → Pv D i H' → SqL K H' a xs)
    (hs : ∀ D (i : Nat) x T H', xs[i]? = some x → Pv D i H' → H' T = none → g (.ref T) (wipe σ vs) (upd H' T (.tup [.int (i : Int), x])) (lcTurn D tt te vs σ (Pv D (i + 1))))
    (hd : ∀ D H', H D = none → Pv D xs.length H' → Q (.ref D) H') : ∃ c ys, [V.ref a] = [.ref c] ∧ SqL K H c ys ∧ lcEnd (Ite K c) g tt te vs σ H Q := by
  refine ⟨a, xs, rfl, hq, fun D hD => ⟨fun i m H => i + m = xs.length ∧ Pv D i H, ⟨xs.length, by omega, h0 D hD⟩, fun i m H ⟨hm, hp⟩ => ?_⟩⟩
  by_cases hi : i < xs.length
  · refine .inr ⟨⟨xs, xs[i], hl D i H (Nat.le_of_lt hi) hp, List.getElem?_eq_getElem hi⟩, Pv D (i + 1), fun H' h => ⟨m - 1, by omega, by omega, h⟩, fun x H' hy => ?_⟩
    obtain ⟨T, y, rfl, hT, rfl, hy⟩ := hy
    exact hs D i y T H (hy xs (hl D i H (Nat.le_of_lt hi) hp)) hp hT
  · have e : i = xs.length := by omega
    subst e
    exact .inl ⟨⟨xs, hl D _ H (Nat.le_refl _) hp, Nat.le_refl _⟩, hd D H hD hp⟩
/-- the turn: no test -/
theorem yTurn {D : Addr} {Nx : Hp → Prop} {σ2 : L2.St} (hw : wipe σ2 vs = wipe σ vs) (h : te σ2 H fun y H4 => ∃ acc, H4 D = some (.lst acc) ∧ acc.length < sizeLine ∧ Nx (upd H4 D (.lst (acc ++ [y])))) : lcTurn D tYes te vs σ Nx σ2 H :=
  ⟨hw, iteT (B := Nx H) h⟩
theorem yTurnT {D : Addr} {Nx : Hp → Prop} {σ2 : L2.St} (hw : wipe σ2 vs = wipe σ vs) (h : tt σ2 H fun b H3 => if b = true then te σ2 H3 fun y H4 => ∃ acc, H4 D = some (.lst acc) ∧ acc.length < sizeLine ∧ Nx (upd H4 D (.lst (acc ++ [y]))) else Nx H3) : lcTurn D tt te vs σ Nx σ2 H := ⟨hw, h⟩
theorem yAcc {D : Addr} {Nx : Hp → Prop} {acc : List V} {y : V} (h : H D = some (.lst acc)) (hl : acc.length < sizeLine) (q : Nx (upd H D (.lst (acc ++ [y])))) : ∃ acc, H D = some (.lst acc) ∧ acc.length < sizeLine ∧ Nx (upd H D (.lst (acc ++ [y]))) := ⟨acc, h, hl, q⟩
end
/-! ### while -/
theorem yWhile {c : TT} {tb : TS} {D : Ends} {σ : L2.St} {H : Hp} (W : Nat → L2.St → Hp → Prop) (m : Nat) (h0 : W m σ H)
    (hs : ∀ m σ H, W m σ H → c σ H fun b H1 => if b = true then ∃ N : L2.St → Hp → Prop, (∀ σ' H', N σ' H' → ∃ m', m' < m ∧ W m' σ' H') ∧ tb { D with nx := N, ct := N, bk := D.nx } σ H1 else D.nx σ H1) : tWhile c tb D σ H := ⟨W, ⟨m, h0⟩, hs⟩
/-! ### displays of dicts, methods of own classes -/
section
variable {K : PySem.W.Frag} {σ : L2.St} {H : Hp} {Q : VK} {tk tv : TE} {tl : TA} {trs : List (TE × TE)} {p C dx : Addr} {fs : List (Str × V)} {m : Str} {sp : Sp} {dvs : List V} {E : XK}
theorem xDisp (h : ∀ p, H p = none → tPairs trs σ (upd H p (.dK [])) fun ps H2 => H2 p = some (.dK []) ∧ ∃ kvs : List (Key × V), ps = kvs.map (fun kv => (kV kv.1, kv.2)) ∧ kvs.length ≤ 15 ∧ Q (.ref p) (upd H2 p (.dK (mergeK [] kvs)))) : tDisp trs σ H Q := h
theorem xPairs {Q : List (V × V) → Hp → Prop} (h : tk σ H fun x H1 => tv σ H1 fun y H2 => tPairs trs σ H2 fun ps H3 => Q ((x, y) :: ps) H3) : tPairs ((tk, tv) :: trs) σ H Q := h
theorem xPairs0 {Q : List (V × V) → Hp → Prop} (h : Q [] H) : tPairs [] σ H Q := h
theorem yMe (h : H p = some (.ins C dx fs)) (lk : fs.lookup m = none) (q : tl σ H fun vs H2 => sp (.ref p :: (vs ++ dvs)) H2 Q E) :
    ∃ a dx fs, V.ref p = .ref a ∧ H a = some (.ins C dx fs) ∧ fs.lookup m = none ∧ tl σ H fun vs H2 => sp (.ref p :: (vs ++ dvs)) H2 Q E := ⟨p, dx, fs, rfl, h, lk, q⟩
theorem xMake (h : tl σ H fun vs H1 => ∀ x dx, H1 x = none → H1 dx = none → dx ≠ x → sp (.ref x :: (vs ++ dvs)) (upd (upd H1 dx (.own x)) x (.ins C dx [])) (fun v H2 => v = .non ∧ Q (.ref x) H2) E) : tMake C sp dvs E tl σ H Q := h
theorem same_make {x dx : Addr} (nx : H x = none) (nd : H dx = none) : Same H (upd (upd H dx (.own x)) x (.ins C dx [])) := fun b o e => by
  rw [upd_ne (ne_of_none e nx), upd_ne (ne_of_none e nd)]
  exact e
end
end Kx
/-! KxS: super().m(..) in a method of an ordinary class; a def whose closure is the cell of its class. -/
namespace Kx
open PySem PySem.Spec PyProof.Rows L2 NdefX
/-- an expression, a statement, a suite within the def's body bd: it asks where it stands -/
structure PEt (X : Cx) (bd : List Stmt) (e : Expr) (t : TE) : Prop where
  run : ∀ (pins : List (Addr × Obj)) (s : Shared) (σ : L2.St) (H : Hp) (Q : VK), Inv X pins σ H s → t σ H Q → _root_.PySem.wpAt (model X.prog X.w) X.A (.func bd X.env) (eval e X.env) (EP X pins σ Q) X.xe s
structure PSt (X : Cx) (bd : List Stmt) (st : Stmt) (t : TS) : Prop where
  run : ∀ (pins : List (Addr × Obj)) (s : Shared) (σ : L2.St) (H : Hp) (D : Ends), Inv X pins σ H s → t D σ H → _root_.PySem.wpAt (model X.prog X.w) X.A (.func bd X.env) (exec st X.env) (SP X pins D) X.xe s
structure PSts (X : Cx) (bd : List Stmt) (st : List Stmt) (t : TS) : Prop where
  run : ∀ (pins : List (Addr × Obj)) (s : Shared) (σ : L2.St) (H : Hp) (D : Ends), Inv X pins σ H s → t D σ H → _root_.PySem.wpAt (model X.prog X.w) X.A (.func bd X.env) (execs st X.env) (SP X pins D) X.xe s
section
variable {X : Cx} {bd rest : List Stmt} {st : Stmt} {e : Expr} {te : TE} {t u : TS} {pos : Pos}
theorem PSt.of (h : PS X st t) : PSt X bd st t := ⟨fun pins s σ H D I hq => wpAt_of_wpAny (h.run pins s σ H D I hq)⟩
theorem PSts.of {sts : List Stmt} (h : PSs X sts t) : PSts X bd sts t := ⟨fun pins s σ H D I hq => wpAt_of_wpAny (h.run pins s σ H D I hq)⟩
theorem psts_cons (h1 : PSt X bd st t) (h2 : PSts X bd rest u) : PSts X bd (st :: rest) (tSeq t u) := ⟨fun pins s σ H D I hq => by
  refine ks_wpAt_execs_cons (ks_wpAt_mono (h1.run pins s σ H { D with nx := u D } I hq) (fun f s' hf => ?_) fun _ _ z => z)
  cases f with
  | next =>
    obtain ⟨σ', H', I', q⟩ := hf
    exact h2.run pins s' σ' H' D I' q
  | brk => exact hf
  | cont => exact hf
  | ret v => exact hf⟩
theorem pst_expr (he : PEt X bd e te) (hs : swapsWith e none pos.line X.env = pure false := by rfl) : PSt X bd (.Expr e pos) (tDrop te) := ⟨fun pins s σ H D I hq =>
  ks_wpAt_Expr_any (ks_wpAt_mono (he.run pins s σ H (fun _ H1 => D.nx σ H1) I hq) (fun v s' ⟨_, H', I', _, q⟩ => ⟨σ, H', I', q⟩) fun _ _ z => z) I.quiet hs⟩
theorem pst_ret (he : PEt X bd e te) : PSt X bd (.Return (some e) pos) (tRet te) := ⟨fun pins s σ H D I hq =>
  ks_wpAt_Return_some (ks_wpAt_mono (he.run pins s σ H D.rt I hq) (fun v s' ⟨x, H', I', r, q⟩ => ⟨x, σ, H', I', r, q⟩) fun _ _ z => z)⟩
theorem pst_if {c : Expr} {a b : List Stmt} {tc : TT} (hc : PT X c tc) (ha : PSts X bd a t) (hb : PSts X bd b u) : PSt X bd (.If c a b pos) (tIfS tc t u) := ⟨fun pins s σ H D I hq => by
  refine ks_wpAt_If (ks_wpAt_mono (wpAt_of_wpAny (hc.run pins s σ H _ I hq)) (fun v s' ⟨H', I', q⟩ => ?_) fun _ _ z => z)
  cases v with
  | true => exact ha.run pins s' σ H' D I' (by simpa using q)
  | false => exact hb.run pins s' σ H' D I' (by simpa using q)⟩
end
/-- what the text has of the method that super() of a D finds for an object of C -/
structure Sup (K : PySem.W.Frag) (C D : Addr) (m : Str) (g : Addr) : Prop where
  at_ : PySem.W.ks_superIn K C D m = some (some (.ref g))
  fn : PySem.W.typeIn K (.ref g) = some (.type "function")
  fi : PySem.W.fnIn K g = true
  sub : PySem.W.mroIn K C (.ref D) = some true
  cls : (PySem.W.clsIn K D).isSome = true
  cc : (PySem.W.clsIn K C).isSome = true
  op : PySem.W.nsIn K cStatics "thirdparty.any" = some none
def supB (K : PySem.W.Frag) (C D : Addr) (m : Str) (g : Addr) : Bool :=
  decide (PySem.W.ks_superIn K C D m = some (some (.ref g))) && decide (PySem.W.typeIn K (.ref g) = some (.type "function")) && PySem.W.fnIn K g && decide (PySem.W.mroIn K C (.ref D) = some true) && (PySem.W.clsIn K D).isSome && (PySem.W.clsIn K C).isSome && decide (PySem.W.nsIn K cStatics "thirdparty.any" = some none)
theorem Sup.by_ {K : PySem.W.Frag} {C D : Addr} {m : Str} {g : Addr} (h : supB K C D m g = true) : Sup K C D m g := by
  unfold supB at h
  simp only [Bool.and_eq_true, decide_eq_true_eq] at h
  obtain ⟨⟨⟨⟨⟨⟨h1, h2⟩, h3⟩, h4⟩, h5⟩, h6⟩, h7⟩ := h
  exact ⟨h1, h2, h3, h4, h5, h6, h7⟩
/-- a method with the cell of its class: f the function, cda its code, cc the cell, D the class -/
structure SupD (P : Program) (K : PySem.W.Frag) (x qual : Str) (params : Arguments) (body : List Stmt) (scope : Scope) (f cda cc D : Addr) (fd : FuncData) : Prop where
  ex : ∃ (oc : Value) (od : Option Addr) (kV doc pm : Value) (an : Option Addr) (ct : Value) (osl : Array (Option Value)),
    fd = PySem.W.ksFn x qual params body scope .none kV doc pm an (.ref cda) ct cc ∧ K.lookup f = some ⟨oc, od, .func fd, osl⟩
  code : PySem.W.codeIn K (.ref cda) qual = true
  file : ∃ (ccl : Value) (cdd : Option Addr) (vs : Array Value) (ccs : Array (Option Value)) (file : Str) (tf : Tok), K.lookup cda = some ⟨ccl, cdd, .fields vs, ccs⟩ ∧ vs[2]? = some (.str file tf) ∧ ((P.main.file : Str) == file) = true
  cell : ∃ (cl : Value) (cld : Option Addr) (csl : Array (Option Value)), K.lookup cc = some ⟨cl, cld, .cell (some (.ref D)), csl⟩
  kp : PySem.W.keepIn K (.ref f) = true
/-- what super().m(..) reads -/
def tSup (C : Addr) (sp : Sp) (dvs : List V) (E : XK) (t : TA) : TE := fun σ H Q => ∃ a dx fs, σ[0]? = some (some (.ref a)) ∧ H a = some (.ins C dx fs) ∧ t σ H fun vs H2 => sp (.ref a :: (vs ++ dvs)) H2 Q E
section
variable {X : Cx} {CX : CXT} {j k : Nat} {g f cda cc C D L : Addr} {ps : List Str} {sp : Sp} {E : XK} {m x qual : Str} {params : Arguments} {body : List Stmt} {scope : Scope} {fd fg : FuncData} {pos apos p0 p1 : Pos} {es : List Expr} {t : TA} {dvs : List V} {ds : List Value} {ar : Arg}
theorem pin_new {pins : List (Addr × Obj)} {σ : L2.St} {H : Hp} {s : Shared} {h' : Heap} {o : Obj} {t' : Nat} (I : Inv X pins σ H s) (e : h'.get? s.heap.objs.size = some o) (k : ∀ b u, s.heap.get? b = some u → h'.get? b = some u) (nc : ∀ v, o.data ≠ .cell v) :
    Inv X ((s.heap.objs.size, o) :: pins) σ H { s with heap := h', toks := t' } := by
  have I' := I.kept (t' := t') k
  refine I'.pins_of fun p hp => ?_
  rcases List.mem_cons.mp hp with h | h
  · subst h
    exact ⟨e, I.hok.fresh (Nat.le_refl _), (Nat.ne_of_lt I.lt).symm, I.nofs (Nat.le_refl _), nc⟩
  · exact I'.pin p (List.mem_append_right _ h)
theorem unpin {pins : List (Addr × Obj)} {p : Addr × Obj} {σ : L2.St} {H : Hp} {s : Shared} (I : Inv X (p :: pins) σ H s) : Inv X pins σ H s := I.pins_of fun q hq => I.pin q (List.mem_append_right _ (List.mem_cons_of_mem _ hq))
theorem run_bound {pins : List (Addr × Obj)} {σ : L2.St} {H : Hp} {s : Shared} {Q : VK} {us : List Value} {vs : List V} {a q : Addr} (F : FnOk X.prog X.w X.K X.mg X.base CX k g fg ps sp) (hr : Room k X.A) (hb : Binds X.K fg ps ds) (hd : Vals dvs ds) (hx : Passes CX X E)
    (I : Inv X pins σ H s) (ho : s.heap.get? q = some (PySem.W.methodObj (.ref g) (.ref a))) (r : Vals vs us) (h : sp (.ref a :: (vs ++ dvs)) H Q E) : wpAny (model X.prog X.w) X.A (call (.ref q) us) (EP X pins σ Q) X.xe s := by
  have r2 : Vals (V.ref a :: (vs ++ dvs)) (Value.ref a :: (us ++ ds)) := .cons rfl (r.append hd)
  have hl : (Value.ref a :: us ++ ds).length = ps.length := by
    have e := r2.length
    rw [F.len _ _ _ _ h] at e
    exact e.symm
  refine wpAny_call (ks_codeAny_call_bound (f := g) (x := .ref a) ho (codeAny_mono (F.run X.A X.stack s H ⟨.ref a :: us, []⟩ (.ref a :: us ++ ds) (.ref a :: (vs ++ dvs)) Q E hr I.env0 (hb s (.ref a :: us) I.kIn hl) r2 h) fun r s' hq => ?_))
  cases r with
  | error e => exact hx pins σ H s e s' I hq
  | ok fl =>
    cases fl with
    | ret u => exact I.after hq
    | next => exact False.elim hq
    | brk => exact False.elim hq
    | cont => exact False.elim hq
theorem sup_base {pins : List (Addr × Obj)} {σ : L2.St} {H : Hp} {s : Shared} {a dx : Addr} {fs : List (Str × V)} {whole : Sem Value} {Q : Value → Shared → Prop} (SD : SupD X.prog X.K x qual params body scope f cda cc D fd) (S : Sup X.K C D m g)
    (henv : X.env = PySem.W.ksEnv qual scope L f (.ref cda) cc) (hp : (params.posonlyargs ++ params.args).head? = some ar) (hN : X.N[0]? = some ar.arg) (hks : scope.names.lookup ("super" : Str) = some .globalImplicit) (hkc : scope.names.lookup ("__class__" : Str) = some .free)
    (hka : scope.names.lookup ar.arg = some .local) (hat : (m == ("__class__" : Str)) = false) (hg : X.mg "super" = none) (htop : (X.prog.main.scope.names.lookup ("super" : Str)).isSome = false)
    (I : Inv X pins σ H s) (e0 : σ[0]? = some (some (.ref a))) (ea : H a = some (.ins C dx fs))
    (h : ∀ h', Inv X ((s.heap.objs.size, PySem.W.ks_superObj D a C) :: pins) σ H { s with heap := h' } → Q (.ref s.heap.objs.size) { s with heap := h' }) :
    _root_.PySem.wpAt (model X.prog X.w) X.A (.func body X.env) (attributeBase (.Call (.Name "super" p0) [] [] p1) m X.env whole) Q X.xe s := by
  obtain ⟨oc, od, kV, doc, pm, an, ct, osl, rfl, lk⟩ := SD.ex
  obtain ⟨ccl, cdd, cvs, ccs, file, tf, hcode, hvs, hfile⟩ := SD.file
  obtain ⟨cl, cld, csl, hcell⟩ := SD.cell
  have KX := I.kIn
  have hkind : scope.kind = .function := by
    have e := I.ok.kind
    rw [henv] at e
    exact e
  obtain ⟨mL, hn, hl⟩ := I.loc
  obtain ⟨u, ru, lu⟩ := hl 0 ar.arg (.ref a) hN e0 (by rw [henv]; exact .inl hka)
  have hu : mL ar.arg = some u := by
    rcases lu with ⟨_, hm⟩ | ⟨hk, _⟩
    · exact hm
    · rw [henv] at hk
      have hk : scope.names.lookup ar.arg = some .cell ∨ scope.names.lookup ar.arg = some .free := hk
      rw [hka] at hk
      rcases hk with z | z <;> cases z
  obtain rfl : u = Value.ref a := ru
  obtain ⟨mA, O, _, _, _, _⟩ := ins_get I.hok ea
  obtain ⟨odx, J, _⟩ := O.look
  obtain ⟨mb, hb, hmb⟩ := I.mod.blt
  have glob := I.mod.glob.keeps I.bk
  have hb := hb.keeps I.bk
  have hcls := S.cls
  obtain ⟨cdD, hD⟩ := Option.isSome_iff_exists.mp hcls
  obtain ⟨oD, hD1, hD2⟩ : ∃ oD, s.heap.get? D = some oD ∧ oD.data = .cls cdD := by
    unfold PySem.W.clsIn at hD
    split at hD
    · rename_i c d cd' sl ho
      cases hD
      exact ⟨_, KX _ _ ho, rfl⟩
    · cases hD
  have hsub := PySem.W.looks_mroIn (M := model X.prog X.w) KX S.sub
  have fin := fun (h' : Heap) (e : h'.get? s.heap.objs.size = some (PySem.W.ks_superObj D a C)) (k : ∀ b u, s.heap.get? b = some u → h'.get? b = some u) => h h' (pin_new (t' := s.toks) I e k fun v z => by cases z)
  have glob2 : s.heap.Ns (PySem.W.ksEnv qual scope L f (.ref cda) cc).globals X.mg := glob
  have hn2 : s.heap.Ns (PySem.W.ksEnv qual scope L f (.ref cda) cc).locals mL := by
    rw [henv] at hn
    exact hn
  rw [henv]
  obtain ⟨hh, gg, d, tk, os⟩ := s
  refine ks_wpAt_super_base (env := PySem.W.ksEnv qual scope L f (.ref cda) cc) hks hkc hat rfl (KX _ _ lk) rfl hp rfl (KX _ _ hcode) rfl hvs hfile htop ?_
  refine PySem.W.ks_loadName_global hkind hks (Calls.loadGlobal_builtin (env := PySem.W.ksEnv qual scope L f (.ref cda) cc) glob2 hg hb ((hmb _ (by decide +kernel)).trans (by decide +kernel)) ⟨rfl, ?_⟩)
  refine wpAny_loadName_free hkind hkc rfl ⟨_, KX _ _ hcell, rfl⟩ ?_
  refine wpAny_loadName_local hkind hka hn2 hu ?_
  refine ks_wpAny_isType_cls hD1 hD2 ⟨rfl, ?_⟩
  refine ks_wpAny_call_super hD1 hD2 J.at_ J.cls (fun c e => ?_) hsub (fun h' e k => ?_)
  · have := J.no
    unfold PySem.W.notCls at this
    rw [e] at this
    exact Bool.noConfusion this
  · exact fin h' e k
theorem sup_method {pins : List (Addr × Obj)} {σ : L2.St} {H : Hp} {s : Shared} {a dx so : Addr} {fs : List (Str × V)} {pl : Sem Bool} {Q : Value × List Value → Shared → Prop} (S : Sup X.K C D m g) (hat : (m == ("__class__" : Str)) = false)
    (I : Inv X ((so, PySem.W.ks_superObj D a C) :: pins) σ H s) (ea : H a = some (.ins C dx fs))
    (h : ∀ h' t', Inv X ((s.heap.objs.size, PySem.W.methodObj (.ref g) (.ref a)) :: pins) σ H { s with heap := h', toks := t' } → Q (.ref s.heap.objs.size, []) { s with heap := h', toks := t' }) :
    wpAny (model X.prog X.w) X.A (getMethod (.ref so) m pl) Q X.xe s := by
  have KX := I.kIn
  obtain ⟨mA, O, _, _, _, _⟩ := ins_get I.hok ea
  obtain ⟨odx, J, _⟩ := O.look
  have hso := (I.pin (so, PySem.W.ks_superObj D a C) (List.mem_append_right _ List.mem_cons_self)).1
  obtain ⟨cd, hc⟩ := Option.isSome_iff_exists.mp S.cc
  have hm := S.at_
  unfold PySem.W.ks_superIn at hm
  rw [hc] at hm
  obtain ⟨of, hof, hofc⟩ : ∃ of, s.heap.get? g = some of ∧ of.cls = .type "function" := by
    have ht' : (X.K.lookup g).map (·.cls) = some (.type "function") := S.fn
    cases z : X.K.lookup g with
    | none => rw [z] at ht'; cases ht'
    | some of => rw [z] at ht'; exact ⟨of, KX _ _ z, Option.some.inj ht'⟩
  have I0 := unpin I
  have fin := h (s.heap.push (PySem.W.methodObj (.ref g) (.ref a))) (s.toks + 1) (pin_new I0 (Heap.get?_push_at rfl rfl) (fun b o e => Heap.get?_push_of_some _ e) fun v z => by cases z)
  have op := PySem.W.looks_opaque (M := model X.prog X.w) (C := C) KX S.op
  have mro : PySem.W.Looks (model X.prog X.w) s.heap (mroOf (.ref C)) cd.mro := fun A Q E s k q => wpAny_bind ((PySem.W.looks_clsIn KX hc) A _ E s k (wpAny_pure q))
  have hne := PySem.W.ks_ne KX J hc
  obtain ⟨hh, gg, d, tk, os⟩ := s
  exact ks_wpAny_getMethod_super hso op (l₀ := cd.mro) mro rfl KX hm hof hofc hne hat fin
/-- super().m(e, ..) -/
theorem pet_sup {e : Expr} {pl : Sem Bool} (SD : SupD X.prog X.K x qual params body scope f cda cc D fd) (S : Sup X.K C D m g) (F : FnOk X.prog X.w X.K X.mg X.base CX k g fg ps sp) (hr : Room k X.A) (hb : Binds X.K fg ps ds) (hd : Vals dvs ds) (hx : Passes CX X E)
    (henv : X.env = PySem.W.ksEnv qual scope L f (.ref cda) cc) (hp : (params.posonlyargs ++ params.args).head? = some ar) (hN : X.N[0]? = some ar.arg) (hks : scope.names.lookup ("super" : Str) = some .globalImplicit) (hkc : scope.names.lookup ("__class__" : Str) = some .free)
    (hka : scope.names.lookup ar.arg = some .local) (hat : (m == ("__class__" : Str)) = false) (hg : X.mg "super" = none) (htop : (X.prog.main.scope.names.lookup ("super" : Str)).isSome = false) (ha : PA X (e :: es) t)
    (hst : starEach (e :: es) X.env = (false, eval e X.env) :: starEach es X.env := by rfl) (hpl : (backTo pos (starEach es X.env)).any (·.1) = false := by rfl)
    (ht : eval (.Call (.Attribute (.Call (.Name "super" p0) [] [] p1) m apos) (e :: es) [] pos) X.env = (do
      let ov ← attributeBase (.Call (.Name "super" p0) [] [] p1) m X.env (eval (.Call (.Name "super" p0) [] [] p1) X.env)
      standAt apos.atName
      let (f, first) ← holding [ov] (getMethod ov m pl)
      callWith pos f first (backTo pos (starEach (e :: es) X.env)) []) := by rfl) : PEt X body (.Call (.Attribute (.Call (.Name "super" p0) [] [] p1) m apos) (e :: es) [] pos) (tSup C sp dvs E t) := by
  refine ⟨fun pins s σ H Q I hq => ?_⟩
  obtain ⟨a, dx, fs, e0, ea, hq⟩ := hq
  refine ks_wpAt_MethodCall (pl := pl) ?_ ht
  refine sup_base SD S henv hp hN hks hkc hka hat hg htop I e0 ea fun h' I1 => ?_
  refine sup_method S hat I1 ea fun h2 t2 I2 => ?_
  show wpAny _ _ (callWith pos (.ref _) [] (backTo pos (starEach (e :: es) X.env)) []) _ _ _
  rw [hst]
  have ha2 := thn (ha.run pos _ _ σ H _ I2 hq) fun us s3 ⟨vs, H3, I3, r, q3⟩ =>
    (show PySem.W.MethP X.K _ g (.ref a) s3.heap ∧ wpAny (model X.prog X.w) X.A (call (.ref _) ([] ++ us)) (EP X pins σ Q) X.xe s3 from
      ⟨⟨(I3.pin _ (List.mem_append_right _ List.mem_cons_self)).1, I3.kIn⟩, run_bound F hr hb hd hx (unpin I3) (I3.pin _ (List.mem_append_right _ List.mem_cons_self)).1 r q3⟩)
  rw [hst] at ha2
  exact PySem.W.callWith_of (by show ((false || (backTo pos (starEach es X.env)).any (·.1)) || false) = false; rw [hpl]; rfl) (PySem.W.keeps_M S.fi) (Calls.evalArgs_plain ha2)
/-- super().m() -/
theorem pet_sup0 {pl : Sem Bool} (SD : SupD X.prog X.K x qual params body scope f cda cc D fd) (S : Sup X.K C D m g) (F : FnOk X.prog X.w X.K X.mg X.base CX k g fg ps sp) (hr : Room k X.A) (hb : Binds X.K fg ps ds) (hd : Vals dvs ds) (hx : Passes CX X E)
    (henv : X.env = PySem.W.ksEnv qual scope L f (.ref cda) cc) (hp : (params.posonlyargs ++ params.args).head? = some ar) (hN : X.N[0]? = some ar.arg) (hks : scope.names.lookup ("super" : Str) = some .globalImplicit) (hkc : scope.names.lookup ("__class__" : Str) = some .free)
    (hka : scope.names.lookup ar.arg = some .local) (hat : (m == ("__class__" : Str)) = false) (hg : X.mg "super" = none) (htop : (X.prog.main.scope.names.lookup ("super" : Str)).isSome = false)
    (ht : eval (.Call (.Attribute (.Call (.Name "super" p0) [] [] p1) m apos) [] [] pos) X.env = (do
      let ov ← attributeBase (.Call (.Name "super" p0) [] [] p1) m X.env (eval (.Call (.Name "super" p0) [] [] p1) X.env)
      standAt apos.atName
      let (f, first) ← holding [ov] (getMethod ov m pl)
      callWith pos f first (backTo pos (starEach [] X.env)) []) := by rfl) : PEt X body (.Call (.Attribute (.Call (.Name "super" p0) [] [] p1) m apos) [] [] pos) (tSup C sp dvs E tNil) := by
  refine ⟨fun pins s σ H Q I hq => ?_⟩
  obtain ⟨a, dx, fs, e0, ea, hq⟩ := hq
  refine ks_wpAt_MethodCall (pl := pl) ?_ ht
  refine sup_base SD S henv hp hN hks hkc hka hat hg htop I e0 ea fun h' I1 => ?_
  refine sup_method S hat I1 ea fun h2 t2 I2 => ?_
  have hm := (I2.pin _ (List.mem_append_right _ List.mem_cons_self)).1
  exact PySem.W.callWith_M0 (first := []) ⟨hm, I2.kIn⟩ S.fi (run_bound F hr hb hd hx (unpin I2) hm .nil hq)
end
/-! ### the def -/
section
variable {CX : CXT} {P : Program} {w : World} {K : PySem.W.Frag} {mg : Str → Option Value} {base : Heap} {N ps : List Str} {x qual : Str} {params : Arguments} {body : List Stmt} {scope : Scope} {f cda cc D : Addr} {fd : FuncData} {k : Nat} {sp : Sp}
abbrev supF (x qual : Str) (params : Arguments) (body : List Stmt) (scope : Scope) (cda cc : Addr) : NF := ⟨x, qual, params, body, scope, [("__class__", cc)], cda⟩
theorem fn_sup (SD : SupD P K x qual params body scope f cda cc D fd) (S : NScope N ps ["__class__"] scope) (len : ∀ vs H Q E, sp vs H Q E → vs.length = ps.length)
    (hbody : ∀ (A : Around) (outer : List Env) (s : Shared) (H : Hp) (vs : List V) (Q : VK) (E : XK), Room k (A.deeper (PySem.W.ksEnv qual scope s.heap.objs.size f (.ref cda) cc)) → sp vs H Q E →
      ∃ t, PSts (ncx CX P w K mg base N (supF x qual params body scope cda cc) f A outer s H E) body body t ∧ t { nx := fun _ H' => Q .non H', rt := Q } (startF N vs [some (.ref D)]) H) :
    FnOk P w K mg base CX (k + 1) f fd ps sp := by
  refine ⟨len, fun A outer s H args us vs Q E hr e0 hb r hsp => ?_⟩
  obtain ⟨oc, od, kV, doc, pm, an, ct, osl, rfl, lk⟩ := SD.ex
  obtain ⟨cl, cld, csl, hcell⟩ := SD.cell
  have hl := len _ _ _ _ hsp
  have KX : K.In s.heap := e0.mod.kin.keeps fun b o e => (e0.bs b o e).1
  have lim : s.heap.NoLimit := e0.mod.nolimit.keeps fun b o e => (e0.bs b o e).1
  have C : CellsAt [("__class__", cc)] ["__class__"] [some (.ref D)] s.heap H := by
    have one : ∀ (y : Str) (c : Addr), ([("__class__", cc)] : List (Str × Addr)).lookup y = some c → y = "__class__" ∧ c = cc := fun y c e => by
      rw [List.lookup_cons] at e
      split at e
      · rename_i h
        exact ⟨beq_iff_eq.mp h, (Option.some.inj e).symm⟩
      · cases e
    refine ⟨rfl, fun y c e => ?_, fun a b c e1 e2 => by rw [(one a c e1).1, (one b c e2).1], fun i y e => ?_⟩
    · obtain ⟨_, rfl⟩ := one y c e
      exact ⟨(e0.bs _ _ (e0.mod.kin _ _ hcell)).2, _, _, KX _ _ hcell, rfl⟩
    · cases i with
      | zero =>
        cases e
        refine ⟨cc, rfl, fun v hv => ?_⟩
        cases hv
        exact ⟨.ref D, rfl, _, KX _ _ hcell, rfl⟩
      | succ i => cases e
  have hloc : ∀ y ∈ ps.zip us, scope.names.lookup y.1 = some .local := fun ⟨n, _⟩ hy => S.par n (List.of_mem_zip hy).1
  refine ks_codeAny_call_defAt (body := body) (binds := ps.zip us) hr.depth (KX _ _ lk) rfl lim (PySem.W.codeRec_of KX SD.code) rfl hb S.nocell hloc (fun h₁ hns kp => ?_) S.co S.gen S.kind
  obtain ⟨t, ht, hq⟩ := hbody A outer s H vs Q E (hr.deeper _) hsp
  have I : Inv (ncx CX P w K mg base N (supF x qual params body scope cda cc) f A outer s H E) [] (startF N vs [some (.ref D)]) H { s with heap := h₁, toks := s.toks + (ps.zip us).length } := inv_startN S hr.hd e0 hl r C hns kp
  refine ks_wpAt_mono (ht.run [] _ (startF N vs [some (.ref D)]) H _ I hq) (fun fl s' hs => ?_) fun e s' hs => hs
  have fin : ∀ {σ' : L2.St} {H' : Hp} {v : V} {u : Value}, Inv (ncx CX P w K mg base N (supF x qual params body scope cda cc) f A outer s H E) [] σ' H' s' → L2.RelV v u → Q v H' → CE outer P w H s Q u s' :=
    fun {σ' H' v u} J rv q => ⟨v, H', J.os, J.bare, J.base, J.hok, rv, q⟩
  cases fl with
  | ret u =>
    obtain ⟨v, σ', H', J, rv, q⟩ := hs
    exact fin J rv q
  | next =>
    obtain ⟨σ', H', J, q⟩ := hs
    exact fin (v := V.non) (u := Value.none) J rfl q
  | brk =>
    obtain ⟨_, _, _, q⟩ := hs
    exact False.elim q
  | cont =>
    obtain ⟨_, _, _, q⟩ := hs
    exact False.elim q
theorem SupD.bindsN (SD : SupD P K x qual params body scope f cda cc D fd)
    (h : ∀ (kV doc pm : Value) (an : Option Addr) (cdv ct : Value) (us : List Value), us.length = ps.length → bindArgs (PySem.W.ksFn x qual params body scope .none kV doc pm an cdv ct cc) ⟨us, []⟩ = pure (ps.zip us)) : Binds K fd ps [] := by
  obtain ⟨oc, od, kV, doc, pm, an, ct, osl, rfl, lk⟩ := SD.ex
  exact .all (h kV doc pm an _ ct)
theorem PSts.nox {X : Cx} {bd st : List Stmt} {t : TS} (h : PSts X.nox bd st t) : PSts X bd st t := ⟨fun pins s σ H D I hw =>
  ks_wpAt_mono (h.run pins s σ H D (I.wish _) hw) (fun _ _ q => q.unwish) fun _ _ z => False.elim z⟩
end
end Kx
/-! KxH: the head's facts, with methods that ask super() and any test of one's own. -/
namespace Kx
open PySem PySem.Spec PyProof.Rows L2 NdefX
/-- a method with the cell of its class -/
structure SuD where
  at_ : Str × Option Str
  name : Str
  qual : Str
  params : Arguments
  body : List Stmt
  scope : Scope
  cls : Str
abbrev FnS : Type := Option (Str × Str × Arguments × FuncBody × Scope × Addr × List Str × Addr)
def fnS (K : PySem.W.Frag) (p : Str × Option Str) : FnS := match K.lookup (He.fAd K p) with
  | some ⟨_, _, .func fd, _⟩ => some (fd.name, fd.qualname, fd.params, fd.body, fd.scope, fd.globals, fd.closure.map (·.1), fd.builtins)
  | _ => none
def SuD.val (d : SuD) : FnS := some (d.name, d.qual, d.params, .stmts d.body, d.scope, mainGlobals, ["__class__"], builtinsNs)
def fileB (P : Program) (K : PySem.W.Frag) (cda : Addr) : Bool := match K.lookup cda with
  | some ⟨_, _, .fields vs, _⟩ => (match (vs[2]? : Option Value) with
    | some (.str file _) => (P.main.file : Str) == file
    | _ => false)
  | _ => false
def cellB (K : PySem.W.Frag) (cl : List (Str × Addr)) (D : Addr) : Bool := match cl with
  | [q] => (match K.lookup q.2 with
    | some ⟨_, _, .cell (some (.ref e)), _⟩ => decide (e = D)
    | _ => false)
  | _ => false
def codB (P : Program) (K : PySem.W.Frag) (q : Str) (cl : List (Str × Addr)) (D : Addr) : Value → Bool
  | .ref cda => PySem.W.codeIn K (.ref cda) q && (fileB P K cda && cellB K cl D)
  | _ => false
def noneB : Value → Bool
  | .none => true
  | _ => false
theorem noneB_ok {v : Value} (h : noneB v = true) : v = .none := by
  cases v <;> first | rfl | cases h
def SuD.ok (P : Program) (K : PySem.W.Frag) (d : SuD) : Bool := PySem.W.keepIn K (.ref (He.fAd K d.at_)) && (match K.lookup (He.fAd K d.at_) with
  | some ⟨_, _, .func fd, _⟩ => noneB fd.defaults && codB P K d.qual fd.closure (He.ga K d.cls) fd.code
  | _ => false)
theorem SuD.supD {P : Program} {K : PySem.W.Frag} {d : SuD} (e : fnS K d.at_ = d.val) (c : d.ok P K = true) : ∃ fd cda cc, SupD P K d.name d.qual d.params d.body d.scope (He.fAd K d.at_) cda cc (He.ga K d.cls) fd := by
  obtain ⟨kp, c2⟩ := He.ba c
  unfold fnS at e
  cases q : K.lookup (He.fAd K d.at_) with
  | none =>
    rw [q] at c2
    cases c2
  | some o =>
    obtain ⟨oc, od, dt, osl⟩ := o
    rw [q] at c2 e
    cases dt with
    | func fd =>
      obtain ⟨n1, n2, n3, n4, n5, n6, n7, n8, n9, n10, n11, n12, n13, n14, n15⟩ := fd
      have e2 : (some (n1, n2, n3, n4, n5, n6, n7.map (·.1), n15) : FnS) = some (d.name, d.qual, d.params, FuncBody.stmts d.body, d.scope, mainGlobals, [("__class__" : Str)], builtinsNs) := e
      simp only [Option.some.injEq, Prod.mk.injEq] at e2
      obtain ⟨h1, h2, h3, h4, h5, h6, h7, h8⟩ := e2
      subst h1 h2 h3 h4 h5 h6 h8
      obtain ⟨c0, c3⟩ := He.ba (show (noneB n8 && codB P K d.qual n7 (He.ga K d.cls) n13) = true from c2)
      have h8' := noneB_ok c0
      subst h8'
      cases n13 with
      | ref cda =>
        obtain ⟨k1, k2⟩ := He.ba (show (PySem.W.codeIn K (.ref cda) d.qual && (fileB P K cda && cellB K n7 (He.ga K d.cls))) = true from c3)
        obtain ⟨k3, k4⟩ := He.ba k2
        match n7, h7 with
        | [(y, cc)], h7 =>
          have hy : y = "__class__" := by
            have h : [y] = (["__class__"] : List Str) := h7
            exact (List.cons.inj h).1
          subst hy
          refine ⟨_, cda, cc, ⟨⟨oc, od, n9, n10, n11, n12, n14, osl, rfl, q⟩, k1, ?_, ?_, kp⟩⟩
          · unfold fileB at k3
            cases z : K.lookup cda with
            | none =>
              rw [z] at k3
              cases k3
            | some o2 =>
              obtain ⟨oc2, od2, dt2, osl2⟩ := o2
              rw [z] at k3
              cases dt2 with
              | fields vs =>
                have k3 : (match (vs[2]? : Option Value) with
                  | some (.str file _) => (P.main.file : Str) == file
                  | _ => false) = true := k3
                cases zz : vs[2]? with
                | none =>
                  rw [zz] at k3
                  cases k3
                | some v =>
                  rw [zz] at k3
                  cases v with
                  | str file tf => exact ⟨_, _, _, _, file, tf, rfl, zz, k3⟩
                  | _ => cases k3
              | _ => cases k3
          · have k4 : (match K.lookup cc with
              | some ⟨_, _, .cell (some (.ref e)), _⟩ => decide (e = He.ga K d.cls)
              | _ => false) = true := k4
            cases z : K.lookup cc with
            | none =>
              rw [z] at k4
              cases k4
            | some o2 =>
              obtain ⟨oc2, od2, dt2, osl2⟩ := o2
              rw [z] at k4
              cases dt2 with
              | cell v =>
                cases v with
                | none => cases k4
                | some v =>
                  cases v with
                  | ref e =>
                    have ee : e = He.ga K d.cls := of_decide_eq_true k4
                    exact ⟨_, _, _, by rw [ee]⟩
                  | _ => cases k4
              | _ => cases k4
        | [], h7 => exact absurd (congrArg List.length h7) (by decide)
        | _ :: _ :: _, h7 => exact absurd (congrArg List.length h7) (by simp)
      | _ => cases c3
    | _ => cases c2
/-! ### the Hook -/
def asS (g : Addr → Option Obj) : Nat → List Addr
  | 0 => [mainGlobals, cStatics]
  | n + 1 => He.growD g (asS g n)
abbrev AlS : Type := Bool × List He.FnW × List FnS
def obsS (P : Program) (fa : List He.Fa) (fn : List He.DefD) (su : List SuD) (ex : PySem.W.Frag → Bool) (K : PySem.W.Frag) : AlS :=
  (((fa.all fun f => f.ok K) && fn.all fun d => d.ok K) && ((su.all fun d => d.ok P K) && ex K), fn.map fun d => He.fnW K d.at_, su.map fun d => fnS K d.at_)
def valS (fn : List He.DefD) (su : List SuD) : AlS := (true, fn.map He.DefD.val, su.map SuD.val)
def SaysS (P : Program) (fa : List He.Fa) (fn : List He.DefD) (su : List SuD) (ex : PySem.W.Frag → Bool) (K : PySem.W.Frag) : Prop := obsS P fa fn su ex K = valS fn su
def obsSG (P : Program) (n : Nat) (fa : List He.Fa) (fn : List He.DefD) (su : List SuD) (ex : PySem.W.Frag → Bool) (g : Addr → Option Obj) : AlS := obsS P fa fn su ex (He.frG g (asS g n))
def hookS (P : Program) (n : Nat) (fa : List He.Fa) (fn : List He.DefD) (su : List SuD) (ex : PySem.W.Frag → Bool) : PySem.W.Hook where
  α := AlS
  obs := fun s => obsSG P n fa fn su ex s.heap.get?
  val := fun _ => valS fn su
  says := fun _ h => ∃ K : PySem.W.Frag, K.In h ∧ SaysS P fa fn su ex K
  of := fun _ _ e => ⟨_, He.frG_in, e⟩
  keeps := fun _ _ _ ⟨K, hK, c⟩ k => ⟨K, PySem.W.Frag.In.keeps hK k, c⟩
theorem obsSG_eq {P : Program} {n : Nat} {fa : List He.Fa} {fn : List He.DefD} {su : List SuD} {ex : PySem.W.Frag → Bool} {g : Addr → Option Obj} {s : Shared} (h : ∀ a, g a = s.heap.get? a) : obsSG P n fa fn su ex g = (hookS P n fa fn su ex).obs s := by
  have e : g = s.heap.get? := funext h
  rw [e] <;> rfl
section
variable {P : Program} {fa : List He.Fa} {fn : List He.DefD} {su : List SuD} {ex : PySem.W.Frag → Bool} {K : PySem.W.Frag}
theorem SaysS.all (c : SaysS P fa fn su ex K) : (((fa.all fun f => f.ok K) && fn.all fun d => d.ok K) && ((su.all fun d => d.ok P K) && ex K)) = true := congrArg (fun z : AlS => z.1) c
theorem SaysS.fact (c : SaysS P fa fn su ex K) (i : Nat) {f : He.Fa} (h : fa[i]? = some f := by rfl) : f.ok K = true :=
  List.all_eq_true.mp (He.ba (He.ba c.all).1).1 f (List.mem_of_getElem? h)
theorem SaysS.def_ (c : SaysS P fa fn su ex K) (i : Nat) {d : He.DefD} (h : fn[i]? = some d := by rfl) : ∃ fd, FunD K d.name d.qual d.params d.body d.scope (d.dvs K) (d.kws K) (He.fAd K d.at_) fd := by
  have c2 := (He.ba (He.ba c.all).1).2
  have e : fn.map (fun d => He.fnW K d.at_) = fn.map He.DefD.val := congrArg (fun z : AlS => z.2.1) c
  have e2 : (fn.map fun d => He.fnW K d.at_)[i]? = (fn.map He.DefD.val)[i]? := by rw [e]
  rw [List.getElem?_map, List.getElem?_map, h] at e2
  exact He.DefD.funD (Option.some.inj e2) (List.all_eq_true.mp c2 d (List.mem_of_getElem? h))
theorem SaysS.sup_ (c : SaysS P fa fn su ex K) (i : Nat) {d : SuD} (h : su[i]? = some d := by rfl) : ∃ fd cda cc, SupD P K d.name d.qual d.params d.body d.scope (He.fAd K d.at_) cda cc (He.ga K d.cls) fd := by
  have c2 := (He.ba (He.ba c.all).2).1
  have e : su.map (fun d => fnS K d.at_) = su.map SuD.val := congrArg (fun z : AlS => z.2.2) c
  have e2 : (su.map fun d => fnS K d.at_)[i]? = (su.map SuD.val)[i]? := by rw [e]
  rw [List.getElem?_map, List.getElem?_map, h] at e2
  exact SuD.supD (Option.some.inj e2) (List.all_eq_true.mp c2 d (List.mem_of_getElem? h))
theorem SaysS.ex_ (c : SaysS P fa fn su ex K) : ex K = true := (He.ba (He.ba c.all).2).2
end
end Kx
namespace K61
open PySem PySem.Spec PyProof.Rows L2 Kx
/-! ### the text by places -/
def top (i : Nat) : Stmt := PySem.Challenge.pw_caughtup_k61_main_sounds_are_told_by_div.main.body.getD i (.Pass ⟨0, 0, 0, 0⟩)
def N_fresh : List Str := []
abbrev s_fresh : Stmt := top 6
theorem sc_fresh : FnScope N_fresh [] (defScope s_fresh) := ⟨rfl, rfl, rfl, by decide +kernel, rfl, by decide +kernel, by decide +kernel⟩
def N_Sound___init__ : List Str := ["self", "_"]
abbrev s_Sound___init__ : Stmt := inClass (top 7) 0
theorem sc_Sound___init__ : FnScope N_Sound___init__ ["self"] (defScope s_Sound___init__) := ⟨rfl, rfl, rfl, by decide +kernel, rfl, by decide +kernel, by decide +kernel⟩
def N_Sound___init___LateSound : List Str := ["self", "_"]
theorem sc_Sound___init___LateSound : FnScope N_Sound___init___LateSound ["self"] (defScope s_Sound___init__) := ⟨rfl, rfl, rfl, by decide +kernel, rfl, by decide +kernel, by decide +kernel⟩
def N_Sound__turn : List Str := ["self", "k", "told", "new"]
abbrev s_Sound__turn : Stmt := inClass (top 7) 1
theorem sc_Sound__turn : FnScope N_Sound__turn ["self", "k", "told"] (defScope s_Sound__turn) := ⟨rfl, rfl, rfl, by decide +kernel, rfl, by decide +kernel, by decide +kernel⟩
def N_Sound__sample : List Str := ["self", "whole", "told"]
abbrev s_Sound__sample : Stmt := inClass (top 7) 2
theorem sc_Sound__sample : FnScope N_Sound__sample ["self"] (defScope s_Sound__sample) := ⟨rfl, rfl, rfl, by decide +kernel, rfl, by decide +kernel, by decide +kernel⟩
def N_Sound__sample_LateSound : List Str := ["self", "whole", "told"]
theorem sc_Sound__sample_LateSound : FnScope N_Sound__sample_LateSound ["self"] (defScope s_Sound__sample) := ⟨rfl, rfl, rfl, by decide +kernel, rfl, by decide +kernel, by decide +kernel⟩
def N_Sound_live : List Str := ["self", "now", "k", "told"]
abbrev s_Sound_live : Stmt := inClass (top 7) 3
theorem sc_Sound_live : FnScope N_Sound_live ["self", "now"] (defScope s_Sound_live) := ⟨rfl, rfl, rfl, by decide +kernel, rfl, by decide +kernel, by decide +kernel⟩
def N_Sound_let : List Str := ["self", "which", "byte", "told", "word"]
abbrev s_Sound_let : Stmt := inClass (top 7) 4
theorem sc_Sound_let : FnScope N_Sound_let ["self", "which", "byte"] (defScope s_Sound_let) := ⟨rfl, rfl, rfl, by decide +kernel, rfl, by decide +kernel, by decide +kernel⟩
def N_Sound_let_LateSound : List Str := ["self", "which", "byte", "told", "word"]
theorem sc_Sound_let_LateSound : FnScope N_Sound_let_LateSound ["self", "which", "byte"] (defScope s_Sound_let) := ⟨rfl, rfl, rfl, by decide +kernel, rfl, by decide +kernel, by decide +kernel⟩
def N_Sound_on : List Str := ["self", "k", "told"]
abbrev s_Sound_on : Stmt := inClass (top 7) 5
theorem sc_Sound_on : FnScope N_Sound_on ["self"] (defScope s_Sound_on) := ⟨rfl, rfl, rfl, by decide +kernel, rfl, by decide +kernel, by decide +kernel⟩
def N_Sound_on_LateSound : List Str := ["self", "k", "told"]
theorem sc_Sound_on_LateSound : FnScope N_Sound_on_LateSound ["self"] (defScope s_Sound_on) := ⟨rfl, rfl, rfl, by decide +kernel, rfl, by decide +kernel, by decide +kernel⟩
def N_Sound_told : List Str := ["self", "told"]
abbrev s_Sound_told : Stmt := inClass (top 7) 6
theorem sc_Sound_told : FnScope N_Sound_told ["self"] (defScope s_Sound_told) := ⟨rfl, rfl, rfl, by decide +kernel, rfl, by decide +kernel, by decide +kernel⟩
def N_Sound_told_LateSound : List Str := ["self", "told"]
theorem sc_Sound_told_LateSound : FnScope N_Sound_told_LateSound ["self"] (defScope s_Sound_told) := ⟨rfl, rfl, rfl, by decide +kernel, rfl, by decide +kernel, by decide +kernel⟩
def N_first_from : List Str := ["now", "rest", "whole"]
abbrev s_first_from : Stmt := top 9
theorem sc_first_from : FnScope N_first_from ["now", "rest", "whole"] (defScope s_first_from) := ⟨rfl, rfl, rfl, by decide +kernel, rfl, by decide +kernel, by decide +kernel⟩
def N_ends_in : List Str := ["cycles", "count", "start"]
abbrev s_ends_in : Stmt := top 10
theorem sc_ends_in : FnScope N_ends_in ["cycles", "count", "start"] (defScope s_ends_in) := ⟨rfl, rfl, rfl, by decide +kernel, rfl, by decide +kernel, by decide +kernel⟩
def N_LateSound_next : List Str := ["self"]
abbrev s_LateSound_next : Stmt := inClass (top 11) 2
theorem sc_LateSound_next : FnScope N_LateSound_next ["self"] (defScope s_LateSound_next) := ⟨rfl, rfl, rfl, by decide +kernel, rfl, by decide +kernel, by decide +kernel⟩
def N_LateSound__pass : List Str := ["self", "cycles", "k", "told", "turns", "_", "new"]
abbrev s_LateSound__pass : Stmt := inClass (top 11) 3
theorem sc_LateSound__pass : FnScope N_LateSound__pass ["self", "cycles"] (defScope s_LateSound__pass) := ⟨rfl, rfl, rfl, by decide +kernel, rfl, by decide +kernel, by decide +kernel⟩
def N_LateSound_live_to : List Str := ["self", "goal", "found", "last", "stop"]
abbrev s_LateSound_live_to : Stmt := inClass (top 11) 4
theorem sc_LateSound_live_to : FnScope N_LateSound_live_to ["self", "goal"] (defScope s_LateSound_live_to) := ⟨rfl, rfl, rfl, by decide +kernel, rfl, by decide +kernel, by decide +kernel⟩
def N__law_draws : List Str := ["script", "draws", "k", "rest", "turn", "stirred"]
abbrev s__law_draws : Stmt := top 13
theorem sc__law_draws : FnScope N__law_draws ["script"] (defScope s__law_draws) := ⟨rfl, rfl, rfl, by decide +kernel, rfl, by decide +kernel, by decide +kernel⟩
def N__law_mix : List Str := ["draws", "k", "many", "cell"]
abbrev s__law_mix : Stmt := top 14
theorem sc__law_mix : FnScope N__law_mix ["draws", "k", "many"] (defScope s__law_mix) := ⟨rfl, rfl, rfl, by decide +kernel, rfl, by decide +kernel, by decide +kernel⟩
def N__law_noise : List Str := ["many", "found", "t"]
abbrev s__law_noise : Stmt := top 15
theorem sc__law_noise : FnScope N__law_noise ["many"] (defScope s__law_noise) := ⟨rfl, rfl, rfl, by decide +kernel, rfl, by decide +kernel, by decide +kernel⟩
def N__law_channel : List Str := ["draws", "k", "period", "length", "begin"]
abbrev s__law_channel : Stmt := top 16
theorem sc__law_channel : FnScope N__law_channel ["draws", "k"] (defScope s__law_channel) := ⟨rfl, rfl, rfl, by decide +kernel, rfl, by decide +kernel, by decide +kernel⟩
def N__law_lets : List Str := ["channels", "now", "found", "k", "told"]
abbrev s__law_lets : Stmt := top 17
theorem sc__law_lets : FnScope N__law_lets ["channels", "now"] (defScope s__law_lets) := ⟨rfl, rfl, rfl, by decide +kernel, rfl, by decide +kernel, by decide +kernel⟩
def N__law_volume : List Str := ["told", "now"]
abbrev s__law_volume : Stmt := top 18
theorem sc__law_volume : FnScope N__law_volume ["told", "now"] (defScope s__law_volume) := ⟨rfl, rfl, rfl, by decide +kernel, rfl, by decide +kernel, by decide +kernel⟩
def N__law_phase : List Str := ["k", "turns", "noise"]
abbrev s__law_phase : Stmt := top 19
theorem sc__law_phase : FnScope N__law_phase ["k", "turns", "noise"] (defScope s__law_phase) := ⟨rfl, rfl, rfl, by decide +kernel, rfl, by decide +kernel, by decide +kernel⟩
def N__law_sample : List Str := ["channels", "j", "noise", "now", "found", "k", "told", "gone"]
abbrev s__law_sample : Stmt := top 20
theorem sc__law_sample : FnScope N__law_sample ["channels", "j", "noise"] (defScope s__law_sample) := ⟨rfl, rfl, rfl, by decide +kernel, rfl, by decide +kernel, by decide +kernel⟩
def N__law_end : List Str := ["k", "told", "goal", "noise", "gone", "on", "cycles", "left", "turns", "row", "count", "place"]
abbrev s__law_end : Stmt := top 21
theorem sc__law_end : FnScope N__law_end ["k", "told", "goal", "noise"] (defScope s__law_end) := ⟨rfl, rfl, rfl, by decide +kernel, rfl, by decide +kernel, by decide +kernel⟩
def N__law_plain : List Str := ["channels", "goal", "unit", "found", "now", "which", "byte", "sample"]
abbrev s__law_plain : Stmt := top 22
theorem sc__law_plain : FnScope N__law_plain ["channels", "goal"] (defScope s__law_plain) := ⟨rfl, rfl, rfl, by decide +kernel, rfl, by decide +kernel, by decide +kernel⟩
def N__law_late : List Str := ["channels", "goal", "stops", "unit", "found", "before", "now", "which", "byte", "told"]
abbrev s__law_late : Stmt := top 23
theorem sc__law_late : FnScope N__law_late ["channels", "goal", "stops"] (defScope s__law_late) := ⟨rfl, rfl, rfl, by decide +kernel, rfl, by decide +kernel, by decide +kernel⟩
def N_law : List Str := ["script", "draws", "turn", "at", "channels", "goal", "stops", "noise", "ends", "due", "unit", "which", "byte", "k", "t", "j"]
abbrev s_law : Stmt := top 24
theorem sc_law : FnScope N_law ["script"] (defScope s_law) := ⟨rfl, rfl, rfl, by decide +kernel, rfl, by decide +kernel, by decide +kernel⟩
abbrev s_LateSound___init__ : Stmt := inClass (top 11) 0
structure Txt (K : PySem.W.Frag) (mg : Str → Option Value) : Prop where
  cls_LateSound : Cls K (He.ga K "LateSound")
  cls_Sound : Cls K (He.ga K "Sound")
  free_abs : mg "abs" = none
  free_dict : mg "dict" = none
  free_enumerate : mg "enumerate" = none
  free_int : mg "int" = none
  free_len : mg "len" = none
  free_max : mg "max" = none
  free_min : mg "min" = none
  free_range : mg "range" = none
  free_sorted : mg "sorted" = none
  free_sum : mg "sum" = none
  glo_LateSound : mg "LateSound" = some (.ref (He.ga K "LateSound"))
  glo_Sound : mg "Sound" = some (.ref (He.ga K "Sound"))
  glo__law_channel : mg "_law_channel" = some (.ref (He.ga K "_law_channel"))
  glo__law_draws : mg "_law_draws" = some (.ref (He.ga K "_law_draws"))
  glo__law_end : mg "_law_end" = some (.ref (He.ga K "_law_end"))
  glo__law_late : mg "_law_late" = some (.ref (He.ga K "_law_late"))
  glo__law_lets : mg "_law_lets" = some (.ref (He.ga K "_law_lets"))
  glo__law_mix : mg "_law_mix" = some (.ref (He.ga K "_law_mix"))
  glo__law_noise : mg "_law_noise" = some (.ref (He.ga K "_law_noise"))
  glo__law_phase : mg "_law_phase" = some (.ref (He.ga K "_law_phase"))
  glo__law_plain : mg "_law_plain" = some (.ref (He.ga K "_law_plain"))
  glo__law_sample : mg "_law_sample" = some (.ref (He.ga K "_law_sample"))
  glo__law_volume : mg "_law_volume" = some (.ref (He.ga K "_law_volume"))
  glo_ends_in : mg "ends_in" = some (.ref (He.ga K "ends_in"))
  glo_first_from : mg "first_from" = some (.ref (He.ga K "first_from"))
  glo_fresh : mg "fresh" = some (.ref (He.ga K "fresh"))
  int_CHANNELS : ∃ t, mg "CHANNELS" = some (.int 3 t)
  int_EVERY : ∃ t, mg "EVERY" = some (.int 32 t)
  int_NOISE : ∃ t, mg "NOISE" = some (.int 2 t)
  int_TOP : ∃ t, mg "TOP" = some (.int 16384 t)
  meth_LateSound__pass : Meth K (He.ga K "LateSound") "_pass" (He.ma K (He.ga K "LateSound") "_pass")
  meth_LateSound__sample : Meth K (He.ga K "LateSound") "_sample" (He.ma K (He.ga K "LateSound") "_sample")
  meth_LateSound_let : Meth K (He.ga K "LateSound") "let" (He.ma K (He.ga K "LateSound") "let")
  meth_LateSound_live_to : Meth K (He.ga K "LateSound") "live_to" (He.ma K (He.ga K "LateSound") "live_to")
  meth_LateSound_next : Meth K (He.ga K "LateSound") "next" (He.ma K (He.ga K "LateSound") "next")
  meth_LateSound_on : Meth K (He.ga K "LateSound") "on" (He.ma K (He.ga K "LateSound") "on")
  meth_LateSound_told : Meth K (He.ga K "LateSound") "told" (He.ma K (He.ga K "LateSound") "told")
  meth_Sound__sample : Meth K (He.ga K "Sound") "_sample" (He.ma K (He.ga K "Sound") "_sample")
  meth_Sound__turn : Meth K (He.ga K "Sound") "_turn" (He.ma K (He.ga K "Sound") "_turn")
  meth_Sound_let : Meth K (He.ga K "Sound") "let" (He.ma K (He.ga K "Sound") "let")
  meth_Sound_live : Meth K (He.ga K "Sound") "live" (He.ma K (He.ga K "Sound") "live")
  meth_Sound_on : Meth K (He.ga K "Sound") "on" (He.ma K (He.ga K "Sound") "on")
  meth_Sound_told : Meth K (He.ga K "Sound") "told" (He.ma K (He.ga K "Sound") "told")
  mkr_LateSound : Mk K (He.ga K "LateSound") (He.ma K (He.ga K "LateSound") "__init__")
  mkr_Sound : Mk K (He.ga K "Sound") (He.ma K (He.ga K "Sound") "__init__")
  noat_LateSound__channels : NoAttr K (He.ga K "LateSound") "_channels"
  noat_LateSound__next : NoAttr K (He.ga K "LateSound") "_next"
  noat_Sound__channels : NoAttr K (He.ga K "Sound") "_channels"
  def_fresh : ∃ fd, FunD K "fresh" "fresh" (defArgs s_fresh) (defBody s_fresh) (defScope s_fresh) [] [] (He.fAd K ("fresh", none)) fd
  def_Sound___init__ : ∃ fd, FunD K "__init__" "Sound.__init__" (defArgs s_Sound___init__) (defBody s_Sound___init__) (defScope s_Sound___init__) [] [] (He.fAd K ("Sound", some "__init__")) fd
  def_Sound___init___LateSound : ∃ fd, FunD K "__init__" "Sound.__init__" (defArgs s_Sound___init__) (defBody s_Sound___init__) (defScope s_Sound___init__) [] [] (He.fAd K ("Sound", some "__init__")) fd
  def_Sound__turn : ∃ fd, FunD K "_turn" "Sound._turn" (defArgs s_Sound__turn) (defBody s_Sound__turn) (defScope s_Sound__turn) [] [] (He.fAd K ("Sound", some "_turn")) fd
  def_Sound__sample : ∃ fd, FunD K "_sample" "Sound._sample" (defArgs s_Sound__sample) (defBody s_Sound__sample) (defScope s_Sound__sample) [] [] (He.fAd K ("Sound", some "_sample")) fd
  def_Sound__sample_LateSound : ∃ fd, FunD K "_sample" "Sound._sample" (defArgs s_Sound__sample) (defBody s_Sound__sample) (defScope s_Sound__sample) [] [] (He.fAd K ("LateSound", some "_sample")) fd
  def_Sound_live : ∃ fd, FunD K "live" "Sound.live" (defArgs s_Sound_live) (defBody s_Sound_live) (defScope s_Sound_live) [] [] (He.fAd K ("Sound", some "live")) fd
  def_Sound_let : ∃ fd, FunD K "let" "Sound.let" (defArgs s_Sound_let) (defBody s_Sound_let) (defScope s_Sound_let) [] [] (He.fAd K ("Sound", some "let")) fd
  def_Sound_let_LateSound : ∃ fd, FunD K "let" "Sound.let" (defArgs s_Sound_let) (defBody s_Sound_let) (defScope s_Sound_let) [] [] (He.fAd K ("LateSound", some "let")) fd
  def_Sound_on : ∃ fd, FunD K "on" "Sound.on" (defArgs s_Sound_on) (defBody s_Sound_on) (defScope s_Sound_on) [] [] (He.fAd K ("Sound", some "on")) fd
  def_Sound_on_LateSound : ∃ fd, FunD K "on" "Sound.on" (defArgs s_Sound_on) (defBody s_Sound_on) (defScope s_Sound_on) [] [] (He.fAd K ("LateSound", some "on")) fd
  def_Sound_told : ∃ fd, FunD K "told" "Sound.told" (defArgs s_Sound_told) (defBody s_Sound_told) (defScope s_Sound_told) [] [] (He.fAd K ("Sound", some "told")) fd
  def_Sound_told_LateSound : ∃ fd, FunD K "told" "Sound.told" (defArgs s_Sound_told) (defBody s_Sound_told) (defScope s_Sound_told) [] [] (He.fAd K ("LateSound", some "told")) fd
  def_first_from : ∃ fd, FunD K "first_from" "first_from" (defArgs s_first_from) (defBody s_first_from) (defScope s_first_from) [] [] (He.fAd K ("first_from", none)) fd
  def_ends_in : ∃ fd, FunD K "ends_in" "ends_in" (defArgs s_ends_in) (defBody s_ends_in) (defScope s_ends_in) [] [] (He.fAd K ("ends_in", none)) fd
  def_LateSound_next : ∃ fd, FunD K "next" "LateSound.next" (defArgs s_LateSound_next) (defBody s_LateSound_next) (defScope s_LateSound_next) [] [] (He.fAd K ("LateSound", some "next")) fd
  def_LateSound__pass : ∃ fd, FunD K "_pass" "LateSound._pass" (defArgs s_LateSound__pass) (defBody s_LateSound__pass) (defScope s_LateSound__pass) [] [] (He.fAd K ("LateSound", some "_pass")) fd
  def_LateSound_live_to : ∃ fd, FunD K "live_to" "LateSound.live_to" (defArgs s_LateSound_live_to) (defBody s_LateSound_live_to) (defScope s_LateSound_live_to) [] [] (He.fAd K ("LateSound", some "live_to")) fd
  def__law_draws : ∃ fd, FunD K "_law_draws" "_law_draws" (defArgs s__law_draws) (defBody s__law_draws) (defScope s__law_draws) [] [] (He.fAd K ("_law_draws", none)) fd
  def__law_mix : ∃ fd, FunD K "_law_mix" "_law_mix" (defArgs s__law_mix) (defBody s__law_mix) (defScope s__law_mix) [] [] (He.fAd K ("_law_mix", none)) fd
  def__law_noise : ∃ fd, FunD K "_law_noise" "_law_noise" (defArgs s__law_noise) (defBody s__law_noise) (defScope s__law_noise) [] [] (He.fAd K ("_law_noise", none)) fd
  def__law_channel : ∃ fd, FunD K "_law_channel" "_law_channel" (defArgs s__law_channel) (defBody s__law_channel) (defScope s__law_channel) [] [] (He.fAd K ("_law_channel", none)) fd
  def__law_lets : ∃ fd, FunD K "_law_lets" "_law_lets" (defArgs s__law_lets) (defBody s__law_lets) (defScope s__law_lets) [] [] (He.fAd K ("_law_lets", none)) fd
  def__law_volume : ∃ fd, FunD K "_law_volume" "_law_volume" (defArgs s__law_volume) (defBody s__law_volume) (defScope s__law_volume) [] [] (He.fAd K ("_law_volume", none)) fd
  def__law_phase : ∃ fd, FunD K "_law_phase" "_law_phase" (defArgs s__law_phase) (defBody s__law_phase) (defScope s__law_phase) [] [] (He.fAd K ("_law_phase", none)) fd
  def__law_sample : ∃ fd, FunD K "_law_sample" "_law_sample" (defArgs s__law_sample) (defBody s__law_sample) (defScope s__law_sample) [] [] (He.fAd K ("_law_sample", none)) fd
  def__law_end : ∃ fd, FunD K "_law_end" "_law_end" (defArgs s__law_end) (defBody s__law_end) (defScope s__law_end) [] [] (He.fAd K ("_law_end", none)) fd
  def__law_plain : ∃ fd, FunD K "_law_plain" "_law_plain" (defArgs s__law_plain) (defBody s__law_plain) (defScope s__law_plain) [] [] (He.fAd K ("_law_plain", none)) fd
  def__law_late : ∃ fd, FunD K "_law_late" "_law_late" (defArgs s__law_late) (defBody s__law_late) (defScope s__law_late) [] [] (He.fAd K ("_law_late", none)) fd
  def_law : ∃ fd, FunD K "law" "law" (defArgs s_law) (defBody s_law) (defScope s_law) [] [] (He.fAd K ("law", none)) fd
end K61
/-! Ma61: the channels as plain data, what is done to them. -/
namespace K61
open PySem PySem.Spec PyProof.Rows L2 Kx
structure Ch where
  count : Int
  left : Int
  length : Int
  on : Bool
  period : Int
  phase : Int
  row : Int
  volume : Int
deriving DecidableEq
def chK (c : Ch) : List (Key × V) := [(Sum.inr "count", .int c.count), (Sum.inr "left", .int c.left), (Sum.inr "length", .int c.length), (Sum.inr "on", .bl c.on), (Sum.inr "period", .int c.period), (Sum.inr "phase", .int c.phase), (Sum.inr "row", .int c.row), (Sum.inr "volume", .int c.volume)]
theorem ch_len (c : Ch) : (chK c).length < sizeLine := by show 8 < sizeLine; decide
section
variable (c : Ch) (i : Int) (b : Bool)
theorem gCount : valV (chK c) (Sum.inr "count") = some (.int c.count) := by kernel_rfl
theorem gLeft : valV (chK c) (Sum.inr "left") = some (.int c.left) := by kernel_rfl
theorem gLength : valV (chK c) (Sum.inr "length") = some (.int c.length) := by kernel_rfl
theorem gOn : valV (chK c) (Sum.inr "on") = some (.bl c.on) := by kernel_rfl
theorem gPeriod : valV (chK c) (Sum.inr "period") = some (.int c.period) := by kernel_rfl
theorem gPhase : valV (chK c) (Sum.inr "phase") = some (.int c.phase) := by kernel_rfl
theorem gRow : valV (chK c) (Sum.inr "row") = some (.int c.row) := by kernel_rfl
theorem gVolume : valV (chK c) (Sum.inr "volume") = some (.int c.volume) := by kernel_rfl
theorem pCount : putK (chK c) (Sum.inr "count") (.int i) = chK { c with count := i } := by kernel_rfl
theorem pLeft : putK (chK c) (Sum.inr "left") (.int i) = chK { c with left := i } := by kernel_rfl
theorem pLength : putK (chK c) (Sum.inr "length") (.int i) = chK { c with length := i } := by kernel_rfl
theorem pOn : putK (chK c) (Sum.inr "on") (.bl b) = chK { c with on := b } := by kernel_rfl
theorem pPeriod : putK (chK c) (Sum.inr "period") (.int i) = chK { c with period := i } := by kernel_rfl
theorem pPhase : putK (chK c) (Sum.inr "phase") (.int i) = chK { c with phase := i } := by kernel_rfl
theorem pRow : putK (chK c) (Sum.inr "row") (.int i) = chK { c with row := i } := by kernel_rfl
theorem pVolume : putK (chK c) (Sum.inr "volume") (.int i) = chK { c with volume := i } := by kernel_rfl
end
/-- a channel at first -/
def ch0 : Ch := ⟨0, 0, 0, false, 256, 0, 1, 0⟩
/-- the end of a period -/
def turnC (k : Int) (c : Ch) : Ch :=
  if k = 2 then
    let r := c.row / 2 + 16384 * ((c.row + c.row / 2) % 2)
    { c with count := c.period, row := r, phase := r % 2 }
  else { c with count := c.period, phase := 1 - c.phase }
/-- a cycle -/
def liveC (k : Int) (c : Ch) : Ch :=
  if c.on = true then (if c.count - 1 = 0 then turnC k { c with count := c.count - 1 } else { c with count := c.count - 1 }) else c
/-- what it adds to a sample; behind it -/
def valC (c : Ch) : Int := if c.on = true then c.volume * c.phase else 0
def sampC (c : Ch) : Ch := if c.on = true then (if 0 < c.left then { c with left := c.left - 1, on := decide (0 < c.left - 1) } else c) else c
/-- the row's bits in so many turns -/
def rowC : Nat → Int → Int
  | 0, r => r
  | n + 1, r => rowC n (r / 2 + 16384 * ((r + r / 2) % 2))
def endsN (cycles count start : Int) : Int := if cycles < count then 0 else 1 + (cycles - count) / start
def endsC (cycles count start : Int) : Int := if cycles < count then count - cycles else start - (cycles - count) % start
/-- many cycles -/
def passC (k cycles : Int) (c : Ch) : Ch :=
  if c.on = true then
    let n := endsN cycles c.count c.period
    let c1 := { c with count := endsC cycles c.count c.period }
    if k = 2 then (if 0 < n then { c1 with row := rowC n.toNat c.row, phase := rowC n.toNat c.row % 2 } else c1) else { c1 with phase := (c.phase + n) % 2 }
  else c
def letC (word byte : Int) (c : Ch) : Ch :=
  if word = 0 then { c with period := if byte = 0 then 256 else byte }
  else if word = 1 then { c with volume := byte % 16 }
  else if word = 2 then { c with length := byte }
  else { c with count := c.period, left := c.length, on := true, phase := 0 }
/-! ### the three of a unit -/
def eachC (f : Int → Ch → Ch) (cs : List Ch) : List Ch := cs.mapIdx fun i c => f (i : Int) c
def letU (which byte : Int) (cs : List Ch) : List Ch := if which < 12 then cs.modify (which / 4).toNat (letC (which % 4) byte) else cs
def sumU (cs : List Ch) : Int := (cs.map valC).sum
def onU (cs : List Ch) : Int := (cs.mapIdx fun i c => [1, 2, 4].getD i 0 * (if c.on then 1 else 0)).sum
def okC (c : Ch) : Prop := 0 ≤ c.volume ∧ c.volume < 16 ∧ 0 < c.period ∧ c.period ≤ 256 ∧ (c.phase = 0 ∨ c.phase = 1)
/-- up to a cycle: the channels, the cycle to live next, the samples -/
def lastOf (n : Int) : Int := n + (31 - n) % 32
def stopOf (goal n : Int) : Int := if lastOf n + 1 < goal then lastOf n + 1 else goal
def liveToF : Nat → Int → List Ch → Int → List Int → List Ch × Int × List Int
  | 0, _, cs, n, f => (cs, n, f)
  | k + 1, goal, cs, n, f =>
    if n < goal then
      (if stopOf goal n = lastOf n + 1 then
        liveToF k goal ((eachC (fun k => passC k (stopOf goal n - n)) cs).map sampC) (stopOf goal n) (f ++ [sumU (eachC (fun k => passC k (stopOf goal n - n)) cs)])
      else liveToF k goal (eachC (fun k => passC k (stopOf goal n - n)) cs) (stopOf goal n) f)
    else (cs, n, f)
def liveTo (goal : Int) (cs : List Ch) (n : Int) : List Ch × Int × List Int := liveToF (goal - n).toNat goal cs n []
def liveU (now : Int) (cs : List Ch) : List Ch := if now % 32 = 31 then (eachC liveC cs).map sampC else eachC liveC cs
def outU (now : Int) (cs : List Ch) : V := if now % 32 = 31 then .int (sumU (eachC liveC cs)) else .non
/-! ### what the law draws -/
structure LCh where
  begin_ : Int
  period : Int
  volume : Int
  length : Int
  change : Int
  other : Int
def lcK (c : LCh) : List (Key × V) := [(Sum.inr "begin", .int c.begin_), (Sum.inr "period", .int c.period), (Sum.inr "volume", .int c.volume), (Sum.inr "length", .int c.length), (Sum.inr "change", .int c.change), (Sum.inr "other", .int c.other)]
structure LcOk (c : LCh) : Prop where
  b0 : 0 ≤ c.begin_
  b1 : c.begin_ < 300
  p0 : 0 < c.period
  p1 : c.period ≤ 256
  v0 : 0 ≤ c.volume
  v1 : c.volume < 16
  l0 : 0 ≤ c.length
  l1 : c.length ≤ 40
  c0 : c.begin_ ≤ c.change
  c1 : c.change < c.begin_ + 300
  o0 : 0 ≤ c.other
  o1 : c.other < 256
section
variable (c : LCh)
theorem lBegin : valV (lcK c) (Sum.inr "begin") = some (.int c.begin_) := by kernel_rfl
theorem lPeriod : valV (lcK c) (Sum.inr "period") = some (.int c.period) := by kernel_rfl
theorem lVolume : valV (lcK c) (Sum.inr "volume") = some (.int c.volume) := by kernel_rfl
theorem lLength : valV (lcK c) (Sum.inr "length") = some (.int c.length) := by kernel_rfl
theorem lChange : valV (lcK c) (Sum.inr "change") = some (.int c.change) := by kernel_rfl
theorem lOther : valV (lcK c) (Sum.inr "other") = some (.int c.other) := by kernel_rfl
end
/-- the bits of noise -/
def nz : Nat → Int
  | 0 => 1
  | n + 1 => if h : n + 1 < 15 then 0 else (nz (n + 1 - 15) + nz (n + 1 - 14)) % 2
def nzL (many : Nat) : List Int := (List.range (15 + many)).map nz
def letsOf (k : Int) (c : LCh) (now : Int) : List (Int × Int) :=
  (if c.begin_ = now then [(4 * k + 2, c.length), (4 * k, c.period % 256), (4 * k + 1, c.volume + 16 * k), (4 * k + 3, 7 * k)] else []) ++ (if c.change = now then [(4 * k + 1, c.other)] else [])
def letsM (lcs : List LCh) (now : Int) : List (Int × Int) := (lcs.mapIdx fun i c => letsOf (i : Int) c now).flatten
def volM (c : LCh) (now : Int) : Int := if c.change ≤ now then c.other % 16 else c.volume
def phM (k turns : Int) : Int := if k = 2 then nz turns.toNat * (if 0 < turns then 1 else 0) else turns % 2
def smpC (k : Int) (c : LCh) (j : Int) : Int :=
  if c.begin_ ≤ 32 * j + 31 ∧ (c.length = 0 ∨ j - c.begin_ / 32 < c.length) then volM c (32 * j + 31) * phM k ((32 * j + 31 - c.begin_ + 1) / c.period) else 0
def smpM (lcs : List LCh) (j : Int) : Int := (lcs.mapIdx fun i c => smpC (i : Int) c j).sum
def pw (i : Nat) : Int := 2 ^ i
def rowM (turns : Int) : Int := ((List.range 15).map fun i => nz (turns.toNat + i) * pw i).sum
def leftM (c : LCh) (goal : Int) : Int := if c.length - (goal / 32 - c.begin_ / 32) > 0 then c.length - (goal / 32 - c.begin_ / 32) else 0
def offM (c : LCh) (goal : Int) : Bool := decide (0 < c.length) && decide (leftM c goal = 0)
def cycM (c : LCh) (goal : Int) : Int := if offM c goal = true then 32 * (c.begin_ / 32 + c.length) - c.begin_ else goal - c.begin_
def endM (k : Int) (c : LCh) (goal : Int) : Ch :=
  if goal ≤ c.begin_ then ch0
  else ⟨c.period - cycM c goal % c.period, leftM c goal, c.length, !offM c goal, c.period, phM k (cycM c goal / c.period), if k = 2 then rowM (cycM c goal / c.period) else 1, volM c (goal - 1)⟩
def endsM (lcs : List LCh) (goal : Int) : List Ch := lcs.mapIdx fun i c => endM (i : Int) c goal
/-! ### the two runs -/
def setsU (ps : List (Int × Int)) (cs : List Ch) : List Ch := ps.foldl (fun cs p => letU p.1 p.2 cs) cs
def cs0 : List Ch := [ch0, ch0, ch0]
def plainF (lcs : List LCh) : Nat → List Ch × List Int
  | 0 => (cs0, [])
  | n + 1 =>
    let r := plainF lcs n
    let cs := setsU (letsM lcs (n : Int)) r.1
    (liveU (n : Int) cs, if (n : Int) % 32 = 31 then r.2 ++ [sumU (eachC liveC cs)] else r.2)
def lateF (lcs : List LCh) (goal : Int) : List Int → List Ch × Int × List Int × Int → List Ch × Int × List Int × Int
  | [], r => r
  | t :: ts, (cs, n, f, b) =>
    if t < goal ∧ t ≠ b then lateF lcs goal ts (setsU (letsM lcs t) (liveTo t cs n).1, (liveTo t cs n).2.1, f ++ (liveTo t cs n).2.2, t)
    else lateF lcs goal ts (cs, n, f, b)
end K61
/-! Sp61: the promises. -/
namespace K61
open PySem PySem.Spec PyProof.Rows L2 Kx
def sf (l : Addr) : Option Int → List (Str × V)
  | none => [("_channels", .ref l)]
  | some n => [("_channels", .ref l), ("_next", .int n)]
theorem sf_ch (l : Addr) (nx : Option Int) : (sf l nx).lookup ("_channels" : Str) = some (.ref l) := by cases nx <;> kernel_rfl
theorem sf_nx (l : Addr) (n : Int) : (sf l (some n)).lookup ("_next" : Str) = some (.int n) := by kernel_rfl
theorem sf_put (l : Addr) (n m : Int) : putF "_next" (.int m) (sf l (some n)) = sf l (some m) := by kernel_rfl
theorem sf_new (l : Addr) (m : Int) : putF "_next" (.int m) (sf l none) = sf l (some m) := by kernel_rfl
theorem sf_first (l : Addr) : putF "_channels" (.ref l) [] = sf l none := by kernel_rfl
theorem sf_len (l : Addr) (nx : Option Int) : (sf l nx).length < 1000 := by cases nx <;> (unfold sf; simp)
structure Snd (C : Addr) (H : Hp) (p l : Addr) (ds : List Addr) (cs : List Ch) (nx : Option Int) : Prop where
  ob : ∃ dx, H p = some (.ins C dx (sf l nx))
  ls : H l = some (.lst (ds.map V.ref))
  nd : ds.Nodup
  dl : ds.length = 3
  cl : cs.length = 3
  at_ : ∀ (i : Nat) (d : Addr), ds[i]? = some d → ∃ c, cs[i]? = some c ∧ H d = some (.dK (chK c))
  ok : ∀ c ∈ cs, okC c
def sp_fresh (K : PySem.W.Frag) : Sp := fun vs H Q _ => vs = [] ∧ ∀ p, H p = none → Q (.ref p) (upd H p (.dK (chK ch0)))
def spInit (C : Addr) : Sp := fun vs H Q _ => ∃ p dx, vs = [.ref p] ∧ H p = some (.ins C dx []) ∧
  ∀ l ds H', Snd C H' p l ds cs0 none → H l = none → (∀ d ∈ ds, H d = none) → Keep [p] H H' → Q .non H'
def sp_Sound___init__ (K : PySem.W.Frag) : Sp := spInit (He.ga K "Sound")
def sp_Sound___init___LateSound (K : PySem.W.Frag) : Sp := spInit (He.ga K "LateSound")
def sp_LateSound___init__ (K : PySem.W.Frag) : Sp := fun vs H Q _ => ∃ p dx, vs = [.ref p] ∧ H p = some (.ins (He.ga K "LateSound") dx []) ∧
  ∀ l ds H', Snd (He.ga K "LateSound") H' p l ds cs0 (some 0) → H l = none → (∀ d ∈ ds, H d = none) → Keep [p] H H' → Q .non H'
def sp_Sound__turn (K : PySem.W.Frag) : Sp := fun vs H Q _ => ∃ p k d c, vs = [.ref p, .int k, .ref d] ∧ H d = some (.dK (chK c)) ∧ Q .non (upd H d (.dK (chK (turnC k c))))
def spSample (C : Addr) : Sp := fun vs H Q _ => ∃ p l ds cs nx, vs = [.ref p] ∧ Snd C H p l ds cs nx ∧ ∀ H', Snd C H' p l ds (cs.map sampC) nx → Keep ds H H' → Q (.int (sumU cs)) H'
def sp_Sound__sample (K : PySem.W.Frag) : Sp := spSample (He.ga K "Sound")
def sp_Sound__sample_LateSound (K : PySem.W.Frag) : Sp := spSample (He.ga K "LateSound")
def sp_Sound_live (K : PySem.W.Frag) : Sp := fun vs H Q _ => ∃ p now l ds cs nx, vs = [.ref p, .int now] ∧ Snd (He.ga K "Sound") H p l ds cs nx ∧
  ∀ H', Snd (He.ga K "Sound") H' p l ds (liveU now cs) nx → Keep ds H H' → Q (outU now cs) H'
def spLet (C : Addr) : Sp := fun vs H Q _ => ∃ p which byte l ds cs nx, vs = [.ref p, .int which, .int byte] ∧ Snd C H p l ds cs nx ∧ (0 ≤ which ∧ which < 12) ∧ (0 ≤ byte ∧ byte < 256) ∧
  ∀ H', Snd C H' p l ds (letU which byte cs) nx → Keep ds H H' → Q .non H'
def sp_Sound_let (K : PySem.W.Frag) : Sp := spLet (He.ga K "Sound")
def sp_Sound_let_LateSound (K : PySem.W.Frag) : Sp := spLet (He.ga K "LateSound")
def spOn (C : Addr) : Sp := fun vs H Q _ => ∃ p l ds cs nx, vs = [.ref p] ∧ Snd C H p l ds cs nx ∧ ∀ H', Same H H' → Q (.int (onU cs)) H'
def sp_Sound_on (K : PySem.W.Frag) : Sp := spOn (He.ga K "Sound")
def sp_Sound_on_LateSound (K : PySem.W.Frag) : Sp := spOn (He.ga K "LateSound")
/-- a list of dicts that tell channels -/
def Told (H : Hp) (q : Addr) (cs : List Ch) : Prop := ∃ es : List Addr, H q = some (.lst (es.map V.ref)) ∧ Paired (fun e c => H e = some (.dK (chK c))) es cs
def spTold (C : Addr) : Sp := fun vs H Q _ => ∃ p l ds cs nx, vs = [.ref p] ∧ Snd C H p l ds cs nx ∧ ∀ q H', Same H H' → Told H' q cs → Q (.ref q) H'
def sp_Sound_told (K : PySem.W.Frag) : Sp := spTold (He.ga K "Sound")
def sp_Sound_told_LateSound (K : PySem.W.Frag) : Sp := spTold (He.ga K "LateSound")
def sp_first_from (K : PySem.W.Frag) : Sp := fun vs H Q _ => ∃ now rest whole, vs = [.int now, .int rest, .int whole] ∧ 0 < whole ∧ Q (.int (now + (rest - now) % whole)) H
def sp_ends_in (K : PySem.W.Frag) : Sp := fun vs H Q _ => ∃ cycles count start, vs = [.int cycles, .int count, .int start] ∧ (0 < start ∧ start ≤ 256) ∧ ∀ p, H p = none → Q (.ref p) (upd H p (.tup [.int (endsN cycles count start), .int (endsC cycles count start)]))
def sp_LateSound_next (K : PySem.W.Frag) : Sp := fun vs H Q _ => ∃ p l ds cs n, vs = [.ref p] ∧ Snd (He.ga K "LateSound") H p l ds cs (some n) ∧ Q (.int n) H
def sp_LateSound__pass (K : PySem.W.Frag) : Sp := fun vs H Q _ => ∃ p cycles l ds cs nx, vs = [.ref p, .int cycles] ∧ Snd (He.ga K "LateSound") H p l ds cs nx ∧ (0 ≤ cycles ∧ cycles < 1000000) ∧ (∀ c ∈ cs, 0 ≤ c.count) ∧
  ∀ H', Snd (He.ga K "LateSound") H' p l ds (eachC (fun k => passC k cycles) cs) nx → Keep ds H H' → Q .non H'
def sp_LateSound_live_to (K : PySem.W.Frag) : Sp := fun vs H Q _ => ∃ p goal l ds cs n, vs = [.ref p, .int goal] ∧ Snd (He.ga K "LateSound") H p l ds cs (some n) ∧ (0 ≤ n ∧ goal < 1000000) ∧ (∀ c ∈ cs, 0 ≤ c.count) ∧
  ∀ q H', H q = none → Snd (He.ga K "LateSound") H' p l ds (liveTo goal cs n).1 (some (liveTo goal cs n).2.1) → Keep (p :: ds) H H' → H' q = some (.lst ((liveTo goal cs n).2.2.map V.int)) → Q (.ref q) H'
/-! ### the law's own -/
def DrOk (ds : List Int) : Prop := ds.length ≤ 4000 ∧ ∀ d ∈ ds, 0 ≤ d ∧ d < 65536
def sp__law_draws (K : PySem.W.Frag) : Sp := fun vs H Q _ => ∃ (a : Addr) (ns : List Int), vs = [.ref a] ∧ SqL K H a (ns.map V.int) ∧ ns.length ≤ 63 ∧ ∀ q ds H', DrOk ds → New H q (.lst (ds.map V.int)) H' → Q (.ref q) H'
def sp__law_mix (K : PySem.W.Frag) : Sp := fun vs H Q _ => ∃ (a : Addr) (ds : List Int) (k many : Int), vs = [.ref a, .int k, .int many] ∧ SqL K H a (ds.map V.int) ∧ DrOk ds ∧ (0 ≤ k ∧ k < 1000000) ∧ 0 < many ∧ ∀ m : Int, 0 ≤ m → m < many → Q (.int m) H
def sp__law_noise (K : PySem.W.Frag) : Sp := fun vs H Q _ => ∃ n : Nat, vs = [.int (n : Int)] ∧ n ≤ 1000000 ∧ ∀ q H', New H q (.lst ((nzL n).map V.int)) H' → Q (.ref q) H'
def sp__law_channel (K : PySem.W.Frag) : Sp := fun vs H Q _ => ∃ (a : Addr) (ds : List Int) (k : Int), vs = [.ref a, .int k] ∧ SqL K H a (ds.map V.int) ∧ DrOk ds ∧ (0 ≤ k ∧ k < 900000) ∧ ∀ q c H', LcOk c → New H q (.dK (lcK c)) H' → Q (.ref q) H'
/-- a list of dicts that tell what was drawn -/
def Lcs (K : PySem.W.Frag) (H : Hp) (a : Addr) (lcs : List LCh) : Prop := ∃ es : List Addr, SqL K H a (es.map V.ref) ∧ Paired (fun e c => H e = some (.dK (lcK c))) es lcs ∧ lcs.length = 3 ∧ ∀ c ∈ lcs, LcOk c
def PairL (H : Hp) (q : Addr) (ps : List (Int × Int)) : Prop := ∃ ts : List Addr, H q = some (.lst (ts.map V.ref)) ∧ Paired (fun t p => H t = some (.tup [.int p.1, .int p.2])) ts ps
def sp__law_lets (K : PySem.W.Frag) : Sp := fun vs H Q _ => ∃ (a : Addr) (lcs : List LCh) (now : Int), vs = [.ref a, .int now] ∧ Lcs K H a lcs ∧ ∀ q H', Same H H' → PairL H' q (letsM lcs now) → Q (.ref q) H'
def sp__law_volume (K : PySem.W.Frag) : Sp := fun vs H Q _ => ∃ (d : Addr) (c : LCh) (now : Int), vs = [.ref d, .int now] ∧ H d = some (.dK (lcK c)) ∧ ∀ H', Same H H' → Q (.int (volM c now)) H'
def sp__law_phase (K : PySem.W.Frag) : Sp := fun vs H Q _ => ∃ (a : Addr) (n : Nat) (k turns : Int), vs = [.int k, .int turns, .ref a] ∧ SqL K H a ((nzL n).map V.int) ∧ (0 ≤ turns ∧ turns < 15 + n) ∧ Q (.int (phM k turns)) H
def sp__law_sample (K : PySem.W.Frag) : Sp := fun vs H Q _ => ∃ (a b : Addr) (lcs : List LCh) (j : Int) (n : Nat), vs = [.ref a, .int j, .ref b] ∧ Lcs K H a lcs ∧ SqL K H b ((nzL n).map V.int) ∧ (0 ≤ j ∧ 32 * j + 31 < n) ∧ ∀ H', Same H H' → Q (.int (smpM lcs j)) H'
def sp__law_end (K : PySem.W.Frag) : Sp := fun vs H Q _ => ∃ (d b : Addr) (c : LCh) (k goal : Int) (n : Nat), vs = [.int k, .ref d, .int goal, .ref b] ∧ H d = some (.dK (lcK c)) ∧ LcOk c ∧ SqL K H b ((nzL n).map V.int) ∧ (0 ≤ goal ∧ goal + 16 ≤ n) ∧
  ∀ q H', H q = none → Same H H' → H' q = some (.dK (chK (endM k c goal))) → Q (.ref q) H'
/-- the triple of samples, channels, what is on -/
def Res (H : Hp) (q : Addr) (f : List Int) (cs : List Ch) (on : Int) : Prop := ∃ a b, H q = some (.tup [.ref a, .ref b, .int on]) ∧ H a = some (.lst (f.map V.int)) ∧ Told H b cs
def sp__law_plain (K : PySem.W.Frag) : Sp := fun vs H Q _ => ∃ (a : Addr) (lcs : List LCh) (n : Nat), vs = [.ref a, .int (n : Int)] ∧ Lcs K H a lcs ∧ n < 100000 ∧
  ∀ q H', Same H H' → Res H' q (plainF lcs n).2 (plainF lcs n).1 (onU (plainF lcs n).1) → Q (.ref q) H'
/-- what the late run has: the cycles in which something is done, sorted; then to the goal -/
def lateM (lcs : List LCh) (goal : Int) (ts : List Int) : List Ch × Int × List Int :=
  let r := lateF lcs goal ts (cs0, 0, [], -1)
  ((liveTo goal r.1 r.2.1).1, (liveTo goal r.1 r.2.1).2.1, r.2.2.1 ++ (liveTo goal r.1 r.2.1).2.2)
def stopsOf (lcs : List LCh) (stops : List Int) : List Int := (lcs.map (·.begin_) ++ lcs.map (·.change)) ++ stops
def sp__law_late (K : PySem.W.Frag) : Sp := fun vs H Q _ => ∃ (a b : Addr) (lcs : List LCh) (goal : Int) (stops : List Int), vs = [.ref a, .int goal, .ref b] ∧ Lcs K H a lcs ∧ H b = some (.lst (stops.map V.int)) ∧ stops.length = 4 ∧ (∀ t ∈ stops, 0 ≤ t ∧ t < goal) ∧ (0 ≤ goal ∧ goal < 100000) ∧
  ∀ ts q H', ts.Perm (stopsOf lcs stops) → ts.Pairwise (· ≤ ·) → Same H H' → Res H' q (lateM lcs goal ts).2.2 (lateM lcs goal ts).1 (onU (lateM lcs goal ts).1) → Q (.ref q) H'
def sp_law (K : PySem.W.Frag) : Sp := fun vs H Q _ => ∃ (a : Addr) (ns : List Int), vs = [.ref a] ∧ SqL K H a (ns.map V.int) ∧ ns.length ≤ 63 ∧ ∀ H', Q (.bl true) H'
end K61
namespace K61
open PySem PySem.Spec PyProof.Rows L2 Kx
def t_fresh (K : PySem.W.Frag) : TS :=
  tRet (tDisp ((tC (.str "count"), tC (.int 0)) :: (tC (.str "left"), tC (.int 0)) :: (tC (.str "length"), tC (.int 0)) :: (tC (.str "on"), tC (.bl false)) :: (tC (.str "period"), tC (.int 256)) :: (tC (.str "phase"), tC (.int 0)) :: (tC (.str "row"), tC (.int 1)) :: (tC (.str "volume"), tC (.int 0)) :: []))
def t_Sound___init__ (K : PySem.W.Frag) : TS :=
  sFld K (tVar 0) (tLc (iRng1 (tCons (tC (.int 3)) tNil)) (gName 1) tYes (tCall (sp_fresh K) [] E0 tNil) [1]) "_channels"
def t_Sound___init___LateSound (K : PySem.W.Frag) : TS :=
  sFld K (tVar 0) (tLc (iRng1 (tCons (tC (.int 3)) tNil)) (gName 1) tYes (tCall (sp_fresh K) [] E0 tNil) [1]) "_channels"
def t_Sound__turn (K : PySem.W.Frag) : TS :=
  tSeq (sDPut (tVar 2) (tC (.str "count")) (tDGet (tVar 2) (tC (.str "period"))))
  (tIfS (tTest (tOp (rEq) (tVar 1) (tC (.int 2)))) (tSeq (tAsg (tOp (rI (fun _ j => 0 < j) fun i j => .int (i % j)) (tOp (rI0 fun i j => .int (i + j)) (tDGet (tVar 2) (tC (.str "row"))) (tOp (rI CDiv fun i j => .int (i / j)) (tDGet (tVar 2) (tC (.str "row"))) (tC (.int 2)))) (tC (.int 2))) (gName 3))
  (tSeq (sDPut (tVar 2) (tC (.str "row")) (tOp (rI0 fun i j => .int (i + j)) (tOp (rI CDiv fun i j => .int (i / j)) (tDGet (tVar 2) (tC (.str "row"))) (tC (.int 2))) (tOp (rI CMul fun i j => .int (i * j)) (tC (.int 16384)) (tVar 3))))
  (sDPut (tVar 2) (tC (.str "phase")) (tOp (rI (fun _ j => 0 < j) fun i j => .int (i % j)) (tDGet (tVar 2) (tC (.str "row"))) (tC (.int 2)))))) (sDPut (tVar 2) (tC (.str "phase")) (tOp (rI0 fun i j => .int (i - j)) (tC (.int 1)) (tDGet (tVar 2) (tC (.str "phase"))))))
def t_Sound__sample (K : PySem.W.Frag) : TS :=
  tSeq (tAsg (tC (.int 0)) (gName 1))
  (tSeq (tFor (iList K (tFld K (tVar 0) "_channels")) (gName 2) (tIfS (tB (tDGet (tVar 2) (tC (.str "on")))) (tSeq (tAsg (tOp (rI0 fun i j => .int (i + j)) (tVar 1) (tOp (rI CMul fun i j => .int (i * j)) (tDGet (tVar 2) (tC (.str "volume"))) (tDGet (tVar 2) (tC (.str "phase"))))) (gName 1))
  (tIfS (tTest (tOp (rI0 fun i j => .bl (decide (j < i))) (tDGet (tVar 2) (tC (.str "left"))) (tC (.int 0)))) (tSeq (sDPut (tVar 2) (tC (.str "left")) (tOp (rI0 fun i j => .int (i - j)) (tDGet (tVar 2) (tC (.str "left"))) (tC (.int 1))))
  (sDPut (tVar 2) (tC (.str "on")) (tOp (rI0 fun i j => .bl (decide (j < i))) (tDGet (tVar 2) (tC (.str "left"))) (tC (.int 0))))) tNext)) tNext))
  (tRet (tVar 1)))
def t_Sound__sample_LateSound (K : PySem.W.Frag) : TS :=
  tSeq (tAsg (tC (.int 0)) (gName 1))
  (tSeq (tFor (iList K (tFld K (tVar 0) "_channels")) (gName 2) (tIfS (tB (tDGet (tVar 2) (tC (.str "on")))) (tSeq (tAsg (tOp (rI0 fun i j => .int (i + j)) (tVar 1) (tOp (rI CMul fun i j => .int (i * j)) (tDGet (tVar 2) (tC (.str "volume"))) (tDGet (tVar 2) (tC (.str "phase"))))) (gName 1))
  (tIfS (tTest (tOp (rI0 fun i j => .bl (decide (j < i))) (tDGet (tVar 2) (tC (.str "left"))) (tC (.int 0)))) (tSeq (sDPut (tVar 2) (tC (.str "left")) (tOp (rI0 fun i j => .int (i - j)) (tDGet (tVar 2) (tC (.str "left"))) (tC (.int 1))))
  (sDPut (tVar 2) (tC (.str "on")) (tOp (rI0 fun i j => .bl (decide (j < i))) (tDGet (tVar 2) (tC (.str "left"))) (tC (.int 0))))) tNext)) tNext))
  (tRet (tVar 1)))
def t_Sound_live (K : PySem.W.Frag) : TS :=
  tSeq (tFor (iEnum K (tCons (tFld K (tVar 0) "_channels") tNil)) (gTup K 2 (gCons (gName 2) (gCons (gName 3) gNil))) (tIfS (tB (tDGet (tVar 3) (tC (.str "on")))) (tSeq (sDPut (tVar 3) (tC (.str "count")) (tOp (rI0 fun i j => .int (i - j)) (tDGet (tVar 3) (tC (.str "count"))) (tC (.int 1))))
  (tIfS (tTest (tOp (rEq) (tDGet (tVar 3) (tC (.str "count"))) (tC (.int 0)))) (tDrop (tMeth (He.ga K "Sound") "_turn" (sp_Sound__turn K) [] E0 (tVar 0) (tCons (tVar 2) (tCons (tVar 3) tNil)))) tNext)) tNext))
  (tRet (tIf (tTest (tOp (rEq) (tOp (rI (fun _ j => 0 < j) fun i j => .int (i % j)) (tVar 1) (tC (.int 32))) (tOp (rI0 fun i j => .int (i - j)) (tC (.int 32)) (tC (.int 1))))) (tMeth (He.ga K "Sound") "_sample" (sp_Sound__sample K) [] E0 (tVar 0) tNil) (tC .non)))
def t_Sound_let (K : PySem.W.Frag) : TS :=
  tIfS (tTest (tOp (rI0 fun i j => .bl (decide (i < j))) (tVar 1) (tOp (rI CMul fun i j => .int (i * j)) (tC (.int 4)) (tC (.int 3))))) (tSeq (tAsg (tOp (rIxL K) (tFld K (tVar 0) "_channels") (tOp (rI CDiv fun i j => .int (i / j)) (tVar 1) (tC (.int 4)))) (gName 3))
  (tSeq (tAsg (tOp (rI (fun _ j => 0 < j) fun i j => .int (i % j)) (tVar 1) (tC (.int 4))) (gName 4))
  (tIfS (tTest (tOp (rEq) (tVar 4) (tC (.int 0)))) (sDPut (tVar 3) (tC (.str "period")) (tIf (tTest (tOp (rEq) (tVar 2) (tC (.int 0)))) (tC (.int 256)) (tVar 2))) (tIfS (tTest (tOp (rEq) (tVar 4) (tC (.int 1)))) (sDPut (tVar 3) (tC (.str "volume")) (tOp (rI (fun _ j => 0 < j) fun i j => .int (i % j)) (tVar 2) (tC (.int 16)))) (tIfS (tTest (tOp (rEq) (tVar 4) (tC (.int 2)))) (sDPut (tVar 3) (tC (.str "length")) (tVar 2)) (tDrop (tBM K "dict" (rUpdP K) (tVar 3) (tCons (tLst (tCons (tTup (tCons (tC (.str "count")) (tCons (tDGet (tVar 3) (tC (.str "period"))) tNil))) (tCons (tTup (tCons (tC (.str "left")) (tCons (tDGet (tVar 3) (tC (.str "length"))) tNil))) (tCons (tTup (tCons (tC (.str "on")) (tCons (tC (.bl true)) tNil))) (tCons (tTup (tCons (tC (.str "phase")) (tCons (tC (.int 0)) tNil))) tNil))))) tNil)))))))) tNext
def t_Sound_let_LateSound (K : PySem.W.Frag) : TS :=
  tIfS (tTest (tOp (rI0 fun i j => .bl (decide (i < j))) (tVar 1) (tOp (rI CMul fun i j => .int (i * j)) (tC (.int 4)) (tC (.int 3))))) (tSeq (tAsg (tOp (rIxL K) (tFld K (tVar 0) "_channels") (tOp (rI CDiv fun i j => .int (i / j)) (tVar 1) (tC (.int 4)))) (gName 3))
  (tSeq (tAsg (tOp (rI (fun _ j => 0 < j) fun i j => .int (i % j)) (tVar 1) (tC (.int 4))) (gName 4))
  (tIfS (tTest (tOp (rEq) (tVar 4) (tC (.int 0)))) (sDPut (tVar 3) (tC (.str "period")) (tIf (tTest (tOp (rEq) (tVar 2) (tC (.int 0)))) (tC (.int 256)) (tVar 2))) (tIfS (tTest (tOp (rEq) (tVar 4) (tC (.int 1)))) (sDPut (tVar 3) (tC (.str "volume")) (tOp (rI (fun _ j => 0 < j) fun i j => .int (i % j)) (tVar 2) (tC (.int 16)))) (tIfS (tTest (tOp (rEq) (tVar 4) (tC (.int 2)))) (sDPut (tVar 3) (tC (.str "length")) (tVar 2)) (tDrop (tBM K "dict" (rUpdP K) (tVar 3) (tCons (tLst (tCons (tTup (tCons (tC (.str "count")) (tCons (tDGet (tVar 3) (tC (.str "period"))) tNil))) (tCons (tTup (tCons (tC (.str "left")) (tCons (tDGet (tVar 3) (tC (.str "length"))) tNil))) (tCons (tTup (tCons (tC (.str "on")) (tCons (tC (.bl true)) tNil))) (tCons (tTup (tCons (tC (.str "phase")) (tCons (tC (.int 0)) tNil))) tNil))))) tNil)))))))) tNext
def t_Sound_on (K : PySem.W.Frag) : TS :=
  tRet (tCB (rSum K) (tCons (tLc (iEnum K (tCons (tFld K (tVar 0) "_channels") tNil)) (gTup K 2 (gCons (gName 1) (gCons (gName 2) gNil))) tYes (tOp (rI CMul fun i j => .int (i * j)) (tOp (rIxT K) (tTup (tCons (tC (.int 1)) (tCons (tC (.int 2)) (tCons (tC (.int 4)) tNil)))) (tVar 1)) (tCB (rInt1) (tCons (tDGet (tVar 2) (tC (.str "on"))) tNil))) [1, 2]) tNil))
def t_Sound_on_LateSound (K : PySem.W.Frag) : TS :=
  tRet (tCB (rSum K) (tCons (tLc (iEnum K (tCons (tFld K (tVar 0) "_channels") tNil)) (gTup K 2 (gCons (gName 1) (gCons (gName 2) gNil))) tYes (tOp (rI CMul fun i j => .int (i * j)) (tOp (rIxT K) (tTup (tCons (tC (.int 1)) (tCons (tC (.int 2)) (tCons (tC (.int 4)) tNil)))) (tVar 1)) (tCB (rInt1) (tCons (tDGet (tVar 2) (tC (.str "on"))) tNil))) [1, 2]) tNil))
def t_Sound_told (K : PySem.W.Frag) : TS :=
  tRet (tLc (iList K (tFld K (tVar 0) "_channels")) (gName 1) tYes (tCB (rDictD) (tCons (tVar 1) tNil)) [1])
def t_Sound_told_LateSound (K : PySem.W.Frag) : TS :=
  tRet (tLc (iList K (tFld K (tVar 0) "_channels")) (gName 1) tYes (tCB (rDictD) (tCons (tVar 1) tNil)) [1])
def t_first_from (K : PySem.W.Frag) : TS :=
  tRet (tOp (rI0 fun i j => .int (i + j)) (tVar 0) (tOp (rI (fun _ j => 0 < j) fun i j => .int (i % j)) (tOp (rI0 fun i j => .int (i - j)) (tVar 1) (tVar 0)) (tVar 2)))
def t_ends_in (K : PySem.W.Frag) : TS :=
  tSeq (tIfS (tTest (tOp (rI0 fun i j => .bl (decide (i < j))) (tVar 0) (tVar 1))) (tRet (tTup (tCons (tC (.int 0)) (tCons (tOp (rI0 fun i j => .int (i - j)) (tVar 1) (tVar 0)) tNil)))) tNext)
  (tRet (tTup (tCons (tOp (rI0 fun i j => .int (i + j)) (tC (.int 1)) (tOp (rI CDiv fun i j => .int (i / j)) (tOp (rI0 fun i j => .int (i - j)) (tVar 0) (tVar 1)) (tVar 2))) (tCons (tOp (rI0 fun i j => .int (i - j)) (tVar 2) (tOp (rI (fun _ j => 0 < j) fun i j => .int (i % j)) (tOp (rI0 fun i j => .int (i - j)) (tVar 0) (tVar 1)) (tVar 2))) tNil))))
def t_LateSound_next (K : PySem.W.Frag) : TS :=
  tRet (tFld K (tVar 0) "_next")
def t_LateSound__pass (K : PySem.W.Frag) : TS :=
  tFor (iEnum K (tCons (tFld K (tVar 0) "_channels") tNil)) (gTup K 2 (gCons (gName 2) (gCons (gName 3) gNil))) (tIfS (tB (tDGet (tVar 3) (tC (.str "on")))) (tSeq (tAsg (tCall (sp_ends_in K) [] E0 (tCons (tVar 1) (tCons (tDGet (tVar 3) (tC (.str "count"))) (tCons (tDGet (tVar 3) (tC (.str "period"))) tNil)))) (gTup K 2 (gCons (gName 4) (gCons (gSub (tVar 3) (tC (.str "count")) rSetD) gNil))))
  (tIfS (tTest (tOp (rNe) (tVar 2) (tC (.int 2)))) (sDPut (tVar 3) (tC (.str "phase")) (tOp (rI (fun _ j => 0 < j) fun i j => .int (i % j)) (tOp (rI0 fun i j => .int (i + j)) (tDGet (tVar 3) (tC (.str "phase"))) (tVar 4)) (tC (.int 2)))) (tIfS (tTest (tOp (rI0 fun i j => .bl (decide (j < i))) (tVar 4) (tC (.int 0)))) (tSeq (tFor (iRng1 (tCons (tVar 4) tNil)) (gName 5) (tSeq (tAsg (tOp (rI (fun _ j => 0 < j) fun i j => .int (i % j)) (tOp (rI0 fun i j => .int (i + j)) (tDGet (tVar 3) (tC (.str "row"))) (tOp (rI CDiv fun i j => .int (i / j)) (tDGet (tVar 3) (tC (.str "row"))) (tC (.int 2)))) (tC (.int 2))) (gName 6))
  (sDPut (tVar 3) (tC (.str "row")) (tOp (rI0 fun i j => .int (i + j)) (tOp (rI CDiv fun i j => .int (i / j)) (tDGet (tVar 3) (tC (.str "row"))) (tC (.int 2))) (tOp (rI CMul fun i j => .int (i * j)) (tC (.int 16384)) (tVar 6))))))
  (sDPut (tVar 3) (tC (.str "phase")) (tOp (rI (fun _ j => 0 < j) fun i j => .int (i % j)) (tDGet (tVar 3) (tC (.str "row"))) (tC (.int 2))))) tNext))) tNext)
def t_LateSound_live_to (K : PySem.W.Frag) : TS :=
  tSeq (tAsg (tLst tNil) (gName 2))
  (tSeq (tWhile (tTest (tOp (rI0 fun i j => .bl (decide (i < j))) (tFld K (tVar 0) "_next") (tVar 1))) (tSeq (tAsg (tCall (sp_first_from K) [] E0 (tCons (tFld K (tVar 0) "_next") (tCons (tOp (rI0 fun i j => .int (i - j)) (tC (.int 32)) (tC (.int 1))) (tCons (tC (.int 32)) tNil)))) (gName 3))
  (tSeq (tAsg (tCB (rMin2) (tCons (tVar 1) (tCons (tOp (rI0 fun i j => .int (i + j)) (tVar 3) (tC (.int 1))) tNil))) (gName 4))
  (tSeq (tDrop (tMeth (He.ga K "LateSound") "_pass" (sp_LateSound__pass K) [] E0 (tVar 0) (tCons (tOp (rI0 fun i j => .int (i - j)) (tVar 4) (tFld K (tVar 0) "_next")) tNil)))
  (tSeq (sFld K (tVar 0) (tVar 4) "_next")
  (tIfS (tTest (tOp (rEq) (tVar 4) (tOp (rI0 fun i j => .int (i + j)) (tVar 3) (tC (.int 1))))) (tDrop (tBM K "list" (rAppend) (tVar 2) (tCons (tMeth (He.ga K "LateSound") "_sample" (sp_Sound__sample_LateSound K) [] E0 (tVar 0) tNil) tNil))) tNext))))))
  (tRet (tVar 2)))
def t__law_draws (K : PySem.W.Frag) : TS :=
  tSeq (tAsg (tLst tNil) (gName 1))
  (tSeq (tFor (iRng1 (tCons (tCB (rMin2) (tCons (tC (.int 63)) (tCons (tCB (rLen K) (tCons (tVar 0) tNil)) tNil))) tNil)) (gName 2) (tSeq (tAsg (tCB (rAbs) (tCons (tOp (rIxL K) (tVar 0) (tVar 2)) tNil)) (gName 3))
  (tIfS (tTest (tOp (rI0 fun i j => .bl (decide (j ≤ i))) (tVar 3) (tOp (rI CPow fun i j => .int (i ^ j.toNat)) (tC (.int 10)) (tC (.int 18))))) (tFor (iRng1 (tCons (tC (.int 60)) tNil)) (gName 4) (tIfS (tTest (tOp (rI0 fun i j => .bl (decide (j < i))) (tVar 3) (tC (.int 0)))) (tSeq (tDrop (tBM K "list" (rAppend) (tVar 1) (tCons (tOp (rI (fun _ j => 0 < j) fun i j => .int (i % j)) (tCB (rInt1) (tCons (tVar 3) tNil)) (tC (.int 65536))) tNil)))
  (tAsg (tOp (rI CDiv fun i j => .int (i / j)) (tVar 3) (tC (.int 65536))) (gName 3))) tNext)) (tSeq (tAsg (tOp (rI (fun _ j => 0 < j) fun i j => .int (i % j)) (tCB (rInt1) (tCons (tOp (rI0 fun i j => .int (i + j)) (tOp (rI CMul fun i j => .int (i * j)) (tVar 3) (tC (.int 48271))) (tOp (rI CMul fun i j => .int (i * j)) (tOp (rI0 fun i j => .int (i + j)) (tVar 2) (tC (.int 1))) (tC (.int 69621)))) tNil)) (tC (.int 2147483647))) (gName 5))
  (tSeq (tAsg (tOp (rI (fun _ j => 0 < j) fun i j => .int (i % j)) (tCB (rInt1) (tCons (tOp (rI0 fun i j => .int (i + j)) (tOp (rI0 fun i j => .int (i + j)) (tOp (rI CMul fun i j => .int (i * j)) (tVar 5) (tC (.int 16807))) (tOp (rI CMul fun i j => .int (i * j)) (tC (.int 11)) (tVar 2))) (tC (.int 5))) tNil)) (tC (.int 2147483629))) (gName 5))
  (tSeq (tDrop (tBM K "list" (rAppend) (tVar 1) (tCons (tOp (rI (fun _ j => 0 < j) fun i j => .int (i % j)) (tCB (rInt1) (tCons (tVar 5) tNil)) (tC (.int 65536))) tNil)))
  (tDrop (tBM K "list" (rAppend) (tVar 1) (tCons (tOp (rI (fun _ j => 0 < j) fun i j => .int (i % j)) (tCB (rInt1) (tCons (tOp (rI CDiv fun i j => .int (i / j)) (tVar 5) (tC (.int 65536))) tNil)) (tC (.int 32768))) tNil)))))))))
  (tRet (tVar 1)))
def t__law_mix (K : PySem.W.Frag) : TS :=
  tSeq (tAsg (tC (.int 0)) (gName 3))
  (tSeq (tIfS (tTest (tOp (rI0 fun i j => .bl (decide (j < i))) (tCB (rLen K) (tCons (tVar 0) tNil)) (tC (.int 0)))) (tAsg (tOp (rIxL K) (tVar 0) (tOp (rI (fun _ j => 0 < j) fun i j => .int (i % j)) (tCB (rInt1) (tCons (tVar 1) tNil)) (tCB (rLen K) (tCons (tVar 0) tNil)))) (gName 3)) tNext)
  (tSeq (tIfS (tTest (tOp (rI0 fun i j => .bl (decide (i < j))) (tVar 1) (tCB (rLen K) (tCons (tVar 0) tNil)))) (tRet (tOp (rI (fun _ j => 0 < j) fun i j => .int (i % j)) (tCB (rInt1) (tCons (tVar 3) tNil)) (tVar 2))) tNext)
  (tRet (tOp (rI (fun _ j => 0 < j) fun i j => .int (i % j)) (tCB (rInt1) (tCons (tOp (rI CDiv fun i j => .int (i / j)) (tCB (rInt1) (tCons (tOp (rI0 fun i j => .int (i + j)) (tOp (rI CMul fun i j => .int (i * j)) (tVar 3) (tC (.int 7919))) (tOp (rI CMul fun i j => .int (i * j)) (tVar 1) (tC (.int 104729)))) tNil)) (tC (.int 3))) tNil)) (tVar 2)))))
def t__law_noise (K : PySem.W.Frag) : TS :=
  tSeq (tAsg (tOp (rCat) (tLst (tCons (tC (.int 1)) tNil)) (tOp (rRep) (tLst (tCons (tC (.int 0)) tNil)) (tC (.int 14)))) (gName 1))
  (tSeq (tFor (iRng1 (tCons (tVar 0) tNil)) (gName 2) (tDrop (tBM K "list" (rAppend) (tVar 1) (tCons (tOp (rI (fun _ j => 0 < j) fun i j => .int (i % j)) (tCB (rInt1) (tCons (tOp (rI0 fun i j => .int (i + j)) (tOp (rIxL K) (tVar 1) (tVar 2)) (tOp (rIxL K) (tVar 1) (tOp (rI0 fun i j => .int (i + j)) (tVar 2) (tC (.int 1))))) tNil)) (tC (.int 2))) tNil))))
  (tRet (tVar 1)))
def t__law_channel (K : PySem.W.Frag) : TS :=
  tSeq (tAsg (tOp (rI0 fun i j => .int (i + j)) (tC (.int 1)) (tCall (sp__law_mix K) [] E0 (tCons (tVar 0) (tCons (tVar 1) (tCons (tOp (rIxL K) (tLst (tCons (tC (.int 4)) (tCons (tC (.int 60)) (tCons (tC (.int 256)) tNil)))) (tCall (sp__law_mix K) [] E0 (tCons (tVar 0) (tCons (tOp (rI0 fun i j => .int (i + j)) (tVar 1) (tC (.int 1))) (tCons (tC (.int 3)) tNil))))) tNil))))) (gName 2))
  (tSeq (tAsg (tOp (rIxL K) (tLst (tCons (tC (.int 0)) (tCons (tCall (sp__law_mix K) [] E0 (tCons (tVar 0) (tCons (tOp (rI0 fun i j => .int (i + j)) (tVar 1) (tC (.int 2))) (tCons (tC (.int 41)) tNil)))) (tCons (tC (.int 1)) tNil)))) (tCall (sp__law_mix K) [] E0 (tCons (tVar 0) (tCons (tOp (rI0 fun i j => .int (i + j)) (tVar 1) (tC (.int 3))) (tCons (tC (.int 3)) tNil))))) (gName 3))
  (tSeq (tAsg (tCall (sp__law_mix K) [] E0 (tCons (tVar 0) (tCons (tOp (rI0 fun i j => .int (i + j)) (tVar 1) (tC (.int 4))) (tCons (tC (.int 300)) tNil)))) (gName 4))
  (tRet (tDisp ((tC (.str "begin"), tVar 4) :: (tC (.str "period"), tVar 2) :: (tC (.str "volume"), tCall (sp__law_mix K) [] E0 (tCons (tVar 0) (tCons (tOp (rI0 fun i j => .int (i + j)) (tVar 1) (tC (.int 5))) (tCons (tC (.int 16)) tNil)))) :: (tC (.str "length"), tVar 3) :: (tC (.str "change"), tOp (rI0 fun i j => .int (i + j)) (tVar 4) (tCall (sp__law_mix K) [] E0 (tCons (tVar 0) (tCons (tOp (rI0 fun i j => .int (i + j)) (tVar 1) (tC (.int 6))) (tCons (tC (.int 300)) tNil))))) :: (tC (.str "other"), tCall (sp__law_mix K) [] E0 (tCons (tVar 0) (tCons (tOp (rI0 fun i j => .int (i + j)) (tVar 1) (tC (.int 7))) (tCons (tC (.int 256)) tNil)))) :: [])))))
def t__law_lets (K : PySem.W.Frag) : TS :=
  tSeq (tAsg (tLst tNil) (gName 2))
  (tSeq (tFor (iRng1 (tCons (tC (.int 3)) tNil)) (gName 3) (tSeq (tAsg (tOp (rIxL K) (tVar 0) (tVar 3)) (gName 4))
  (tSeq (tIfS (tTest (tOp (rEq) (tDGet (tVar 4) (tC (.str "begin"))) (tVar 1))) (tAsg (tOp (rCat) (tVar 2) (tLst (tCons (tTup (tCons (tOp (rI0 fun i j => .int (i + j)) (tOp (rI CMul fun i j => .int (i * j)) (tC (.int 4)) (tVar 3)) (tC (.int 2))) (tCons (tDGet (tVar 4) (tC (.str "length"))) tNil))) (tCons (tTup (tCons (tOp (rI CMul fun i j => .int (i * j)) (tC (.int 4)) (tVar 3)) (tCons (tOp (rI (fun _ j => 0 < j) fun i j => .int (i % j)) (tCB (rInt1) (tCons (tDGet (tVar 4) (tC (.str "period"))) tNil)) (tC (.int 256))) tNil))) (tCons (tTup (tCons (tOp (rI0 fun i j => .int (i + j)) (tOp (rI CMul fun i j => .int (i * j)) (tC (.int 4)) (tVar 3)) (tC (.int 1))) (tCons (tOp (rI0 fun i j => .int (i + j)) (tDGet (tVar 4) (tC (.str "volume"))) (tOp (rI CMul fun i j => .int (i * j)) (tC (.int 16)) (tVar 3))) tNil))) (tCons (tTup (tCons (tOp (rI0 fun i j => .int (i + j)) (tOp (rI CMul fun i j => .int (i * j)) (tC (.int 4)) (tVar 3)) (tC (.int 3))) (tCons (tOp (rI CMul fun i j => .int (i * j)) (tC (.int 7)) (tVar 3)) tNil))) tNil)))))) (gName 2)) tNext)
  (tIfS (tTest (tOp (rEq) (tDGet (tVar 4) (tC (.str "change"))) (tVar 1))) (tAsg (tOp (rCat) (tVar 2) (tLst (tCons (tTup (tCons (tOp (rI0 fun i j => .int (i + j)) (tOp (rI CMul fun i j => .int (i * j)) (tC (.int 4)) (tVar 3)) (tC (.int 1))) (tCons (tDGet (tVar 4) (tC (.str "other"))) tNil))) tNil))) (gName 2)) tNext))))
  (tRet (tVar 2)))
def t__law_volume (K : PySem.W.Frag) : TS :=
  tRet (tOp (rIxL K) (tLst (tCons (tDGet (tVar 0) (tC (.str "volume"))) (tCons (tOp (rI (fun _ j => 0 < j) fun i j => .int (i % j)) (tCB (rInt1) (tCons (tDGet (tVar 0) (tC (.str "other"))) tNil)) (tC (.int 16))) tNil))) (tCB (rInt1) (tCons (tOp (rI0 fun i j => .bl (decide (i ≤ j))) (tDGet (tVar 0) (tC (.str "change"))) (tVar 1)) tNil)))
def t__law_phase (K : PySem.W.Frag) : TS :=
  tSeq (tIfS (tTest (tOp (rEq) (tVar 0) (tC (.int 2)))) (tRet (tOp (rI CMul fun i j => .int (i * j)) (tOp (rIxL K) (tVar 2) (tVar 1)) (tCB (rInt1) (tCons (tOp (rI0 fun i j => .bl (decide (j < i))) (tVar 1) (tC (.int 0))) tNil)))) tNext)
  (tRet (tOp (rI (fun _ j => 0 < j) fun i j => .int (i % j)) (tCB (rInt1) (tCons (tVar 1) tNil)) (tC (.int 2))))
def t__law_sample (K : PySem.W.Frag) : TS :=
  tSeq (tPar 3 4 (tCons (tOp (rI0 fun i j => .int (i + j)) (tOp (rI CMul fun i j => .int (i * j)) (tC (.int 32)) (tVar 1)) (tC (.int 31))) (tCons (tC (.int 0)) tNil)))
  (tSeq (tFor (iRng1 (tCons (tC (.int 3)) tNil)) (gName 5) (tSeq (tAsg (tOp (rIxL K) (tVar 0) (tVar 5)) (gName 6))
  (tSeq (tAsg (tOp (rI0 fun i j => .int (i - j)) (tVar 1) (tOp (rI CDiv fun i j => .int (i / j)) (tDGet (tVar 6) (tC (.str "begin"))) (tC (.int 32)))) (gName 7))
  (tIfS (tAnd (tTest (tOp (rI0 fun i j => .bl (decide (i ≤ j))) (tDGet (tVar 6) (tC (.str "begin"))) (tVar 3))) (tOr (tTest (tOp (rEq) (tDGet (tVar 6) (tC (.str "length"))) (tC (.int 0)))) (tTest (tOp (rI0 fun i j => .bl (decide (i < j))) (tVar 7) (tDGet (tVar 6) (tC (.str "length"))))))) (tAsg (tOp (rI0 fun i j => .int (i + j)) (tVar 4) (tOp (rI CMul fun i j => .int (i * j)) (tCall (sp__law_volume K) [] E0 (tCons (tVar 6) (tCons (tVar 3) tNil))) (tCall (sp__law_phase K) [] E0 (tCons (tVar 5) (tCons (tOp (rI CDiv fun i j => .int (i / j)) (tOp (rI0 fun i j => .int (i + j)) (tOp (rI0 fun i j => .int (i - j)) (tVar 3) (tDGet (tVar 6) (tC (.str "begin")))) (tC (.int 1))) (tDGet (tVar 6) (tC (.str "period")))) (tCons (tVar 2) tNil)))))) (gName 4)) tNext))))
  (tRet (tVar 4)))
def t__law_end (K : PySem.W.Frag) : TS :=
  tSeq (tIfS (tTest (tOp (rI0 fun i j => .bl (decide (i ≤ j))) (tVar 2) (tDGet (tVar 1) (tC (.str "begin"))))) (tRet (tDisp ((tC (.str "count"), tC (.int 0)) :: (tC (.str "left"), tC (.int 0)) :: (tC (.str "length"), tC (.int 0)) :: (tC (.str "on"), tC (.bl false)) :: (tC (.str "period"), tC (.int 256)) :: (tC (.str "phase"), tC (.int 0)) :: (tC (.str "row"), tC (.int 1)) :: (tC (.str "volume"), tC (.int 0)) :: []))) tNext)
  (tSeq (tPar3 4 5 6 (tCons (tOp (rI0 fun i j => .int (i - j)) (tOp (rI CDiv fun i j => .int (i / j)) (tVar 2) (tC (.int 32))) (tOp (rI CDiv fun i j => .int (i / j)) (tDGet (tVar 1) (tC (.str "begin"))) (tC (.int 32)))) (tCons (tC (.bl true)) (tCons (tOp (rI0 fun i j => .int (i - j)) (tVar 2) (tDGet (tVar 1) (tC (.str "begin")))) tNil))))
  (tSeq (tAsg (tCB (rMax2) (tCons (tC (.int 0)) (tCons (tOp (rI0 fun i j => .int (i - j)) (tDGet (tVar 1) (tC (.str "length"))) (tVar 4)) tNil))) (gName 7))
  (tSeq (tIfS (tAnd (tTest (tOp (rI0 fun i j => .bl (decide (j < i))) (tDGet (tVar 1) (tC (.str "length"))) (tC (.int 0)))) (tTest (tOp (rEq) (tVar 7) (tC (.int 0))))) (tPar 5 6 (tCons (tC (.bl false)) (tCons (tOp (rI0 fun i j => .int (i - j)) (tOp (rI CMul fun i j => .int (i * j)) (tC (.int 32)) (tOp (rI0 fun i j => .int (i + j)) (tOp (rI CDiv fun i j => .int (i / j)) (tDGet (tVar 1) (tC (.str "begin"))) (tC (.int 32))) (tDGet (tVar 1) (tC (.str "length"))))) (tDGet (tVar 1) (tC (.str "begin")))) tNil))) tNext)
  (tSeq (tAsg (tTup (tCons (tOp (rI CDiv fun i j => .int (i / j)) (tVar 6) (tDGet (tVar 1) (tC (.str "period")))) (tCons (tC (.int 1)) tNil))) (gTup K 2 (gCons (gName 8) (gCons (gName 9) gNil))))
  (tSeq (tIfS (tTest (tOp (rEq) (tVar 0) (tC (.int 2)))) (tAsg (tCB (rSum K) (tCons (tLc (iRng1 (tCons (tC (.int 15)) tNil)) (gName 11) tYes (tOp (rI CMul fun i j => .int (i * j)) (tOp (rIxL K) (tVar 3) (tOp (rI0 fun i j => .int (i + j)) (tVar 8) (tVar 11))) (tOp (rIxL K) (tLst (tCons (tC (.int 1)) (tCons (tC (.int 2)) (tCons (tC (.int 4)) (tCons (tC (.int 8)) (tCons (tC (.int 16)) (tCons (tC (.int 32)) (tCons (tC (.int 64)) (tCons (tC (.int 128)) (tCons (tC (.int 256)) (tCons (tC (.int 512)) (tCons (tC (.int 1024)) (tCons (tC (.int 2048)) (tCons (tC (.int 4096)) (tCons (tC (.int 8192)) (tCons (tC (.int 16384)) tNil)))))))))))))))) (tVar 11))) [11]) tNil)) (gName 9)) tNext)
  (tSeq (tAsg (tOp (rI0 fun i j => .int (i - j)) (tDGet (tVar 1) (tC (.str "period"))) (tOp (rI (fun _ j => 0 < j) fun i j => .int (i % j)) (tCB (rInt1) (tCons (tVar 6) tNil)) (tDGet (tVar 1) (tC (.str "period"))))) (gName 10))
  (tRet (tDisp ((tC (.str "count"), tVar 10) :: (tC (.str "left"), tVar 7) :: (tC (.str "length"), tDGet (tVar 1) (tC (.str "length"))) :: (tC (.str "on"), tVar 5) :: (tC (.str "period"), tDGet (tVar 1) (tC (.str "period"))) :: (tC (.str "phase"), tCall (sp__law_phase K) [] E0 (tCons (tVar 0) (tCons (tVar 8) (tCons (tVar 3) tNil)))) :: (tC (.str "row"), tVar 9) :: (tC (.str "volume"), tCall (sp__law_volume K) [] E0 (tCons (tVar 1) (tCons (tOp (rI0 fun i j => .int (i - j)) (tVar 2) (tC (.int 1))) tNil))) :: [])))))))))
def t__law_plain (K : PySem.W.Frag) : TS :=
  tSeq (tPar 2 3 (tCons (tMake (He.ga K "Sound") (sp_Sound___init__ K) [] E0 tNil) (tCons (tLst tNil) tNil)))
  (tSeq (tFor (iRng1 (tCons (tVar 1) tNil)) (gName 4) (tSeq (tFor (iList K (tCall (sp__law_lets K) [] E0 (tCons (tVar 0) (tCons (tVar 4) tNil)))) (gTup K 2 (gCons (gName 5) (gCons (gName 6) gNil))) (tDrop (tMeth (He.ga K "Sound") "let" (sp_Sound_let K) [] E0 (tVar 2) (tCons (tVar 5) (tCons (tVar 6) tNil)))))
  (tSeq (tAsg (tMeth (He.ga K "Sound") "live" (sp_Sound_live K) [] E0 (tVar 2) (tCons (tVar 4) tNil)) (gName 7))
  (tSeq (tIfS (tTest (tOp (rNe) (tIsN (tVar 7)) (tOp (rNe) (tOp (rI (fun _ j => 0 < j) fun i j => .int (i % j)) (tCB (rInt1) (tCons (tVar 4) tNil)) (tC (.int 32))) (tC (.int 31))))) (tRet (tC .non)) tNext)
  (tAsg (tOp (rCat) (tVar 3) (tOp (rRep) (tLst (tCons (tVar 7) tNil)) (tCB (rInt1) (tCons (tNotN (tVar 7)) tNil)))) (gName 3))))))
  (tRet (tTup (tCons (tVar 3) (tCons (tMeth (He.ga K "Sound") "told" (sp_Sound_told K) [] E0 (tVar 2) tNil) (tCons (tMeth (He.ga K "Sound") "on" (sp_Sound_on K) [] E0 (tVar 2) tNil) tNil))))))
def t__law_late (K : PySem.W.Frag) : TS :=
  tSeq (tPar3 3 4 5 (tCons (tMake (He.ga K "LateSound") (sp_LateSound___init__ K) [] E0 tNil) (tCons (tLst tNil) (tCons (tUn (rU fun i => .int (-i)) (tC (.int 1))) tNil))))
  (tSeq (tFor (iList K (tCB (rSorted K) (tCons (tOp (rCat) (tOp (rCat) (tLc (iList K (tVar 0)) (gName 9) tYes (tDGet (tVar 9) (tC (.str "begin"))) [9]) (tLc (iList K (tVar 0)) (gName 9) tYes (tDGet (tVar 9) (tC (.str "change"))) [9])) (tVar 2)) tNil))) (gName 6) (tIfS (tAnd (tTest (tOp (rI0 fun i j => .bl (decide (i < j))) (tVar 6) (tVar 1))) (tTest (tOp (rNe) (tVar 6) (tVar 5)))) (tSeq (tAsg (tOp (rCat) (tVar 4) (tMeth (He.ga K "LateSound") "live_to" (sp_LateSound_live_to K) [] E0 (tVar 3) (tCons (tVar 6) tNil))) (gName 4))
  (tSeq (tFor (iList K (tCall (sp__law_lets K) [] E0 (tCons (tVar 0) (tCons (tVar 6) tNil)))) (gTup K 2 (gCons (gName 7) (gCons (gName 8) gNil))) (tDrop (tMeth (He.ga K "LateSound") "let" (sp_Sound_let_LateSound K) [] E0 (tVar 3) (tCons (tVar 7) (tCons (tVar 8) tNil)))))
  (tAsg (tVar 6) (gName 5)))) tNext))
  (tSeq (tAsg (tOp (rCat) (tVar 4) (tMeth (He.ga K "LateSound") "live_to" (sp_LateSound_live_to K) [] E0 (tVar 3) (tCons (tVar 1) tNil))) (gName 4))
  (tSeq (tIfS (tOr (tTest (tOp (rNe) (tMeth (He.ga K "LateSound") "next" (sp_LateSound_next K) [] E0 (tVar 3) tNil) (tVar 1))) (tTest (tOp (rNeD K) (tMeth (He.ga K "LateSound") "live_to" (sp_LateSound_live_to K) [] E0 (tVar 3) (tCons (tVar 1) tNil)) (tLst tNil)))) (tRet (tC .non)) tNext)
  (tRet (tTup (tCons (tVar 4) (tCons (tMeth (He.ga K "LateSound") "told" (sp_Sound_told_LateSound K) [] E0 (tVar 3) tNil) (tCons (tMeth (He.ga K "LateSound") "on" (sp_Sound_on_LateSound K) [] E0 (tVar 3) tNil) tNil))))))))
def t_law (K : PySem.W.Frag) : TS :=
  tSeq (tAsg (tCall (sp__law_draws K) [] E0 (tCons (tVar 0) tNil)) (gName 1))
  (tSeq (tFor (iRng1 (tCons (tC (.int 2)) tNil)) (gName 2) (tSeq (tAsg (tOp (rI0 fun i j => .int (i + j)) (tC (.int 10)) (tOp (rI CMul fun i j => .int (i * j)) (tC (.int 60)) (tVar 2))) (gName 3))
  (tSeq (tAsg (tLc (iRng1 (tCons (tC (.int 3)) tNil)) (gName 13) tYes (tCall (sp__law_channel K) [] E0 (tCons (tVar 1) (tCons (tOp (rI0 fun i j => .int (i + j)) (tVar 3) (tOp (rI CMul fun i j => .int (i * j)) (tC (.int 15)) (tVar 13))) tNil))) [13]) (gName 4))
  (tSeq (tAsg (tOp (rI0 fun i j => .int (i + j)) (tOp (rI CMul fun i j => .int (i * j)) (tC (.int 32)) (tOp (rI0 fun i j => .int (i + j)) (tC (.int 2)) (tCall (sp__law_mix K) [] E0 (tCons (tVar 1) (tCons (tOp (rI0 fun i j => .int (i + j)) (tVar 3) (tC (.int 50))) (tCons (tC (.int 20)) tNil)))))) (tCall (sp__law_mix K) [] E0 (tCons (tVar 1) (tCons (tOp (rI0 fun i j => .int (i + j)) (tVar 3) (tC (.int 51))) (tCons (tC (.int 32)) tNil))))) (gName 5))
  (tSeq (tAsg (tLc (iRng1 (tCons (tC (.int 4)) tNil)) (gName 14) tYes (tCall (sp__law_mix K) [] E0 (tCons (tVar 1) (tCons (tOp (rI0 fun i j => .int (i + j)) (tOp (rI0 fun i j => .int (i + j)) (tVar 3) (tC (.int 52))) (tVar 14)) (tCons (tVar 5) tNil)))) [14]) (gName 6))
  (tSeq (tAsg (tCall (sp__law_noise K) [] E0 (tCons (tOp (rI0 fun i j => .int (i + j)) (tVar 5) (tC (.int 16))) tNil)) (gName 7))
  (tSeq (tAsg (tLc (iRng1 (tCons (tC (.int 3)) tNil)) (gName 13) tYes (tCall (sp__law_end K) [] E0 (tCons (tVar 13) (tCons (tOp (rIxL K) (tVar 4) (tVar 13)) (tCons (tVar 5) (tCons (tVar 7) tNil))))) [13]) (gName 8))
  (tSeq (tAsg (tTup (tCons (tLc (iRng1 (tCons (tOp (rI CDiv fun i j => .int (i / j)) (tVar 5) (tC (.int 32))) tNil)) (gName 15) tYes (tCall (sp__law_sample K) [] E0 (tCons (tVar 4) (tCons (tVar 15) (tCons (tVar 7) tNil)))) [15]) (tCons (tVar 8) (tCons (tCB (rSum K) (tCons (tLc (iRng1 (tCons (tC (.int 3)) tNil)) (gName 13) tYes (tOp (rI CMul fun i j => .int (i * j)) (tOp (rIxL K) (tLst (tCons (tC (.int 1)) (tCons (tC (.int 2)) (tCons (tC (.int 4)) tNil)))) (tVar 13)) (tCB (rInt1) (tCons (tDGet (tOp (rIxL K) (tVar 8) (tVar 13)) (tC (.str "on"))) tNil))) [13]) tNil)) tNil)))) (gName 9))
  (tIfS (tOr (tTest (tOp (rNeX K) (tCall (sp__law_plain K) [] E0 (tCons (tVar 4) (tCons (tVar 5) tNil))) (tVar 9))) (tTest (tOp (rNeX K) (tCall (sp__law_late K) [] E0 (tCons (tVar 4) (tCons (tVar 5) (tCons (tVar 6) tNil)))) (tVar 9)))) (tRet (tC (.bl false))) tNext)))))))))
  (tSeq (tAsg (tMake (He.ga K "LateSound") (sp_LateSound___init__ K) [] E0 tNil) (gName 10))
  (tSeq (tFor (iList K (tLst (tCons (tTup (tCons (tC (.int 2)) (tCons (tC (.int 2)) tNil))) (tCons (tTup (tCons (tC (.int 0)) (tCons (tC (.int 20)) tNil))) (tCons (tTup (tCons (tC (.int 1)) (tCons (tC (.int 9)) tNil))) (tCons (tTup (tCons (tC (.int 3)) (tCons (tC (.int 0)) tNil))) tNil)))))) (gTup K 2 (gCons (gName 11) (gCons (gName 12) gNil))) (tDrop (tMeth (He.ga K "LateSound") "let" (sp_Sound_let_LateSound K) [] E0 (tVar 10) (tCons (tVar 11) (tCons (tVar 12) tNil)))))
  (tRet (tAndV (tOp (rEqD K) (tMeth (He.ga K "LateSound") "live_to" (sp_LateSound_live_to K) [] E0 (tVar 10) (tCons (tC (.int 96)) tNil)) (tLst (tCons (tC (.int 9)) (tCons (tC (.int 9)) (tCons (tC (.int 0)) tNil))))) (tAndV (tOp (rEq) (tMeth (He.ga K "LateSound") "on" (sp_Sound_on_LateSound K) [] E0 (tVar 10) tNil) (tC (.int 0))) (tOp (rEq) (tDGet (tOp (rIxL K) (tMeth (He.ga K "LateSound") "told" (sp_Sound_told_LateSound K) [] E0 (tVar 10) tNil) (tC (.int 0))) (tC (.str "count"))) (tC (.int 16)))))))))
end K61
namespace K61
open PySem PySem.Spec PyProof.Rows L2 Kx
local macro_rules | `(tactic| walk_at "s") => `(tactic| first
  | with_reducible refine xSeq ?_ | with_reducible refine xAsg ?_ | with_reducible refine xNm ?_ | with_reducible refine xDrop ?_ | with_reducible refine xRet ?_ | with_reducible refine xRetN ?_ | with_reducible refine xNext ?_ | with_reducible refine xIfS ?_
  | ((with_reducible refine xVar (v := ?v) ?h ?q); (case h => exact rfl)) | with_reducible refine xC ?_ | with_reducible refine xOp ?_ | with_reducible refine xUn ?_ | with_reducible refine xI0 ?_ | with_reducible refine xU ?_
  | with_reducible refine xEqI ?_ | with_reducible refine xNeI ?_ | with_reducible refine xEqB ?_ | with_reducible refine xNeB ?_ | with_reducible refine xEqS ?_ | with_reducible refine xNeS ?_ | with_reducible refine xIsN ?_ | with_reducible refine xNotN ?_
  | with_reducible refine xChain ?_ | with_reducible refine xIf ?_ | with_reducible refine xAndV ?_ | with_reducible refine xOrV ?_ | with_reducible refine xNotV ?_
  | with_reducible refine xTest ?_ | with_reducible refine xB ?_ | with_reducible refine xAnd ?_ | with_reducible refine xOr ?_ | with_reducible refine xNot ?_ | with_reducible refine xYes ?_
  | with_reducible refine xNil ?_ | with_reducible refine xCons ?_ | with_reducible refine xTup ?_ | with_reducible refine xLst ?_ | with_reducible refine xCB ?_ | with_reducible refine xInt1I ?_ | with_reducible refine xInt1B ?_ | with_reducible refine xAbs ?_ | with_reducible refine xMin2 ?_ | with_reducible refine xMax2 ?_
  | with_reducible refine xFld ?_ | with_reducible refine xFldS ?_ | with_reducible refine xDG ?_ | with_reducible refine xDP ?_ | with_reducible refine xCall ?_ | with_reducible refine yMeth ?_ | with_reducible refine xBM ?_ | with_reducible refine xBM0 ?_
  | with_reducible refine xPar ?_ | with_reducible refine xPar3 ?_ | with_reducible refine yPar ?_ | with_reducible refine yPar3 ?_ | with_reducible refine xGNil ?_ | with_reducible refine xGCons ?_ | with_reducible refine xGSub ?_
  | with_reducible refine xBl ?_ | with_reducible refine xPairs ?_ | with_reducible refine xPairs0 ?_)
local macro_rules | `(tactic| walk_at "h") => `(tactic| first | assumption | exact upd_same | exact same_upd (by assumption) _ _ (by walk_at "h"))
local macro_rules | `(tactic| walk_at "g") => `(tactic| first | exact gCount _ | exact gLeft _ | exact gLength _ | exact gOn _ | exact gPeriod _ | exact gPhase _ | exact gRow _ | exact gVolume _)
local macro_rules | `(tactic| walk_at "p") => `(tactic| (first | rw [pCount] | rw [pLeft] | rw [pLength] | rw [pOn] | rw [pPeriod] | rw [pPhase] | rw [pRow] | rw [pVolume]))
local macro_rules | `(tactic| walk_at "s") => `(tactic| first
  | ((with_reducible refine yDGs (kvs := ?kvs) (v := ?v) ?h ?e ?q); (case h => exact .inl (by walk_at "h")); (case e => walk_at "g"))
  | ((with_reducible refine yDPs (kvs := ?kvs) ?h ?l ?q); (case h => walk_at "h"); (case l => exact ch_len _); walk_at "p"; (try rw [upd_upd])))
local macro_rules | `(tactic| walk_at "s") => `(tactic| first
  | ((with_reducible refine xI ?c ?q); (case c => first | (show (0 : Int) < _; decide) | exact ⟨by decide, by decide⟩ | exact .inl ⟨by decide, by decide⟩ | exact .inr ⟨by decide, by decide⟩)))
theorem turn_yes {k : Int} {c : Ch} (h : k = 2) : turnC k c = { c with count := c.period, row := c.row / 2 + 16384 * ((c.row + c.row / 2) % 2), phase := (c.row / 2 + 16384 * ((c.row + c.row / 2) % 2)) % 2 } := by
  unfold turnC
  rw [if_pos h]
theorem turn_no {k : Int} {c : Ch} (h : ¬ k = 2) : turnC k c = { c with count := c.period, phase := 1 - c.phase } := by
  unfold turnC
  rw [if_neg h]
theorem pure_turn {K : PySem.W.Frag} (vs : List V) (H : Hp) (Q : VK) (E : XK) (h : sp_Sound__turn K vs H Q E) : vs.length = 3 ∧ t_Sound__turn K { nx := fun _ H' => Q .non H', rt := Q } (start N_Sound__turn vs) H := by
  obtain ⟨p, k, d, c, rfl, hd, q⟩ := h
  refine ⟨rfl, ?_⟩
  show t_Sound__turn K _ [some (.ref p), some (.int k), some (.ref d), none] H
  unfold t_Sound__turn
  repeat walk_at "s"
  refine iteD (fun hk => ?_) (fun hk => ?_)
  · repeat walk_at "s"
    rw [turn_yes hk] at q
    exact q
  · repeat walk_at "s"
    rw [turn_no hk] at q
    exact q
/-! ### the unit's objects -/
section
variable {C : Addr} {H H' : Hp} {p l : Addr} {ds : List Addr} {cs : List Ch} {nx : Option Int}
theorem Snd.l_ne (S : Snd C H p l ds cs nx) : l ∉ ds := fun m => by
  obtain ⟨i, hi⟩ := List.mem_iff_getElem?.mp m
  obtain ⟨c, _, h⟩ := S.at_ i l hi
  rw [S.ls] at h
  cases h
theorem Snd.p_ne (S : Snd C H p l ds cs nx) : p ∉ ds := fun m => by
  obtain ⟨i, hi⟩ := List.mem_iff_getElem?.mp m
  obtain ⟨c, _, h⟩ := S.at_ i p hi
  obtain ⟨dx, ob⟩ := S.ob
  rw [ob] at h
  cases h
theorem Snd.of_keep {F : List Addr} (S : Snd C H p l ds cs nx) (k : Keep F H H') (hp : p ∉ F) (hl : l ∉ F) (hd : ∀ d ∈ ds, d ∉ F) : Snd C H' p l ds cs nx := by
  obtain ⟨dx, ob⟩ := S.ob
  refine ⟨⟨dx, k _ _ ob hp⟩, k _ _ S.ls hl, S.nd, S.dl, S.cl, fun i d hi => ?_, S.ok⟩
  obtain ⟨c, h1, h2⟩ := S.at_ i d hi
  exact ⟨c, h1, k _ _ h2 (hd d (List.mem_of_getElem? hi))⟩
theorem Snd.same (S : Snd C H p l ds cs nx) (k : Same H H') : Snd C H' p l ds cs nx := S.of_keep (F := []) (.of_same k) (by simp) (by simp) (by simp)
theorem Snd.new (S : Snd C H p l ds cs nx) {a : Addr} {o : HO} (h : H a = none) : Snd C (upd H a o) p l ds cs nx := S.same (same_upd h)
theorem Snd.set (S : Snd C H p l ds cs nx) {i : Nat} {d : Addr} {c : Ch} (hd : ds[i]? = some d) (hc : okC c) : Snd C (upd H d (.dK (chK c))) p l ds (cs.set i c) nx := by
  have hm := List.mem_of_getElem? hd
  obtain ⟨dx, ob⟩ := S.ob
  refine ⟨⟨dx, by rw [upd_ne fun e => S.p_ne (by rw [e]; exact hm)]; exact ob⟩, by rw [upd_ne fun e => S.l_ne (by rw [e]; exact hm)]; exact S.ls, S.nd, S.dl, by rw [List.length_set]; exact S.cl, fun j e he => ?_, fun x hx => ?_⟩
  · obtain ⟨c0, h1, h2⟩ := S.at_ j e he
    by_cases hij : i = j
    · subst hij
      have ed : e = d := Option.some.inj (he.symm.trans hd)
      subst ed
      exact ⟨c, by rw [List.getElem?_set_self (List.getElem?_eq_some_iff.mp h1).1], upd_same⟩
    · refine ⟨c0, by rw [List.getElem?_set_ne hij]; exact h1, ?_⟩
      rw [upd_ne fun z => hij (nd_ix S.nd (by rw [hd, ← z]) he)]
      exact h2
  · rcases List.mem_or_eq_of_mem_set hx with h | h
    · exact S.ok x h
    · rw [h]
      exact hc
theorem Snd.ch (S : Snd C H p l ds cs nx) {i : Nat} {x : V} (h : (ds.map V.ref)[i]? = some x) : ∃ d c, x = .ref d ∧ ds[i]? = some d ∧ cs[i]? = some c ∧ H d = some (.dK (chK c)) ∧ okC c ∧ i < 3 := by
  rw [List.getElem?_map] at h
  cases e : ds[i]? with
  | none =>
    rw [e] at h
    cases h
  | some d =>
    rw [e] at h
    obtain ⟨c, h1, h2⟩ := S.at_ i d e
    refine ⟨d, c, (Option.some.inj h).symm, rfl, h1, h2, S.ok c (List.mem_of_getElem? h1), ?_⟩
    have := (List.getElem?_eq_some_iff.mp e).1
    rw [S.dl] at this
    exact this
end
/-- the first i are done -/
def upTo (f : Int → Ch → Ch) (i : Nat) (cs : List Ch) : List Ch := cs.mapIdx fun j c => if j < i then f (j : Int) c else c
theorem upTo_zero (f : Int → Ch → Ch) (cs : List Ch) : upTo f 0 cs = cs := by
  unfold upTo
  apply List.ext_getElem?
  intro j
  rw [List.getElem?_mapIdx]
  cases cs[j]? <;> simp
theorem upTo_get {f : Int → Ch → Ch} {i : Nat} {cs : List Ch} {c : Ch} (h : (upTo f i cs)[i]? = some c) : cs[i]? = some c := by
  unfold upTo at h
  rw [List.getElem?_mapIdx] at h
  cases e : cs[i]? with
  | none =>
    rw [e] at h
    cases h
  | some z =>
    rw [e] at h
    simpa using h
theorem upTo_set {f : Int → Ch → Ch} {i : Nat} {cs : List Ch} {c : Ch} (h : cs[i]? = some c) : (upTo f i cs).set i (f (i : Int) c) = upTo f (i + 1) cs := by
  apply List.ext_getElem?
  intro j
  have hi := (List.getElem?_eq_some_iff.mp h).1
  by_cases e : i = j
  · subst e
    rw [List.getElem?_set_self (by unfold upTo; rw [List.length_mapIdx]; exact hi)]
    unfold upTo
    rw [List.getElem?_mapIdx, h]
    simp
  · rw [List.getElem?_set_ne e]
    unfold upTo
    rw [List.getElem?_mapIdx, List.getElem?_mapIdx]
    cases cs[j]? with
    | none => rfl
    | some z =>
      show some (if j < i then f (j : Int) z else z) = some (if j < i + 1 then f (j : Int) z else z)
      by_cases hj : j < i
      · rw [if_pos hj, if_pos (by omega)]
      · rw [if_neg hj, if_neg (by omega)]
theorem upTo_all {f : Int → Ch → Ch} {n : Nat} {cs : List Ch} (h : cs.length = n) : upTo f n cs = eachC f cs := by
  unfold upTo eachC
  apply List.ext_getElem?
  intro j
  rw [List.getElem?_mapIdx, List.getElem?_mapIdx]
  cases e : cs[j]? with
  | none => rfl
  | some z =>
    show some (if j < n then f (j : Int) z else z) = some (f (j : Int) z)
    have := (List.getElem?_eq_some_iff.mp e).1
    rw [if_pos (by omega)]
theorem each_map (f : Ch → Ch) (cs : List Ch) : eachC (fun _ => f) cs = cs.map f := by
  unfold eachC
  apply List.ext_getElem?
  intro j
  rw [List.getElem?_mapIdx, List.getElem?_map]
theorem upTo_put {f : Int → Ch → Ch} {i : Nat} {cs : List Ch} {c c' : Ch} (h : cs[i]? = some c) (e : c' = f (i : Int) c) : (upTo f i cs).set i c' = upTo f (i + 1) cs := by
  rw [e]
  exact upTo_set h
theorem upTo_skip {f : Int → Ch → Ch} {i : Nat} {cs : List Ch} {c : Ch} (h : cs[i]? = some c) (e : c = f (i : Int) c) : upTo f i cs = upTo f (i + 1) cs := by
  rw [← upTo_set h, ← e]
  apply List.ext_getElem?
  intro j
  have hi := (List.getElem?_eq_some_iff.mp h).1
  by_cases z : i = j
  · subst z
    rw [List.getElem?_set_self (by unfold upTo; rw [List.length_mapIdx]; exact hi)]
    unfold upTo
    rw [List.getElem?_mapIdx, h]
    simp
  · rw [List.getElem?_set_ne z]
theorem pure_sample {K : PySem.W.Frag} {C : Addr} (cl : Cls K C) (no : NoAttr K C "_channels") (vs : List V) (H : Hp) (Q : VK) (E : XK) (h : spSample C vs H Q E) :
    vs.length = 1 ∧ t_Sound__sample K { nx := fun _ H' => Q .non H', rt := Q } (start N_Sound__sample vs) H := by
  obtain ⟨p, l, ds, cs, nx, rfl, S, q⟩ := h
  refine ⟨rfl, ?_⟩
  show t_Sound__sample K _ [some (.ref p), none, none] H
  unfold t_Sound__sample
  repeat walk_at "s"
  refine xForLU ?_
  repeat walk_at "s"
  obtain ⟨dx, ob⟩ := id S.ob
  refine yFld ob cl no (sf_ch _ _) ?_
  refine yForL (SqL.of S.ls) (fun i σ H' => ∃ v, σ = [some (.ref p), some (.int ((cs.map valC).take i).sum), v] ∧ Snd C H' p l ds (upTo (fun _ => sampC) i cs) nx ∧ Keep ds H H')
    ⟨none, rfl, by rw [upTo_zero]; exact S, .refl _ _⟩ (fun i σ H' _ ⟨_, _, S', _⟩ => SqL.of S'.ls) ?_ ?_
  · rintro i x σ H' hx ⟨v, rfl, S', k⟩
    obtain ⟨d, c, rfl, hd, hc, hH, ok, hi⟩ := S'.ch hx
    have hc0 := upTo_get hc
    have es := sum_take (l := cs.map valC) (i := i) (z := valC c) (by rw [List.getElem?_map, hc0]; rfl)
    repeat walk_at "s"
    refine iteB (fun hon => ?_) (fun hon => ?_)
    · repeat walk_at "s"
      refine xI (.inl (by have := ok.1; have := ok.2.1; omega)) ?_
      repeat walk_at "s"
      have ev : valC c = c.volume * c.phase := by
        unfold valC
        rw [if_pos hon]
      refine iteD (fun hl => ?_) (fun hl => ?_)
      · repeat walk_at "s"
        refine ⟨_, by rw [es, ev]; rfl, ?_, k.trans (.upd (List.mem_of_getElem? hd))⟩
        rw [← upTo_put (c' := { c with left := c.left - 1, on := decide (0 < c.left - 1) }) hc0 (by unfold sampC; rw [if_pos hon, if_pos hl])]
        exact S'.set hd ok
      · repeat walk_at "s"
        refine ⟨_, by rw [es, ev]; rfl, ?_, k⟩
        rw [← upTo_skip hc0 (by unfold sampC; rw [if_pos hon, if_neg hl])]
        exact S'
    · repeat walk_at "s"
      have ev : valC c = 0 := by
        unfold valC
        rw [hon]
        rfl
      refine ⟨_, by rw [es, ev, Int.add_zero]; rfl, ?_, k⟩
      rw [← upTo_skip hc0 (by unfold sampC; rw [hon]; rfl)]
      exact S'
  · rintro σ H' ⟨v, rfl, S', k⟩
    repeat walk_at "s"
    rw [List.length_map, S.dl] at *
    rw [upTo_all S.cl, each_map] at S'
    have e : ((cs.map valC).take 3).sum = sumU cs := by
      rw [List.take_of_length_le (by rw [List.length_map, S.cl]; exact Nat.le_refl _)]
      rfl
    rw [e]
    exact q _ S' k
end K61
namespace K61
open PySem PySem.Spec PyProof.Rows L2 Kx
local macro_rules | `(tactic| walk_at "s") => `(tactic| first
  | with_reducible refine xSeq ?_ | with_reducible refine xAsg ?_ | with_reducible refine xNm ?_ | with_reducible refine xDrop ?_ | with_reducible refine xRet ?_ | with_reducible refine xRetN ?_ | with_reducible refine xNext ?_ | with_reducible refine xIfS ?_
  | ((with_reducible refine xVar (v := ?v) ?h ?q); (case h => exact rfl)) | with_reducible refine xC ?_ | with_reducible refine xOp ?_ | with_reducible refine xUn ?_ | with_reducible refine xI0 ?_ | with_reducible refine xU ?_
  | with_reducible refine xEqI ?_ | with_reducible refine xNeI ?_ | with_reducible refine xEqB ?_ | with_reducible refine xNeB ?_ | with_reducible refine xEqS ?_ | with_reducible refine xNeS ?_ | with_reducible refine xIsN ?_ | with_reducible refine xNotN ?_
  | with_reducible refine xChain ?_ | with_reducible refine xIf ?_ | with_reducible refine xAndV ?_ | with_reducible refine xOrV ?_ | with_reducible refine xNotV ?_
  | with_reducible refine xTest ?_ | with_reducible refine xB ?_ | with_reducible refine xAnd ?_ | with_reducible refine xOr ?_ | with_reducible refine xNot ?_ | with_reducible refine xYes ?_
  | with_reducible refine xNil ?_ | with_reducible refine xCons ?_ | with_reducible refine xTup ?_ | with_reducible refine xLst ?_ | with_reducible refine xCB ?_ | with_reducible refine xInt1I ?_ | with_reducible refine xInt1B ?_ | with_reducible refine xAbs ?_ | with_reducible refine xMin2 ?_ | with_reducible refine xMax2 ?_
  | with_reducible refine xFld ?_ | with_reducible refine xFldS ?_ | with_reducible refine xDG ?_ | with_reducible refine xDP ?_ | with_reducible refine xCall ?_ | with_reducible refine yMeth ?_ | with_reducible refine xBM ?_ | with_reducible refine xBM0 ?_
  | with_reducible refine xPar ?_ | with_reducible refine xPar3 ?_ | with_reducible refine yPar ?_ | with_reducible refine yPar3 ?_ | with_reducible refine xGNil ?_ | with_reducible refine xGCons ?_ | with_reducible refine xGSub ?_
  | with_reducible refine xBl ?_ | with_reducible refine xPairs ?_ | with_reducible refine xPairs0 ?_)
local macro_rules | `(tactic| walk_at "h") => `(tactic| first | assumption | exact upd_same | exact same_upd (by assumption) _ _ (by walk_at "h"))
local macro_rules | `(tactic| walk_at "g") => `(tactic| first | exact gCount _ | exact gLeft _ | exact gLength _ | exact gOn _ | exact gPeriod _ | exact gPhase _ | exact gRow _ | exact gVolume _)
local macro_rules | `(tactic| walk_at "p") => `(tactic| (first | rw [pCount] | rw [pLeft] | rw [pLength] | rw [pOn] | rw [pPeriod] | rw [pPhase] | rw [pRow] | rw [pVolume]))
local macro_rules | `(tactic| walk_at "s") => `(tactic| first
  | ((with_reducible refine yDGs (kvs := ?kvs) (v := ?v) ?h ?e ?q); (case h => exact .inl (by walk_at "h")); (case e => walk_at "g"))
  | ((with_reducible refine yDPs (kvs := ?kvs) ?h ?l ?q); (case h => walk_at "h"); (case l => exact ch_len _); walk_at "p"; (try rw [upd_upd])))
local macro_rules | `(tactic| walk_at "s") => `(tactic| first
  | ((with_reducible refine xI ?c ?q); (case c => first | (show (0 : Int) < _; decide) | exact ⟨by decide, by decide⟩ | exact .inl ⟨by decide, by decide⟩ | exact .inr ⟨by decide, by decide⟩)))
theorem ok_turn {k : Int} {c : Ch} (h : okC c) : okC (turnC k c) := by
  obtain ⟨h1, h2, h3, h4, h5⟩ := h
  by_cases e : k = 2
  · rw [turn_yes e]
    exact ⟨h1, h2, h3, h4, by show _ ∨ _; simp only; omega⟩
  · rw [turn_no e]
    exact ⟨h1, h2, h3, h4, by show _ ∨ _; simp only; omega⟩
theorem sf_m (l : Addr) (nx : Option Int) {m : Str} (h1 : ¬ ("_channels" : Str) = m) (h2 : ¬ ("_next" : Str) = m) : (sf l nx).lookup m = none := by
  have e1 : (m == ("_channels" : Str)) = false := by simpa using fun e => h1 e.symm
  have e2 : (m == ("_next" : Str)) = false := by simpa using fun e => h2 e.symm
  cases nx <;> simp [sf, List.lookup_cons, e1, e2]
theorem pure_fresh {K : PySem.W.Frag} (vs : List V) (H : Hp) (Q : VK) (E : XK) (h : sp_fresh K vs H Q E) : vs.length = 0 ∧ t_fresh K { nx := fun _ H' => Q .non H', rt := Q } (start N_fresh vs) H := by
  obtain ⟨rfl, q⟩ := h
  refine ⟨rfl, ?_⟩
  unfold t_fresh
  repeat walk_at "s"
  refine xDisp fun p hp => ?_
  repeat walk_at "s"
  refine ⟨upd_same, chK ch0, rfl, Nat.le_of_ble_eq_true rfl, ?_⟩
  rw [upd_upd]
  exact q p hp
theorem pure_init {K : PySem.W.Frag} {C : Addr} (cl : Cls K C) (no : NoAttr K C "_channels") (vs : List V) (H : Hp) (Q : VK) (E : XK) (h : spInit C vs H Q E) :
    vs.length = 1 ∧ t_Sound___init__ K { nx := fun _ H' => Q .non H', rt := Q } (start N_Sound___init__ vs) H := by
  obtain ⟨p, dx, rfl, hp, q⟩ := h
  refine ⟨rfl, ?_⟩
  show t_Sound___init__ K _ [some (.ref p), none] H
  unfold t_Sound___init__
  refine xFldS (xLcR ?_)
  repeat walk_at "s"
  refine yLcR 3 rfl (by decide) (fun D i H' => ∃ ds : List Addr, Same H H' ∧ H' D = some (.lst (ds.map V.ref)) ∧ H D = none ∧ ds.length = i ∧ ds.Nodup ∧ (∀ d ∈ ds, H d = none ∧ H' d = some (.dK (chK ch0)))) (fun D hD => ⟨[], same_upd hD, upd_same, hD, rfl, by simp, by simp⟩) ?_ ?_
  · rintro D i H' hi ⟨ds, s1, hl, hD, hlen, nd, all⟩
    refine xNm (yTurn rfl ?_)
    repeat walk_at "s"
    refine ⟨rfl, fun d hd => ?_⟩
    have hDd : D ≠ d := ne_of_none hl hd
    refine ⟨_, same_upd hd _ _ hl, (by rw [List.length_map, hlen]; exact Nat.lt_of_lt_of_le hi (by decide)), ds ++ [d], ?_, ?_, hD, by simp [hlen], ?_, ?_⟩
    · intro b o e
      have hb : b ≠ D := ne_of_none e hD
      rw [upd_ne hb]
      exact same_upd hd _ _ (s1 _ _ e)
    · rw [List.map_append]
      exact upd_same
    · refine nd_snoc nd fun m => ?_
      have := (all d m).2
      rw [hd] at this
      cases this
    · intro x hx
      rcases List.mem_append.mp hx with h | h
      · have hxD : x ≠ D := fun e => by
          have := (all x h).2
          rw [e, hl] at this
          cases this
        refine ⟨(all x h).1, ?_⟩
        rw [upd_ne hxD]
        exact same_upd hd _ _ (all x h).2
      · have e := List.mem_singleton.mp h
        subst e
        refine ⟨s1.free hd, ?_⟩
        rw [upd_ne hDd.symm]
        exact upd_same
  · rintro D H' hD ⟨ds, s1, hl, _, hlen, nd, all⟩
    repeat walk_at "s"
    refine yFldS (s1 _ _ hp) cl no (by decide) ?_
    rw [sf_first]
    have hpD : p ≠ D := ne_of_none hp hD
    refine q D ds _ ⟨⟨dx, upd_same⟩, by rw [upd_ne hpD.symm]; exact hl, nd, hlen, rfl, fun i d hd => ?_, ?_⟩ hD (fun d hd => (all d hd).1) fun b o e hb => ?_
    · have hm := List.mem_of_getElem? hd
      have hi := (List.getElem?_eq_some_iff.mp hd).1
      refine ⟨ch0, ?_, ?_⟩
      · match i, hi with
        | 0, _ => rfl
        | 1, _ => rfl
        | 2, _ => rfl
        | n + 3, hi => omega
      · rw [upd_ne (ne_of_none hp (all d hm).1).symm]
        exact (all d hm).2
    · intro c hc
      have e : c = ch0 := by
        simp [cs0] at hc
        exact hc
      subst e
      exact ⟨by decide, by decide, by decide, by decide, .inl rfl⟩
    · rw [upd_ne (by simpa using hb)]
      exact s1 _ _ e
theorem ok_live {k : Int} {c : Ch} (h : okC c) : okC (liveC k c) := by
  unfold liveC
  split
  · split
    · exact ok_turn h
    · exact h
  · exact h
theorem ok_samp {c : Ch} (h : okC c) : okC (sampC c) := by
  unfold sampC
  split
  · split <;> exact h
  · exact h
theorem pure_live {K : PySem.W.Frag} (cl : Cls K (He.ga K "Sound")) (no : NoAttr K (He.ga K "Sound") "_channels") (vs : List V) (H : Hp) (Q : VK) (E : XK) (h : sp_Sound_live K vs H Q E) :
    vs.length = 2 ∧ t_Sound_live K { nx := fun _ H' => Q .non H', rt := Q } (start N_Sound_live vs) H := by
  obtain ⟨p, now, l, ds, cs, nx, rfl, S, q⟩ := h
  refine ⟨rfl, ?_⟩
  show t_Sound_live K _ [some (.ref p), some (.int now), none, none] H
  unfold t_Sound_live
  repeat walk_at "s"
  refine xForEU ?_
  repeat walk_at "s"
  obtain ⟨dx, ob⟩ := id S.ob
  refine yFld ob cl no (sf_ch _ _) ?_
  refine ⟨l, _, rfl, SqL.of S.ls, for_enum (fun i σ H' => ∃ u v, σ = [some (.ref p), some (.int now), u, v] ∧ Snd (He.ga K "Sound") H' p l ds (upTo liveC i cs) nx ∧ Keep ds H H')
    ⟨none, none, rfl, by rw [upTo_zero]; exact S, .refl _ _⟩ (fun i σ H' _ ⟨_, _, _, S', _⟩ => SqL.of S'.ls) ?_ ?_⟩
  · rintro i x T σ H' hx ⟨u, v, rfl, S', k⟩ hT
    obtain ⟨d, c, rfl, hd, hc, hH, ok, hi⟩ := S'.ch hx
    have hc0 := upTo_get hc
    have S1 := S'.new (o := .tup [.int (i : Int), .ref d]) hT
    have k1 : Keep ds H (upd H' T (.tup [.int (i : Int), .ref d])) := k.trans (.of_same (same_upd hT))
    have hH1 : upd H' T (.tup [.int (i : Int), .ref d]) d = some (.dK (chK c)) := same_upd hT _ _ hH
    refine yGT (SqT.of upd_same) rfl ?_
    generalize upd H' T (.tup [.int (i : Int), .ref d]) = H1 at S1 k1 hH1
    repeat walk_at "s"
    refine iteB (fun hon => ?_) (fun hon => ?_)
    · repeat walk_at "s"
      have S2 := S1.set (c := { c with count := c.count - 1 }) hd ok
      have k2 : Keep ds H (upd H1 d (.dK (chK { c with count := c.count - 1 }))) := k1.trans (.upd (List.mem_of_getElem? hd))
      refine iteD (fun h0 => ?_) (fun h0 => ?_)
      · repeat walk_at "s"
        obtain ⟨dx', ob'⟩ := S2.ob
        refine yMe ob' (sf_m _ _ (by decide +kernel) (by decide +kernel)) ?_
        repeat walk_at "s"
        refine ⟨p, _, d, _, rfl, upd_same, ?_⟩
        rw [upd_upd]
        refine ⟨_, _, rfl, ?_, k1.trans (.upd (List.mem_of_getElem? hd))⟩
        rw [← upTo_put (c' := turnC (i : Int) { c with count := c.count - 1 }) hc0 (by unfold liveC; rw [if_pos hon, if_pos h0])]
        exact S1.set hd (ok_turn ok)
      · repeat walk_at "s"
        refine ⟨_, _, rfl, ?_, k2⟩
        rw [← upTo_put (c' := { c with count := c.count - 1 }) hc0 (by unfold liveC; rw [if_pos hon, if_neg h0])]
        exact S2
    · repeat walk_at "s"
      refine ⟨_, _, rfl, ?_, k1⟩
      rw [← upTo_skip hc0 (by unfold liveC; rw [hon]; rfl)]
      exact S1
  · rintro σ H' ⟨u, v, rfl, S', k⟩
    rw [List.length_map, S.dl] at *
    rw [upTo_all S.cl] at S'
    repeat walk_at "s"
    have e1 : ∀ h : now % 32 = 32 - 1, now % 32 = 31 := fun h => by omega
    refine iteD (fun hn => ?_) (fun hn => ?_)
    · obtain ⟨dx', ob'⟩ := id S'.ob
      repeat walk_at "s"
      refine yMe ob' (sf_m _ _ (by decide +kernel) (by decide +kernel)) ?_
      repeat walk_at "s"
      refine ⟨p, l, ds, _, nx, rfl, S', fun H2 S2 k2 => ?_⟩
      have z : outU now cs = .int (sumU (eachC liveC cs)) := by
        unfold outU
        rw [if_pos (e1 hn)]
      have z2 : liveU now cs = (eachC liveC cs).map sampC := by
        unfold liveU
        rw [if_pos (e1 hn)]
      rw [z, z2] at q
      exact q H2 S2 (k.trans k2)
    · have z : outU now cs = .non := by
        unfold outU
        rw [if_neg (by omega)]
      have z2 : liveU now cs = eachC liveC cs := by
        unfold liveU
        rw [if_neg (by omega)]
      rw [z, z2] at q
      repeat walk_at "s"
      exact q H' S' k
end K61
namespace K61
open PySem PySem.Spec PyProof.Rows L2 Kx
local macro_rules | `(tactic| walk_at "s") => `(tactic| first
  | with_reducible refine xSeq ?_ | with_reducible refine xAsg ?_ | with_reducible refine xNm ?_ | with_reducible refine xDrop ?_ | with_reducible refine xRet ?_ | with_reducible refine xRetN ?_ | with_reducible refine xNext ?_ | with_reducible refine xIfS ?_
  | ((with_reducible refine xVar (v := ?v) ?h ?q); (case h => exact rfl)) | with_reducible refine xC ?_ | with_reducible refine xOp ?_ | with_reducible refine xUn ?_ | with_reducible refine xI0 ?_ | with_reducible refine xU ?_
  | with_reducible refine xEqI ?_ | with_reducible refine xNeI ?_ | with_reducible refine xEqB ?_ | with_reducible refine xNeB ?_ | with_reducible refine xEqS ?_ | with_reducible refine xNeS ?_ | with_reducible refine xIsN ?_ | with_reducible refine xNotN ?_
  | with_reducible refine xChain ?_ | with_reducible refine xIf ?_ | with_reducible refine xAndV ?_ | with_reducible refine xOrV ?_ | with_reducible refine xNotV ?_
  | with_reducible refine xTest ?_ | with_reducible refine xB ?_ | with_reducible refine xAnd ?_ | with_reducible refine xOr ?_ | with_reducible refine xNot ?_ | with_reducible refine xYes ?_
  | with_reducible refine xNil ?_ | with_reducible refine xCons ?_ | with_reducible refine xTup ?_ | with_reducible refine xLst ?_ | with_reducible refine xCB ?_ | with_reducible refine xInt1I ?_ | with_reducible refine xInt1B ?_ | with_reducible refine xAbs ?_ | with_reducible refine xMin2 ?_ | with_reducible refine xMax2 ?_
  | with_reducible refine xFld ?_ | with_reducible refine xFldS ?_ | with_reducible refine xDG ?_ | with_reducible refine xDP ?_ | with_reducible refine xCall ?_ | with_reducible refine yMeth ?_ | with_reducible refine xBM ?_ | with_reducible refine xBM0 ?_
  | with_reducible refine xPar ?_ | with_reducible refine xPar3 ?_ | with_reducible refine yPar ?_ | with_reducible refine yPar3 ?_ | with_reducible refine xGNil ?_ | with_reducible refine xGCons ?_ | with_reducible refine xGSub ?_
  | with_reducible refine xBl ?_ | with_reducible refine xPairs ?_ | with_reducible refine xPairs0 ?_)
local macro_rules | `(tactic| walk_at "h") => `(tactic| first | assumption | exact upd_same | exact same_upd (by assumption) _ _ (by walk_at "h"))
local macro_rules | `(tactic| walk_at "g") => `(tactic| first | exact gCount _ | exact gLeft _ | exact gLength _ | exact gOn _ | exact gPeriod _ | exact gPhase _ | exact gRow _ | exact gVolume _)
local macro_rules | `(tactic| walk_at "p") => `(tactic| (first | rw [pCount] | rw [pLeft] | rw [pLength] | rw [pOn] | rw [pPeriod] | rw [pPhase] | rw [pRow] | rw [pVolume]))
local macro_rules | `(tactic| walk_at "s") => `(tactic| first
  | ((with_reducible refine yDGs (kvs := ?kvs) (v := ?v) ?h ?e ?q); (case h => exact .inl (by walk_at "h")); (case e => walk_at "g"))
  | ((with_reducible refine yDPs (kvs := ?kvs) ?h ?l ?q); (case h => walk_at "h"); (case l => exact ch_len _); walk_at "p"; (try rw [upd_upd])))
local macro_rules | `(tactic| walk_at "s") => `(tactic| first
  | ((with_reducible refine xI ?c ?q); (case c => first | (show (0 : Int) < _; decide) | exact ⟨by decide, by decide⟩ | exact .inl ⟨by decide, by decide⟩ | exact .inr ⟨by decide, by decide⟩)))
theorem letU_at {which byte : Int} {cs : List Ch} {j : Nat} {c : Ch} (h : which < 12) (e : which / 4 = (j : Int)) (hc : cs[j]? = some c) : letU which byte cs = cs.set j (letC (which % 4) byte c) := by
  unfold letU
  rw [if_pos h, e]
  show cs.modify j _ = _
  apply List.ext_getElem?
  intro i
  rw [List.getElem?_modify]
  by_cases hij : j = i
  · subst hij
    rw [hc, List.getElem?_set_self (List.getElem?_eq_some_iff.mp hc).1]
    show some (if j = j then letC (which % 4) byte c else c) = _
    rw [if_pos rfl]
  · rw [List.getElem?_set_ne hij]
    cases cs[i]? with
    | none => rfl
    | some z =>
      show some (if j = i then letC (which % 4) byte z else z) = _
      rw [if_neg hij]
theorem ok_let {word byte : Int} {c : Ch} (h : okC c) (hb : 0 ≤ byte ∧ byte < 256) : okC (letC word byte c) := by
  obtain ⟨h1, h2, h3, h4, h5⟩ := h
  unfold letC
  split
  · refine ⟨h1, h2, ?_, ?_, h5⟩
    · show (0 : Int) < if byte = 0 then 256 else byte
      split <;> omega
    · show (if byte = 0 then 256 else byte) ≤ (256 : Int)
      split <;> omega
  · split
    · exact ⟨by show (0 : Int) ≤ byte % 16; omega, by show byte % 16 < (16 : Int); omega, h3, h4, h5⟩
    · split
      · exact ⟨h1, h2, h3, h4, h5⟩
      · exact ⟨h1, h2, h3, h4, .inl rfl⟩
theorem upd_start (c : Ch) : mergeK (chK c) [(Sum.inr "count", .int c.period), (Sum.inr "left", .int c.length), (Sum.inr "on", .bl true), (Sum.inr "phase", .int 0)] = chK { c with count := c.period, left := c.length, on := true, phase := 0 } := by kernel_rfl
theorem pure_let {K : PySem.W.Frag} {C : Addr} (cl : Cls K C) (no : NoAttr K C "_channels") (vs : List V) (H : Hp) (Q : VK) (E : XK) (h : spLet C vs H Q E) :
    vs.length = 3 ∧ t_Sound_let K { nx := fun _ H' => Q .non H', rt := Q } (start N_Sound_let vs) H := by
  obtain ⟨p, which, byte, l, ds, cs, nx, rfl, S, hw, hb, q⟩ := h
  refine ⟨rfl, ?_⟩
  show t_Sound_let K _ [some (.ref p), some (.int which), some (.int byte), none, none] H
  unfold t_Sound_let
  repeat walk_at "s"
  refine iteD (fun h12 => ?_) (fun h12 => absurd (show which < 4 * 3 by omega) h12)
  repeat walk_at "s"
  obtain ⟨dx, ob⟩ := id S.ob
  refine yFld ob cl no (sf_ch _ _) ?_
  repeat walk_at "s"
  obtain ⟨j, ej⟩ : ∃ j : Nat, which / 4 = (j : Int) := ⟨(which / 4).toNat, by omega⟩
  have hj : j < ds.length := by rw [S.dl]; omega
  obtain ⟨d, c, hx, hd, hc, hH, ok, hi⟩ := S.ch (i := j) (x := V.ref ds[j]) (by rw [List.getElem?_map, List.getElem?_eq_getElem hj]; rfl)
  refine yIxL (SqL.of S.ls) (at_of ej (by rw [List.getElem?_map, hd]; rfl)) ?_
  repeat walk_at "s"
  rw [letU_at hw.2 ej hc] at q
  refine iteD (fun h0 => ?_) (fun h0 => ?_)
  · repeat walk_at "s"
    have hl : letC (which % 4) byte c = { c with period := if byte = 0 then 256 else byte } := by
      unfold letC
      rw [if_pos h0]
    have ok2 := ok_let (word := which % 4) ok hb
    rw [hl] at q ok2
    refine iteD (fun b0 => ?_) (fun b0 => ?_)
    · rw [if_pos b0] at q ok2
      repeat walk_at "s"
      exact q _ (S.set hd ok2) (.upd (List.mem_of_getElem? hd))
    · rw [if_neg b0] at q ok2
      repeat walk_at "s"
      exact q _ (S.set hd ok2) (.upd (List.mem_of_getElem? hd))
  · repeat walk_at "s"
    have ok2 := ok_let (word := which % 4) ok hb
    refine iteD (fun h1 => ?_) (fun h1 => ?_)
    · have hl : letC (which % 4) byte c = { c with volume := byte % 16 } := by
        unfold letC
        rw [if_neg h0, if_pos h1]
      rw [hl] at q ok2
      repeat walk_at "s"
      exact q _ (S.set hd ok2) (.upd (List.mem_of_getElem? hd))
    · repeat walk_at "s"
      refine iteD (fun h2 => ?_) (fun h2 => ?_)
      · have hl : letC (which % 4) byte c = { c with length := byte } := by
          unfold letC
          rw [if_neg h0, if_neg h1, if_pos h2]
        rw [hl] at q ok2
        repeat walk_at "s"
        exact q _ (S.set hd ok2) (.upd (List.mem_of_getElem? hd))
      · have hl : letC (which % 4) byte c = { c with count := c.period, left := c.length, on := true, phase := 0 } := by
          unfold letC
          rw [if_neg h0, if_neg h1, if_neg h2]
        rw [hl] at q ok2
        repeat walk_at "s"
        refine ⟨tyD hH, ?_⟩
        repeat walk_at "s"
        refine ⟨Nat.le_of_ble_eq_true rfl, fun t1 n1 => ?_⟩
        repeat walk_at "s"
        refine ⟨Nat.le_of_ble_eq_true rfl, fun t2 n2 => ?_⟩
        repeat walk_at "s"
        refine ⟨Nat.le_of_ble_eq_true rfl, fun t3 n3 => ?_⟩
        repeat walk_at "s"
        refine ⟨Nat.le_of_ble_eq_true rfl, fun t4 n4 => ?_⟩
        repeat walk_at "s"
        refine ⟨Nat.le_of_ble_eq_true rfl, fun a na => ?_⟩
        repeat walk_at "s"
        refine ⟨d, a, [t1, t2, t3, t4], chK c, [(Sum.inr "count", .int c.period), (Sum.inr "left", .int c.length), (Sum.inr "on", .bl true), (Sum.inr "phase", .int 0)], rfl, rfl, by walk_at "h", SqL.of upd_same,
          .cons (SqT.of (by walk_at "h")) (.cons (SqT.of (by walk_at "h")) (.cons (SqT.of (by walk_at "h")) (.cons (SqT.of (by walk_at "h")) .nil))), Nat.le_of_ble_eq_true rfl, ?_⟩
        rw [upd_start]
        have s5 := (((((same_upd (o := .tup [.str "count", .int c.period]) n1).trans (same_upd (o := .tup [.str "left", .int c.length]) n2)).trans (same_upd (o := .tup [.str "on", .bl true]) n3)).trans (same_upd (o := .tup [.str "phase", .int 0]) n4)).trans (same_upd (o := .lst [.ref t1, .ref t2, .ref t3, .ref t4]) na))
        exact q _ ((S.same s5).set hd ok2) ((Keep.of_same s5).trans (.upd (List.mem_of_getElem? hd)))
theorem pure_first {K : PySem.W.Frag} (vs : List V) (H : Hp) (Q : VK) (E : XK) (h : sp_first_from K vs H Q E) : vs.length = 3 ∧ t_first_from K { nx := fun _ H' => Q .non H', rt := Q } (start N_first_from vs) H := by
  obtain ⟨now, rest, whole, rfl, hw, q⟩ := h
  refine ⟨rfl, ?_⟩
  show t_first_from K _ [some (.int now), some (.int rest), some (.int whole)] H
  unfold t_first_from
  repeat walk_at "s"
  refine xI hw ?_
  repeat walk_at "s"
  exact q
theorem pure_ends {K : PySem.W.Frag} (vs : List V) (H : Hp) (Q : VK) (E : XK) (h : sp_ends_in K vs H Q E) : vs.length = 3 ∧ t_ends_in K { nx := fun _ H' => Q .non H', rt := Q } (start N_ends_in vs) H := by
  obtain ⟨cycles, count, st, rfl, hs, q⟩ := h
  refine ⟨rfl, ?_⟩
  show t_ends_in K _ [some (.int cycles), some (.int count), some (.int st)] H
  unfold t_ends_in
  repeat walk_at "s"
  refine iteD (fun hc => ?_) (fun hc => ?_)
  · repeat walk_at "s"
    refine ⟨Nat.le_of_ble_eq_true rfl, fun p hp => ?_⟩
    have z := q p hp
    unfold endsN endsC at z
    rw [if_pos hc, if_pos hc] at z
    exact z
  · repeat walk_at "s"
    refine xI ⟨hs.1, by omega⟩ ?_
    repeat walk_at "s"
    refine xI hs.1 ?_
    repeat walk_at "s"
    refine ⟨Nat.le_of_ble_eq_true rfl, fun p hp => ?_⟩
    have z := q p hp
    unfold endsN endsC at z
    rw [if_neg hc, if_neg hc] at z
    exact z
theorem pure_next {K : PySem.W.Frag} (cl : Cls K (He.ga K "LateSound")) (no : NoAttr K (He.ga K "LateSound") "_next") (vs : List V) (H : Hp) (Q : VK) (E : XK) (h : sp_LateSound_next K vs H Q E) :
    vs.length = 1 ∧ t_LateSound_next K { nx := fun _ H' => Q .non H', rt := Q } (start N_LateSound_next vs) H := by
  obtain ⟨p, l, ds, cs, n, rfl, S, q⟩ := h
  refine ⟨rfl, ?_⟩
  show t_LateSound_next K _ [some (.ref p)] H
  unfold t_LateSound_next
  repeat walk_at "s"
  obtain ⟨dx, ob⟩ := id S.ob
  refine yFld ob cl no (sf_nx _ _) ?_
  exact q
end K61
namespace K61
open PySem PySem.Spec PyProof.Rows L2 Kx
local macro_rules | `(tactic| walk_at "s") => `(tactic| first
  | with_reducible refine xSeq ?_ | with_reducible refine xAsg ?_ | with_reducible refine xNm ?_ | with_reducible refine xDrop ?_ | with_reducible refine xRet ?_ | with_reducible refine xRetN ?_ | with_reducible refine xNext ?_ | with_reducible refine xIfS ?_
  | ((with_reducible refine xVar (v := ?v) ?h ?q); (case h => exact rfl)) | with_reducible refine xC ?_ | with_reducible refine xOp ?_ | with_reducible refine xUn ?_ | with_reducible refine xI0 ?_ | with_reducible refine xU ?_
  | with_reducible refine xEqI ?_ | with_reducible refine xNeI ?_ | with_reducible refine xEqB ?_ | with_reducible refine xNeB ?_ | with_reducible refine xEqS ?_ | with_reducible refine xNeS ?_ | with_reducible refine xIsN ?_ | with_reducible refine xNotN ?_
  | with_reducible refine xChain ?_ | with_reducible refine xIf ?_ | with_reducible refine xAndV ?_ | with_reducible refine xOrV ?_ | with_reducible refine xNotV ?_
  | with_reducible refine xTest ?_ | with_reducible refine xB ?_ | with_reducible refine xAnd ?_ | with_reducible refine xOr ?_ | with_reducible refine xNot ?_ | with_reducible refine xYes ?_
  | with_reducible refine xNil ?_ | with_reducible refine xCons ?_ | with_reducible refine xTup ?_ | with_reducible refine xLst ?_ | with_reducible refine xCB ?_ | with_reducible refine xInt1I ?_ | with_reducible refine xInt1B ?_ | with_reducible refine xAbs ?_ | with_reducible refine xMin2 ?_ | with_reducible refine xMax2 ?_
  | with_reducible refine xFld ?_ | with_reducible refine xFldS ?_ | with_reducible refine xDG ?_ | with_reducible refine xDP ?_ | with_reducible refine xCall ?_ | with_reducible refine yMeth ?_ | with_reducible refine xBM ?_ | with_reducible refine xBM0 ?_
  | with_reducible refine xPar ?_ | with_reducible refine xPar3 ?_ | with_reducible refine yPar ?_ | with_reducible refine yPar3 ?_ | with_reducible refine xGNil ?_ | with_reducible refine xGCons ?_ | with_reducible refine xGSub ?_
  | with_reducible refine xBl ?_ | with_reducible refine xPairs ?_ | with_reducible refine xPairs0 ?_)
local macro_rules | `(tactic| walk_at "h") => `(tactic| first | assumption | exact upd_same | exact same_upd (by assumption) _ _ (by walk_at "h"))
local macro_rules | `(tactic| walk_at "g") => `(tactic| first | exact gCount _ | exact gLeft _ | exact gLength _ | exact gOn _ | exact gPeriod _ | exact gPhase _ | exact gRow _ | exact gVolume _)
local macro_rules | `(tactic| walk_at "p") => `(tactic| (first | rw [pCount] | rw [pLeft] | rw [pLength] | rw [pOn] | rw [pPeriod] | rw [pPhase] | rw [pRow] | rw [pVolume]))
local macro_rules | `(tactic| walk_at "s") => `(tactic| first
  | ((with_reducible refine yDGs (kvs := ?kvs) (v := ?v) ?h ?e ?q); (case h => exact .inl (by walk_at "h")); (case e => walk_at "g"))
  | ((with_reducible refine yDPs (kvs := ?kvs) ?h ?l ?q); (case h => walk_at "h"); (case l => exact ch_len _); walk_at "p"; (try rw [upd_upd])))
local macro_rules | `(tactic| walk_at "s") => `(tactic| first
  | ((with_reducible refine xI ?c ?q); (case c => first | (show (0 : Int) < _; decide) | exact ⟨by decide, by decide⟩ | exact .inl ⟨by decide, by decide⟩ | exact .inr ⟨by decide, by decide⟩)))
theorem at3 {i : Nat} (h : i < 3) : [V.int 1, V.int 2, V.int 4][i]? = some (V.int ([1, 2, 4].getD i 0)) := by
  match i, h with
  | 0, _ => rfl
  | 1, _ => rfl
  | 2, _ => rfl
theorem paired_snoc {α β : Type} {F : α → β → Prop} : ∀ {xs : List α} {ys : List β} {a : α} {b : β}, Paired F xs ys → F a b → Paired F (xs ++ [a]) (ys ++ [b])
  | _, _, _, _, .nil, h => .cons h .nil
  | _, _, _, _, .cons r t, h => .cons r (paired_snoc t h)
theorem paired_len {α β : Type} {F : α → β → Prop} : ∀ {xs : List α} {ys : List β}, Paired F xs ys → xs.length = ys.length
  | _, _, .nil => rfl
  | _, _, .cons _ t => congrArg (· + 1) (paired_len t)
theorem take_snoc {α : Type} {l : List α} {i : Nat} {x : α} (h : l[i]? = some x) : l.take (i + 1) = l.take i ++ [x] := by
  obtain ⟨hi, e⟩ := List.getElem?_eq_some_iff.mp h
  rw [List.take_succ_eq_append_getElem hi, e]
theorem pure_on {K : PySem.W.Frag} {C : Addr} (cl : Cls K C) (no : NoAttr K C "_channels") (vs : List V) (H : Hp) (Q : VK) (E : XK) (h : spOn C vs H Q E) :
    vs.length = 1 ∧ t_Sound_on K { nx := fun _ H' => Q .non H', rt := Q } (start N_Sound_on vs) H := by
  obtain ⟨p, l, ds, cs, nx, rfl, S, q⟩ := h
  refine ⟨rfl, ?_⟩
  show t_Sound_on K _ [some (.ref p), none, none] H
  unfold t_Sound_on
  repeat walk_at "s"
  refine xLcE ?_
  repeat walk_at "s"
  obtain ⟨dx, ob⟩ := id S.ob
  refine yFld ob cl no (sf_ch _ _) ?_
  repeat walk_at "s"
  refine yLcE (SqL.of S.ls) (fun D i H' => Same H H' ∧ H D = none ∧ H' D = some (.lst (((cs.mapIdx fun i c => [1, 2, 4].getD i 0 * (if c.on then 1 else 0)).take i).map V.int))) (fun D hD => ⟨same_upd hD, hD, upd_same⟩) (fun D i H' _ h => SqL.of (h.1 _ _ S.ls)) ?_ ?_
  · rintro D i x T H' hx ⟨s1, nD, hD⟩ hT
    have S' := S.same s1
    obtain ⟨d, c, rfl, hd, hc, hH, ok, hi⟩ := S'.ch hx
    refine yGT (SqT.of upd_same) rfl ?_
    repeat walk_at "s"
    refine yTurn rfl ?_
    repeat walk_at "s"
    refine ⟨Nat.le_of_ble_eq_true rfl, fun t2 n2 => ?_⟩
    repeat walk_at "s"
    refine yIxT (SqT.of upd_same) (atI_nat (at3 hi)) ?_
    repeat walk_at "s"
    refine xI (.inl ?_) ?_
    · match i, hi with
      | 0, _ => exact ⟨by decide, by decide⟩
      | 1, _ => exact ⟨by decide, by decide⟩
      | 2, _ => exact ⟨by decide, by decide⟩
    refine ⟨_, by walk_at "h", ?_, fun b o e => ?_, nD, ?_⟩
    · rw [List.length_map, List.length_take]
      exact Nat.lt_of_le_of_lt (Nat.min_le_left _ _) (Nat.lt_of_lt_of_le hi (by decide))
    · rw [upd_ne (ne_of_none e nD)]
      exact same_upd n2 _ _ (same_upd hT _ _ (s1 _ _ e))
    · rw [take_snoc (x := [1, 2, 4].getD i 0 * (if c.on then 1 else 0)) (by rw [List.getElem?_mapIdx, hc]; rfl), List.map_append]
      exact upd_same
  · rintro D H' nD ⟨s1, _, hD⟩
    repeat walk_at "s"
    refine xSum (SqL.of hD) ?_
    have e : ((cs.mapIdx fun i c => [1, 2, 4].getD i 0 * (if c.on then 1 else 0)).take (ds.map V.ref).length).sum = onU cs := by
      rw [List.take_of_length_le (by rw [List.length_mapIdx, List.length_map, S.cl, S.dl]; exact Nat.le_refl _)]
      rfl
    rw [e]
    exact q H' s1
theorem pure_told {K : PySem.W.Frag} {C : Addr} (cl : Cls K C) (no : NoAttr K C "_channels") (vs : List V) (H : Hp) (Q : VK) (E : XK) (h : spTold C vs H Q E) :
    vs.length = 1 ∧ t_Sound_told K { nx := fun _ H' => Q .non H', rt := Q } (start N_Sound_told vs) H := by
  obtain ⟨p, l, ds, cs, nx, rfl, S, q⟩ := h
  refine ⟨rfl, ?_⟩
  show t_Sound_told K _ [some (.ref p), none] H
  unfold t_Sound_told
  repeat walk_at "s"
  refine xLcL ?_
  repeat walk_at "s"
  obtain ⟨dx, ob⟩ := id S.ob
  refine yFld ob cl no (sf_ch _ _) ?_
  refine yLcL (SqL.of S.ls) (fun D i H' => ∃ es : List Addr, Same H H' ∧ H D = none ∧ H' D = some (.lst (es.map V.ref)) ∧ Paired (fun e c => H' e = some (.dK (chK c))) es (cs.take i)) (fun D hD => ⟨[], same_upd hD, hD, upd_same, .nil⟩) (fun D i H' _ ⟨_, h, _⟩ => SqL.of (h _ _ S.ls)) ?_ ?_
  · rintro D i x H' hx ⟨es, s1, nD, hD, pr⟩
    have S' := S.same s1
    obtain ⟨d, c, rfl, hd, hc, hH, ok, hi⟩ := S'.ch hx
    refine xNm (yTurn rfl ?_)
    repeat walk_at "s"
    refine ⟨d, chK c, rfl, .inl hH, fun e ne => ?_⟩
    have hDe : D ≠ e := ne_of_none hD ne
    refine ⟨_, same_upd ne _ _ hD, ?_, es ++ [e], fun b o eb => ?_, nD, ?_, ?_⟩
    · rw [List.length_map, paired_len pr, List.length_take]
      exact Nat.lt_of_le_of_lt (Nat.min_le_left _ _) (Nat.lt_of_lt_of_le hi (by decide))
    · rw [upd_ne (ne_of_none eb nD)]
      exact same_upd ne _ _ (s1 _ _ eb)
    · rw [List.map_append]
      exact upd_same
    · rw [take_snoc hc]
      refine paired_snoc (Paired.mapP pr fun a b hab => ?_) ?_
      · rw [upd_ne fun z => by rw [z, hD] at hab; cases hab]
        exact same_upd ne _ _ hab
      · rw [upd_ne hDe.symm]
        exact upd_same
  · rintro D H' nD ⟨es, s1, _, hD, pr⟩
    rw [List.length_map, S.dl, List.take_of_length_le (by rw [S.cl]; exact Nat.le_refl _)] at pr
    exact q D H' s1 ⟨es, hD, pr⟩
theorem row_snoc : ∀ (n : Nat) (r : Int), rowC (n + 1) r = rowC n r / 2 + 16384 * ((rowC n r + rowC n r / 2) % 2)
  | 0, _ => rfl
  | n + 1, r => row_snoc n (r / 2 + 16384 * ((r + r / 2) % 2))
theorem ok_pass {k cycles : Int} {c : Ch} (h : okC c) (n0 : 0 ≤ endsN cycles c.count c.period) : okC (passC k cycles c) := by
  obtain ⟨h1, h2, h3, h4, h5⟩ := h
  unfold passC
  split
  · simp only
    split
    · split
      · exact ⟨h1, h2, h3, h4, by show _ ∨ _; simp only; omega⟩
      · exact ⟨h1, h2, h3, h4, h5⟩
    · exact ⟨h1, h2, h3, h4, by show _ ∨ _; simp only; omega⟩
  · exact ⟨h1, h2, h3, h4, h5⟩
theorem ends_nn {cycles count st : Int} (h : 0 < st) : 0 ≤ endsN cycles count st := by
  unfold endsN
  split
  · exact Int.le_refl 0
  · have := Int.ediv_nonneg (a := cycles - count) (b := st) (by omega) (by omega)
    omega
theorem ends_lt {cycles count st : Int} (h : 0 < st) (h0 : 0 ≤ count) (h1 : 0 ≤ cycles) : endsN cycles count st ≤ 1 + cycles := by
  unfold endsN
  split
  · omega
  · have := Int.ediv_le_self (a := cycles - count) st (by omega)
    omega
theorem pure_pass {K : PySem.W.Frag} (cl : Cls K (He.ga K "LateSound")) (no : NoAttr K (He.ga K "LateSound") "_channels") (vs : List V) (H : Hp) (Q : VK) (E : XK) (h : sp_LateSound__pass K vs H Q E) :
    vs.length = 2 ∧ t_LateSound__pass K { nx := fun _ H' => Q .non H', rt := Q } (start N_LateSound__pass vs) H := by
  obtain ⟨p, cycles, l, ds, cs, nx, rfl, S, hcy, hct, q⟩ := h
  refine ⟨rfl, ?_⟩
  show t_LateSound__pass K _ [some (.ref p), some (.int cycles), none, none, none, none, none] H
  unfold t_LateSound__pass
  refine xForEU ?_
  repeat walk_at "s"
  obtain ⟨dx, ob⟩ := id S.ob
  refine yFld ob cl no (sf_ch _ _) ?_
  refine ⟨l, _, rfl, SqL.of S.ls, for_enum (fun i σ H' => ∃ u v w z a, σ = [some (.ref p), some (.int cycles), u, v, w, z, a] ∧ Snd (He.ga K "LateSound") H' p l ds (upTo (fun k => passC k cycles) i cs) nx ∧ Keep ds H H')
    ⟨none, none, none, none, none, rfl, by rw [upTo_zero]; exact S, .refl _ _⟩ (fun i σ H' _ ⟨_, _, _, _, _, _, S', _⟩ => SqL.of S'.ls) ?_ ?_⟩
  · rintro i x T σ H' hx ⟨u, v, w, z, a, rfl, S', k⟩ hT
    obtain ⟨d, c, rfl, hd, hc, hH, ok, hi⟩ := S'.ch hx
    have hc0 := upTo_get hc
    have hcc := hct c (List.mem_of_getElem? hc0)
    have S1 := S'.new (o := .tup [.int (i : Int), .ref d]) hT
    have k1 : Keep ds H (upd H' T (.tup [.int (i : Int), .ref d])) := k.trans (.of_same (same_upd hT))
    have hH1 : upd H' T (.tup [.int (i : Int), .ref d]) d = some (.dK (chK c)) := same_upd hT _ _ hH
    have n0 := ends_nn (cycles := cycles) (count := c.count) ok.2.2.1
    have n1 := ends_lt ok.2.2.1 hcc hcy.1
    have okp := ok_pass (k := (i : Int)) ok n0
    refine yGT (SqT.of upd_same) rfl ?_
    generalize upd H' T (.tup [.int (i : Int), .ref d]) = H1 at S1 k1 hH1
    repeat walk_at "s"
    refine iteB (fun hon => ?_) (fun hon => ?_)
    · repeat walk_at "s"
      refine ⟨cycles, c.count, c.period, rfl, ⟨ok.2.2.1, ok.2.2.2.1⟩, fun t ht => ?_⟩
      have S2 := S1.new (o := .tup [.int (endsN cycles c.count c.period), .int (endsC cycles c.count c.period)]) ht
      have k2 := k1.trans (.of_same (same_upd (o := .tup [.int (endsN cycles c.count c.period), .int (endsC cycles c.count c.period)]) ht))
      have hH2 := same_upd (o := .tup [.int (endsN cycles c.count c.period), .int (endsC cycles c.count c.period)]) ht _ _ hH1
      refine yGT (SqT.of upd_same) rfl ?_
      generalize upd H1 t (.tup [.int (endsN cycles c.count c.period), .int (endsC cycles c.count c.period)]) = H2 at S2 k2 hH2
      repeat walk_at "s"
      refine xSetD ⟨_, DPut.k (k := Sum.inr "count") hH2 (ch_len _), ?_⟩
      rw [pCount]
      repeat walk_at "s"
      refine iteDN (fun hk => ?_) (fun hk => ?_)
      · have hp : passC (i : Int) cycles c = { c with count := endsC cycles c.count c.period, phase := (c.phase + endsN cycles c.count c.period) % 2 } := by
          unfold passC
          rw [if_pos hon]
          simp only
          rw [if_neg hk]
        rw [hp] at okp
        repeat walk_at "s"
        refine ⟨_, _, _, _, _, rfl, ?_, k2.trans (.upd (List.mem_of_getElem? hd))⟩
        rw [← upTo_put hc0 hp.symm]
        exact S2.set hd okp
      · repeat walk_at "s"
        refine iteD (fun hn => ?_) (fun hn => ?_)
        · have hp : passC (i : Int) cycles c = { c with count := endsC cycles c.count c.period, row := rowC (endsN cycles c.count c.period).toNat c.row, phase := rowC (endsN cycles c.count c.period).toNat c.row % 2 } := by
            unfold passC
            rw [if_pos hon]
            simp only
            rw [if_pos hk, if_pos hn]
          rw [hp] at okp
          repeat walk_at "s"
          refine xForR1U ?_
          repeat walk_at "s"
          obtain ⟨n, en⟩ : ∃ n : Nat, endsN cycles c.count c.period = (n : Int) := ⟨(endsN cycles c.count c.period).toNat, by omega⟩
          rw [en] at n1 hn hp okp
          rw [show ((n : Int)).toNat = n from by omega] at hp okp
          refine yForR1 en (by omega) (fun j σ H' => ∃ z a, σ = [some (.ref p), some (.int cycles), some (.int (i : Int)), some (.ref d), some (.int (endsN cycles c.count c.period)), z, a] ∧ H' = upd H2 d (.dK (chK { c with count := endsC cycles c.count c.period, row := rowC j c.row })))
            ⟨_, _, rfl, rfl⟩ ?_ ?_
          · rintro j σ H' hj ⟨z, a, rfl, rfl⟩
            repeat walk_at "s"
            refine ⟨_, _, rfl, ?_⟩
            rw [row_snoc]
          · rintro σ H' ⟨z, a, rfl, rfl⟩
            repeat walk_at "s"
            refine ⟨_, _, _, _, _, rfl, ?_, k2.trans (.upd (List.mem_of_getElem? hd))⟩
            rw [← upTo_put hc0 hp.symm]
            exact S2.set hd okp
        · have hp : passC (i : Int) cycles c = { c with count := endsC cycles c.count c.period } := by
            unfold passC
            rw [if_pos hon]
            simp only
            rw [if_pos hk, if_neg hn]
          rw [hp] at okp
          repeat walk_at "s"
          refine ⟨_, _, _, _, _, rfl, ?_, k2.trans (.upd (List.mem_of_getElem? hd))⟩
          rw [← upTo_put hc0 hp.symm]
          exact S2.set hd okp
    · repeat walk_at "s"
      refine ⟨_, _, _, _, _, rfl, ?_, k1⟩
      rw [← upTo_skip hc0 (by unfold passC; rw [hon]; rfl)]
      exact S1
  · rintro σ H' ⟨u, v, w, z, a, rfl, S', k⟩
    rw [List.length_map, S.dl] at *
    rw [upTo_all S.cl] at S'
    exact q H' S' k
end K61
namespace K61
open PySem PySem.Spec PyProof.Rows L2 Kx
local macro_rules | `(tactic| walk_at "s") => `(tactic| first
  | with_reducible refine xSeq ?_ | with_reducible refine xAsg ?_ | with_reducible refine xNm ?_ | with_reducible refine xDrop ?_ | with_reducible refine xRet ?_ | with_reducible refine xRetN ?_ | with_reducible refine xNext ?_ | with_reducible refine xIfS ?_
  | ((with_reducible refine xVar (v := ?v) ?h ?q); (case h => exact rfl)) | with_reducible refine xC ?_ | with_reducible refine xOp ?_ | with_reducible refine xUn ?_ | with_reducible refine xI0 ?_ | with_reducible refine xU ?_
  | with_reducible refine xEqI ?_ | with_reducible refine xNeI ?_ | with_reducible refine xEqB ?_ | with_reducible refine xNeB ?_ | with_reducible refine xEqS ?_ | with_reducible refine xNeS ?_ | with_reducible refine xIsN ?_ | with_reducible refine xNotN ?_
  | with_reducible refine xChain ?_ | with_reducible refine xIf ?_ | with_reducible refine xAndV ?_ | with_reducible refine xOrV ?_ | with_reducible refine xNotV ?_
  | with_reducible refine xTest ?_ | with_reducible refine xB ?_ | with_reducible refine xAnd ?_ | with_reducible refine xOr ?_ | with_reducible refine xNot ?_ | with_reducible refine xYes ?_
  | with_reducible refine xNil ?_ | with_reducible refine xCons ?_ | with_reducible refine xTup ?_ | with_reducible refine xLst ?_ | with_reducible refine xCB ?_ | with_reducible refine xInt1I ?_ | with_reducible refine xInt1B ?_ | with_reducible refine xAbs ?_ | with_reducible refine xMin2 ?_ | with_reducible refine xMax2 ?_
  | with_reducible refine xFld ?_ | with_reducible refine xFldS ?_ | with_reducible refine xDG ?_ | with_reducible refine xDP ?_ | with_reducible refine xCall ?_ | with_reducible refine yMeth ?_ | with_reducible refine xBM ?_ | with_reducible refine xBM0 ?_
  | with_reducible refine xPar ?_ | with_reducible refine xPar3 ?_ | with_reducible refine yPar ?_ | with_reducible refine yPar3 ?_ | with_reducible refine xGNil ?_ | with_reducible refine xGCons ?_ | with_reducible refine xGSub ?_
  | with_reducible refine xBl ?_ | with_reducible refine xPairs ?_ | with_reducible refine xPairs0 ?_)
local macro_rules | `(tactic| walk_at "h") => `(tactic| first | assumption | exact upd_same | exact same_upd (by assumption) _ _ (by walk_at "h"))
local macro_rules | `(tactic| walk_at "g") => `(tactic| first | exact gCount _ | exact gLeft _ | exact gLength _ | exact gOn _ | exact gPeriod _ | exact gPhase _ | exact gRow _ | exact gVolume _)
local macro_rules | `(tactic| walk_at "p") => `(tactic| (first | rw [pCount] | rw [pLeft] | rw [pLength] | rw [pOn] | rw [pPeriod] | rw [pPhase] | rw [pRow] | rw [pVolume]))
local macro_rules | `(tactic| walk_at "s") => `(tactic| first
  | ((with_reducible refine yDGs (kvs := ?kvs) (v := ?v) ?h ?e ?q); (case h => exact .inl (by walk_at "h")); (case e => walk_at "g"))
  | ((with_reducible refine yDPs (kvs := ?kvs) ?h ?l ?q); (case h => walk_at "h"); (case l => exact ch_len _); walk_at "p"; (try rw [upd_upd])))
local macro_rules | `(tactic| walk_at "s") => `(tactic| first
  | ((with_reducible refine xI ?c ?q); (case c => first | (show (0 : Int) < _; decide) | exact ⟨by decide, by decide⟩ | exact .inl ⟨by decide, by decide⟩ | exact .inr ⟨by decide, by decide⟩)))
theorem ends_pos {cycles count st : Int} (h : 0 < st) (h0 : 0 ≤ count) : 0 ≤ endsC cycles count st := by
  unfold endsC
  split
  · omega
  · have := Int.emod_lt_of_pos (cycles - count) h
    omega
theorem pass_count {k cycles : Int} {c : Ch} (ok : okC c) (h : 0 ≤ c.count) : 0 ≤ (passC k cycles c).count := by
  have e := ends_pos (cycles := cycles) ok.2.2.1 h
  unfold passC
  split
  · simp only
    split
    · split <;> exact e
    · exact e
  · exact h
theorem samp_count {c : Ch} (h : 0 ≤ c.count) : 0 ≤ (sampC c).count := by
  unfold sampC
  split
  · split <;> exact h
  · exact h
theorem each_mem {f : Int → Ch → Ch} {cs : List Ch} {P : Ch → Prop} (h : ∀ i c, c ∈ cs → P (f i c)) : ∀ c ∈ eachC f cs, P c := fun c hc => by
  obtain ⟨i, hi⟩ := List.mem_iff_getElem?.mp hc
  unfold eachC at hi
  rw [List.getElem?_mapIdx] at hi
  cases e : cs[i]? with
  | none =>
    rw [e] at hi
    cases hi
  | some z =>
    rw [e] at hi
    have := Option.some.inj hi
    rw [← this]
    exact h _ z (List.mem_of_getElem? e)
theorem stop_gt {goal n : Int} (h : n < goal) : n < stopOf goal n ∧ stopOf goal n ≤ goal := by
  unfold stopOf lastOf
  split <;> omega
theorem stop_le {goal n : Int} : stopOf goal n ≤ n + 32 := by
  unfold stopOf lastOf
  split <;> omega
theorem liveToF_yes {k : Nat} {goal : Int} {cs : List Ch} {n : Int} {f : List Int} (h : n < goal) (e : stopOf goal n = lastOf n + 1) : liveToF (k + 1) goal cs n f = liveToF k goal ((eachC (fun k => passC k (stopOf goal n - n)) cs).map sampC) (stopOf goal n) (f ++ [sumU (eachC (fun k => passC k (stopOf goal n - n)) cs)]) := by
  show (if n < goal then _ else _) = _
  rw [if_pos h, if_pos e]
theorem liveToF_no {k : Nat} {goal : Int} {cs : List Ch} {n : Int} {f : List Int} (h : n < goal) (e : ¬ stopOf goal n = lastOf n + 1) : liveToF (k + 1) goal cs n f = liveToF k goal (eachC (fun k => passC k (stopOf goal n - n)) cs) (stopOf goal n) f := by
  show (if n < goal then _ else _) = _
  rw [if_pos h, if_neg e]
theorem liveToF_end {k : Nat} {goal : Int} {cs : List Ch} {n : Int} {f : List Int} (h : ¬ n < goal) : liveToF k goal cs n f = (cs, n, f) := by
  cases k with
  | zero => rfl
  | succ k =>
    show (if n < goal then _ else _) = _
    rw [if_neg h]
/-- more turns than there are change nothing -/
theorem liveToF_more {goal : Int} : ∀ (k : Nat) {m : Nat} {cs : List Ch} {n : Int} {f : List Int}, (goal - n).toNat ≤ k → k ≤ m → liveToF m goal cs n f = liveToF k goal cs n f
  | k, m, cs, n, f, hk, hm => by
    by_cases h : n < goal
    · obtain ⟨g1, g2⟩ := stop_gt h
      match k, m, hk, hm with
      | 0, _, hk, _ => omega
      | k + 1, m + 1, hk, hm =>
        by_cases e : stopOf goal n = lastOf n + 1
        · rw [liveToF_yes h e, liveToF_yes h e]
          exact liveToF_more k (by omega) (by omega)
        · rw [liveToF_no h e, liveToF_no h e]
          exact liveToF_more k (by omega) (by omega)
    · rw [liveToF_end h, liveToF_end h]
theorem pure_live_to {K : PySem.W.Frag} (cl : Cls K (He.ga K "LateSound")) (no : NoAttr K (He.ga K "LateSound") "_next") (vs : List V) (H : Hp) (Q : VK) (E : XK) (h : sp_LateSound_live_to K vs H Q E) :
    vs.length = 2 ∧ t_LateSound_live_to K { nx := fun _ H' => Q .non H', rt := Q } (start N_LateSound_live_to vs) H := by
  obtain ⟨p, goal, l, ds, cs, n, rfl, S, hb, hct, q⟩ := h
  refine ⟨rfl, ?_⟩
  show t_LateSound_live_to K _ [some (.ref p), some (.int goal), none, none, none] H
  unfold t_LateSound_live_to
  repeat walk_at "s"
  refine ⟨Nat.zero_le _, fun f nf => ?_⟩
  repeat walk_at "s"
  refine yWhile (fun m σ H' => ∃ cs' n' fs u v, σ = [some (.ref p), some (.int goal), some (.ref f), u, v] ∧ Snd (He.ga K "LateSound") H' p l ds cs' (some n') ∧ Keep (p :: ds) H H' ∧ H' f = some (.lst (fs.map V.int)) ∧
    (∀ c ∈ cs', 0 ≤ c.count) ∧ 0 ≤ n' ∧ m = (goal - n').toNat ∧ fs.length + m ≤ (goal - n).toNat ∧ liveToF m goal cs' n' fs = liveTo goal cs n) (goal - n).toNat
    ⟨cs, n, [], none, none, rfl, S.new nf, .of_same (same_upd nf), upd_same, hct, hb.1, rfl, by simp, rfl⟩ ?_
  rintro m σ H' ⟨cs', n', fs, u, v, rfl, S', k, hf, hct', hn', rfl, hlen, hM⟩
  obtain ⟨dx, ob⟩ := id S'.ob
  repeat walk_at "s"
  refine yFld ob cl no (sf_nx _ _) ?_
  repeat walk_at "s"
  refine iteD (fun hg => ?_) (fun hg => ?_)
  · obtain ⟨g1, g2⟩ := stop_gt hg
    have g3 := @stop_le goal n'
    refine ⟨fun σ' H'' => ∃ cs2 fs2 u v, σ' = [some (.ref p), some (.int goal), some (.ref f), u, v] ∧ Snd (He.ga K "LateSound") H'' p l ds cs2 (some (stopOf goal n')) ∧ Keep (p :: ds) H H'' ∧ H'' f = some (.lst (fs2.map V.int)) ∧
      (∀ c ∈ cs2, 0 ≤ c.count) ∧ fs2.length + (goal - stopOf goal n').toNat ≤ (goal - n).toNat ∧ liveToF (goal - stopOf goal n').toNat goal cs2 (stopOf goal n') fs2 = liveTo goal cs n, ?_, ?_⟩
    · rintro σ' H'' ⟨cs2, fs2, u, v, e1, e2, e3, e4, e5, e6, e7⟩
      exact ⟨(goal - stopOf goal n').toNat, by omega, cs2, stopOf goal n', fs2, u, v, e1, e2, e3, e4, e5, by omega, rfl, e6, e7⟩
    repeat walk_at "s"
    refine yFld ob cl no (sf_nx _ _) ?_
    repeat walk_at "s"
    refine ⟨n', 32 - 1, 32, rfl, by decide, ?_⟩
    have el : n' + (32 - 1 - n') % 32 = lastOf n' := rfl
    rw [el]
    repeat walk_at "s"
    have es : (if lastOf n' + 1 < goal then lastOf n' + 1 else goal) = stopOf goal n' := rfl
    rw [es]
    repeat walk_at "s"
    refine yMe ob (sf_m _ _ (by decide +kernel) (by decide +kernel)) ?_
    repeat walk_at "s"
    refine yFld ob cl no (sf_nx _ _) ?_
    repeat walk_at "s"
    refine ⟨p, _, l, ds, cs', _, rfl, S', ⟨by omega, by omega⟩, hct', fun H1 S1 k1 => ?_⟩
    have hf1 : H1 f = some (.lst (fs.map V.int)) := k1 _ _ hf fun m => by
      obtain ⟨i, hi⟩ := List.mem_iff_getElem?.mp m
      obtain ⟨c, _, h⟩ := S'.at_ i f hi
      rw [hf] at h
      cases h
    repeat walk_at "s"
    obtain ⟨dx1, ob1⟩ := id S1.ob
    refine yFldS ob1 cl no (sf_len _ _) ?_
    rw [sf_put]
    have hpf : p ≠ f := fun e => by
      rw [← e, ob1] at hf1
      cases hf1
    have S2 : Snd (He.ga K "LateSound") (upd H1 p (.ins (He.ga K "LateSound") dx1 (sf l (some (stopOf goal n'))))) p l ds (eachC (fun k => passC k (stopOf goal n' - n')) cs') (some (stopOf goal n')) := by
      refine ⟨⟨dx1, upd_same⟩, ?_, S1.nd, S1.dl, S1.cl, fun i d hd => ?_, S1.ok⟩
      · rw [upd_ne fun e => by rw [← e, S1.ls] at ob1; cases ob1]
        exact S1.ls
      · obtain ⟨c, e1, e2⟩ := S1.at_ i d hd
        refine ⟨c, e1, ?_⟩
        rw [upd_ne fun e => S1.p_ne (by rw [← e]; exact List.mem_of_getElem? hd)]
        exact e2
    have k2 : Keep (p :: ds) H (upd H1 p (.ins (He.ga K "LateSound") dx1 (sf l (some (stopOf goal n'))))) := (k.trans (k1.mono fun b hb => List.mem_cons_of_mem _ hb)).trans (.upd List.mem_cons_self)
    have hf2 : upd H1 p (.ins (He.ga K "LateSound") dx1 (sf l (some (stopOf goal n')))) f = some (.lst (fs.map V.int)) := by
      rw [upd_ne hpf.symm]
      exact hf1
    have hct2 : ∀ c ∈ eachC (fun k => passC k (stopOf goal n' - n')) cs', 0 ≤ c.count := each_mem fun i c hc => pass_count (S'.ok c hc) (hct' c hc)
    have hfu : (goal - n').toNat = (goal - n').toNat - 1 + 1 := by omega
    generalize upd H1 p (.ins (He.ga K "LateSound") dx1 (sf l (some (stopOf goal n')))) = H2 at S2 k2 hf2
    repeat walk_at "s"
    refine iteD (fun hst => ?_) (fun hst => ?_)
    · repeat walk_at "s"
      refine ⟨tyL hf2, ?_⟩
      repeat walk_at "s"
      obtain ⟨dx2, ob2⟩ := id S2.ob
      refine yMe ob2 (sf_m _ _ (by decide +kernel) (by decide +kernel)) ?_
      repeat walk_at "s"
      refine ⟨p, l, ds, _, _, rfl, S2, fun H3 S3 k3 => ?_⟩
      have hf3 : H3 f = some (.lst (fs.map V.int)) := k3 _ _ hf2 fun m => by
        obtain ⟨i, hi⟩ := List.mem_iff_getElem?.mp m
        obtain ⟨c, _, h⟩ := S2.at_ i f hi
        rw [hf2] at h
        cases h
      repeat walk_at "s"
      refine yAppend hf3 (by rw [List.length_map]; exact Nat.lt_of_le_of_lt (show fs.length ≤ 1000000 by omega) (by decide)) ?_
      refine ⟨(eachC (fun k => passC k (stopOf goal n' - n')) cs').map sampC, fs ++ [sumU (eachC (fun k => passC k (stopOf goal n' - n')) cs')], _, _, rfl, ?_, ?_, ?_, ?_, ?_, ?_⟩
      · refine S3.of_keep (F := [f]) (.upd (by simp)) ?_ ?_ ?_
        · simpa using hpf
        · intro e
          have e := List.mem_singleton.mp e
          have h := S.ls
          have h1 := nf
          rw [← e, h] at h1
          cases h1
        · intro d hd e
          have e := List.mem_singleton.mp e
          obtain ⟨i, hi⟩ := List.mem_iff_getElem?.mp hd
          obtain ⟨c, _, h⟩ := S3.at_ i d hi
          rw [e, hf3] at h
          cases h
      · intro b o e hb
        rw [upd_ne (ne_of_none e nf)]
        exact (k2.trans (k3.mono fun b hb => List.mem_cons_of_mem _ hb)) b o e hb
      · rw [List.map_append]
        exact upd_same
      · intro c hc
        obtain ⟨c0, h1, rfl⟩ := List.mem_map.mp hc
        exact samp_count (hct2 c0 h1)
      · simp
        omega
      · rw [← hM, hfu, liveToF_yes hg hst]
        exact (liveToF_more _ (Nat.le_refl _) (by omega)).symm
    · repeat walk_at "s"
      refine ⟨_, fs, _, _, rfl, S2, k2, hf2, hct2, by omega, ?_⟩
      rw [← hM, hfu, liveToF_no hg hst]
      exact (liveToF_more _ (Nat.le_refl _) (by omega)).symm
  · repeat walk_at "s"
    rw [liveToF_end hg] at hM
    rw [← hM] at q
    exact q f H' nf S' k hf
end K61
namespace K61
open PySem PySem.Spec PyProof.Rows L2 Kx
local macro_rules | `(tactic| walk_at "s") => `(tactic| first
  | with_reducible refine xSeq ?_ | with_reducible refine xAsg ?_ | with_reducible refine xNm ?_ | with_reducible refine xDrop ?_ | with_reducible refine xRet ?_ | with_reducible refine xRetN ?_ | with_reducible refine xNext ?_ | with_reducible refine xIfS ?_
  | ((with_reducible refine xVar (v := ?v) ?h ?q); (case h => exact rfl)) | with_reducible refine xC ?_ | with_reducible refine xOp ?_ | with_reducible refine xUn ?_ | with_reducible refine xI0 ?_ | with_reducible refine xU ?_
  | with_reducible refine xEqI ?_ | with_reducible refine xNeI ?_ | with_reducible refine xEqB ?_ | with_reducible refine xNeB ?_ | with_reducible refine xEqS ?_ | with_reducible refine xNeS ?_ | with_reducible refine xIsN ?_ | with_reducible refine xNotN ?_
  | with_reducible refine xChain ?_ | with_reducible refine xIf ?_ | with_reducible refine xAndV ?_ | with_reducible refine xOrV ?_ | with_reducible refine xNotV ?_
  | with_reducible refine xTest ?_ | with_reducible refine xB ?_ | with_reducible refine xAnd ?_ | with_reducible refine xOr ?_ | with_reducible refine xNot ?_ | with_reducible refine xYes ?_
  | with_reducible refine xNil ?_ | with_reducible refine xCons ?_ | with_reducible refine xTup ?_ | with_reducible refine xLst ?_ | with_reducible refine xCB ?_ | with_reducible refine xInt1I ?_ | with_reducible refine xInt1B ?_ | with_reducible refine xAbs ?_ | with_reducible refine xMin2 ?_ | with_reducible refine xMax2 ?_
  | with_reducible refine xFld ?_ | with_reducible refine xFldS ?_ | with_reducible refine xDG ?_ | with_reducible refine xDP ?_ | with_reducible refine xCall ?_ | with_reducible refine yMeth ?_ | with_reducible refine xBM ?_ | with_reducible refine xBM0 ?_
  | with_reducible refine xPar ?_ | with_reducible refine xPar3 ?_ | with_reducible refine yPar ?_ | with_reducible refine yPar3 ?_ | with_reducible refine xGNil ?_ | with_reducible refine xGCons ?_ | with_reducible refine xGSub ?_
  | with_reducible refine xBl ?_ | with_reducible refine xPairs ?_ | with_reducible refine xPairs0 ?_)
local macro_rules | `(tactic| walk_at "h") => `(tactic| first | assumption | exact upd_same | exact same_upd (by assumption) _ _ (by walk_at "h"))
local macro_rules | `(tactic| walk_at "g") => `(tactic| first | exact gCount _ | exact gLeft _ | exact gLength _ | exact gOn _ | exact gPeriod _ | exact gPhase _ | exact gRow _ | exact gVolume _)
local macro_rules | `(tactic| walk_at "p") => `(tactic| (first | rw [pCount] | rw [pLeft] | rw [pLength] | rw [pOn] | rw [pPeriod] | rw [pPhase] | rw [pRow] | rw [pVolume]))
local macro_rules | `(tactic| walk_at "s") => `(tactic| first
  | ((with_reducible refine yDGs (kvs := ?kvs) (v := ?v) ?h ?e ?q); (case h => exact .inl (by walk_at "h")); (case e => walk_at "g"))
  | ((with_reducible refine yDPs (kvs := ?kvs) ?h ?l ?q); (case h => walk_at "h"); (case l => exact ch_len _); walk_at "p"; (try rw [upd_upd])))
local macro_rules | `(tactic| walk_at "s") => `(tactic| first
  | ((with_reducible refine xI ?c ?q); (case c => first | (show (0 : Int) < _; decide) | exact ⟨by decide, by decide⟩ | exact .inl ⟨by decide, by decide⟩ | exact .inr ⟨by decide, by decide⟩)))
local macro_rules | `(tactic| walk_at "s") => `(tactic| first
  | ((with_reducible refine xI ?c ?q); (case c => first | (show (0 : Int) < _; decide) | exact ⟨by decide, by decide⟩ | exact .inl ⟨by decide, by decide⟩ | exact .inr ⟨by decide, by decide⟩ | exact ⟨by decide, by decide, by decide⟩)))
theorem new_two {H H' : Hp} {d : Addr} {ds : List Int} {x y : Int} (N : New H d (.lst (ds.map V.int)) H') :
    New H d (.lst ((ds ++ [x] ++ [y]).map V.int)) (upd (upd H' d (.lst (ds.map V.int ++ [.int x]))) d (.lst (ds.map V.int ++ [.int x] ++ [.int y]))) := by
  rw [List.map_append, List.map_append]
  exact N.put.put
theorem pure_draws {K : PySem.W.Frag} (vs : List V) (H : Hp) (Q : VK) (E : XK) (h : sp__law_draws K vs H Q E) :
    vs.length = 1 ∧ t__law_draws K { nx := fun _ H' => Q .non H', rt := Q } (start N__law_draws vs) H := by
  obtain ⟨a, ns, rfl, hS, hlen, q⟩ := h
  refine ⟨rfl, ?_⟩
  show t__law_draws K _ [some (.ref a), none, none, none, none, none] H
  unfold t__law_draws
  repeat walk_at "s"
  refine ⟨Nat.zero_le _, fun d nd => ?_⟩
  repeat walk_at "s"
  refine xForR1U ?_
  repeat walk_at "s"
  refine xLenL ((same_upd nd).seq hS) ?_
  rw [List.length_map]
  repeat walk_at "s"
  refine yForR1 (n := ns.length) (by split <;> omega) (by omega) (fun i σ H' => ∃ ds u v w z, σ = [some (.ref a), some (.ref d), u, v, w, z] ∧ New H d (.lst (ds.map V.int)) H' ∧ ds.length ≤ 60 * i ∧ ∀ x ∈ ds, 0 ≤ x ∧ x < 65536)
    ⟨[], none, none, none, none, rfl, .upd nd, Nat.zero_le _, by simp⟩ ?_ ?_
  · rintro i σ H' hi ⟨ds, u, v, w, z, rfl, N, hl, hb⟩
    repeat walk_at "s"
    refine yIxL (N.2.1.seq hS) (atI_nat (v := .int ns[i]) (by rw [List.getElem?_map, List.getElem?_eq_getElem hi]; rfl)) ?_
    repeat walk_at "s"
    generalize hr : (if ns[i] < 0 then -ns[i] else ns[i]) = r
    have hr0 : 0 ≤ r := by
      rw [← hr]
      split <;> omega
    refine iteD (fun hbig => ?_) (fun hbig => ?_)
    · refine xForR1U ?_
      repeat walk_at "s"
      refine yForR1 (n := 60) rfl (by decide) (fun j σ H' => ∃ ds u v w z, σ = [some (.ref a), some (.ref d), u, some (.int v), w, z] ∧ New H d (.lst (ds.map V.int)) H' ∧ ds.length ≤ 60 * i + j ∧ ∀ x ∈ ds, 0 ≤ x ∧ x < 65536)
        ⟨ds, _, r, _, _, rfl, N, by omega, hb⟩ ?_ ?_
      · rintro j σ H' hj ⟨ds, u, v, w, z, rfl, N, hl, hb⟩
        repeat walk_at "s"
        refine iteD (fun hv => ?_) (fun hv => ?_)
        · repeat walk_at "s"
          refine ⟨tyL N.2.2, ?_⟩
          repeat walk_at "s"
          refine yAppend N.2.2 (by rw [List.length_map]; exact Nat.lt_of_le_of_lt (show ds.length ≤ 100000 by omega) (by decide)) ?_
          repeat walk_at "s"
          refine ⟨ds ++ [v % 65536], _, _, _, _, rfl, ?_, by simp; omega, fun x hx => ?_⟩
          · rw [List.map_append]
            exact N.put
          · rcases List.mem_append.mp hx with hx | hx
            · exact hb x hx
            · have e := List.mem_singleton.mp hx
              omega
        · repeat walk_at "s"
          exact ⟨ds, _, _, _, _, rfl, N, by omega, hb⟩
      · rintro σ H' ⟨ds, u, v, w, z, rfl, N, hl, hb⟩
        exact ⟨ds, _, _, _, _, rfl, N, by omega, hb⟩
    · repeat walk_at "s"
      refine ⟨tyL N.2.2, ?_⟩
      repeat walk_at "s"
      refine yAppend N.2.2 (by rw [List.length_map]; exact Nat.lt_of_le_of_lt (show ds.length ≤ 100000 by omega) (by decide)) ?_
      repeat walk_at "s"
      refine ⟨tyL upd_same, ?_⟩
      repeat walk_at "s"
      refine yAppend upd_same (by rw [List.length_append, List.length_map]; exact Nat.lt_of_le_of_lt (show ds.length + 1 ≤ 100000 by omega) (by decide)) ?_
      refine ⟨_, _, _, _, _, rfl, new_two N, ?_, ?_⟩
      · simp
        omega
      · intro x hx
        rcases List.mem_append.mp hx with hx | hx
        · rcases List.mem_append.mp hx with hx | hx
          · exact hb x hx
          · have e := List.mem_singleton.mp hx
            omega
        · have e := List.mem_singleton.mp hx
          omega
  · rintro σ H' ⟨ds, u, v, w, z, rfl, N, hl, hb⟩
    repeat walk_at "s"
    exact q d ds H' ⟨by omega, hb⟩ N
theorem pure_mix {K : PySem.W.Frag} (vs : List V) (H : Hp) (Q : VK) (E : XK) (h : sp__law_mix K vs H Q E) :
    vs.length = 3 ∧ t__law_mix K { nx := fun _ H' => Q .non H', rt := Q } (start N__law_mix vs) H := by
  obtain ⟨a, ds, k, many, rfl, hS, hD, hk, hm, q⟩ := h
  refine ⟨rfl, ?_⟩
  show t__law_mix K _ [some (.ref a), some (.int k), some (.int many), none] H
  unfold t__law_mix
  have fin : ∀ x : Int, Q (.int (x % many)) H := fun x => q _ (Int.emod_nonneg _ (by omega)) (Int.emod_lt_of_pos _ hm)
  repeat walk_at "s"
  refine xLenL hS ?_
  repeat walk_at "s"
  refine iteD (fun hl => ?_) (fun hl => ?_)
  · rw [List.length_map] at hl
    repeat walk_at "s"
    refine xLenL hS ?_
    rw [List.length_map]
    refine xI hl ?_
    have h0 := Int.emod_nonneg k (show (ds.length : Int) ≠ 0 by omega)
    have h1 := Int.emod_lt_of_pos k hl
    obtain ⟨j, ej⟩ : ∃ j : Nat, k % (ds.length : Int) = (j : Int) := ⟨(k % (ds.length : Int)).toNat, by omega⟩
    have hj : j < ds.length := by omega
    refine yIxL hS (at_of ej (v := .int ds[j]) (by rw [List.getElem?_map, List.getElem?_eq_getElem hj]; rfl)) ?_
    repeat walk_at "s"
    refine xLenL hS ?_
    repeat walk_at "s"
    refine iteD (fun _ => ?_) (fun _ => ?_)
    · repeat walk_at "s"
      refine xI hm ?_
      exact fin _
    · repeat walk_at "s"
      refine xI hm ?_
      exact fin _
  · repeat walk_at "s"
    refine xLenL hS ?_
    repeat walk_at "s"
    refine iteD (fun _ => ?_) (fun _ => ?_)
    · repeat walk_at "s"
      refine xI hm ?_
      exact fin _
    · repeat walk_at "s"
      refine xI hm ?_
      exact fin _
end K61
namespace K61
open PySem PySem.Spec PyProof.Rows L2 Kx
local macro_rules | `(tactic| walk_at "s") => `(tactic| first
  | with_reducible refine xSeq ?_ | with_reducible refine xAsg ?_ | with_reducible refine xNm ?_ | with_reducible refine xDrop ?_ | with_reducible refine xRet ?_ | with_reducible refine xRetN ?_ | with_reducible refine xNext ?_ | with_reducible refine xIfS ?_
  | ((with_reducible refine xVar (v := ?v) ?h ?q); (case h => exact rfl)) | with_reducible refine xC ?_ | with_reducible refine xOp ?_ | with_reducible refine xUn ?_ | with_reducible refine xI0 ?_ | with_reducible refine xU ?_
  | with_reducible refine xEqI ?_ | with_reducible refine xNeI ?_ | with_reducible refine xEqB ?_ | with_reducible refine xNeB ?_ | with_reducible refine xEqS ?_ | with_reducible refine xNeS ?_ | with_reducible refine xIsN ?_ | with_reducible refine xNotN ?_
  | with_reducible refine xChain ?_ | with_reducible refine xIf ?_ | with_reducible refine xAndV ?_ | with_reducible refine xOrV ?_ | with_reducible refine xNotV ?_
  | with_reducible refine xTest ?_ | with_reducible refine xB ?_ | with_reducible refine xAnd ?_ | with_reducible refine xOr ?_ | with_reducible refine xNot ?_ | with_reducible refine xYes ?_
  | with_reducible refine xNil ?_ | with_reducible refine xCons ?_ | with_reducible refine xTup ?_ | with_reducible refine xLst ?_ | with_reducible refine xCB ?_ | with_reducible refine xInt1I ?_ | with_reducible refine xInt1B ?_ | with_reducible refine xAbs ?_ | with_reducible refine xMin2 ?_ | with_reducible refine xMax2 ?_
  | with_reducible refine xFld ?_ | with_reducible refine xFldS ?_ | with_reducible refine xDG ?_ | with_reducible refine xDP ?_ | with_reducible refine xCall ?_ | with_reducible refine yMeth ?_ | with_reducible refine xBM ?_ | with_reducible refine xBM0 ?_
  | with_reducible refine xPar ?_ | with_reducible refine xPar3 ?_ | with_reducible refine yPar ?_ | with_reducible refine yPar3 ?_ | with_reducible refine xGNil ?_ | with_reducible refine xGCons ?_ | with_reducible refine xGSub ?_
  | with_reducible refine xBl ?_ | with_reducible refine xPairs ?_ | with_reducible refine xPairs0 ?_)
local macro_rules | `(tactic| walk_at "h") => `(tactic| first | assumption | exact upd_same | exact same_upd (by assumption) _ _ (by walk_at "h"))
local macro_rules | `(tactic| walk_at "g") => `(tactic| first | exact gCount _ | exact gLeft _ | exact gLength _ | exact gOn _ | exact gPeriod _ | exact gPhase _ | exact gRow _ | exact gVolume _)
local macro_rules | `(tactic| walk_at "p") => `(tactic| (first | rw [pCount] | rw [pLeft] | rw [pLength] | rw [pOn] | rw [pPeriod] | rw [pPhase] | rw [pRow] | rw [pVolume]))
local macro_rules | `(tactic| walk_at "s") => `(tactic| first
  | ((with_reducible refine yDGs (kvs := ?kvs) (v := ?v) ?h ?e ?q); (case h => exact .inl (by walk_at "h")); (case e => walk_at "g"))
  | ((with_reducible refine yDPs (kvs := ?kvs) ?h ?l ?q); (case h => walk_at "h"); (case l => exact ch_len _); walk_at "p"; (try rw [upd_upd])))
local macro_rules | `(tactic| walk_at "s") => `(tactic| first
  | ((with_reducible refine xI ?c ?q); (case c => first | (show (0 : Int) < _; decide) | exact ⟨by decide, by decide⟩ | exact .inl ⟨by decide, by decide⟩ | exact .inr ⟨by decide, by decide⟩)))
local macro_rules | `(tactic| walk_at "g") => `(tactic| first | exact lBegin _ | exact lPeriod _ | exact lVolume _ | exact lLength _ | exact lChange _ | exact lOther _)
theorem nz_next (i : Nat) : nz (15 + i) = (nz i + nz (i + 1)) % 2 := by
  have h : nz ((14 + i) + 1) = (nz i + nz (i + 1)) % 2 := by
    rw [nz, dif_neg (by omega)]
    congr 2
    · exact congrArg nz (by omega)
    · exact congrArg nz (by omega)
  rw [← h]
  exact congrArg nz (by omega)
theorem nzL_at {i n : Nat} (h : i < 15 + n) : ((nzL n).map V.int)[i]? = some (.int (nz i)) := by
  unfold nzL
  rw [List.getElem?_map, List.getElem?_map, List.getElem?_range h]
  rfl
theorem nzL_snoc (n : Nat) : nzL (n + 1) = nzL n ++ [nz (15 + n)] := by
  unfold nzL
  rw [show 15 + (n + 1) = (15 + n) + 1 from rfl, List.range_succ, List.map_append]
  rfl
theorem nzL_len (n : Nat) : (nzL n).length = 15 + n := by
  unfold nzL
  simp
theorem pure_noise {K : PySem.W.Frag} (vs : List V) (H : Hp) (Q : VK) (E : XK) (h : sp__law_noise K vs H Q E) :
    vs.length = 1 ∧ t__law_noise K { nx := fun _ H' => Q .non H', rt := Q } (start N__law_noise vs) H := by
  obtain ⟨n, rfl, hn, q⟩ := h
  refine ⟨rfl, ?_⟩
  show t__law_noise K _ [some (.int (n : Int)), none, none] H
  unfold t__law_noise
  repeat walk_at "s"
  refine ⟨Nat.le_of_ble_eq_true rfl, fun a na => ?_⟩
  repeat walk_at "s"
  refine ⟨Nat.le_of_ble_eq_true rfl, fun b nb => ?_⟩
  repeat walk_at "s"
  refine yRep upd_same (by decide) (by decide) (Nat.le_of_ble_eq_true rfl) fun c nc => ?_
  repeat walk_at "s"
  have nab : b ≠ a := fun e => by
    rw [e, upd_same] at nb
    cases nb
  have sA : Same H (upd H a (.lst [.int 1])) := same_upd na
  have sB := sA.trans (same_upd (o := .lst [.int 0]) nb)
  have sC := sB.trans (same_upd (o := .lst (List.replicate (Int.toNat 14) [V.int 0]).flatten) nc)
  refine yCat (same_upd nc _ _ (same_upd nb _ _ upd_same)) upd_same (Nat.le_of_ble_eq_true rfl) fun d nd => ?_
  have ND : New H d (.lst ((nzL 0).map V.int)) (upd (upd (upd (upd H a (.lst [.int 1])) b (.lst [.int 0])) c (.lst (List.replicate (Int.toNat 14) [V.int 0]).flatten)) d (.lst ([.int 1] ++ (List.replicate (Int.toNat 14) [V.int 0]).flatten))) := by
    refine ⟨sC.free nd, sC.trans (same_upd nd), ?_⟩
    rw [upd_same]
    exact congrArg (fun z => some (HO.lst z)) (by decide +kernel)
  generalize upd (upd (upd (upd H a (.lst [.int 1])) b (.lst [.int 0])) c (.lst (List.replicate (Int.toNat 14) [V.int 0]).flatten)) d (.lst ([.int 1] ++ (List.replicate (Int.toNat 14) [V.int 0]).flatten)) = H1 at ND
  repeat walk_at "s"
  refine xForR1U ?_
  repeat walk_at "s"
  refine yForR1 (n := n) rfl (by omega) (fun i σ H' => ∃ u, σ = [some (.int (n : Int)), some (.ref d), u] ∧ New H d (.lst ((nzL i).map V.int)) H') ⟨none, rfl, ND⟩ ?_ ?_
  · rintro i σ H' hi ⟨u, rfl, N⟩
    repeat walk_at "s"
    refine ⟨tyL N.2.2, ?_⟩
    repeat walk_at "s"
    refine yIxL (SqL.of N.2.2) (atI_nat (nzL_at (by omega))) ?_
    repeat walk_at "s"
    refine yIxL (SqL.of N.2.2) (atI_nat (j := i + 1) (nzL_at (n := i) (by omega))) ?_
    repeat walk_at "s"
    refine yAppend N.2.2 (by rw [List.length_map, nzL_len]; exact Nat.lt_of_le_of_lt (show 15 + i ≤ 1000015 by omega) (by decide)) ?_
    refine ⟨_, rfl, ?_⟩
    rw [nzL_snoc, nz_next, List.map_append]
    exact N.put
  · rintro σ H' ⟨u, rfl, N⟩
    repeat walk_at "s"
    exact q d H' N
theorem atI3 {x y z : V} {m : Int} (h0 : 0 ≤ m) (h1 : m < 3) : ∃ v, atI [x, y, z] m = some v ∧ (v = x ∨ v = y ∨ v = z) := by
  obtain ⟨n, rfl⟩ : ∃ n : Nat, m = (n : Int) := ⟨m.toNat, by omega⟩
  match n, h1 with
  | 0, _ => exact ⟨x, rfl, .inl rfl⟩
  | 1, _ => exact ⟨y, rfl, .inr (.inl rfl)⟩
  | 2, _ => exact ⟨z, rfl, .inr (.inr rfl)⟩
  | n + 3, h => omega
theorem pure_channel {K : PySem.W.Frag} (vs : List V) (H : Hp) (Q : VK) (E : XK) (h : sp__law_channel K vs H Q E) :
    vs.length = 2 ∧ t__law_channel K { nx := fun _ H' => Q .non H', rt := Q } (start N__law_channel vs) H := by
  obtain ⟨a, ds, k, rfl, hS, hD, hk, q⟩ := h
  refine ⟨rfl, ?_⟩
  show t__law_channel K _ [some (.ref a), some (.int k), none, none, none] H
  unfold t__law_channel
  repeat walk_at "s"
  refine ⟨Nat.le_of_ble_eq_true rfl, fun e1 n1 => ?_⟩
  have hS1 := (same_upd (o := .lst [.int 4, .int 60, .int 256]) n1).seq hS
  repeat walk_at "s"
  refine ⟨a, ds, _, _, rfl, hS1, hD, ⟨by omega, by omega⟩, by decide, fun m1 a1 b1 => ?_⟩
  obtain ⟨v1, x1, y1⟩ := atI3 (x := .int 4) (y := .int 60) (z := .int 256) a1 b1
  refine yIxL (SqL.of upd_same) x1 ?_
  obtain ⟨w1, rfl, lo1, hi1⟩ : ∃ w : Int, v1 = .int w ∧ 4 ≤ w ∧ w ≤ 256 := by
    rcases y1 with h | h | h
    · exact ⟨4, h, by decide, by decide⟩
    · exact ⟨60, h, by decide, by decide⟩
    · exact ⟨256, h, by decide, by decide⟩
  refine ⟨a, ds, _, _, rfl, hS1, hD, ⟨by omega, by omega⟩, by omega, fun m2 a2 b2 => ?_⟩
  repeat walk_at "s"
  refine ⟨a, ds, _, _, rfl, hS1, hD, ⟨by omega, by omega⟩, by decide, fun m3 a3 b3 => ?_⟩
  repeat walk_at "s"
  refine ⟨Nat.le_of_ble_eq_true rfl, fun e2 n2 => ?_⟩
  have hS2 := (same_upd (o := .lst [.int 0, .int m3, .int 1]) n2).seq hS1
  repeat walk_at "s"
  refine ⟨a, ds, _, _, rfl, hS2, hD, ⟨by omega, by omega⟩, by decide, fun m4 a4 b4 => ?_⟩
  obtain ⟨v2, x2, y2⟩ := atI3 (x := .int 0) (y := .int m3) (z := .int 1) a4 b4
  refine yIxL (SqL.of upd_same) x2 ?_
  obtain ⟨w2, rfl, lo2, hi2⟩ : ∃ w : Int, v2 = .int w ∧ 0 ≤ w ∧ w ≤ 40 := by
    rcases y2 with h | h | h
    · exact ⟨0, h, by decide, by decide⟩
    · exact ⟨m3, h, by omega, by omega⟩
    · exact ⟨1, h, by decide, by decide⟩
  repeat walk_at "s"
  refine ⟨a, ds, _, _, rfl, hS2, hD, ⟨by omega, by omega⟩, by decide, fun m5 a5 b5 => ?_⟩
  repeat walk_at "s"
  refine xDisp fun p hp => ?_
  have hS3 := (same_upd (o := .dK []) hp).seq hS2
  repeat walk_at "s"
  refine ⟨a, ds, _, _, rfl, hS3, hD, ⟨by omega, by omega⟩, by decide, fun m6 a6 b6 => ?_⟩
  repeat walk_at "s"
  refine ⟨a, ds, _, _, rfl, hS3, hD, ⟨by omega, by omega⟩, by decide, fun m7 a7 b7 => ?_⟩
  repeat walk_at "s"
  refine ⟨a, ds, _, _, rfl, hS3, hD, ⟨by omega, by omega⟩, by decide, fun m8 a8 b8 => ?_⟩
  repeat walk_at "s"
  refine ⟨upd_same, lcK ⟨m5, 1 + m2, m6, w2, m5 + m7, m8⟩, rfl, Nat.le_of_ble_eq_true rfl, ?_⟩
  rw [upd_upd]
  have s2 := (same_upd (o := .lst [.int 4, .int 60, .int 256]) n1).trans (same_upd (o := .lst [.int 0, .int m3, .int 1]) n2)
  exact q p _ _ (by constructor <;> dsimp only <;> omega) ⟨s2.free hp, s2.trans (same_upd hp), upd_same⟩
theorem pure_volume {K : PySem.W.Frag} (vs : List V) (H : Hp) (Q : VK) (E : XK) (h : sp__law_volume K vs H Q E) :
    vs.length = 2 ∧ t__law_volume K { nx := fun _ H' => Q .non H', rt := Q } (start N__law_volume vs) H := by
  obtain ⟨d, c, now, rfl, hd, q⟩ := h
  refine ⟨rfl, ?_⟩
  show t__law_volume K _ [some (.ref d), some (.int now)] H
  unfold t__law_volume
  repeat walk_at "s"
  refine ⟨Nat.le_of_ble_eq_true rfl, fun e1 n1 => ?_⟩
  repeat walk_at "s"
  refine yIxL (v := .int (volM c now)) (SqL.of upd_same) ?_ (q _ (same_upd n1))
  unfold volM
  by_cases h : c.change ≤ now
  · simp only [h, decide_true, if_true]
    rfl
  · simp only [h, decide_false, if_false]
    rfl
theorem pure_phase {K : PySem.W.Frag} (vs : List V) (H : Hp) (Q : VK) (E : XK) (h : sp__law_phase K vs H Q E) :
    vs.length = 3 ∧ t__law_phase K { nx := fun _ H' => Q .non H', rt := Q } (start N__law_phase vs) H := by
  obtain ⟨a, n, k, turns, rfl, hS, ht, q⟩ := h
  refine ⟨rfl, ?_⟩
  show t__law_phase K _ [some (.int k), some (.int turns), some (.ref a)] H
  unfold t__law_phase
  obtain ⟨t, rfl⟩ : ∃ n : Nat, turns = (n : Int) := ⟨turns.toNat, by omega⟩
  unfold phM at q
  rw [show ((t : Int)).toNat = t from by omega] at q
  repeat walk_at "s"
  refine iteD (fun hk => ?_) (fun hk => ?_)
  · rw [if_pos hk] at q
    repeat walk_at "s"
    refine yIxL hS (atI_nat (nzL_at (by omega))) ?_
    repeat walk_at "s"
    have e : nz t * (if 0 < (t : Int) then 1 else 0) = nz t * (if decide (0 < (t : Int)) = true then 1 else 0) := by simp
    rw [e] at q
    refine xI (.inr ?_) q
    split
    · exact ⟨by decide, by decide⟩
    · exact ⟨by decide, by decide⟩
  · rw [if_neg hk] at q
    repeat walk_at "s"
    exact q
end K61
namespace K61
open PySem PySem.Spec PyProof.Rows L2 Kx
local macro_rules | `(tactic| walk_at "s") => `(tactic| first
  | with_reducible refine xSeq ?_ | with_reducible refine xAsg ?_ | with_reducible refine xNm ?_ | with_reducible refine xDrop ?_ | with_reducible refine xRet ?_ | with_reducible refine xRetN ?_ | with_reducible refine xNext ?_ | with_reducible refine xIfS ?_
  | ((with_reducible refine xVar (v := ?v) ?h ?q); (case h => exact rfl)) | with_reducible refine xC ?_ | with_reducible refine xOp ?_ | with_reducible refine xUn ?_ | with_reducible refine xI0 ?_ | with_reducible refine xU ?_
  | with_reducible refine xEqI ?_ | with_reducible refine xNeI ?_ | with_reducible refine xEqB ?_ | with_reducible refine xNeB ?_ | with_reducible refine xEqS ?_ | with_reducible refine xNeS ?_ | with_reducible refine xIsN ?_ | with_reducible refine xNotN ?_
  | with_reducible refine xChain ?_ | with_reducible refine xIf ?_ | with_reducible refine xAndV ?_ | with_reducible refine xOrV ?_ | with_reducible refine xNotV ?_
  | with_reducible refine xTest ?_ | with_reducible refine xB ?_ | with_reducible refine xAnd ?_ | with_reducible refine xOr ?_ | with_reducible refine xNot ?_ | with_reducible refine xYes ?_
  | with_reducible refine xNil ?_ | with_reducible refine xCons ?_ | with_reducible refine xTup ?_ | with_reducible refine xLst ?_ | with_reducible refine xCB ?_ | with_reducible refine xInt1I ?_ | with_reducible refine xInt1B ?_ | with_reducible refine xAbs ?_ | with_reducible refine xMin2 ?_ | with_reducible refine xMax2 ?_
  | with_reducible refine xFld ?_ | with_reducible refine xFldS ?_ | with_reducible refine xDG ?_ | with_reducible refine xDP ?_ | with_reducible refine xCall ?_ | with_reducible refine yMeth ?_ | with_reducible refine xBM ?_ | with_reducible refine xBM0 ?_
  | with_reducible refine xPar ?_ | with_reducible refine xPar3 ?_ | with_reducible refine yPar ?_ | with_reducible refine yPar3 ?_ | with_reducible refine xGNil ?_ | with_reducible refine xGCons ?_ | with_reducible refine xGSub ?_
  | with_reducible refine xBl ?_ | with_reducible refine xPairs ?_ | with_reducible refine xPairs0 ?_)
local macro_rules | `(tactic| walk_at "h") => `(tactic| first | assumption | exact upd_same | exact same_upd (by assumption) _ _ (by walk_at "h"))
local macro_rules | `(tactic| walk_at "g") => `(tactic| first | exact gCount _ | exact gLeft _ | exact gLength _ | exact gOn _ | exact gPeriod _ | exact gPhase _ | exact gRow _ | exact gVolume _)
local macro_rules | `(tactic| walk_at "p") => `(tactic| (first | rw [pCount] | rw [pLeft] | rw [pLength] | rw [pOn] | rw [pPeriod] | rw [pPhase] | rw [pRow] | rw [pVolume]))
local macro_rules | `(tactic| walk_at "s") => `(tactic| first
  | ((with_reducible refine yDGs (kvs := ?kvs) (v := ?v) ?h ?e ?q); (case h => exact .inl (by walk_at "h")); (case e => walk_at "g"))
  | ((with_reducible refine yDPs (kvs := ?kvs) ?h ?l ?q); (case h => walk_at "h"); (case l => exact ch_len _); walk_at "p"; (try rw [upd_upd])))
local macro_rules | `(tactic| walk_at "s") => `(tactic| first
  | ((with_reducible refine xI ?c ?q); (case c => first | (show (0 : Int) < _; decide) | exact ⟨by decide, by decide⟩ | exact .inl ⟨by decide, by decide⟩ | exact .inr ⟨by decide, by decide⟩)))
local macro_rules | `(tactic| walk_at "g") => `(tactic| first | exact lBegin _ | exact lPeriod _ | exact lVolume _ | exact lLength _ | exact lChange _ | exact lOther _)
theorem paired_app {α β : Type} {F : α → β → Prop} : ∀ {xs us : List α} {ys vs : List β}, Paired F xs ys → Paired F us vs → Paired F (xs ++ us) (ys ++ vs)
  | [], _, [], _, .nil, h => h
  | _ :: _, _, _ :: _, _, .cons r t, h => .cons r (paired_app t h)
theorem PairL.same {H H' : Hp} {q : Addr} {ps : List (Int × Int)} (h : PairL H q ps) (s : Same H H') : PairL H' q ps := by
  obtain ⟨ts, h1, h2⟩ := h
  exact ⟨ts, s _ _ h1, Paired.mapP h2 fun a b hab => s _ _ hab⟩
theorem paired_at {α β : Type} {F : α → β → Prop} : ∀ {xs : List α} {ys : List β} {i : Nat} {y : β}, Paired F xs ys → ys[i]? = some y → ∃ x, xs[i]? = some x ∧ F x y
  | [], [], _, _, .nil, h => by cases h
  | x :: _, y :: _, 0, z, .cons r t, h => ⟨x, rfl, by cases h; exact r⟩
  | x :: xs, y :: ys, i + 1, z, .cons r t, h => paired_at (i := i) t h
theorem Lcs.same {K : PySem.W.Frag} {H H' : Hp} {a : Addr} {lcs : List LCh} (h : Lcs K H a lcs) (s : Same H H') : Lcs K H' a lcs := by
  obtain ⟨es, h1, h2, h3, h4⟩ := h
  exact ⟨es, s.seq h1, Paired.mapP h2 fun a b hab => s _ _ hab, h3, h4⟩
theorem Lcs.at_ {K : PySem.W.Frag} {H : Hp} {a : Addr} {lcs : List LCh} (h : Lcs K H a lcs) {i : Nat} (hi : i < 3) : ∃ es e c, SqL K H a es ∧ es[i]? = some (.ref e) ∧ lcs[i]? = some c ∧ H e = some (.dK (lcK c)) ∧ LcOk c := by
  obtain ⟨es, h1, h2, h3, h4⟩ := h
  have hc : lcs[i]? = some lcs[i] := List.getElem?_eq_getElem (by omega)
  obtain ⟨e, he, hd⟩ := paired_at h2 hc
  exact ⟨es.map V.ref, e, _, h1, by rw [List.getElem?_map, he]; rfl, hc, hd, h4 _ (List.mem_of_getElem? hc)⟩
theorem paired_two {F : Addr → Int × Int → Prop} {a : Addr} {p : Int × Int} (h : F a p) : Paired F [a] [p] := .cons h .nil
theorem paired_four {F : Addr → Int × Int → Prop} {a b c d : Addr} {p q r s : Int × Int} (h1 : F a p) (h2 : F b q) (h3 : F c r) (h4 : F d s) : Paired F [a, b, c, d] [p, q, r, s] := .cons h1 (.cons h2 (.cons h3 (.cons h4 .nil)))
/-- found + [more] -/
theorem pairL_cat {H H1 : Hp} {f g : Addr} {ps qs : List (Int × Int)} {us : List Addr} {Q : VK} (h : PairL H f ps) (s : Same H H1) (hg : H1 g = some (.lst (us.map V.ref))) (hu : Paired (fun t p => H1 t = some (.tup [.int p.1, .int p.2])) us qs) (hl : ps.length + qs.length ≤ 1000)
    (q : ∀ p H2, Same H1 H2 → PairL H2 p (ps ++ qs) → Q (.ref p) H2) : rCat (.ref f) (.ref g) H1 Q := by
  obtain ⟨ts, h1, h2⟩ := h
  refine yCat (s _ _ h1) hg ?_ fun p hp => q p _ (same_upd hp) ⟨ts ++ us, ?_, ?_⟩
  · rw [List.length_map, List.length_map, paired_len h2, paired_len hu]
    exact Nat.le_trans hl (by decide)
  · rw [List.map_append]
    exact upd_same
  · refine paired_app (Paired.mapP h2 fun a b hab => ?_) (Paired.mapP hu fun a b hab => ?_)
    · exact same_upd hp _ _ (s _ _ hab)
    · exact same_upd hp _ _ hab
theorem lets_len (lcs : List LCh) (now : Int) (i : Nat) : ((lcs.mapIdx fun i c => letsOf (i : Int) c now).take i).flatten.length ≤ 5 * i := by
  have h : ∀ xs : List (List (Int × Int)), (∀ x ∈ xs, x.length ≤ 5) → xs.flatten.length ≤ 5 * xs.length := by
    intro xs
    induction xs with
    | nil => intro _; simp
    | cons x xs ih =>
      intro h
      have h1 := h x (by simp)
      have h2 := ih fun y hy => h y (by simp [hy])
      simp only [List.flatten_cons, List.length_append, List.length_cons]
      omega
  refine Nat.le_trans (h _ fun x hx => ?_) ?_
  · obtain ⟨j, hj⟩ := List.mem_iff_getElem?.mp (List.mem_of_mem_take hx)
    rw [List.getElem?_mapIdx] at hj
    cases e : lcs[j]? with
    | none =>
      rw [e] at hj
      cases hj
    | some c =>
      rw [e] at hj
      cases hj
      show (letsOf (j : Int) c now).length ≤ 5
      unfold letsOf
      rw [List.length_append]
      split <;> split <;> simp
  · rw [List.length_take]
    omega
theorem pure_lets {K : PySem.W.Frag} (vs : List V) (H : Hp) (Q : VK) (E : XK) (h : sp__law_lets K vs H Q E) :
    vs.length = 2 ∧ t__law_lets K { nx := fun _ H' => Q .non H', rt := Q } (start N__law_lets vs) H := by
  obtain ⟨a, lcs, now, rfl, L, q⟩ := h
  refine ⟨rfl, ?_⟩
  show t__law_lets K _ [some (.ref a), some (.int now), none, none, none] H
  unfold t__law_lets
  repeat walk_at "s"
  refine ⟨Nat.le_of_ble_eq_true rfl, fun f0 nf0 => ?_⟩
  repeat walk_at "s"
  refine xForR1U ?_
  repeat walk_at "s"
  refine yForR1 (n := 3) rfl (by decide) (fun i σ H' => ∃ f u v, σ = [some (.ref a), some (.int now), some (.ref f), u, v] ∧ Same H H' ∧ PairL H' f (((lcs.mapIdx fun i c => letsOf (i : Int) c now).take i).flatten))
    ⟨f0, none, none, rfl, same_upd nf0, [], upd_same, .nil⟩ ?_ ?_
  · rintro i σ H1 hi ⟨f, u, v, rfl, s1, P⟩
    obtain ⟨es, e, c, hE, he, hc, hd, ok⟩ := (L.same s1).at_ hi
    have hlen := lets_len lcs now i
    have hnx : ((lcs.mapIdx fun i c => letsOf (i : Int) c now).take (i + 1)).flatten = ((lcs.mapIdx fun i c => letsOf (i : Int) c now).take i).flatten ++ letsOf (i : Int) c now := by
      rw [take_snoc (x := letsOf (i : Int) c now) (by rw [List.getElem?_mapIdx, hc]; rfl), List.flatten_append]
      simp
    generalize ((lcs.mapIdx fun i c => letsOf (i : Int) c now).take i).flatten = ps at P hlen hnx
    repeat walk_at "s"
    refine yIxL hE (atI_nat he) ?_
    repeat walk_at "s"
    have k1 : ∀ (D : Ends), (∀ σ' H', (∃ f u v, σ' = [some (.ref a), some (.int now), some (.ref f), u, v] ∧ Same H H' ∧ PairL H' f (((lcs.mapIdx fun i c => letsOf (i : Int) c now).take (i + 1)).flatten)) → D.nx σ' H') → ∀ f H2, Same H1 H2 → PairL H2 f (ps ++ if c.begin_ = now then [(4 * (i : Int) + 2, c.length), (4 * (i : Int), c.period % 256), (4 * (i : Int) + 1, c.volume + 16 * i), (4 * (i : Int) + 3, 7 * i)] else []) →
        tIfS (tTest (tOp (rEq) (tDGet (tVar 4) (tC (.str "change"))) (tVar 1))) (tAsg (tOp (rCat) (tVar 2) (tLst (tCons (tTup (tCons (tOp (rI0 fun i j => .int (i + j)) (tOp (rI CMul fun i j => .int (i * j)) (tC (.int 4)) (tVar 3)) (tC (.int 1))) (tCons (tDGet (tVar 4) (tC (.str "other"))) tNil))) tNil))) (gName 2)) tNext D [some (.ref a), some (.int now), some (.ref f), some (.int (i : Int)), some (.ref e)] H2 := by
      intro D hD f H2 s2 P2
      have hd2 := s2 _ _ hd
      repeat walk_at "s"
      have hl2 : (ps ++ if c.begin_ = now then [(4 * (i : Int) + 2, c.length), (4 * (i : Int), c.period % 256), (4 * (i : Int) + 1, c.volume + 16 * i), (4 * (i : Int) + 3, 7 * i)] else []).length ≤ 100 := by
        rw [List.length_append]
        split
        · simp
          omega
        · simp
          omega
      refine iteD (fun h => ?_) (fun h => ?_)
      · repeat walk_at "s"
        refine ⟨Nat.le_of_ble_eq_true rfl, fun t nt => ?_⟩
        repeat walk_at "s"
        refine ⟨Nat.le_of_ble_eq_true rfl, fun g ng => ?_⟩
        refine pairL_cat (us := [t]) (qs := [(4 * (i : Int) + 1, c.other)]) P2 ((same_upd nt).trans (same_upd ng)) upd_same (paired_two (by walk_at "h")) (by simp at hl2 ⊢; omega) fun p H3 s3 P3 => ?_
        repeat walk_at "s"
        refine hD _ _ ⟨p, _, _, rfl, s1.trans (s2.trans (((same_upd nt).trans (same_upd ng)).trans s3)), ?_⟩
        rw [hnx]
        unfold letsOf
        rw [if_pos h, ← List.append_assoc]
        exact P3
      · repeat walk_at "s"
        refine hD _ _ ⟨f, _, _, rfl, s1.trans s2, ?_⟩
        rw [hnx]
        unfold letsOf
        rw [if_neg h, List.append_nil]
        exact P2
    refine iteD (fun h => ?_) (fun h => ?_)
    · repeat walk_at "s"
      refine ⟨Nat.le_of_ble_eq_true rfl, fun t1 n1 => ?_⟩
      repeat walk_at "s"
      refine ⟨Nat.le_of_ble_eq_true rfl, fun t2 n2 => ?_⟩
      repeat walk_at "s"
      refine ⟨Nat.le_of_ble_eq_true rfl, fun t3 n3 => ?_⟩
      repeat walk_at "s"
      refine ⟨Nat.le_of_ble_eq_true rfl, fun t4 n4 => ?_⟩
      repeat walk_at "s"
      refine ⟨Nat.le_of_ble_eq_true rfl, fun g ng => ?_⟩
      have sA := (((same_upd n1).trans (same_upd n2)).trans (same_upd n3)).trans ((same_upd n4).trans (same_upd (o := .lst ([t1, t2, t3, t4].map V.ref)) ng))
      refine pairL_cat (us := [t1, t2, t3, t4]) (qs := [(4 * (i : Int) + 2, c.length), (4 * (i : Int), c.period % 256), (4 * (i : Int) + 1, c.volume + 16 * i), (4 * (i : Int) + 3, 7 * i)]) P sA upd_same
        (paired_four (by walk_at "h") (by walk_at "h") (by walk_at "h") (by walk_at "h")) (by simp; omega) fun p H3 s3 P3 => ?_
      refine xNm ?_
      refine k1 _ ?_ p H3 (sA.trans s3) ?_
      · exact fun σ' H' h => h
      rw [if_pos h]
      exact P3
    · refine xNext ?_
      refine k1 _ ?_ f H1 (fun _ _ h => h) ?_
      · exact fun σ' H' h => h
      rw [if_neg h, List.append_nil]
      exact P
  · rintro σ H' ⟨f, u, v, rfl, s1, P⟩
    repeat walk_at "s"
    refine q f H' s1 ?_
    rw [List.take_of_length_le (by rw [List.length_mapIdx]; exact Nat.le_of_eq (let ⟨_, _, _, h, _⟩ := L; h))] at P
    exact P
end K61
namespace K61
open PySem PySem.Spec PyProof.Rows L2 Kx
local macro_rules | `(tactic| walk_at "s") => `(tactic| first
  | with_reducible refine xSeq ?_ | with_reducible refine xAsg ?_ | with_reducible refine xNm ?_ | with_reducible refine xDrop ?_ | with_reducible refine xRet ?_ | with_reducible refine xRetN ?_ | with_reducible refine xNext ?_ | with_reducible refine xIfS ?_
  | ((with_reducible refine xVar (v := ?v) ?h ?q); (case h => exact rfl)) | with_reducible refine xC ?_ | with_reducible refine xOp ?_ | with_reducible refine xUn ?_ | with_reducible refine xI0 ?_ | with_reducible refine xU ?_
  | with_reducible refine xEqI ?_ | with_reducible refine xNeI ?_ | with_reducible refine xEqB ?_ | with_reducible refine xNeB ?_ | with_reducible refine xEqS ?_ | with_reducible refine xNeS ?_ | with_reducible refine xIsN ?_ | with_reducible refine xNotN ?_
  | with_reducible refine xChain ?_ | with_reducible refine xIf ?_ | with_reducible refine xAndV ?_ | with_reducible refine xOrV ?_ | with_reducible refine xNotV ?_
  | with_reducible refine xTest ?_ | with_reducible refine xB ?_ | with_reducible refine xAnd ?_ | with_reducible refine xOr ?_ | with_reducible refine xNot ?_ | with_reducible refine xYes ?_
  | with_reducible refine xNil ?_ | with_reducible refine xCons ?_ | with_reducible refine xTup ?_ | with_reducible refine xLst ?_ | with_reducible refine xCB ?_ | with_reducible refine xInt1I ?_ | with_reducible refine xInt1B ?_ | with_reducible refine xAbs ?_ | with_reducible refine xMin2 ?_ | with_reducible refine xMax2 ?_
  | with_reducible refine xFld ?_ | with_reducible refine xFldS ?_ | with_reducible refine xDG ?_ | with_reducible refine xDP ?_ | with_reducible refine xCall ?_ | with_reducible refine yMeth ?_ | with_reducible refine xBM ?_ | with_reducible refine xBM0 ?_
  | with_reducible refine xPar ?_ | with_reducible refine xPar3 ?_ | with_reducible refine yPar ?_ | with_reducible refine yPar3 ?_ | with_reducible refine xGNil ?_ | with_reducible refine xGCons ?_ | with_reducible refine xGSub ?_
  | with_reducible refine xBl ?_ | with_reducible refine xPairs ?_ | with_reducible refine xPairs0 ?_)
local macro_rules | `(tactic| walk_at "h") => `(tactic| first | assumption | exact upd_same | exact same_upd (by assumption) _ _ (by walk_at "h"))
local macro_rules | `(tactic| walk_at "g") => `(tactic| first | exact gCount _ | exact gLeft _ | exact gLength _ | exact gOn _ | exact gPeriod _ | exact gPhase _ | exact gRow _ | exact gVolume _)
local macro_rules | `(tactic| walk_at "p") => `(tactic| (first | rw [pCount] | rw [pLeft] | rw [pLength] | rw [pOn] | rw [pPeriod] | rw [pPhase] | rw [pRow] | rw [pVolume]))
local macro_rules | `(tactic| walk_at "s") => `(tactic| first
  | ((with_reducible refine yDGs (kvs := ?kvs) (v := ?v) ?h ?e ?q); (case h => exact .inl (by walk_at "h")); (case e => walk_at "g"))
  | ((with_reducible refine yDPs (kvs := ?kvs) ?h ?l ?q); (case h => walk_at "h"); (case l => exact ch_len _); walk_at "p"; (try rw [upd_upd])))
local macro_rules | `(tactic| walk_at "s") => `(tactic| first
  | ((with_reducible refine xI ?c ?q); (case c => first | (show (0 : Int) < _; decide) | exact ⟨by decide, by decide⟩ | exact .inl ⟨by decide, by decide⟩ | exact .inr ⟨by decide, by decide⟩)))
local macro_rules | `(tactic| walk_at "g") => `(tactic| first | exact lBegin _ | exact lPeriod _ | exact lVolume _ | exact lLength _ | exact lChange _ | exact lOther _)
local macro_rules | `(tactic| walk_at "t") => `(tactic| ((fail_if_success (with_reducible refine xSeq ?_)); walk_at "s"))
theorem xSeqP {t1 t2 : TS} {D : Ends} {σ : L2.St} {H : Hp} (P : L2.St → Hp → Prop) (h : ∀ nx : L2.St → Hp → Prop, (∀ σ H, P σ H → nx σ H) → t1 { D with nx := nx } σ H) (h2 : ∀ σ H, P σ H → t2 D σ H) : tSeq t1 t2 D σ H := h _ h2
theorem nz_bit : ∀ n : Nat, nz n = 0 ∨ nz n = 1
  | 0 => .inr (by rw [nz])
  | n + 1 => by
    rw [nz]
    split
    · exact .inl rfl
    · omega
theorem vol_bd {c : LCh} (h : LcOk c) (now : Int) : 0 ≤ volM c now ∧ volM c now < 16 := by
  unfold volM
  have := h.v0
  have := h.v1
  split <;> omega
theorem sumC_snoc {lcs : List LCh} {f : Int → LCh → Int} {i : Nat} {c : LCh} (h : lcs[i]? = some c) : ((lcs.mapIdx fun i c => f (i : Int) c).take (i + 1)).sum = ((lcs.mapIdx fun i c => f (i : Int) c).take i).sum + f (i : Int) c := by
  rw [take_snoc (x := f (i : Int) c) (by rw [List.getElem?_mapIdx, h]; rfl), List.sum_append]
  simp
theorem pure_lsample {K : PySem.W.Frag} (vs : List V) (H : Hp) (Q : VK) (E : XK) (h : sp__law_sample K vs H Q E) :
    vs.length = 3 ∧ t__law_sample K { nx := fun _ H' => Q .non H', rt := Q } (start N__law_sample vs) H := by
  obtain ⟨a, b, lcs, j, n, rfl, L, hB, hj, q⟩ := h
  refine ⟨rfl, ?_⟩
  show t__law_sample K _ [some (.ref a), some (.int j), some (.ref b), none, none, none, none, none] H
  unfold t__law_sample
  repeat walk_at "s"
  refine xForR1U ?_
  repeat walk_at "s"
  refine yForR1 (n := 3) rfl (by decide) (fun i σ H' => ∃ u v w, σ = [some (.ref a), some (.int j), some (.ref b), some (.int (32 * j + 31)), some (.int ((lcs.mapIdx fun i c => smpC (i : Int) c j).take i).sum), u, v, w] ∧ Same H H')
    ⟨none, none, none, rfl, fun _ _ h => h⟩ ?_ ?_
  · rintro i σ H1 hi ⟨u, v, w, rfl, s1⟩
    obtain ⟨es, e, c, hE, he, hc, hd, ok⟩ := (L.same s1).at_ hi
    have hB1 := s1.seq hB
    have hsum := sumC_snoc (f := fun k c => smpC k c j) hc
    generalize ((lcs.mapIdx fun i c => smpC (i : Int) c j).take i).sum = tot at hsum
    have fin : ∀ (r : Int) (H2 : Hp), Same H1 H2 → r = tot + smpC (i : Int) c j → ∃ u v w, ([some (.ref a), some (.int j), some (.ref b), some (.int (32 * j + 31)), some (.int r), some (.int (i : Int)), some (.ref e), some (.int (j - c.begin_ / 32))] : L2.St) = [some (.ref a), some (.int j), some (.ref b), some (.int (32 * j + 31)), some (.int ((lcs.mapIdx fun i c => smpC (i : Int) c j).take (i + 1)).sum), u, v, w] ∧ Same H H2 :=
      fun r H2 s2 er => by
        rw [hsum, ← er]
        exact ⟨_, _, _, rfl, s1.trans s2⟩
    have p0 := ok.p0
    have p1 := ok.p1
    have b0 := ok.b0
    repeat walk_at "s"
    refine yIxL hE (atI_nat he) ?_
    repeat walk_at "s"
    have yes : c.begin_ ≤ 32 * j + 31 ∧ (c.length = 0 ∨ j - c.begin_ / 32 < c.length) → ∀ (D : Ends), (∀ r H2, Same H1 H2 → r = tot + smpC (i : Int) c j → D.nx [some (.ref a), some (.int j), some (.ref b), some (.int (32 * j + 31)), some (.int r), some (.int (i : Int)), some (.ref e), some (.int (j - c.begin_ / 32))] H2) → 
        (tAsg (tOp (rI0 fun i j => .int (i + j)) (tVar 4) (tOp (rI CMul fun i j => .int (i * j)) (tCall (sp__law_volume K) [] E0 (tCons (tVar 6) (tCons (tVar 3) tNil))) (tCall (sp__law_phase K) [] E0 (tCons (tVar 5) (tCons (tOp (rI CDiv fun i j => .int (i / j)) (tOp (rI0 fun i j => .int (i + j)) (tOp (rI0 fun i j => .int (i - j)) (tVar 3) (tDGet (tVar 6) (tC (.str "begin")))) (tC (.int 1))) (tDGet (tVar 6) (tC (.str "period")))) (tCons (tVar 2) tNil)))))) (gName 4)) D [some (.ref a), some (.int j), some (.ref b), some (.int (32 * j + 31)), some (.int tot), some (.int (i : Int)), some (.ref e), some (.int (j - c.begin_ / 32))] H1 := by
      intro hy D hD
      repeat walk_at "s"
      refine ⟨e, c, _, rfl, hd, fun H2 s2 => ?_⟩
      have hd2 := s2 _ _ hd
      repeat walk_at "s"
      refine xI ⟨p0, by omega⟩ ?_
      repeat walk_at "s"
      have t0 : 0 ≤ (32 * j + 31 - c.begin_ + 1) / c.period := Int.ediv_nonneg (by omega) (by omega)
      have t1 : (32 * j + 31 - c.begin_ + 1) / c.period ≤ 32 * j + 31 - c.begin_ + 1 := Int.ediv_le_self _ (by omega)
      refine ⟨b, n, _, _, rfl, s2.seq hB1, ⟨t0, by omega⟩, ?_⟩
      have hv := vol_bd ok (32 * j + 31)
      refine xI (.inl ⟨by omega, by omega⟩) ?_
      repeat walk_at "s"
      refine hD _ H2 s2 ?_
      unfold smpC
      rw [if_pos hy]
    refine iteD (fun h1 => ?_) (fun h1 => ?_)
    · repeat walk_at "s"
      refine iteD (fun h2 => ?_) (fun h2 => ?_)
      · refine yes ⟨h1, .inl h2⟩ _ ?_
        exact fun r H2 s2 er => fin r H2 s2 er
      · repeat walk_at "s"
        refine iteD (fun h3 => ?_) (fun h3 => ?_)
        · refine yes ⟨h1, .inr h3⟩ _ ?_
          exact fun r H2 s2 er => fin r H2 s2 er
        · repeat walk_at "s"
          refine fin _ _ (fun _ _ h => h) ?_
          unfold smpC
          rw [if_neg (by omega), Int.add_zero]
    · repeat walk_at "s"
      refine fin _ _ (fun _ _ h => h) ?_
      unfold smpC
      rw [if_neg (by omega), Int.add_zero]
  · rintro σ H' ⟨u, v, w, rfl, s1⟩
    repeat walk_at "s"
    obtain ⟨_, _, _, l3, _⟩ := L
    rw [List.take_of_length_le (by rw [List.length_mapIdx, l3]; exact Nat.le_refl _)]
    exact q H' s1
theorem cyc_bd {c : LCh} (ok : LcOk c) {goal : Int} (h : ¬ goal ≤ c.begin_) (h0 : 0 ≤ goal) : 0 < cycM c goal ∧ cycM c goal ≤ goal - c.begin_ := by
  have := ok.b0
  have := ok.l0
  by_cases hx : offM c goal = true
  · unfold cycM
    rw [if_pos hx]
    unfold offM at hx
    rw [Bool.and_eq_true, decide_eq_true_eq, decide_eq_true_eq] at hx
    obtain ⟨h1, h2⟩ := hx
    unfold leftM at h2
    split at h2
    · omega
    · omega
  · unfold cycM
    rw [if_neg hx]
    omega
theorem pow15 {i : Nat} (h : i < 15) : [V.int 1, V.int 2, V.int 4, V.int 8, V.int 16, V.int 32, V.int 64, V.int 128, V.int 256, V.int 512, V.int 1024, V.int 2048, V.int 4096, V.int 8192, V.int 16384][i]? = some (.int (pw i)) := by
  have e : [V.int 1, V.int 2, V.int 4, V.int 8, V.int 16, V.int 32, V.int 64, V.int 128, V.int 256, V.int 512, V.int 1024, V.int 2048, V.int 4096, V.int 8192, V.int 16384] = (List.range 15).map fun i => V.int (pw i) := by decide +kernel
  rw [e, List.getElem?_map, List.getElem?_range h]
  rfl
theorem pure_end {K : PySem.W.Frag} (vs : List V) (H : Hp) (Q : VK) (E : XK) (h : sp__law_end K vs H Q E) :
    vs.length = 4 ∧ t__law_end K { nx := fun _ H' => Q .non H', rt := Q } (start N__law_end vs) H := by
  obtain ⟨d, b, c, k, goal, n, rfl, hd, ok, hB, hg, q⟩ := h
  refine ⟨rfl, ?_⟩
  show t__law_end K _ [some (.int k), some (.ref d), some (.int goal), some (.ref b), none, none, none, none, none, none, none, none] H
  unfold t__law_end
  have p0 := ok.p0
  have p1 := ok.p1
  repeat walk_at "s"
  refine iteD (fun h1 => ?_) (fun h1 => ?_)
  · repeat walk_at "s"
    refine xDisp fun p hp => ?_
    repeat walk_at "s"
    refine ⟨upd_same, chK ch0, rfl, Nat.le_of_ble_eq_true rfl, ?_⟩
    rw [upd_upd]
    refine q p _ hp (same_upd hp) ?_
    unfold endM
    rw [if_pos h1]
    exact upd_same
  with_reducible refine xNext ?_
  with_reducible refine xSeq ?_
  repeat walk_at "t"
  with_reducible refine xSeq ?_
  repeat walk_at "t"
  obtain ⟨c0, c1⟩ := cyc_bd ok h1 hg.1
  have b0 := ok.b0
  with_reducible refine xSeqP (fun σ H' => σ = [some (.int k), some (.ref d), some (.int goal), some (.ref b), some (.int (goal / 32 - c.begin_ / 32)), some (.bl (!offM c goal)), some (.int (cycM c goal)), some (.int (leftM c goal)), none, none, none, none] ∧ H' = H) (fun nx hnx => ?_) ?_
  · have el : (if c.length - (goal / 32 - c.begin_ / 32) > 0 then c.length - (goal / 32 - c.begin_ / 32) else 0) = leftM c goal := rfl
    repeat walk_at "s"
    refine iteD (fun h2 => ?_) (fun h2 => ?_)
    · repeat walk_at "s"
      refine iteD (fun h3 => ?_) (fun h3 => ?_)
      · have e1 : offM c goal = true := by
          unfold offM
          rw [decide_eq_true h2, decide_eq_true (show leftM c goal = 0 from h3)]
          rfl
        repeat walk_at "s"
        refine hnx _ _ ⟨?_, rfl⟩
        unfold cycM
        rw [e1]
        rfl
      · have e1 : offM c goal = false := by
          unfold offM
          rw [decide_eq_true h2, decide_eq_false (show ¬ leftM c goal = 0 from h3)]
          rfl
        repeat walk_at "s"
        refine hnx _ _ ⟨?_, rfl⟩
        unfold cycM
        rw [e1]
        rfl
    · have e1 : offM c goal = false := by
        unfold offM
        rw [decide_eq_false h2]
        rfl
      repeat walk_at "s"
      refine hnx _ _ ⟨?_, rfl⟩
      unfold cycM
      rw [e1]
      rfl
  rintro σ H' ⟨rfl, rfl⟩
  have ek : ∀ (cc : Int), cc = cycM c goal → endM k c goal = ⟨c.period - cc % c.period, leftM c goal, c.length, !offM c goal, c.period, phM k (cc / c.period), if k = 2 then rowM (cc / c.period) else 1, volM c (goal - 1)⟩ := fun cc e => by
    unfold endM
    rw [if_neg h1, e]
  have ek := ek _ rfl
  generalize cycM c goal = cyc at c0 c1 ek
  have t0 : 0 ≤ cyc / c.period := Int.ediv_nonneg (by omega) (by omega)
  have t1 : cyc / c.period ≤ cyc := Int.ediv_le_self _ (by omega)
  obtain ⟨t, et⟩ : ∃ t : Nat, cyc / c.period = (t : Int) := ⟨(cyc / c.period).toNat, by omega⟩
  with_reducible refine xSeq ?_
  repeat walk_at "t"
  refine xI ⟨p0, by omega⟩ ?_
  rw [et]
  rw [et] at ek t0 t1
  repeat walk_at "t"
  refine ⟨Nat.le_of_ble_eq_true rfl, fun z nz1 => ?_⟩
  refine yGT (SqT.of upd_same) rfl ?_
  have sz := same_upd (o := .tup [.int (t : Int), .int 1]) nz1
  generalize upd H' z (.tup [.int (t : Int), .int 1]) = H1 at sz
  repeat walk_at "t"
  with_reducible refine xSeqP (fun σ H2 => ∃ u, σ = [some (.int k), some (.ref d), some (.int goal), some (.ref b), some (.int (goal / 32 - c.begin_ / 32)), some (.bl (!offM c goal)), some (.int cyc), some (.int (leftM c goal)), some (.int (t : Int)), some (.int (if k = 2 then rowM (t : Int) else 1)), none, u] ∧ Same H1 H2) (fun nx hnx => ?_) ?_
  · repeat walk_at "s"
    refine iteD (fun h2 => ?_) (fun h2 => ?_)
    · repeat walk_at "s"
      refine xLcR ?_
      repeat walk_at "s"
      refine yLcR 15 rfl (by decide) (fun D i H' => Same H1 H' ∧ H1 D = none ∧ H' D = some (.lst (((List.range i).map fun i => nz (t + i) * pw i).map V.int))) (fun D hD => ⟨same_upd hD, hD, upd_same⟩) ?_ ?_
      · rintro D i H2 hi ⟨s2, nD, hD⟩
        refine xNm (yTurn rfl ?_)
        repeat walk_at "s"
        refine yIxL ((sz.trans s2).seq hB) (v := .int (nz (t + i))) (by rw [show (t : Int) + (i : Int) = ((t + i : Nat) : Int) from by omega]; exact atI_nat (nzL_at (by omega))) ?_
        repeat walk_at "s"
        refine ⟨Nat.le_of_ble_eq_true rfl, fun g ng => ?_⟩
        repeat walk_at "s"
        refine yIxL (SqL.of upd_same) (atI_nat (pow15 hi)) ?_
        refine xI (.inl ?_) ?_
        · rcases nz_bit (t + i) with h | h <;> rw [h] <;> exact ⟨by decide, by decide⟩
        refine ⟨_, same_upd ng _ _ hD, ?_, fun b o e => ?_, nD, ?_⟩
        · rw [List.length_map, List.length_map, List.length_range]
          exact Nat.lt_trans hi (by decide)
        · rw [upd_ne (ne_of_none e nD)]
          exact same_upd ng _ _ (s2 _ _ e)
        · rw [List.range_succ, List.map_append, List.map_append]
          exact upd_same
      · rintro D H2 nD ⟨s2, _, hD⟩
        repeat walk_at "s"
        refine xSum (SqL.of hD) ?_
        repeat walk_at "s"
        rw [if_pos h2] at hnx
        exact hnx _ _ ⟨_, rfl, s2⟩
    · repeat walk_at "s"
      rw [if_neg h2] at hnx
      exact hnx _ _ ⟨_, rfl, fun _ _ h => h⟩
  rintro σ H2 ⟨u, rfl, s2⟩
  have hd2 := s2 _ _ (sz _ _ hd)
  have hB2 := s2.seq (sz.seq hB)
  have sAll := sz.trans s2
  repeat walk_at "s"
  refine xI p0 ?_
  repeat walk_at "s"
  refine xDisp fun p hp => ?_
  repeat walk_at "s"
  refine ⟨b, n, _, _, rfl, (same_upd hp).seq hB2, ⟨t0, by omega⟩, ?_⟩
  repeat walk_at "s"
  refine ⟨d, c, _, rfl, same_upd hp _ _ hd2, fun H3 s3 => ?_⟩
  repeat walk_at "s"
  refine ⟨s3 _ _ upd_same, chK (endM k c goal), ?_, Nat.le_of_ble_eq_true rfl, ?_⟩
  · rw [ek]
    rfl
  refine q p _ (sAll.free hp) (fun b o e => ?_) ?_
  · rw [upd_ne (ne_of_none (sAll _ _ e) hp)]
    exact s3 _ _ (same_upd hp _ _ (sAll _ _ e))
  · exact upd_same
end K61
namespace K61
open PySem PySem.Spec PyProof.Rows L2 Kx
local macro_rules | `(tactic| walk_at "s") => `(tactic| first
  | with_reducible refine xSeq ?_ | with_reducible refine xAsg ?_ | with_reducible refine xNm ?_ | with_reducible refine xDrop ?_ | with_reducible refine xRet ?_ | with_reducible refine xRetN ?_ | with_reducible refine xNext ?_ | with_reducible refine xIfS ?_
  | ((with_reducible refine xVar (v := ?v) ?h ?q); (case h => exact rfl)) | with_reducible refine xC ?_ | with_reducible refine xOp ?_ | with_reducible refine xUn ?_ | with_reducible refine xI0 ?_ | with_reducible refine xU ?_
  | with_reducible refine xEqI ?_ | with_reducible refine xNeI ?_ | with_reducible refine xEqB ?_ | with_reducible refine xNeB ?_ | with_reducible refine xEqS ?_ | with_reducible refine xNeS ?_ | with_reducible refine xIsN ?_ | with_reducible refine xNotN ?_
  | with_reducible refine xChain ?_ | with_reducible refine xIf ?_ | with_reducible refine xAndV ?_ | with_reducible refine xOrV ?_ | with_reducible refine xNotV ?_
  | with_reducible refine xTest ?_ | with_reducible refine xB ?_ | with_reducible refine xAnd ?_ | with_reducible refine xOr ?_ | with_reducible refine xNot ?_ | with_reducible refine xYes ?_
  | with_reducible refine xNil ?_ | with_reducible refine xCons ?_ | with_reducible refine xTup ?_ | with_reducible refine xLst ?_ | with_reducible refine xCB ?_ | with_reducible refine xInt1I ?_ | with_reducible refine xInt1B ?_ | with_reducible refine xAbs ?_ | with_reducible refine xMin2 ?_ | with_reducible refine xMax2 ?_
  | with_reducible refine xFld ?_ | with_reducible refine xFldS ?_ | with_reducible refine xDG ?_ | with_reducible refine xDP ?_ | with_reducible refine xCall ?_ | with_reducible refine yMeth ?_ | with_reducible refine xBM ?_ | with_reducible refine xBM0 ?_
  | with_reducible refine xPar ?_ | with_reducible refine xPar3 ?_ | with_reducible refine yPar ?_ | with_reducible refine yPar3 ?_ | with_reducible refine xGNil ?_ | with_reducible refine xGCons ?_ | with_reducible refine xGSub ?_
  | with_reducible refine xBl ?_ | with_reducible refine xPairs ?_ | with_reducible refine xPairs0 ?_)
local macro_rules | `(tactic| walk_at "h") => `(tactic| first | assumption | exact upd_same | exact same_upd (by assumption) _ _ (by walk_at "h"))
local macro_rules | `(tactic| walk_at "g") => `(tactic| first | exact gCount _ | exact gLeft _ | exact gLength _ | exact gOn _ | exact gPeriod _ | exact gPhase _ | exact gRow _ | exact gVolume _)
local macro_rules | `(tactic| walk_at "p") => `(tactic| (first | rw [pCount] | rw [pLeft] | rw [pLength] | rw [pOn] | rw [pPeriod] | rw [pPhase] | rw [pRow] | rw [pVolume]))
local macro_rules | `(tactic| walk_at "s") => `(tactic| first
  | ((with_reducible refine yDGs (kvs := ?kvs) (v := ?v) ?h ?e ?q); (case h => exact .inl (by walk_at "h")); (case e => walk_at "g"))
  | ((with_reducible refine yDPs (kvs := ?kvs) ?h ?l ?q); (case h => walk_at "h"); (case l => exact ch_len _); walk_at "p"; (try rw [upd_upd])))
local macro_rules | `(tactic| walk_at "s") => `(tactic| first
  | ((with_reducible refine xI ?c ?q); (case c => first | (show (0 : Int) < _; decide) | exact ⟨by decide, by decide⟩ | exact .inl ⟨by decide, by decide⟩ | exact .inr ⟨by decide, by decide⟩)))
theorem Told.same {H H' : Hp} {q : Addr} {cs : List Ch} (h : Told H q cs) (s : Same H H') : Told H' q cs := by
  obtain ⟨es, h1, h2⟩ := h
  exact ⟨es, s _ _ h1, Paired.mapP h2 fun a b hab => s _ _ hab⟩
theorem Snd.lst {C : Addr} {H : Hp} {p l f : Addr} {ds : List Addr} {cs : List Ch} {nx : Option Int} {xs : List V} (S : Snd C H p l ds cs nx) (h : H f = some (.lst xs)) : f ∉ ds := fun m => by
  obtain ⟨i, hi⟩ := List.mem_iff_getElem?.mp m
  obtain ⟨c, _, h2⟩ := S.at_ i f hi
  rw [h] at h2
  cases h2
theorem Snd.tup {C : Addr} {H : Hp} {p l f : Addr} {ds : List Addr} {cs : List Ch} {nx : Option Int} {xs : List V} (S : Snd C H p l ds cs nx) (h : H f = some (.tup xs)) : f ∉ ds := fun m => by
  obtain ⟨i, hi⟩ := List.mem_iff_getElem?.mp m
  obtain ⟨c, _, h2⟩ := S.at_ i f hi
  rw [h] at h2
  cases h2
theorem lets_bd {lcs : List LCh} {now : Int} (hl : lcs.length = 3) (ok : ∀ c ∈ lcs, LcOk c) : ∀ p ∈ letsM lcs now, (0 ≤ p.1 ∧ p.1 < 12) ∧ (0 ≤ p.2 ∧ p.2 < 256) := by
  intro p hp
  unfold letsM at hp
  obtain ⟨xs, hx, hp⟩ := List.mem_flatten.mp hp
  obtain ⟨i, hi⟩ := List.mem_iff_getElem?.mp hx
  rw [List.getElem?_mapIdx] at hi
  cases e : lcs[i]? with
  | none =>
    rw [e] at hi
    cases hi
  | some c =>
    rw [e] at hi
    cases hi
    have hi3 := (List.getElem?_eq_some_iff.mp e).1
    obtain ⟨_, _, _, _, _, v1, l0, l1, _, _, o0, o1⟩ := ok c (List.mem_of_getElem? e)
    have v0 := (ok c (List.mem_of_getElem? e)).v0
    unfold letsOf at hp
    rcases List.mem_append.mp hp with h | h
    · split at h
      · simp only [List.mem_cons, List.not_mem_nil, or_false] at h
        rcases h with h | h | h | h <;> subst h <;> simp only <;> omega
      · cases h
    · split at h
      · simp only [List.mem_cons, List.not_mem_nil, or_false] at h
        subst h
        simp only
        omega
      · cases h
theorem sets_snoc {ps : List (Int × Int)} {cs : List Ch} {p : Int × Int} {i : Nat} (h : ps[i]? = some p) : setsU (ps.take (i + 1)) cs = letU p.1 p.2 (setsU (ps.take i) cs) := by
  unfold setsU
  rw [take_snoc h, List.foldl_append]
  rfl
theorem paired_fst {α β : Type} {F : α → β → Prop} : ∀ {xs : List α} {ys : List β} {i : Nat} {x : α}, Paired F xs ys → xs[i]? = some x → ∃ y, ys[i]? = some y ∧ F x y
  | [], [], _, _, .nil, h => by cases h
  | x :: _, y :: _, 0, z, .cons r t, h => ⟨y, rfl, by cases h; exact r⟩
  | x :: xs, y :: ys, i + 1, z, .cons r t, h => paired_fst (i := i) t h
theorem pure_plain {K : PySem.W.Frag} (vs : List V) (H : Hp) (Q : VK) (E : XK) (h : sp__law_plain K vs H Q E) :
    vs.length = 2 ∧ t__law_plain K { nx := fun _ H' => Q .non H', rt := Q } (start N__law_plain vs) H := by
  obtain ⟨a, lcs, n, rfl, L, hn, q⟩ := h
  refine ⟨rfl, ?_⟩
  show t__law_plain K _ [some (.ref a), some (.int (n : Int)), none, none, none, none, none, none] H
  unfold t__law_plain
  repeat walk_at "s"
  refine xMake ?_
  repeat walk_at "s"
  intro p dx hp hdx hne
  have s0 := same_make (C := He.ga K "Sound") hp hdx
  refine ⟨p, dx, rfl, upd_same, fun l ds H1 S hl hds k => ⟨rfl, ?_⟩⟩
  have nl := s0.free hl
  have nds : ∀ d ∈ ds, H d = none := fun d hd => s0.free (hds d hd)
  have s1 : Same H H1 := Same.keep s0 k fun d hd => by
    rw [List.mem_singleton.mp hd]
    exact hp
  repeat walk_at "s"
  refine ⟨Nat.zero_le _, fun f nf => ?_⟩
  repeat walk_at "s"
  refine xForR1U ?_
  repeat walk_at "s"
  obtain ⟨_, _, _, l3, lok⟩ := id L
  refine yForR1 (n := n) rfl (by omega) (fun i σ H' => ∃ f u v w x, σ = [some (.ref a), some (.int (n : Int)), some (.ref p), some (.ref f), u, v, w, x] ∧ Same H H' ∧ Snd (He.ga K "Sound") H' p l ds (plainF lcs i).1 none ∧ H' f = some (.lst ((plainF lcs i).2.map V.int)) ∧ (plainF lcs i).2.length ≤ i)
    ⟨f, none, none, none, none, rfl, s1.trans (same_upd nf), S.new nf, upd_same, Nat.zero_le _⟩ ?_ ?_
  · rintro i σ H2 hi ⟨f, u, v, w, x, rfl, s2, S2, hf, hlen⟩
    refine xSeq (xForLU ?_)
    repeat walk_at "s"
    refine ⟨a, lcs, _, rfl, L.same s2, fun g H3 s3 P => ?_⟩
    obtain ⟨ts, hg, hts⟩ := P
    have S3 := S2.same s3
    have sH3 := s2.trans s3
    have hf3 := s3 _ _ hf
    have hbd := lets_bd (now := (i : Int)) l3 lok
    refine yForL (SqL.of hg) (fun j σ H' => ∃ v w, σ = [some (.ref a), some (.int (n : Int)), some (.ref p), some (.ref f), some (.int (i : Int)), v, w, x] ∧ Keep ds H3 H' ∧ Snd (He.ga K "Sound") H' p l ds (setsU ((letsM lcs (i : Int)).take j) (plainF lcs i).1) none)
      ⟨v, w, rfl, .refl _ _, S3⟩ (fun j σ H' _ ⟨_, _, _, k, _⟩ => SqL.of (k _ _ hg (S3.lst hg))) ?_ ?_
    · rintro j y σ H4 hy ⟨v, w, rfl, k4, S4⟩
      rw [List.getElem?_map] at hy
      cases et : ts[j]? with
      | none =>
        rw [et] at hy
        cases hy
      | some t =>
        rw [et] at hy
        cases hy
        obtain ⟨pr, hpr, ht⟩ := paired_fst hts et
        have hb := hbd pr (List.mem_of_getElem? hpr)
        refine yGT (SqT.of (k4 _ _ ht (S3.tup ht))) rfl ?_
        repeat walk_at "s"
        obtain ⟨dx4, ob4⟩ := id S4.ob
        refine yMe ob4 (sf_m _ _ (by decide +kernel) (by decide +kernel)) ?_
        repeat walk_at "s"
        refine ⟨p, _, _, l, ds, _, _, rfl, S4, hb.1, hb.2, fun H5 S5 k5 => ?_⟩
        refine ⟨_, _, rfl, k4.trans k5, ?_⟩
        rw [sets_snoc hpr]
        exact S5
    · rintro σ H4 ⟨v, w, rfl, k4, S4⟩
      rw [List.length_map, paired_len hts, List.take_length] at S4
      have sH4 := Same.keep sH3 k4 nds
      have hf4 := k4 _ _ hf3 (S3.lst hf3)
      repeat walk_at "s"
      obtain ⟨dx4, ob4⟩ := id S4.ob
      refine yMe ob4 (sf_m _ _ (by decide +kernel) (by decide +kernel)) ?_
      repeat walk_at "s"
      refine ⟨p, _, l, ds, _, _, rfl, S4, fun H5 S5 k5 => ?_⟩
      have sH5 := Same.keep sH4 k5 nds
      have hf5 := k5 _ _ hf4 (S4.lst hf4)
      have hfl : (plainF lcs i).2.length + 1 ≤ 200000 := by omega
      by_cases h31 : (i : Int) % 32 = 31
      · have eo : outU (i : Int) (setsU (letsM lcs (i : Int)) (plainF lcs i).1) = .int (sumU (eachC liveC (setsU (letsM lcs (i : Int)) (plainF lcs i).1))) := by
          unfold outU
          rw [if_pos h31]
        have e2 : plainF lcs (i + 1) = (liveU (i : Int) (setsU (letsM lcs (i : Int)) (plainF lcs i).1), (plainF lcs i).2 ++ [sumU (eachC liveC (setsU (letsM lcs (i : Int)) (plainF lcs i).1))]) := by
          show (_, _) = _
          rw [if_pos h31]
        rw [eo, e2]
        generalize sumU (eachC liveC (setsU (letsM lcs (i : Int)) (plainF lcs i).1)) = sv
        repeat walk_at "s"
        have eb : (!decide (decide (V.int sv = V.non) = !decide ((i : Int) % 32 = 31))) = false := by
          rw [decide_eq_true h31]
          rfl
        rw [eb]
        refine iteF ?_
        repeat walk_at "s"
        refine ⟨Nat.le_of_ble_eq_true rfl, fun g1 ng1 => ?_⟩
        repeat walk_at "s"
        have e1 : (if (!decide (V.int sv = V.non)) = true then (1 : Int) else 0) = 1 := rfl
        rw [e1]
        refine yRep upd_same (by decide) (by decide) (Nat.le_of_ble_eq_true rfl) fun g2 ng2 => ?_
        refine yCat (ys := [.int sv]) (same_upd ng2 _ _ (same_upd ng1 _ _ hf5)) upd_same (by rw [List.length_map]; exact Nat.le_trans hfl (by decide)) fun g3 ng3 => ?_
        repeat walk_at "s"
        have sN := (same_upd (o := .lst [.int sv]) ng1).trans ((same_upd (o := .lst (List.replicate (Int.toNat 1) [V.int sv]).flatten) ng2).trans (same_upd (o := .lst ((plainF lcs i).2.map V.int ++ [.int sv])) ng3))
        refine ⟨g3, _, _, _, _, rfl, sH5.trans sN, S5.same sN, ?_, ?_⟩
        · rw [List.map_append]
          exact upd_same
        · rw [List.length_append]
          simp
          omega
      · have eo : outU (i : Int) (setsU (letsM lcs (i : Int)) (plainF lcs i).1) = .non := by
          unfold outU
          rw [if_neg h31]
        have e2 : plainF lcs (i + 1) = (liveU (i : Int) (setsU (letsM lcs (i : Int)) (plainF lcs i).1), (plainF lcs i).2) := by
          show (_, _) = _
          rw [if_neg h31]
        rw [eo, e2]
        repeat walk_at "s"
        have eb : (!decide (decide (V.non = V.non) = !decide ((i : Int) % 32 = 31))) = false := by
          rw [decide_eq_false h31]
          rfl
        rw [eb]
        refine iteF ?_
        repeat walk_at "s"
        refine ⟨Nat.le_of_ble_eq_true rfl, fun g1 ng1 => ?_⟩
        repeat walk_at "s"
        have e1 : (if (!decide (V.non = V.non)) = true then (1 : Int) else 0) = 0 := rfl
        rw [e1]
        refine yRep upd_same (by decide) (by decide) (Nat.le_of_ble_eq_true rfl) fun g2 ng2 => ?_
        refine yCat (ys := []) (same_upd ng2 _ _ (same_upd ng1 _ _ hf5)) upd_same (by rw [List.length_map]; exact Nat.le_trans (Nat.le_trans (Nat.le_succ _) hfl) (by decide)) fun g3 ng3 => ?_
        repeat walk_at "s"
        have sN := (same_upd (o := .lst [.non]) ng1).trans ((same_upd (o := .lst (List.replicate (Int.toNat 0) [V.non]).flatten) ng2).trans (same_upd (o := .lst ((plainF lcs i).2.map V.int ++ [])) ng3))
        refine ⟨g3, _, _, _, _, rfl, sH5.trans sN, S5.same sN, ?_, ?_⟩
        · rw [List.append_nil]
          exact upd_same
        · show (plainF lcs i).2.length ≤ i + 1
          omega
  · rintro σ H2 ⟨f, u, v, w, x, rfl, s2, S2, hf, hlen⟩
    repeat walk_at "s"
    obtain ⟨dx2, ob2⟩ := id S2.ob
    refine yMe ob2 (sf_m _ _ (by decide +kernel) (by decide +kernel)) ?_
    repeat walk_at "s"
    refine ⟨p, l, ds, _, _, rfl, S2, fun g H3 s3 T3 => ?_⟩
    repeat walk_at "s"
    have S3 := S2.same s3
    obtain ⟨dx3, ob3⟩ := id S3.ob
    refine yMe ob3 (sf_m _ _ (by decide +kernel) (by decide +kernel)) ?_
    repeat walk_at "s"
    refine ⟨p, l, ds, _, _, rfl, S3, fun H4 s4 => ?_⟩
    repeat walk_at "s"
    refine ⟨Nat.le_of_ble_eq_true rfl, fun t nt => ?_⟩
    have sA := s4.trans (same_upd (o := .tup [.ref f, .ref g, .int (onU (plainF lcs n).1)]) nt)
    exact q t _ (s2.trans (s3.trans sA)) ⟨f, g, upd_same, sA _ _ (s3 _ _ hf), T3.same sA⟩
end K61
namespace K61
open PySem PySem.Spec PyProof.Rows L2 Kx
local macro_rules | `(tactic| walk_at "s") => `(tactic| first
  | with_reducible refine xSeq ?_ | with_reducible refine xAsg ?_ | with_reducible refine xNm ?_ | with_reducible refine xDrop ?_ | with_reducible refine xRet ?_ | with_reducible refine xRetN ?_ | with_reducible refine xNext ?_ | with_reducible refine xIfS ?_
  | ((with_reducible refine xVar (v := ?v) ?h ?q); (case h => exact rfl)) | with_reducible refine xC ?_ | with_reducible refine xOp ?_ | with_reducible refine xUn ?_ | with_reducible refine xI0 ?_ | with_reducible refine xU ?_
  | with_reducible refine xEqI ?_ | with_reducible refine xNeI ?_ | with_reducible refine xEqB ?_ | with_reducible refine xNeB ?_ | with_reducible refine xEqS ?_ | with_reducible refine xNeS ?_ | with_reducible refine xIsN ?_ | with_reducible refine xNotN ?_
  | with_reducible refine xChain ?_ | with_reducible refine xIf ?_ | with_reducible refine xAndV ?_ | with_reducible refine xOrV ?_ | with_reducible refine xNotV ?_
  | with_reducible refine xTest ?_ | with_reducible refine xB ?_ | with_reducible refine xAnd ?_ | with_reducible refine xOr ?_ | with_reducible refine xNot ?_ | with_reducible refine xYes ?_
  | with_reducible refine xNil ?_ | with_reducible refine xCons ?_ | with_reducible refine xTup ?_ | with_reducible refine xLst ?_ | with_reducible refine xCB ?_ | with_reducible refine xInt1I ?_ | with_reducible refine xInt1B ?_ | with_reducible refine xAbs ?_ | with_reducible refine xMin2 ?_ | with_reducible refine xMax2 ?_
  | with_reducible refine xFld ?_ | with_reducible refine xFldS ?_ | with_reducible refine xDG ?_ | with_reducible refine xDP ?_ | with_reducible refine xCall ?_ | with_reducible refine yMeth ?_ | with_reducible refine xBM ?_ | with_reducible refine xBM0 ?_
  | with_reducible refine xPar ?_ | with_reducible refine xPar3 ?_ | with_reducible refine yPar ?_ | with_reducible refine yPar3 ?_ | with_reducible refine xGNil ?_ | with_reducible refine xGCons ?_ | with_reducible refine xGSub ?_
  | with_reducible refine xBl ?_ | with_reducible refine xPairs ?_ | with_reducible refine xPairs0 ?_)
local macro_rules | `(tactic| walk_at "h") => `(tactic| first | assumption | exact upd_same | exact same_upd (by assumption) _ _ (by walk_at "h"))
local macro_rules | `(tactic| walk_at "g") => `(tactic| first | exact gCount _ | exact gLeft _ | exact gLength _ | exact gOn _ | exact gPeriod _ | exact gPhase _ | exact gRow _ | exact gVolume _)
local macro_rules | `(tactic| walk_at "p") => `(tactic| (first | rw [pCount] | rw [pLeft] | rw [pLength] | rw [pOn] | rw [pPeriod] | rw [pPhase] | rw [pRow] | rw [pVolume]))
local macro_rules | `(tactic| walk_at "s") => `(tactic| first
  | ((with_reducible refine yDGs (kvs := ?kvs) (v := ?v) ?h ?e ?q); (case h => exact .inl (by walk_at "h")); (case e => walk_at "g"))
  | ((with_reducible refine yDPs (kvs := ?kvs) ?h ?l ?q); (case h => walk_at "h"); (case l => exact ch_len _); walk_at "p"; (try rw [upd_upd])))
local macro_rules | `(tactic| walk_at "s") => `(tactic| first
  | ((with_reducible refine xI ?c ?q); (case c => first | (show (0 : Int) < _; decide) | exact ⟨by decide, by decide⟩ | exact .inl ⟨by decide, by decide⟩ | exact .inr ⟨by decide, by decide⟩)))
local macro_rules | `(tactic| walk_at "g") => `(tactic| first | exact lBegin _ | exact lPeriod _ | exact lVolume _ | exact lLength _ | exact lChange _ | exact lOther _)
theorem liveToF_inv : ∀ (k : Nat) (goal : Int) (cs : List Ch) (n : Int) (fs : List Int), (goal - n).toNat ≤ k → (∀ c ∈ cs, okC c ∧ 0 ≤ c.count) →
    (liveToF k goal cs n fs).2.1 = (if n < goal then goal else n) ∧ (liveToF k goal cs n fs).2.2.length ≤ fs.length + (goal - n).toNat ∧ ∀ c ∈ (liveToF k goal cs n fs).1, okC c ∧ 0 ≤ c.count
  | 0, goal, cs, n, fs, hk, ok => by
    rw [liveToF_end (by omega), if_neg (by omega)]
    exact ⟨rfl, Nat.le_add_right _ _, ok⟩
  | k + 1, goal, cs, n, fs, hk, ok => by
    by_cases h : n < goal
    · obtain ⟨g1, g2⟩ := stop_gt h
      have okp : ∀ c ∈ eachC (fun k => passC k (stopOf goal n - n)) cs, okC c ∧ 0 ≤ c.count := each_mem fun i c hc => ⟨ok_pass (ok c hc).1 (ends_nn (ok c hc).1.2.2.1), pass_count (ok c hc).1 (ok c hc).2⟩
      rw [if_pos h]
      by_cases e : stopOf goal n = lastOf n + 1
      · rw [liveToF_yes h e]
        obtain ⟨h1, h2, h3⟩ := liveToF_inv k goal ((eachC (fun k => passC k (stopOf goal n - n)) cs).map sampC) (stopOf goal n) (fs ++ [sumU (eachC (fun k => passC k (stopOf goal n - n)) cs)]) (by omega) fun c hc => by
          obtain ⟨c0, hc0, rfl⟩ := List.mem_map.mp hc
          exact ⟨ok_samp (okp c0 hc0).1, samp_count (okp c0 hc0).2⟩
        refine ⟨?_, ?_, h3⟩
        · rw [h1]
          split <;> omega
        · rw [List.length_append] at h2
          have : ([sumU (eachC (fun k => passC k (stopOf goal n - n)) cs)] : List Int).length = 1 := rfl
          omega
      · rw [liveToF_no h e]
        obtain ⟨h1, h2, h3⟩ := liveToF_inv k goal (eachC (fun k => passC k (stopOf goal n - n)) cs) (stopOf goal n) fs (by omega) okp
        refine ⟨?_, by omega, h3⟩
        rw [h1]
        split <;> omega
    · rw [liveToF_end h, if_neg h]
      exact ⟨rfl, Nat.le_add_right _ _, ok⟩
theorem liveTo_inv {goal : Int} {cs : List Ch} {n : Int} (ok : ∀ c ∈ cs, okC c ∧ 0 ≤ c.count) :
    (liveTo goal cs n).2.1 = (if n < goal then goal else n) ∧ (liveTo goal cs n).2.2.length ≤ (goal - n).toNat ∧ ∀ c ∈ (liveTo goal cs n).1, okC c ∧ 0 ≤ c.count := by
  obtain ⟨h1, h2, h3⟩ := liveToF_inv (goal - n).toNat goal cs n [] (Nat.le_refl _) ok
  exact ⟨h1, Nat.le_trans h2 (by simp), h3⟩
theorem let_count {word byte : Int} {c : Ch} (h : 0 ≤ c.count) (p : okC c) : 0 ≤ (letC word byte c).count := by
  unfold letC
  split
  · exact h
  split
  · exact h
  split
  · exact h
  · have := p.2.2.1
    show 0 ≤ c.period
    omega
theorem letU_ok {which byte : Int} {cs : List Ch} (hb : 0 ≤ byte ∧ byte < 256) (h : ∀ c ∈ cs, okC c ∧ 0 ≤ c.count) : ∀ c ∈ letU which byte cs, okC c ∧ 0 ≤ c.count := by
  intro c hc
  unfold letU at hc
  split at hc
  · obtain ⟨i, hi⟩ := List.mem_iff_getElem?.mp hc
    rw [List.getElem?_modify] at hi
    cases e : cs[i]? with
    | none =>
      rw [e] at hi
      simp at hi
    | some z =>
      have hz := h z (List.mem_of_getElem? e)
      rw [e] at hi
      simp only [Option.map_eq_map, Option.map_some] at hi
      split at hi
      · cases hi
        exact ⟨ok_let hz.1 hb, let_count hz.2 hz.1⟩
      · cases hi
        exact hz
  · exact h c hc
theorem setsU_ok : ∀ {ps : List (Int × Int)} {cs : List Ch}, (∀ p ∈ ps, 0 ≤ p.2 ∧ p.2 < 256) → (∀ c ∈ cs, okC c ∧ 0 ≤ c.count) → ∀ c ∈ setsU ps cs, okC c ∧ 0 ≤ c.count
  | [], cs, _, h => h
  | p :: ps, cs, hb, h => setsU_ok (ps := ps) (cs := letU p.1 p.2 cs) (fun q hq => hb q (List.mem_cons_of_mem _ hq)) (letU_ok (hb p List.mem_cons_self) h)
theorem ok_ch0 : okC ch0 := ⟨by decide, by decide, by decide, by decide, .inl rfl⟩
theorem lateF_cons {lcs : List LCh} {goal t : Int} {ts : List Int} {cs : List Ch} {n b : Int} {f : List Int} (h : t < goal ∧ t ≠ b) : lateF lcs goal (t :: ts) (cs, n, f, b) = lateF lcs goal ts (setsU (letsM lcs t) (liveTo t cs n).1, (liveTo t cs n).2.1, f ++ (liveTo t cs n).2.2, t) := by
  rw [lateF, if_pos h]
theorem lateF_skip {lcs : List LCh} {goal t : Int} {ts : List Int} {cs : List Ch} {n b : Int} {f : List Int} (h : ¬ (t < goal ∧ t ≠ b)) : lateF lcs goal (t :: ts) (cs, n, f, b) = lateF lcs goal ts (cs, n, f, b) := by
  rw [lateF, if_neg h]
theorem drop_at {α : Type} {l : List α} {i : Nat} {x : α} (h : l[i]? = some x) : l.drop i = x :: l.drop (i + 1) := by
  obtain ⟨hi, e⟩ := List.getElem?_eq_some_iff.mp h
  rw [List.drop_eq_getElem_cons hi, e]
/-- a list of what each tells -/
theorem told_list {K : PySem.W.Frag} {H : Hp} {a : Addr} {lcs : List LCh} {Q : VK} {σ : L2.St} {z : Str} (g : LCh → Int) (hz : ∀ c, valV (lcK c) (Sum.inr z) = some (.int (g c))) (L : Lcs K H a lcs) (h0 : σ[0]? = some (some (.ref a))) (h9 : σ.length = 10)
    (q : ∀ p H', New H p (.lst ((lcs.map g).map V.int)) H' → Q (.ref p) H') : tLc (iList K (tVar 0)) (gName 9) tYes (tDGet (tVar 9) (tC (.str z))) [9] σ H Q := by
  obtain ⟨es, hE, hp, l3, lok⟩ := L
  refine xLcL (xVar h0 ?_)
  refine yLcL hE (fun D i H' => Same H H' ∧ H D = none ∧ H' D = some (.lst (((lcs.map g).take i).map V.int))) (fun D hD => ⟨same_upd hD, hD, upd_same⟩) (fun D i H' _ h => h.1.seq hE) ?_ ?_
  · rintro D i x H' hx ⟨s1, nD, hD⟩
    rw [List.getElem?_map] at hx
    cases ee : es[i]? with
    | none =>
      rw [ee] at hx
      cases hx
    | some e =>
      rw [ee] at hx
      cases hx
      obtain ⟨c, hc, he⟩ := paired_fst hp ee
      have hw : wipe σ [9] = σ.set 9 none := rfl
      refine xNm (yTurn ?_ ?_)
      · rw [hw]
        show ((σ.set 9 none).set 9 _).set 9 none = _
        rw [List.set_set, List.set_set]
      refine xDG (xVar (v := .ref e) (by rw [hw, List.getElem?_set_self (by rw [List.length_set]; omega)]) (xC ?_))
      refine yDGs (.inl (s1 _ _ he)) (hz c) ?_
      have hi := (List.getElem?_eq_some_iff.mp hc).1
      refine ⟨_, hD, ?_, fun b o eb => ?_, nD, ?_⟩
      · rw [List.length_map, List.length_take, List.length_map]
        exact Nat.lt_of_le_of_lt (show min i lcs.length ≤ 3 by omega) (by decide)
      · rw [upd_ne (ne_of_none eb nD)]
        exact s1 _ _ eb
      · rw [take_snoc (x := g c) (by rw [List.getElem?_map, hc]; rfl), List.map_append]
        exact upd_same
  · rintro D H' nD ⟨s1, _, hD⟩
    rw [List.take_of_length_le (by rw [List.length_map, List.length_map, paired_len hp]; exact Nat.le_refl _)] at hD
    exact q D H' ⟨nD, s1, hD⟩
theorem pure_late {K : PySem.W.Frag} (vs : List V) (H : Hp) (Q : VK) (E : XK) (h : sp__law_late K vs H Q E) :
    vs.length = 3 ∧ t__law_late K { nx := fun _ H' => Q .non H', rt := Q } (start N__law_late vs) H := by
  obtain ⟨a, b, lcs, goal, stops, rfl, L, hb, h4, hst, hg, q⟩ := h
  refine ⟨rfl, ?_⟩
  show t__law_late K _ [some (.ref a), some (.int goal), some (.ref b), none, none, none, none, none, none, none] H
  unfold t__law_late
  repeat walk_at "s"
  refine xMake ?_
  repeat walk_at "s"
  intro p dx hp hdx hne
  have s0 := same_make (C := He.ga K "LateSound") hp hdx
  refine ⟨p, dx, rfl, upd_same, fun l ds H1 S hl hds k => ⟨rfl, ?_⟩⟩
  have nl := s0.free hl
  have nds : ∀ d ∈ ds, H d = none := fun d hd => s0.free (hds d hd)
  have npd : ∀ d ∈ p :: ds, H d = none := fun d hd => by
    rcases List.mem_cons.mp hd with e | h
    · rw [e]
      exact hp
    · exact nds d h
  have s1 : Same H H1 := Same.keep s0 k fun d hd => by
    rw [List.mem_singleton.mp hd]
    exact hp
  repeat walk_at "s"
  refine ⟨Nat.zero_le _, fun f nf => ?_⟩
  repeat walk_at "s"
  obtain ⟨_, _, _, l3, lok⟩ := id L
  have sF := s1.trans (same_upd (o := .lst []) nf)
  have SF := S.new (o := .lst []) nf
  have hf : upd H1 f (.lst []) f = some (.lst []) := upd_same
  generalize upd H1 f (.lst []) = H2 at sF SF hf
  refine xForLU ?_
  repeat walk_at "s"
  refine told_list (·.begin_) lBegin (L.same sF) rfl rfl fun q1 H3 N1 => ?_
  repeat walk_at "s"
  refine told_list (·.change) lChange (L.same (sF.trans N1.2.1)) rfl rfl fun q2 H4 N2 => ?_
  refine yCat (N1.trans N2.2.1).2.2 N2.2.2 (by rw [List.length_map, List.length_map, List.length_map, List.length_map, l3]; decide) fun q3 n3 => ?_
  repeat walk_at "s"
  have s4 := sF.trans (N1.2.1.trans N2.2.1)
  refine yCat upd_same (same_upd n3 _ _ (s4 _ _ hb)) (by rw [List.length_append, List.length_map, List.length_map, List.length_map, List.length_map, List.length_map, l3, h4]; decide) fun q4 n4 => ?_
  repeat walk_at "s"
  have sA := N1.2.1.trans (N2.2.1.trans ((same_upd (o := .lst ((lcs.map (·.begin_)).map V.int ++ (lcs.map (·.change)).map V.int)) n3).trans (same_upd (o := .lst ((lcs.map (·.begin_)).map V.int ++ (lcs.map (·.change)).map V.int ++ stops.map V.int)) n4)))
  have h4e : (upd (upd H4 q3 (.lst ((lcs.map (·.begin_)).map V.int ++ (lcs.map (·.change)).map V.int))) q4 (.lst ((lcs.map (·.begin_)).map V.int ++ (lcs.map (·.change)).map V.int ++ stops.map V.int))) q4 = some (.lst ((stopsOf lcs stops).map V.int)) := by
    rw [upd_same]
    unfold stopsOf
    rw [List.map_append, List.map_append]
  have sH5 := sF.trans sA
  have S5 := SF.same sA
  have hf5 := sA _ _ hf
  generalize upd (upd H4 q3 (.lst ((lcs.map (·.begin_)).map V.int ++ (lcs.map (·.change)).map V.int))) q4 (.lst ((lcs.map (·.begin_)).map V.int ++ (lcs.map (·.change)).map V.int ++ stops.map V.int)) = H5 at h4e sH5 S5 hf5
  refine ⟨q4, _, rfl, SqL.of h4e, by unfold stopsOf; rw [List.length_append, List.length_append, List.length_map, List.length_map, l3, h4]; decide, fun ts q5 hperm hsort n5 => ?_⟩
  have hts : ∀ t ∈ ts, 0 ≤ t := fun t ht => by
    have h := hperm.mem_iff.mp ht
    unfold stopsOf at h
    rcases List.mem_append.mp h with h | h
    · rcases List.mem_append.mp h with h | h
      · obtain ⟨c, hc, rfl⟩ := List.mem_map.mp h
        exact (lok c hc).b0
      · obtain ⟨c, hc, rfl⟩ := List.mem_map.mp h
        have h1 := (lok c hc).b0
        have h2 := (lok c hc).c0
        show 0 ≤ c.change
        omega
    · exact (hst t h).1
  have hq := q ts
  have s6 := sH5.trans (same_upd (o := .lst (ts.map V.int)) n5)
  have S6 := S5.new (o := .lst (ts.map V.int)) n5
  have hf6 := same_upd (o := .lst (ts.map V.int)) n5 _ _ hf5
  have h56 : upd H5 q5 (.lst (ts.map V.int)) q5 = some (.lst (ts.map V.int)) := upd_same
  have q5d : q5 ∉ p :: ds := fun hm => by
    rcases List.mem_cons.mp hm with e | hm
    · obtain ⟨dx6, ob6⟩ := S6.ob
      rw [← e, h56] at ob6
      cases ob6
    · exact S6.lst h56 hm
  generalize upd H5 q5 (.lst (ts.map V.int)) = H6 at s6 S6 hf6 h56
  refine yForL (SqL.of h56) (fun i σ H' => ∃ f fs cs n bf u v w x, σ = [some (.ref a), some (.int goal), some (.ref b), some (.ref p), some (.ref f), some (.int bf), u, v, w, x] ∧ Keep (p :: ds) H6 H' ∧ Snd (He.ga K "LateSound") H' p l ds cs (some n) ∧ H' f = some (.lst (fs.map V.int)) ∧
      (fs.length : Int) ≤ n ∧ 0 ≤ n ∧ n ≤ goal ∧ (∀ c ∈ cs, okC c ∧ 0 ≤ c.count) ∧ lateF lcs goal (ts.drop i) (cs, n, fs, bf) = lateF lcs goal ts (cs0, 0, [], -1))
    ⟨f, [], cs0, 0, -1, none, none, none, none, rfl, .refl _ _, S6, hf6, Int.le_refl 0, Int.le_refl 0, hg.1, fun c hc => by
      have e : c = ch0 := by
        simp [cs0] at hc
        exact hc
      rw [e]
      exact ⟨ok_ch0, by decide⟩, by rw [List.drop_zero]⟩ (fun i σ H' _ ⟨_, _, _, _, _, _, _, _, _, _, k, _⟩ => SqL.of (k _ _ h56 q5d)) ?_ ?_
  · rintro i y σ H7 hy ⟨f, fs, cs, n, bf, u, v, w, x, rfl, k7, S7, hf7, hlen, n0, ng, okc, hM⟩
    rw [List.getElem?_map] at hy
    cases et : ts[i]? with
    | none =>
      rw [et] at hy
      cases hy
    | some t =>
      rw [et] at hy
      cases hy
      have ht0 := hts t (List.mem_of_getElem? et)
      rw [drop_at et] at hM
      have skip : ¬ (t < goal ∧ t ≠ bf) → ∃ f1 fs1 cs1 n1 bf1 u1 v1 w1 x1, ([some (.ref a), some (.int goal), some (.ref b), some (.ref p), some (.ref f), some (.int bf), some (.int t), v, w, x] : L2.St) = [some (.ref a), some (.int goal), some (.ref b), some (.ref p), some (.ref f1), some (.int bf1), u1, v1, w1, x1] ∧ Keep (p :: ds) H6 H7 ∧ Snd (He.ga K "LateSound") H7 p l ds cs1 (some n1) ∧ H7 f1 = some (.lst (fs1.map V.int)) ∧
          (fs1.length : Int) ≤ n1 ∧ 0 ≤ n1 ∧ n1 ≤ goal ∧ (∀ c ∈ cs1, okC c ∧ 0 ≤ c.count) ∧ lateF lcs goal (ts.drop (i + 1)) (cs1, n1, fs1, bf1) = lateF lcs goal ts (cs0, 0, [], -1) := fun hn =>
        ⟨f, fs, cs, n, bf, some (.int t), v, w, x, rfl, k7, S7, hf7, hlen, n0, ng, okc, by rw [← hM, lateF_skip hn]⟩
      repeat walk_at "s"
      refine iteD (fun h1 => ?_) (fun h1 => ?_)
      · repeat walk_at "s"
        refine iteDN (fun h2 => ?_) (fun h2 => ?_)
        · repeat walk_at "s"
          obtain ⟨dx7, ob7⟩ := id S7.ob
          refine yMe ob7 (sf_m _ _ (by decide +kernel) (by decide +kernel)) ?_
          repeat walk_at "s"
          obtain ⟨i1, i2, i3⟩ := liveTo_inv (goal := t) (n := n) okc
          rw [lateF_cons ⟨h1, h2⟩] at hM
          have hfd : f ∉ p :: ds := fun hm => by
            rcases List.mem_cons.mp hm with e | hm
            · rw [← e, hf7] at ob7
              cases ob7
            · exact S7.lst hf7 hm
          refine ⟨p, t, l, ds, cs, n, rfl, S7, ⟨n0, by omega⟩, fun c hc => (okc c hc).2, fun q8 H8 nq8 S8 k8 hq8 => ?_⟩
          have hf8 := k8 _ _ hf7 hfd
          generalize (liveTo t cs n).2.2 = more at hM i2 hq8
          generalize (liveTo t cs n).1 = cs8 at hM i3 S8
          generalize (liveTo t cs n).2.1 = n8 at hM i1 S8
          have n8a : n ≤ n8 ∧ t ≤ n8 ∧ n8 ≤ goal ∧ n8 - n = ((t - n).toNat : Int) := by
            rw [i1]
            split <;> omega
          have hml : (fs ++ more).length ≤ 200000 := by
            rw [List.length_append]
            omega
          refine yCat hf8 hq8 (by rw [List.length_map, List.length_map, ← List.length_append]; exact Nat.le_trans hml (by decide)) fun q9 n9 => ?_
          have S9 := S8.new (o := .lst (fs.map V.int ++ more.map V.int)) n9
          have k9 := k7.trans (k8.trans (.of_same (same_upd (o := .lst (fs.map V.int ++ more.map V.int)) n9)))
          have hf9 : upd H8 q9 (.lst (fs.map V.int ++ more.map V.int)) q9 = some (.lst ((fs ++ more).map V.int)) := by
            rw [List.map_append]
            exact upd_same
          generalize upd H8 q9 (.lst (fs.map V.int ++ more.map V.int)) = H9 at S9 k9 hf9
          have sH9 := Same.keep s6 k9 npd
          with_reducible refine xNm ?_
          with_reducible refine xSeq ?_
          refine xForLU ?_
          repeat walk_at "s"
          refine ⟨a, lcs, _, rfl, L.same sH9, fun g H10 s10 P => ?_⟩
          obtain ⟨us, hg10, hus⟩ := P
          have S10 := S9.same s10
          have k10 := k9.trans (.of_same s10)
          have hf10 := s10 _ _ hf9
          have hbd := lets_bd (now := t) l3 lok
          refine yForL (SqL.of hg10) (fun j σ H' => ∃ v w, σ = [some (.ref a), some (.int goal), some (.ref b), some (.ref p), some (.ref q9), some (.int bf), some (.int t), v, w, x] ∧ Keep ds H10 H' ∧ Snd (He.ga K "LateSound") H' p l ds (setsU ((letsM lcs t).take j) cs8) (some n8))
            ⟨v, w, rfl, .refl _ _, S10⟩ (fun j σ H' _ ⟨_, _, _, k, _⟩ => SqL.of (k _ _ hg10 (S10.lst hg10))) ?_ ?_
          · rintro j y σ H11 hy ⟨v, w, rfl, k11, S11⟩
            rw [List.getElem?_map] at hy
            cases eu : us[j]? with
            | none =>
              rw [eu] at hy
              cases hy
            | some t2 =>
              rw [eu] at hy
              cases hy
              obtain ⟨pr, hpr, ht2⟩ := paired_fst hus eu
              have hb2 := hbd pr (List.mem_of_getElem? hpr)
              refine yGT (SqT.of (k11 _ _ ht2 (S10.tup ht2))) rfl ?_
              repeat walk_at "s"
              obtain ⟨dx11, ob11⟩ := id S11.ob
              refine yMe ob11 (sf_m _ _ (by decide +kernel) (by decide +kernel)) ?_
              repeat walk_at "s"
              refine ⟨p, _, _, l, ds, _, _, rfl, S11, hb2.1, hb2.2, fun H12 S12 k12 => ?_⟩
              refine ⟨_, _, rfl, k11.trans k12, ?_⟩
              rw [sets_snoc hpr]
              exact S12
          · rintro σ H11 ⟨v, w, rfl, k11, S11⟩
            rw [List.length_map, paired_len hus, List.take_length] at S11
            have hf11 := k11 _ _ hf10 (S10.lst hf10)
            have k11' := k10.trans (k11.mono fun b hb => List.mem_cons_of_mem _ hb)
            repeat walk_at "s"
            refine ⟨q9, fs ++ more, _, n8, t, _, _, _, _, rfl, k11', S11, hf11, ?_, by omega, n8a.2.2.1, setsU_ok (fun p hp => (hbd p hp).2) i3, hM⟩
            rw [List.length_append]
            omega
        · repeat walk_at "s"
          exact skip fun h => h.2 h2
      · repeat walk_at "s"
        refine iteF ?_
        repeat walk_at "s"
        exact skip fun h => h1 h.1
  · rintro σ H7 ⟨f, fs, cs, n, bf, u, v, w, x, rfl, k7, S7, hf7, hlen, n0, ng, okc, hM⟩
    rw [List.length_map, List.drop_length] at hM
    have hM : (cs, n, fs, bf) = lateF lcs goal ts (cs0, 0, [], -1) := hM
    have hQ := fun q' H' => hq q' H' hperm hsort
    unfold lateM at hQ
    rw [← hM] at hQ
    simp only at hQ
    repeat walk_at "s"
    obtain ⟨dx7, ob7⟩ := id S7.ob
    refine yMe ob7 (sf_m _ _ (by decide +kernel) (by decide +kernel)) ?_
    repeat walk_at "s"
    obtain ⟨i1, i2, i3⟩ := liveTo_inv (goal := goal) (n := n) okc
    have hfd : f ∉ p :: ds := fun hm => by
      rcases List.mem_cons.mp hm with e | hm
      · rw [← e, hf7] at ob7
        cases ob7
      · exact S7.lst hf7 hm
    refine ⟨p, goal, l, ds, cs, n, rfl, S7, ⟨n0, by omega⟩, fun c hc => (okc c hc).2, fun q8 H8 nq8 S8 k8 hq8 => ?_⟩
    have hf8 := k8 _ _ hf7 hfd
    generalize (liveTo goal cs n).2.2 = more at hQ i2 hq8
    generalize (liveTo goal cs n).1 = cs8 at hQ i3 S8
    generalize (liveTo goal cs n).2.1 = n8 at hQ i1 S8
    have n8a : n8 = goal := by
      rw [i1]
      split <;> omega
    subst n8a
    have hml : (fs ++ more).length ≤ 200000 := by
      rw [List.length_append]
      omega
    refine yCat hf8 hq8 (by rw [List.length_map, List.length_map, ← List.length_append]; exact Nat.le_trans hml (by decide)) fun q9 n9 => ?_
    have S9 := S8.new (o := .lst (fs.map V.int ++ more.map V.int)) n9
    have k9 := k7.trans (k8.trans (.of_same (same_upd (o := .lst (fs.map V.int ++ more.map V.int)) n9)))
    have hf9 : upd H8 q9 (.lst (fs.map V.int ++ more.map V.int)) q9 = some (.lst ((fs ++ more).map V.int)) := by
      rw [List.map_append]
      exact upd_same
    generalize upd H8 q9 (.lst (fs.map V.int ++ more.map V.int)) = H9 at S9 k9 hf9
    repeat walk_at "s"
    obtain ⟨dx9, ob9⟩ := id S9.ob
    refine yMe ob9 (sf_m _ _ (by decide +kernel) (by decide +kernel)) ?_
    repeat walk_at "s"
    refine ⟨p, l, ds, _, n8, rfl, S9, ?_⟩
    repeat walk_at "s"
    refine iteDN (fun h => absurd rfl h) (fun _ => ?_)
    repeat walk_at "s"
    refine yMe ob9 (sf_m _ _ (by decide +kernel) (by decide +kernel)) ?_
    repeat walk_at "s"
    refine ⟨p, n8, l, ds, cs8, n8, rfl, S9, ⟨by omega, by omega⟩, fun c hc => (i3 c hc).2, fun q10 H10 nq10 S10 k10 hq10 => ?_⟩
    have eL : liveTo n8 cs8 n8 = (cs8, n8, []) := liveToF_end (by omega)
    rw [eL] at S10 hq10
    have hfd9 : q9 ∉ p :: ds := fun hm => by
      rcases List.mem_cons.mp hm with e | hm
      · rw [← e, hf9] at ob9
        cases ob9
      · exact S9.lst hf9 hm
    have hf10 := k10 _ _ hf9 hfd9
    have sH10 := Same.keep s6 (k9.trans k10) npd
    repeat walk_at "s"
    refine ⟨Nat.zero_le _, fun q11 n11 => ?_⟩
    have s11 := same_upd (o := .lst []) n11
    refine ⟨.list [], .list [], .lst (SqL.of (s11 _ _ hq10)) .nil, .lst (SqL.of upd_same) .nil, by decide +kernel, by decide +kernel, ?_⟩
    have S11 := S10.same s11
    have hf11 := s11 _ _ hf10
    have sH11 := sH10.trans s11
    generalize upd H10 q11 (.lst []) = H11 at S11 hf11 sH11
    have ee : (!PyData.eqv (.list []) (.list [])) = false := by decide +kernel
    rw [ee]
    repeat walk_at "s"
    refine iteF ?_
    repeat walk_at "s"
    obtain ⟨dx11, ob11⟩ := id S11.ob
    refine yMe ob11 (sf_m _ _ (by decide +kernel) (by decide +kernel)) ?_
    repeat walk_at "s"
    refine ⟨p, l, ds, _, _, rfl, S11, fun g H12 s12 T12 => ?_⟩
    repeat walk_at "s"
    have S12 := S11.same s12
    obtain ⟨dx12, ob12⟩ := id S12.ob
    refine yMe ob12 (sf_m _ _ (by decide +kernel) (by decide +kernel)) ?_
    repeat walk_at "s"
    refine ⟨p, l, ds, _, _, rfl, S12, fun H13 s13 => ?_⟩
    repeat walk_at "s"
    refine ⟨Nat.le_of_ble_eq_true rfl, fun t nt => ?_⟩
    have sA := s13.trans (same_upd (o := .tup [.ref q9, .ref g, .int (onU cs8)]) nt)
    exact hQ t _ (sH11.trans (s12.trans sA)) ⟨q9, g, upd_same, sA _ _ (s12 _ _ hf11), T12.same sA⟩
end K61
/-! Mt61: what the channels come to, in numbers alone. -/
namespace K61
open PySem PySem.Spec PyProof.Rows L2 Kx
/-! ### the row of bits -/
theorem rowM_eq (t : Nat) : rowM (t : Int) = nz t + 2 * nz (t + 1) + 4 * nz (t + 2) + 8 * nz (t + 3) + 16 * nz (t + 4) + 32 * nz (t + 5) + 64 * nz (t + 6) + 128 * nz (t + 7) + 256 * nz (t + 8) + 512 * nz (t + 9) + 1024 * nz (t + 10) + 2048 * nz (t + 11) + 4096 * nz (t + 12) + 8192 * nz (t + 13) + 16384 * nz (t + 14) := by
  unfold rowM
  rw [show ((t : Int)).toNat = t from rfl, show List.range 15 = [0, 1, 2, 3, 4, 5, 6, 7, 8, 9, 10, 11, 12, 13, 14] from rfl]
  simp only [List.map_cons, List.map_nil, List.sum_cons, List.sum_nil]
  rw [show pw 0 = 1 from rfl, show pw 1 = 2 from rfl, show pw 2 = 4 from rfl, show pw 3 = 8 from rfl, show pw 4 = 16 from rfl, show pw 5 = 32 from rfl, show pw 6 = 64 from rfl, show pw 7 = 128 from rfl, show pw 8 = 256 from rfl, show pw 9 = 512 from rfl, show pw 10 = 1024 from rfl, show pw 11 = 2048 from rfl, show pw 12 = 4096 from rfl, show pw 13 = 8192 from rfl, show pw 14 = 16384 from rfl]
  rw [Nat.add_zero]
  omega
theorem nz_bd (n : Nat) : 0 ≤ nz n ∧ nz n ≤ 1 := by
  rcases nz_bit n with h | h <;> rw [h] <;> decide
theorem row_step (t : Nat) : rowM ((t + 1 : Nat) : Int) = rowM (t : Int) / 2 + 16384 * ((rowM (t : Int) + rowM (t : Int) / 2) % 2) := by
  rw [rowM_eq, rowM_eq]
  have h := nz_next t
  rw [show t + 1 + 14 = 15 + t from by omega, h]
  rw [show t + 1 + 1 = t + 2 from rfl, show t + 1 + 2 = t + 3 from rfl, show t + 1 + 3 = t + 4 from rfl, show t + 1 + 4 = t + 5 from rfl, show t + 1 + 5 = t + 6 from rfl, show t + 1 + 6 = t + 7 from rfl, show t + 1 + 7 = t + 8 from rfl, show t + 1 + 8 = t + 9 from rfl, show t + 1 + 9 = t + 10 from rfl, show t + 1 + 10 = t + 11 from rfl, show t + 1 + 11 = t + 12 from rfl, show t + 1 + 12 = t + 13 from rfl, show t + 1 + 13 = t + 14 from rfl]
  have b0 := nz_bd t
  generalize nz t = a0 at *
  generalize nz (t + 1) = a1
  generalize nz (t + 2) = a2
  generalize nz (t + 3) = a3
  generalize nz (t + 4) = a4
  generalize nz (t + 5) = a5
  generalize nz (t + 6) = a6
  generalize nz (t + 7) = a7
  generalize nz (t + 8) = a8
  generalize nz (t + 9) = a9
  generalize nz (t + 10) = a10
  generalize nz (t + 11) = a11
  generalize nz (t + 12) = a12
  generalize nz (t + 13) = a13
  generalize nz (t + 14) = a14
  omega
theorem row_bit (t : Nat) : rowM (t : Int) % 2 = nz t := by
  rw [rowM_eq]
  have b0 := nz_bd t
  omega
/-! ### division by the period -/
theorem div_turn {c p : Int} (hp : 0 < p) (h : c % p = p - 1) : (c + 1) / p = c / p + 1 ∧ (c + 1) % p = 0 := by
  have e := Int.emod_add_mul_ediv c p
  rw [Int.ediv_emod_unique hp]
  refine ⟨?_, Int.le_refl 0, hp⟩
  rw [Int.mul_add]
  omega
theorem div_stay {c p : Int} (hp : 0 < p) (h : ¬ c % p = p - 1) : (c + 1) / p = c / p ∧ (c + 1) % p = c % p + 1 := by
  have e := Int.emod_add_mul_ediv c p
  have h0 := Int.emod_nonneg c (b := p) (by omega)
  have h1 := Int.emod_lt_of_pos c hp
  rw [Int.ediv_emod_unique hp]
  refine ⟨by omega, by omega, by omega⟩
/-! ### what is let -/
def setC (k : Int) (c : LCh) (now : Int) (x : Ch) : Ch := (letsOf k c now).foldl (fun x p => letC (p.1 % 4) p.2 x) x
theorem letC0 {b : Int} {x : Ch} {w : Int} (h : w = 0) : letC w b x = { x with period := if b = 0 then 256 else b } := by subst h; rfl
theorem letC1 {b : Int} {x : Ch} {w : Int} (h : w = 1) : letC w b x = { x with volume := b % 16 } := by subst h; rfl
theorem letC2 {b : Int} {x : Ch} {w : Int} (h : w = 2) : letC w b x = { x with length := b } := by subst h; rfl
theorem letC3 {b : Int} {x : Ch} {w : Int} (h : w = 3) : letC w b x = { x with count := x.period, left := x.length, on := true, phase := 0 } := by subst h; rfl
theorem set_begin {k now : Int} {c : LCh} {x : Ch} (ok : LcOk c) (h : c.begin_ = now) : setC k c now x = ⟨c.period, c.length, c.length, true, c.period, 0, x.row, if c.change = now then c.other % 16 else c.volume⟩ := by
  have hp : (if c.period % 256 = 0 then 256 else c.period % 256) = c.period := by
    have := ok.p0
    have := ok.p1
    split <;> omega
  have hv : (c.volume + 16 * k) % 16 = c.volume := by
    have := ok.v0
    have := ok.v1
    omega
  unfold setC letsOf
  rw [if_pos h, List.foldl_append]
  simp only [List.foldl_cons, List.foldl_nil]
  rw [letC2 (by omega : (4 * k + 2) % 4 = 2), letC0 (by omega : (4 * k) % 4 = 0), letC1 (by omega : (4 * k + 1) % 4 = 1), letC3 (by omega : (4 * k + 3) % 4 = 3)]
  simp only
  rw [hp, hv]
  by_cases h2 : c.change = now
  · rw [if_pos h2, if_pos h2]
    simp only [List.foldl_cons, List.foldl_nil]
    rw [letC1 (by omega : (4 * k + 1) % 4 = 1)]
  · rw [if_neg h2, if_neg h2]
    rfl
theorem set_else {k now : Int} {c : LCh} {x : Ch} (h : ¬ c.begin_ = now) : setC k c now x = if c.change = now then { x with volume := c.other % 16 } else x := by
  unfold setC letsOf
  rw [if_neg h, List.nil_append]
  by_cases h2 : c.change = now
  · rw [if_pos h2, if_pos h2]
    simp only [List.foldl_cons, List.foldl_nil]
    rw [letC1 (by omega : (4 * k + 1) % 4 = 1)]
  · rw [if_neg h2, if_neg h2]
    rfl
/-! ### one channel -/
def midM (k : Int) (c : LCh) (n : Int) : Ch := ⟨c.period - cycM c n % c.period, leftM c n, c.length, !offM c n, c.period, phM k (cycM c n / c.period), if k = 2 then rowM (cycM c n / c.period) else 1, volM c n⟩
theorem left_begin {c : LCh} (ok : LcOk c) : leftM c c.begin_ = c.length := by
  have := ok.l0
  unfold leftM
  split <;> omega
theorem off_begin {c : LCh} (ok : LcOk c) : offM c c.begin_ = false := by
  unfold offM
  rw [left_begin ok]
  by_cases h : c.length = 0
  · rw [h]
    rfl
  · rw [decide_eq_false h, Bool.and_false]
theorem ph_zero (k : Int) : phM k 0 = 0 := by
  unfold phM
  rw [show (if (0 : Int) < 0 then (1 : Int) else 0) = 0 from rfl, Int.mul_zero]
  split <;> rfl
theorem row_zero : rowM 0 = 1 := by
  have h := rowM_eq 0
  have e : ∀ n : Nat, 0 < n → n < 15 → nz n = 0 := fun n h1 h2 => by
    cases n with
    | zero => omega
    | succ n => rw [nz, dif_pos h2]
  have h0 : nz 0 = 1 := by rw [nz]
  rw [h0, e (0 + 1) (by decide) (by decide), e (0 + 2) (by decide) (by decide), e (0 + 3) (by decide) (by decide), e (0 + 4) (by decide) (by decide), e (0 + 5) (by decide) (by decide), e (0 + 6) (by decide) (by decide), e (0 + 7) (by decide) (by decide), e (0 + 8) (by decide) (by decide), e (0 + 9) (by decide) (by decide), e (0 + 10) (by decide) (by decide), e (0 + 11) (by decide) (by decide), e (0 + 12) (by decide) (by decide), e (0 + 13) (by decide) (by decide), e (0 + 14) (by decide) (by decide)] at h
  exact h
theorem set_mid {k n : Int} {c : LCh} (ok : LcOk c) (hb : c.begin_ ≤ n) : setC k c n (endM k c n) = midM k c n := by
  have hc0 := ok.c0
  by_cases h : c.begin_ = n
  · rw [set_begin ok h]
    subst h
    unfold endM
    rw [if_pos (Int.le_refl _)]
    unfold midM cycM
    rw [off_begin ok, left_begin ok]
    have hz : c.begin_ - c.begin_ = 0 := by omega
    simp only [Bool.false_eq_true, if_false]
    rw [hz, Int.zero_emod, Int.zero_ediv, ph_zero, row_zero]
    unfold volM
    have e : (c.change ≤ c.begin_) = (c.change = c.begin_) := by
      apply propext
      omega
    simp only [e, Int.sub_zero, Bool.not_false, ite_self]
    rfl
  · rw [set_else h]
    unfold endM
    rw [if_neg (show ¬ n ≤ c.begin_ by omega)]
    unfold midM
    by_cases h2 : c.change = n
    · rw [if_pos h2]
      unfold volM
      rw [if_pos (show c.change ≤ n by omega)]
    · rw [if_neg h2]
      unfold volM
      have e : (c.change ≤ n - 1) = (c.change ≤ n) := by
        apply propext
        omega
      simp only [e]
theorem off_iff {c : LCh} {n : Int} (ok : LcOk c) (hb : c.begin_ ≤ n) : offM c n = true ↔ 0 < c.length ∧ c.length ≤ n / 32 - c.begin_ / 32 := by
  unfold offM leftM
  rw [Bool.and_eq_true, decide_eq_true_eq, decide_eq_true_eq]
  constructor
  · rintro ⟨h1, h2⟩
    split at h2 <;> omega
  · rintro ⟨h1, h2⟩
    refine ⟨h1, ?_⟩
    rw [if_neg (by omega)]
/-- a cycle of a channel that is on -/
theorem live_mid {k n : Int} {c : LCh} (ok : LcOk c) (hb : c.begin_ ≤ n) (hon : offM c n = false) (h0 : 0 ≤ n) : liveC k (midM k c n) =
    ⟨c.period - (n + 1 - c.begin_) % c.period, leftM c n, c.length, true, c.period, phM k ((n + 1 - c.begin_) / c.period), if k = 2 then rowM ((n + 1 - c.begin_) / c.period) else 1, volM c n⟩ := by
  have p0 := ok.p0
  have b0 := ok.b0
  have ec : cycM c n = n - c.begin_ := by
    unfold cycM
    rw [hon]
    rfl
  unfold midM
  rw [ec, hon]
  unfold liveC
  simp only [Bool.not_false, if_true]
  have e1 : n + 1 - c.begin_ = (n - c.begin_) + 1 := by omega
  rw [e1]
  have hc : 0 ≤ n - c.begin_ := by omega
  generalize n - c.begin_ = cyc at hc
  have h0 := Int.emod_nonneg cyc (b := c.period) (by omega)
  have h1 := Int.emod_lt_of_pos cyc p0
  obtain ⟨t, et⟩ : ∃ t : Nat, cyc / c.period = (t : Int) := ⟨(cyc / c.period).toNat, by
    have := Int.ediv_nonneg hc (Int.le_of_lt p0)
    omega⟩
  by_cases h : cyc % c.period = c.period - 1
  · obtain ⟨d1, d2⟩ := div_turn p0 h
    rw [if_pos (by omega), d1, d2, et]
    unfold turnC
    by_cases hk : k = 2
    · rw [if_pos hk]
      simp only [if_pos hk]
      have hr := row_step t
      rw [show ((t + 1 : Nat) : Int) = (t : Int) + 1 from rfl] at hr
      rw [← hr]
      unfold phM
      rw [if_pos hk, show ((t : Int) + 1).toNat = t + 1 from rfl, if_pos (by omega), Int.mul_one, ← row_bit]
      rw [Int.sub_zero]
      rfl
    · rw [if_neg hk]
      simp only [if_neg hk]
      unfold phM
      rw [if_neg hk, if_neg hk, Int.sub_zero]
      congr 1
      omega
  · obtain ⟨d1, d2⟩ := div_stay p0 h
    rw [if_neg (by omega), d1, d2]
    congr 1
    omega
theorem end_step {k n : Int} {c : LCh} (ok : LcOk c) (h0 : 0 ≤ n) : endM k c (n + 1) = (if n % 32 = 31 then sampC (liveC k (setC k c n (endM k c n))) else liveC k (setC k c n (endM k c n))) := by
  have hc0 := ok.c0
  have b0 := ok.b0
  have l0 := ok.l0
  by_cases hb : c.begin_ ≤ n
  · rw [set_mid ok hb]
    have en : endM k c (n + 1) = ⟨c.period - cycM c (n + 1) % c.period, leftM c (n + 1), c.length, !offM c (n + 1), c.period, phM k (cycM c (n + 1) / c.period), if k = 2 then rowM (cycM c (n + 1) / c.period) else 1, volM c n⟩ := by
      unfold endM
      rw [if_neg (by omega), show n + 1 - 1 = n from by omega]
    rw [en]
    cases hoff : offM c n with
    | true =>
      have h := (off_iff ok hb).mp hoff
      have h2 : offM c (n + 1) = true := (off_iff ok (by omega)).mpr ⟨h.1, by omega⟩
      have el : leftM c (n + 1) = leftM c n := by
        unfold leftM
        rw [if_neg (by omega), if_neg (by omega)]
      have ec : cycM c (n + 1) = cycM c n := by
        unfold cycM
        rw [h2, hoff]
        rfl
      have e1 : liveC k (midM k c n) = midM k c n := by
        unfold liveC midM
        rw [hoff]
        rfl
      have e2 : sampC (midM k c n) = midM k c n := by
        unfold sampC midM
        rw [hoff]
        rfl
      rw [e1, e2, ite_self, el, ec, h2]
      unfold midM
      rw [hoff]
    | false =>
      rw [live_mid ok hb hoff h0]
      have hn : ¬ (0 < c.length ∧ c.length ≤ n / 32 - c.begin_ / 32) := fun h => by
        rw [(off_iff ok hb).mpr h] at hoff
        cases hoff
      by_cases h31 : n % 32 = 31
      · rw [if_pos h31]
        unfold sampC
        simp only [if_true]
        by_cases hl : 0 < c.length
        · have hlf : leftM c n = c.length - (n / 32 - c.begin_ / 32) := by
            unfold leftM
            rw [if_pos (by omega)]
          have hlf2 : leftM c (n + 1) = leftM c n - 1 := by
            rw [hlf]
            unfold leftM
            split <;> omega
          have hpos : 0 < leftM c n := by omega
          rw [if_pos hpos, ← hlf2]
          have ho : offM c (n + 1) = !decide (0 < leftM c (n + 1)) := by
            unfold offM
            rw [decide_eq_true hl, Bool.true_and]
            by_cases hz : leftM c (n + 1) = 0
            · rw [hz]
              rfl
            · rw [decide_eq_false hz, decide_eq_true (by omega)]
              rfl
          have ec : cycM c (n + 1) = n + 1 - c.begin_ := by
            unfold cycM
            split
            · rename_i hx
              have hy := (off_iff ok (n := n + 1) (by omega)).mp hx
              omega
            · rfl
          rw [ec, ho, Bool.not_not]
        · have hl0 : c.length = 0 := by omega
          have hlf : leftM c n = 0 := by
            unfold leftM
            rw [if_neg (by omega)]
          have hlf2 : leftM c (n + 1) = 0 := by
            unfold leftM
            rw [if_neg (by omega)]
          have ho : offM c (n + 1) = false := by
            unfold offM
            rw [decide_eq_false (by omega)]
            rfl
          have ec : cycM c (n + 1) = n + 1 - c.begin_ := by
            unfold cycM
            rw [ho]
            rfl
          rw [hlf, if_neg (show ¬ (0 : Int) < 0 by decide), hlf2, ho, ec]
          rfl
      · rw [if_neg h31]
        have eg : (n + 1) / 32 = n / 32 := by omega
        have hlf : leftM c (n + 1) = leftM c n := by
          unfold leftM
          rw [eg]
        have ho : offM c (n + 1) = false := by
          rw [← hoff]
          unfold offM
          rw [hlf]
        have ec : cycM c (n + 1) = n + 1 - c.begin_ := by
          unfold cycM
          rw [ho]
          rfl
        rw [ec, ho, hlf]
        rfl
  · rw [set_else (by omega), if_neg (show ¬ c.change = n by omega)]
    have e0 : endM k c n = ch0 := by
      unfold endM
      rw [if_pos (by omega)]
    have e1 : endM k c (n + 1) = ch0 := by
      unfold endM
      rw [if_pos (by omega)]
    rw [e0, e1]
    have e2 : liveC k ch0 = ch0 := rfl
    have e3 : sampC ch0 = ch0 := rfl
    rw [e2, e3, ite_self]
theorem end_value {k n : Int} {c : LCh} (ok : LcOk c) (h0 : 0 ≤ n) (h31 : n % 32 = 31) : valC (liveC k (setC k c n (endM k c n))) = smpC k c (n / 32) := by
  have hc0 := ok.c0
  have b0 := ok.b0
  have l0 := ok.l0
  have en : 32 * (n / 32) + 31 = n := by omega
  unfold smpC
  rw [en]
  by_cases hb : c.begin_ ≤ n
  · rw [set_mid ok hb]
    cases hoff : offM c n with
    | true =>
      have h := (off_iff ok hb).mp hoff
      have e1 : liveC k (midM k c n) = midM k c n := by
        unfold liveC midM
        rw [hoff]
        rfl
      rw [e1, if_neg (by omega)]
      unfold valC midM
      rw [hoff]
      rfl
    | false =>
      have hn : ¬ (0 < c.length ∧ c.length ≤ n / 32 - c.begin_ / 32) := fun h => by
        rw [(off_iff ok hb).mpr h] at hoff
        cases hoff
      rw [live_mid ok hb hoff h0, if_pos (show c.begin_ ≤ n ∧ (c.length = 0 ∨ n / 32 - c.begin_ / 32 < c.length) from ⟨hb, by omega⟩), show n - c.begin_ + 1 = n + 1 - c.begin_ from by omega]
      unfold valC
      rw [if_pos rfl]
  · rw [set_else (by omega), if_neg (show ¬ c.change = n by omega), if_neg (show ¬ (c.begin_ ≤ n ∧ (c.length = 0 ∨ n / 32 - c.begin_ / 32 < c.length)) from fun h => hb h.1)]
    unfold endM
    rw [if_pos (show n ≤ c.begin_ by omega)]
    rfl
end K61
/-! Mt61b: both runs, in numbers alone. -/
namespace K61
open PySem PySem.Spec PyProof.Rows L2 Kx
/-! ### the lets of all three -/
theorem sets_modify (i : Nat) (hi : i < 3) : ∀ (ps : List (Int × Int)) (cs : List Ch), (∀ p ∈ ps, 4 * (i : Int) ≤ p.1 ∧ p.1 < 4 * (i : Int) + 4) → setsU ps cs = cs.modify i (fun x => ps.foldl (fun x p => letC (p.1 % 4) p.2 x) x)
  | [], cs, _ => by
    show cs = cs.modify i (fun x => x)
    apply List.ext_getElem?
    intro j
    rw [List.getElem?_modify]
    cases cs[j]? <;> simp
  | p :: ps, cs, h => by
    have hp := h p List.mem_cons_self
    show setsU ps (letU p.1 p.2 cs) = _
    rw [sets_modify i hi ps _ fun q hq => h q (List.mem_cons_of_mem _ hq)]
    unfold letU
    rw [if_pos (by omega), show (p.1 / 4).toNat = i from by omega, List.modify_modify_eq]
    rfl
theorem letsOf_in {i : Int} {c : LCh} {now : Int} : ∀ p ∈ letsOf i c now, 4 * i ≤ p.1 ∧ p.1 < 4 * i + 4 := by
  intro p hp
  unfold letsOf at hp
  rcases List.mem_append.mp hp with h | h
  · split at h
    · simp only [List.mem_cons, List.not_mem_nil, or_false] at h
      rcases h with h | h | h | h <;> subst h <;> simp only <;> omega
    · cases h
  · split at h
    · simp only [List.mem_cons, List.not_mem_nil, or_false] at h
      subst h
      simp only
      omega
    · cases h
theorem sets_app (ps qs : List (Int × Int)) (cs : List Ch) : setsU (ps ++ qs) cs = setsU qs (setsU ps cs) := by
  unfold setsU
  rw [List.foldl_append]
theorem sets_three (a b c : LCh) (now : Int) (x y z : Ch) : setsU (letsM [a, b, c] now) [x, y, z] = [setC 0 a now x, setC 1 b now y, setC 2 c now z] := by
  show setsU (letsOf ((0 : Nat) : Int) a now ++ (letsOf ((1 : Nat) : Int) b now ++ (letsOf ((2 : Nat) : Int) c now ++ []))) [x, y, z] = _
  rw [sets_app, sets_app, List.append_nil, sets_modify 0 (by decide) _ _ letsOf_in, sets_modify 1 (by decide) _ _ letsOf_in, sets_modify 2 (by decide) _ _ letsOf_in]
  rfl
theorem plain_three {a b c : LCh} (oa : LcOk a) (ob : LcOk b) (oc : LcOk c) : ∀ n : Nat, plainF [a, b, c] n = (endsM [a, b, c] (n : Int), (List.range (n / 32)).map fun j : Nat => smpM [a, b, c] (j : Int))
  | 0 => by
    have h : ∀ (k : Int) (c : LCh), LcOk c → endM k c 0 = ch0 := fun k c ok => by
      unfold endM
      rw [if_pos ok.b0]
    show (cs0, []) = ([endM 0 a 0, endM 1 b 0, endM 2 c 0], [])
    rw [h 0 a oa, h 1 b ob, h 2 c oc]
    rfl
  | n + 1 => by
    have n0 : (0 : Int) ≤ (n : Int) := by omega
    have ea := end_step (k := 0) oa n0
    have eb := end_step (k := 1) ob n0
    have ec := end_step (k := 2) oc n0
    unfold plainF
    rw [plain_three oa ob oc n]
    simp only
    rw [show endsM [a, b, c] (n : Int) = [endM 0 a n, endM 1 b n, endM 2 c n] from rfl, sets_three]
    rw [show endsM [a, b, c] ((n + 1 : Nat) : Int) = [endM 0 a ((n : Int) + 1), endM 1 b ((n : Int) + 1), endM 2 c ((n : Int) + 1)] from rfl, ea, eb, ec]
    unfold liveU
    by_cases h31 : (n : Int) % 32 = 31
    · simp only [if_pos h31]
      have e2 : (n + 1) / 32 = n / 32 + 1 := by omega
      rw [e2, List.range_succ, List.map_append]
      have va := end_value (k := 0) oa n0 h31
      have vb := end_value (k := 1) ob n0 h31
      have vc := end_value (k := 2) oc n0 h31
      have es : sumU (eachC liveC [setC 0 a n (endM 0 a n), setC 1 b n (endM 1 b n), setC 2 c n (endM 2 c n)]) = smpM [a, b, c] (((n / 32 : Nat)) : Int) := by
        show [valC (liveC 0 (setC 0 a n (endM 0 a n))), valC (liveC 1 (setC 1 b n (endM 1 b n))), valC (liveC 2 (setC 2 c n (endM 2 c n)))].sum = _
        rw [va, vb, vc]
        rfl
      rw [es]
      rfl
    · simp only [if_neg h31]
      have e2 : (n + 1) / 32 = n / 32 := by omega
      rw [e2]
      rfl
theorem plain_eq {lcs : List LCh} (l3 : lcs.length = 3) (ok : ∀ c ∈ lcs, LcOk c) (n : Nat) : plainF lcs n = (endsM lcs (n : Int), (List.range (n / 32)).map fun j : Nat => smpM lcs (j : Int)) := by
  match lcs, l3 with
  | [a, b, c], _ => exact plain_three (ok a (by simp)) (ok b (by simp)) (ok c (by simp)) n
/-! ### free runs -/
def GC (c : Ch) : Prop := okC c ∧ (c.on = true → 1 ≤ c.count)
def freeS (now : Int) (r : List Ch × List Int) : List Ch × List Int := (liveU now r.1, if now % 32 = 31 then r.2 ++ [sumU (eachC liveC r.1)] else r.2)
def freeF : Nat → Int → List Ch × List Int → List Ch × List Int
  | 0, _, r => r
  | m + 1, n, r => freeS (n + (m : Int)) (freeF m n r)
theorem free_add (m : Nat) (n : Int) (r : List Ch × List Int) : ∀ k : Nat, freeF (m + k) n r = freeF k (n + (m : Int)) (freeF m n r)
  | 0 => rfl
  | k + 1 => by
    show freeS (n + ((m + k : Nat) : Int)) (freeF (m + k) n r) = freeS (n + (m : Int) + (k : Int)) (freeF k (n + (m : Int)) (freeF m n r))
    rw [free_add m n r k]
    congr 1
    omega
theorem free_app (n : Int) (cs : List Ch) (fs : List Int) : ∀ m : Nat, freeF m n (cs, fs) = ((freeF m n (cs, [])).1, fs ++ (freeF m n (cs, [])).2)
  | 0 => by
    show (cs, fs) = (cs, fs ++ [])
    rw [List.append_nil]
  | m + 1 => by
    show freeS (n + (m : Int)) (freeF m n (cs, fs)) = ((freeS (n + (m : Int)) (freeF m n (cs, []))).1, fs ++ (freeS (n + (m : Int)) (freeF m n (cs, []))).2)
    rw [free_app n cs fs m]
    unfold freeS
    simp only
    split
    · rw [List.append_assoc]
    · rfl
theorem each_each (f g : Int → Ch → Ch) (cs : List Ch) : eachC f (eachC g cs) = eachC (fun k c => f k (g k c)) cs := by
  unfold eachC
  rw [List.mapIdx_mapIdx]
  rfl
theorem each_congr {f g : Int → Ch → Ch} {cs : List Ch} (h : ∀ i c, c ∈ cs → f i c = g i c) : eachC f cs = eachC g cs := by
  unfold eachC
  apply List.ext_getElem?
  intro j
  rw [List.getElem?_mapIdx, List.getElem?_mapIdx]
  cases e : cs[j]? with
  | none => rfl
  | some c => exact congrArg some (h _ c (List.mem_of_getElem? e))
theorem each_same {f : Int → Ch → Ch} {cs : List Ch} (h : ∀ i c, c ∈ cs → f i c = c) : eachC f cs = cs := by
  unfold eachC
  apply List.ext_getElem?
  intro j
  rw [List.getElem?_mapIdx]
  cases e : cs[j]? with
  | none => rfl
  | some c => exact congrArg some (h _ c (List.mem_of_getElem? e))
theorem pass_zero {k : Int} {c : Ch} (g : GC c) : passC k 0 c = c := by
  unfold passC
  split
  · rename_i hon
    have h1 := g.2 hon
    have e1 : endsN 0 c.count c.period = 0 := by
      unfold endsN
      rw [if_pos (by omega)]
    have e2 : endsC 0 c.count c.period = c.count := by
      unfold endsC
      rw [if_pos (by omega)]
      omega
    rw [e1, e2]
    have hp := g.1.2.2.2.2
    have e3 : (c.phase + 0) % 2 = c.phase := by omega
    simp only
    rw [e3]
    split
    · rfl
    · rfl
  · rfl
theorem pass_step {k : Int} {c : Ch} (g : GC c) (m : Nat) : passC k ((m + 1 : Nat) : Int) c = liveC k (passC k (m : Int) c) := by
  cases hon : c.on with
  | false =>
    have e : ∀ z, passC k z c = c := fun z => by
      unfold passC
      rw [hon]
      rfl
    rw [e, e]
    unfold liveC
    rw [hon]
    rfl
  | true =>
    have h1 := g.2 hon
    have p0 := g.1.2.2.1
    have hp := g.1.2.2.2.2
    have em : ((m + 1 : Nat) : Int) = (m : Int) + 1 := rfl
    rw [em]
    have hm : (0 : Int) ≤ (m : Int) := by omega
    generalize (m : Int) = z at hm
    -- the ends
    have key : (endsC z c.count c.period - 1 = 0 ∧ endsN (z + 1) c.count c.period = endsN z c.count c.period + 1 ∧ endsC (z + 1) c.count c.period = c.period) ∨
        (¬ endsC z c.count c.period - 1 = 0 ∧ endsN (z + 1) c.count c.period = endsN z c.count c.period ∧ endsC (z + 1) c.count c.period = endsC z c.count c.period - 1) := by
      unfold endsC endsN
      by_cases ha : z + 1 < c.count
      · rw [if_pos ha, if_pos ha, if_pos (by omega), if_pos (by omega)]
        exact .inr ⟨by omega, rfl, by omega⟩
      · rw [if_neg ha, if_neg ha]
        by_cases hb : z < c.count
        · rw [if_pos hb, if_pos hb]
          have e0 : z + 1 - c.count = 0 := by omega
          rw [e0, Int.zero_ediv, Int.zero_emod]
          exact .inl ⟨by omega, rfl, by omega⟩
        · rw [if_neg hb, if_neg hb]
          have e0 : z + 1 - c.count = (z - c.count) + 1 := by omega
          rw [e0]
          have hw : 0 ≤ z - c.count := by omega
          generalize z - c.count = w at hw
          by_cases hr : w % c.period = c.period - 1
          · obtain ⟨d1, d2⟩ := div_turn p0 hr
            rw [d1, d2]
            exact .inl ⟨by omega, by omega, by omega⟩
          · obtain ⟨d1, d2⟩ := div_stay p0 hr
            rw [d1, d2]
            have := Int.emod_lt_of_pos w p0
            exact .inr ⟨by omega, rfl, by omega⟩
    have n0 := ends_nn (cycles := z) (count := c.count) p0
    generalize e1 : endsC z c.count c.period = c1 at key
    generalize e2 : endsN z c.count c.period = n1 at key n0
    obtain ⟨t, rfl⟩ : ∃ t : Nat, n1 = (t : Int) := ⟨n1.toNat, by omega⟩
    have ht : ((t : Int)).toNat = t := rfl
    have ht1 : ((t : Int) + 1).toNat = t + 1 := rfl
    obtain ⟨count, left, length, on, period, phase, row, volume⟩ := c
    simp only at hon hp p0 key e1 e2
    subst hon
    unfold passC
    simp only [if_true]
    rw [e1, e2]
    have hq : (phase + ((t : Int) + 1)) % 2 = 1 - (phase + (t : Int)) % 2 := by omega
    rcases key with ⟨k1, k2, k3⟩ | ⟨k1, k2, k3⟩
    · rw [k2, k3]
      by_cases hk : k = 2
      · simp only [if_pos hk, if_true]
        rw [if_pos (by omega), ht1, row_snoc]
        by_cases h0 : 0 < (t : Int)
        · rw [if_pos h0, ht]
          unfold liveC
          simp only [if_true]
          rw [if_pos k1, turn_yes hk]
        · have e0 : t = 0 := by omega
          subst e0
          rw [if_neg h0]
          unfold liveC
          simp only [if_true]
          rw [if_pos k1, turn_yes hk]
          rfl
      · simp only [if_neg hk, if_true]
        unfold liveC
        simp only [if_true]
        rw [if_pos k1, turn_no hk, hq]
    · rw [k2, k3]
      by_cases hk : k = 2
      · simp only [if_pos hk, if_true]
        split
        · unfold liveC
          simp only [if_true]
          rw [if_neg k1]
        · unfold liveC
          simp only [if_true]
          rw [if_neg k1]
      · simp only [if_neg hk, if_true]
        unfold liveC
        simp only [if_true]
        rw [if_neg k1]
theorem G_pass {k m : Int} {c : Ch} (g : GC c) : GC (passC k m c) := by
  have p0 := g.1.2.2.1
  refine ⟨ok_pass g.1 (ends_nn p0), fun hon => ?_⟩
  cases ho : c.on with
  | false =>
    unfold passC at hon
    rw [ho] at hon
    simp only [Bool.false_eq_true, if_false] at hon
    rw [ho] at hon
    cases hon
  | true =>
    have h1 := g.2 ho
    have hc : 1 ≤ endsC m c.count c.period := by
      unfold endsC
      have := Int.emod_lt_of_pos (m - c.count) p0
      split <;> omega
    unfold passC
    rw [if_pos ho]
    simp only
    split
    · split <;> exact hc
    · exact hc
theorem G_samp {c : Ch} (g : GC c) : GC (sampC c) := by
  refine ⟨ok_samp g.1, fun hon => ?_⟩
  unfold sampC at hon ⊢
  cases ho : c.on with
  | false =>
    rw [ho] at hon
    simp only [Bool.false_eq_true, if_false] at hon
    rw [ho] at hon
    cases hon
  | true =>
    simp only [if_true]
    split <;> exact g.2 ho
theorem G_let {w b : Int} {c : Ch} (hb : 0 ≤ b ∧ b < 256) (g : GC c) : GC (letC w b c) := by
  refine ⟨ok_let g.1 hb, ?_⟩
  unfold letC
  split
  · exact g.2
  split
  · exact g.2
  split
  · exact g.2
  · intro _
    have := g.1.2.2.1
    show 1 ≤ c.period
    omega
theorem G_live {k : Int} {c : Ch} (g : GC c) : GC (liveC k c) := by
  refine ⟨ok_live g.1, ?_⟩
  have p0 := g.1.2.2.1
  unfold liveC
  cases ho : c.on with
  | false =>
    simp only [Bool.false_eq_true, if_false]
    rw [ho]
    intro h
    cases h
  | true =>
    have h1 := g.2 ho
    simp only [if_true]
    split
    · intro _
      unfold turnC
      split
      · show 1 ≤ c.period
        omega
      · show 1 ≤ c.period
        omega
    · intro _
      show 1 ≤ c.count - 1
      omega
theorem G_setsU : ∀ {ps : List (Int × Int)} {cs : List Ch}, (∀ p ∈ ps, 0 ≤ p.2 ∧ p.2 < 256) → (∀ c ∈ cs, GC c) → ∀ c ∈ setsU ps cs, GC c
  | [], cs, _, h => h
  | p :: ps, cs, hb, h => G_setsU (ps := ps) (cs := letU p.1 p.2 cs) (fun q hq => hb q (List.mem_cons_of_mem _ hq)) (by
    have hb := hb p List.mem_cons_self
    intro c hc
    unfold letU at hc
    split at hc
    · obtain ⟨i, hi⟩ := List.mem_iff_getElem?.mp hc
      rw [List.getElem?_modify] at hi
      cases e : cs[i]? with
      | none =>
        rw [e] at hi
        simp at hi
      | some z =>
        have hz := h z (List.mem_of_getElem? e)
        rw [e] at hi
        simp only [Option.map_eq_map, Option.map_some] at hi
        split at hi
        · cases hi
          exact G_let hb hz
        · cases hi
          exact hz
    · exact h c hc)
theorem G_liveU {now : Int} {cs : List Ch} (h : ∀ c ∈ cs, GC c) : ∀ c ∈ liveU now cs, GC c := by
  have h1 : ∀ c ∈ eachC liveC cs, GC c := each_mem fun i c hc => G_live (h c hc)
  unfold liveU
  split
  · intro c hc
    obtain ⟨c0, h0, rfl⟩ := List.mem_map.mp hc
    exact G_samp (h1 c0 h0)
  · exact h1
theorem G_plain {lcs : List LCh} (l3 : lcs.length = 3) (ok : ∀ c ∈ lcs, LcOk c) : ∀ n : Nat, ∀ c ∈ (plainF lcs n).1, GC c
  | 0, c, hc => by
    have e : c = ch0 := by
      have hc : c ∈ cs0 := hc
      simp [cs0] at hc
      exact hc
    rw [e]
    exact ⟨ok_ch0, fun h => by cases h⟩
  | n + 1, c, hc => G_liveU (G_setsU (fun p hp => (lets_bd l3 ok p hp).2) (G_plain l3 ok n)) c hc
/-- a stretch with no sample in it -/
theorem free_still {n : Int} {cs : List Ch} {fs : List Int} (g : ∀ c ∈ cs, GC c) : ∀ m : Nat, (∀ j : Nat, j < m → ¬ (n + (j : Int)) % 32 = 31) → freeF m n (cs, fs) = (eachC (fun k => passC k (m : Int)) cs, fs)
  | 0, _ => by
    show (cs, fs) = _
    exact congrArg (fun z => (z, fs)) (each_same (f := fun k => passC k 0) fun i c hc => pass_zero (g c hc)).symm
  | m + 1, h => by
    show freeS (n + (m : Int)) (freeF m n (cs, fs)) = _
    rw [free_still g m fun j hj => h j (by omega)]
    unfold freeS liveU
    simp only [if_neg (h m (by omega))]
    rw [each_each, each_congr fun i c hc => (pass_step (g c hc) m).symm]
theorem free_sample {n : Int} {cs : List Ch} {fs : List Int} (g : ∀ c ∈ cs, GC c) (m : Nat) (h : ∀ j : Nat, j < m → ¬ (n + (j : Int)) % 32 = 31) (h31 : (n + (m : Int)) % 32 = 31) :
    freeF (m + 1) n (cs, fs) = ((eachC (fun k => passC k ((m + 1 : Nat) : Int)) cs).map sampC, fs ++ [sumU (eachC (fun k => passC k ((m + 1 : Nat) : Int)) cs)]) := by
  show freeS (n + (m : Int)) (freeF m n (cs, fs)) = _
  rw [free_still g m h]
  unfold freeS liveU
  simp only [if_pos h31]
  rw [each_each, each_congr fun i c hc => (pass_step (g c hc) m).symm]
theorem live_free : ∀ (k : Nat) (goal : Int) (cs : List Ch) (n : Int) (fs : List Int), (goal - n).toNat ≤ k → n ≤ goal → (∀ c ∈ cs, GC c) →
    liveToF k goal cs n fs = ((freeF (goal - n).toNat n (cs, fs)).1, goal, (freeF (goal - n).toNat n (cs, fs)).2)
  | 0, goal, cs, n, fs, hk, hn, g => by
    have e : n = goal := by omega
    rw [liveToF_end (by omega), show (goal - n).toNat = 0 from by omega, e]
    rfl
  | k + 1, goal, cs, n, fs, hk, hn, g => by
    by_cases h : n < goal
    · obtain ⟨g1, g2⟩ := stop_gt h
      have hl : lastOf n = n + (31 - n) % 32 := rfl
      have hle : stopOf goal n ≤ lastOf n + 1 := by
        unfold stopOf
        split <;> omega
      have ea : (goal - n).toNat = (stopOf goal n - n).toNat + (goal - stopOf goal n).toNat := by omega
      have eb : n + ((stopOf goal n - n).toNat : Int) = stopOf goal n := by omega
      rw [ea, free_add, eb]
      have gp : ∀ c ∈ eachC (fun k => passC k (stopOf goal n - n)) cs, GC c := each_mem fun i c hc => G_pass (g c hc)
      by_cases e : stopOf goal n = lastOf n + 1
      · rw [liveToF_yes h e, live_free k _ _ _ _ (by omega) g2 fun c hc => by
          obtain ⟨c0, h0, rfl⟩ := List.mem_map.mp hc
          exact G_samp (gp c0 h0)]
        obtain ⟨m, em⟩ : ∃ m : Nat, stopOf goal n - n = ((m + 1 : Nat) : Int) := ⟨(stopOf goal n - n).toNat - 1, by omega⟩
        rw [em, show (((m + 1 : Nat) : Int)).toNat = m + 1 from rfl, free_sample g m (fun j hj => by omega) (by omega)]
      · rw [liveToF_no h e, live_free k _ _ _ _ (by omega) g2 gp]
        obtain ⟨m, em⟩ : ∃ m : Nat, stopOf goal n - n = (m : Int) := ⟨(stopOf goal n - n).toNat, by omega⟩
        rw [em, show ((m : Int)).toNat = m from rfl, free_still g m fun j hj => by omega]
    · rw [liveToF_end h, show (goal - n).toNat = 0 from by omega, show n = goal from by omega]
      rfl
theorem live_to_free {goal : Int} {cs : List Ch} {n : Int} (fs : List Int) (hn : n ≤ goal) (g : ∀ c ∈ cs, GC c) :
    ((liveTo goal cs n).1, fs ++ (liveTo goal cs n).2.2) = freeF (goal - n).toNat n (cs, fs) ∧ (liveTo goal cs n).2.1 = goal := by
  unfold liveTo
  rw [live_free _ goal cs n [] (Nat.le_refl _) hn g]
  refine ⟨?_, rfl⟩
  rw [free_app n cs fs]
/-! ### the late run -/
def EvM (lcs : List LCh) (now : Int) : Prop := ∃ c ∈ lcs, c.begin_ = now ∨ c.change = now
theorem lets_nil {lcs : List LCh} {now : Int} (h : ¬ EvM lcs now) : letsM lcs now = [] := by
  unfold letsM
  rw [List.flatten_eq_nil_iff]
  intro x hx
  obtain ⟨i, hi⟩ := List.mem_iff_getElem?.mp hx
  rw [List.getElem?_mapIdx] at hi
  cases e : lcs[i]? with
  | none =>
    rw [e] at hi
    cases hi
  | some c =>
    rw [e] at hi
    cases hi
    have hm := List.mem_of_getElem? e
    show letsOf (i : Int) c now = []
    unfold letsOf
    rw [if_neg fun z => h ⟨c, hm, .inl z⟩, if_neg fun z => h ⟨c, hm, .inr z⟩]
    rfl
theorem plain_succ (lcs : List LCh) (n : Nat) : plainF lcs (n + 1) = freeS (n : Int) (setsU (letsM lcs (n : Int)) (plainF lcs n).1, (plainF lcs n).2) := rfl
theorem plain_free {lcs : List LCh} (n : Nat) : ∀ m : Nat, (∀ now : Int, (n : Int) ≤ now → now < (n : Int) + (m : Int) → letsM lcs now = []) → freeF m (n : Int) (plainF lcs n) = plainF lcs (n + m)
  | 0, _ => rfl
  | m + 1, h => by
    show freeS ((n : Int) + (m : Int)) (freeF m (n : Int) (plainF lcs n)) = _
    rw [plain_free n m fun now h1 h2 => h now h1 (by omega)]
    have e : letsM lcs ((n + m : Nat) : Int) = [] := h _ (by omega) (by omega)
    show _ = plainF lcs ((n + m) + 1)
    rw [plain_succ, e]
    rfl
theorem late_run {lcs : List LCh} (l3 : lcs.length = 3) (ok : ∀ c ∈ lcs, LcOk c) {goal : Nat} : ∀ (ts : List Int) (n : Nat) (cs : List Ch) (fs : List Int) (b : Int),
    (∀ t ∈ ts, 0 ≤ t) → ts.Pairwise (· ≤ ·) → (∀ t ∈ ts, b ≤ t) → (∀ now, b < now → now < goal → EvM lcs now → now ∈ ts) → n ≤ goal → (b = n ∨ (b = -1 ∧ n = 0)) → b < goal → (∀ c ∈ cs, GC c) →
    (∀ g : Nat, n ≤ g → b < g → (∀ now : Int, b < now → now < g → letsM lcs now = []) → freeF (g - n) (n : Int) (cs, fs) = plainF lcs g) →
    ((liveTo goal (lateF lcs goal ts (cs, (n : Int), fs, b)).1 (lateF lcs goal ts (cs, (n : Int), fs, b)).2.1).1, (lateF lcs goal ts (cs, (n : Int), fs, b)).2.2.1 ++ (liveTo goal (lateF lcs goal ts (cs, (n : Int), fs, b)).1 (lateF lcs goal ts (cs, (n : Int), fs, b)).2.1).2.2) = plainF lcs goal
  | [], n, cs, fs, b, _, _, _, hev, hn, hb, hbg, g, hf => by
    show ((liveTo goal cs (n : Int)).1, fs ++ (liveTo goal cs (n : Int)).2.2) = _
    rw [(live_to_free fs (by omega) g).1]
    have h := hf goal hn hbg fun now h1 h2 => lets_nil fun e => by
      have := hev now h1 h2 e
      cases this
    rw [← h]
    congr 1
    omega
  | t :: ts, n, cs, fs, b, h0, hs, hbt, hev, hn, hb, hbg, g, hf => by
    have ht := h0 t List.mem_cons_self
    obtain ⟨hs1, hs2⟩ := List.pairwise_cons.mp hs
    by_cases hc : t < goal ∧ t ≠ b
    · rw [lateF_cons hc]
      obtain ⟨T, rfl⟩ : ∃ T : Nat, t = (T : Int) := ⟨t.toNat, by omega⟩
      have hbt0 := hbt _ List.mem_cons_self
      have hlt : b < (T : Int) := by omega
      have hnT : n ≤ T := by omega
      obtain ⟨f1, f2⟩ := live_to_free (goal := (T : Int)) fs (by omega : (n : Int) ≤ (T : Int)) g
      have h := hf T hnT hlt fun now h1 h2 => lets_nil fun e => by
        rcases List.mem_cons.mp (hev now h1 (by omega) e) with e | e
        · omega
        · have := hs1 now e
          omega
      rw [show ((T : Int) - (n : Int)).toNat = T - n from by omega, h] at f1
      have e1 : (liveTo (T : Int) cs (n : Int)).1 = (plainF lcs T).1 := congrArg Prod.fst f1
      have e2 : fs ++ (liveTo (T : Int) cs (n : Int)).2.2 = (plainF lcs T).2 := congrArg Prod.snd f1
      rw [f2, e1, e2]
      have gN := G_setsU (fun p hp => (lets_bd (now := (T : Int)) l3 ok p hp).2) (G_plain l3 ok T)
      refine late_run l3 ok ts T _ _ (T : Int) (fun t ht => h0 t (List.mem_cons_of_mem _ ht)) hs2 hs1 (fun now h1 h2 e => ?_) (by omega) (.inl rfl) hc.1 gN fun g' hg1 hg2 hn' => ?_
      · rcases List.mem_cons.mp (hev now (by omega) h2 e) with e | e
        · omega
        · exact e
      · obtain ⟨d, rfl⟩ : ∃ d : Nat, g' = T + (1 + d) := ⟨g' - T - 1, by omega⟩
        rw [show T + (1 + d) - T = 1 + d from by omega, free_add]
        have e3 : freeF 1 (T : Int) (setsU (letsM lcs (T : Int)) (plainF lcs T).1, (plainF lcs T).2) = plainF lcs (T + 1) := by
          show freeS ((T : Int) + ((0 : Nat) : Int)) _ = _
          rw [show (T : Int) + ((0 : Nat) : Int) = (T : Int) from by omega]
          rfl
        rw [e3]
        have h4 := plain_free (lcs := lcs) (T + 1) d fun now h1 h2 => hn' now (by omega) (by omega)
        rw [show T + (1 + d) = T + 1 + d from by omega, ← h4]
        rfl
    · rw [lateF_skip hc]
      refine late_run l3 ok ts n cs fs b (fun t ht => h0 t (List.mem_cons_of_mem _ ht)) hs2 (fun t ht => hbt t (List.mem_cons_of_mem _ ht)) (fun now h1 h2 e => ?_) hn hb hbg g hf
      rcases List.mem_cons.mp (hev now h1 h2 e) with e | e
      · exact absurd ⟨by omega, by omega⟩ hc
      · exact e
theorem late_eq {lcs : List LCh} (l3 : lcs.length = 3) (ok : ∀ c ∈ lcs, LcOk c) {goal : Nat} {stops ts : List Int} (hst : ∀ t ∈ stops, 0 ≤ t) (hp : ts.Perm (stopsOf lcs stops)) (hs : ts.Pairwise (· ≤ ·)) :
    (lateM lcs (goal : Int) ts).1 = (plainF lcs goal).1 ∧ (lateM lcs (goal : Int) ts).2.2 = (plainF lcs goal).2 := by
  have h0 : ∀ t ∈ ts, 0 ≤ t := fun t ht => by
    have h := hp.mem_iff.mp ht
    unfold stopsOf at h
    rcases List.mem_append.mp h with h | h
    · rcases List.mem_append.mp h with h | h
      · obtain ⟨c, hc, rfl⟩ := List.mem_map.mp h
        exact (ok c hc).b0
      · obtain ⟨c, hc, rfl⟩ := List.mem_map.mp h
        have h1 := (ok c hc).b0
        have h2 := (ok c hc).c0
        show 0 ≤ c.change
        omega
    · exact hst t h
  have h := late_run l3 ok (goal := goal) ts 0 cs0 [] (-1) h0 hs (fun t ht => by
    have := h0 t ht
    omega) (fun now _ _ e => by
    obtain ⟨c, hc, e⟩ := e
    refine hp.mem_iff.mpr ?_
    unfold stopsOf
    refine List.mem_append_left _ (List.mem_append.mpr ?_)
    rcases e with e | e
    · exact .inl (List.mem_map.mpr ⟨c, hc, e⟩)
    · exact .inr (List.mem_map.mpr ⟨c, hc, e⟩)) (by omega) (.inr ⟨rfl, rfl⟩) (by omega) (G_plain l3 ok 0) fun g _ _ hn => by
      have h := plain_free (lcs := lcs) 0 g fun now h1 h2 => hn now (by omega) (by omega)
      rw [Nat.zero_add] at h
      exact h
  unfold lateM
  exact ⟨congrArg Prod.fst h, congrArg Prod.snd h⟩
end K61
namespace K61
open PySem PySem.Spec PyProof.Rows L2 Kx
local macro_rules | `(tactic| walk_at "s") => `(tactic| first
  | with_reducible refine xSeq ?_ | with_reducible refine xAsg ?_ | with_reducible refine xNm ?_ | with_reducible refine xDrop ?_ | with_reducible refine xRet ?_ | with_reducible refine xRetN ?_ | with_reducible refine xNext ?_ | with_reducible refine xIfS ?_
  | ((with_reducible refine xVar (v := ?v) ?h ?q); (case h => exact rfl)) | with_reducible refine xC ?_ | with_reducible refine xOp ?_ | with_reducible refine xUn ?_ | with_reducible refine xI0 ?_ | with_reducible refine xU ?_
  | with_reducible refine xEqI ?_ | with_reducible refine xNeI ?_ | with_reducible refine xEqB ?_ | with_reducible refine xNeB ?_ | with_reducible refine xEqS ?_ | with_reducible refine xNeS ?_ | with_reducible refine xIsN ?_ | with_reducible refine xNotN ?_
  | with_reducible refine xChain ?_ | with_reducible refine xIf ?_ | with_reducible refine xAndV ?_ | with_reducible refine xOrV ?_ | with_reducible refine xNotV ?_
  | with_reducible refine xTest ?_ | with_reducible refine xB ?_ | with_reducible refine xAnd ?_ | with_reducible refine xOr ?_ | with_reducible refine xNot ?_ | with_reducible refine xYes ?_
  | with_reducible refine xNil ?_ | with_reducible refine xCons ?_ | with_reducible refine xTup ?_ | with_reducible refine xLst ?_ | with_reducible refine xCB ?_ | with_reducible refine xInt1I ?_ | with_reducible refine xInt1B ?_ | with_reducible refine xAbs ?_ | with_reducible refine xMin2 ?_ | with_reducible refine xMax2 ?_
  | with_reducible refine xFld ?_ | with_reducible refine xFldS ?_ | with_reducible refine xDG ?_ | with_reducible refine xDP ?_ | with_reducible refine xCall ?_ | with_reducible refine yMeth ?_ | with_reducible refine xBM ?_ | with_reducible refine xBM0 ?_
  | with_reducible refine xPar ?_ | with_reducible refine xPar3 ?_ | with_reducible refine yPar ?_ | with_reducible refine yPar3 ?_ | with_reducible refine xGNil ?_ | with_reducible refine xGCons ?_ | with_reducible refine xGSub ?_
  | with_reducible refine xBl ?_ | with_reducible refine xPairs ?_ | with_reducible refine xPairs0 ?_)
local macro_rules | `(tactic| walk_at "h") => `(tactic| first | assumption | exact upd_same | exact same_upd (by assumption) _ _ (by walk_at "h"))
local macro_rules | `(tactic| walk_at "g") => `(tactic| first | exact gCount _ | exact gLeft _ | exact gLength _ | exact gOn _ | exact gPeriod _ | exact gPhase _ | exact gRow _ | exact gVolume _)
local macro_rules | `(tactic| walk_at "p") => `(tactic| (first | rw [pCount] | rw [pLeft] | rw [pLength] | rw [pOn] | rw [pPeriod] | rw [pPhase] | rw [pRow] | rw [pVolume]))
local macro_rules | `(tactic| walk_at "s") => `(tactic| first
  | ((with_reducible refine yDGs (kvs := ?kvs) (v := ?v) ?h ?e ?q); (case h => exact .inl (by walk_at "h")); (case e => walk_at "g"))
  | ((with_reducible refine yDPs (kvs := ?kvs) ?h ?l ?q); (case h => walk_at "h"); (case l => exact ch_len _); walk_at "p"; (try rw [upd_upd])))
local macro_rules | `(tactic| walk_at "s") => `(tactic| first
  | ((with_reducible refine xI ?c ?q); (case c => first | (show (0 : Int) < _; decide) | exact ⟨by decide, by decide⟩ | exact .inl ⟨by decide, by decide⟩ | exact .inr ⟨by decide, by decide⟩)))
local macro_rules | `(tactic| walk_at "g") => `(tactic| first | exact lBegin _ | exact lPeriod _ | exact lVolume _ | exact lLength _ | exact lChange _ | exact lOther _)
theorem paired_map {α β : Type} {F : α → β → Prop} (g : β → α) (h : ∀ b, F (g b) b) : ∀ ys : List β, Paired F (ys.map g) ys
  | [] => .nil
  | y :: ys => .cons (h y) (paired_map g h ys)
theorem eq_ints {K : PySem.W.Frag} {H : Hp} {m : Nat} : ∀ ns : List Int, Paired (EqX K H (m + 1)) (ns.map V.int) (ns.map V.int)
  | [] => .nil
  | n :: ns => .cons (.inl ⟨rfl, rfl⟩) (eq_ints ns)
theorem chK_flat (c : Ch) : ∀ p ∈ chK c, flatB p.2 = true := by
  intro p hp
  simp only [chK, List.mem_cons, List.not_mem_nil, or_false] at hp
  rcases hp with h | h | h | h | h | h | h | h <;> rw [h] <;> rfl
theorem chK_self (c : Ch) : ∀ p ∈ chK c, valV (chK c) p.1 = some p.2 := by
  intro p hp
  simp only [chK, List.mem_cons, List.not_mem_nil, or_false] at hp
  rcases hp with h | h | h | h | h | h | h | h <;> rw [h] <;> kernel_rfl
theorem eq_dicts {K : PySem.W.Frag} {H : Hp} {es : List Addr} {cs : List Ch} (h1 : Paired (fun e c => H e = some (.dK (chK c))) es cs) : ∀ {fs : List Addr}, Paired (fun e c => H e = some (.dK (chK c))) fs cs → Paired (EqX K H 2) (es.map V.ref) (fs.map V.ref) := by
  induction h1 with
  | nil =>
    intro fs h2
    cases h2
    exact .nil
  | cons r t ih =>
    intro fs h2
    cases h2 with
    | cons r2 t2 => exact .cons (.inr (.inr (.inl (.inr ⟨_, _, _, _, rfl, rfl, r, r2, rfl, fun p hp => ⟨p.2, chK_self _ p hp, .inl ⟨rfl, chK_flat _ p hp⟩⟩⟩)))) (ih t2)
theorem ne_res {K : PySem.W.Frag} {H : Hp} {q r : Addr} {f : List Int} {cs : List Ch} {on : Int} {Q : VK} (h1 : Res H q f cs on) (h2 : Res H r f cs on) (k : Q (.bl false) H) : rNeX K (.ref q) (.ref r) H Q := by
  obtain ⟨a, b, x1, x2, es, x3, x4⟩ := h1
  obtain ⟨c, d, y1, y2, fs, y3, y4⟩ := h2
  exact ⟨3, q, r, _, _, by decide, rfl, rfl, SqT.of x1, SqT.of y1, .cons (.inr (.inr (.inl (.inl ⟨a, c, _, _, rfl, rfl, SqL.of x2, SqL.of y2, eq_ints f⟩))))
    (.cons (.inr (.inr (.inl (.inl ⟨b, d, _, _, rfl, rfl, SqL.of x3, SqL.of y3, eq_dicts x4 y4⟩)))) (.cons (.inl ⟨rfl, rfl⟩) .nil)), k⟩
theorem Res.same {H H' : Hp} {q : Addr} {f : List Int} {cs : List Ch} {on : Int} (h : Res H q f cs on) (s : Same H H') : Res H' q f cs on := by
  obtain ⟨a, b, x1, x2, T⟩ := h
  exact ⟨a, b, s _ _ x1, s _ _ x2, T.same s⟩
def csZ : List Ch := setsU [(2, 2), (0, 20), (1, 9), (3, 0)] cs0
theorem last_live : (liveTo 96 csZ 0).2.2 = [9, 9, 0] ∧ onU (liveTo 96 csZ 0).1 = 0 ∧ ∃ c, (liveTo 96 csZ 0).1[0]? = some c ∧ c.count = 16 := by
  have h : (liveTo 96 csZ 0).2.2 = [9, 9, 0] ∧ onU (liveTo 96 csZ 0).1 = 0 ∧ ((liveTo 96 csZ 0).1[0]?.map (·.count)) = some 16 := by decide +kernel
  obtain ⟨h1, h2, h3⟩ := h
  refine ⟨h1, h2, ?_⟩
  cases e : (liveTo 96 csZ 0).1[0]? with
  | none =>
    rw [e] at h3
    cases h3
  | some c =>
    rw [e] at h3
    exact ⟨c, rfl, Option.some.inj h3⟩
theorem paired_len2 {α β : Type} {F : α → β → Prop} {xs : List α} {ys : List β} (h : Paired F xs ys) : xs.length = ys.length := paired_len h
theorem pure_law {K : PySem.W.Frag} (vs : List V) (H : Hp) (Q : VK) (E : XK) (h : sp_law K vs H Q E) :
    vs.length = 1 ∧ t_law K { nx := fun _ H' => Q .non H', rt := Q } (start N_law vs) H := by
  obtain ⟨a, ns, rfl, hS, hlen, q⟩ := h
  refine ⟨rfl, ?_⟩
  show t_law K _ [some (.ref a), none, none, none, none, none, none, none, none, none, none, none, none, none, none, none] H
  unfold t_law
  repeat walk_at "s"
  refine ⟨a, ns, rfl, hS, hlen, fun d ds H1 D N => ?_⟩
  have hd := SqL.of (K := K) N.2.2
  repeat walk_at "s"
  refine xForR1U ?_
  repeat walk_at "s"
  refine yForR1 (n := 2) rfl (by decide) (fun i σ H' => ∃ x2 x3 x4 x5 x6 x7 x8 x9 x10 x11 x12 x13 x14 x15, σ = [some (.ref a), some (.ref d), x2, x3, x4, x5, x6, x7, x8, x9, x10, x11, x12, x13, x14, x15] ∧ Same H1 H')
    ⟨_, _, _, _, _, _, _, _, _, _, _, _, _, _, rfl, fun _ _ h => h⟩ ?_ ?_
  · rintro i σ H2 hi ⟨x2, x3, x4, x5, x6, x7, x8, x9, x10, x11, x12, x13, x14, x15, rfl, s2⟩
    repeat walk_at "s"
    refine xLcR ?_
    repeat walk_at "s"
    refine yLcR 3 rfl (by decide) (fun D' j H' => ∃ (es : List Addr) (lcs : List LCh), Same H2 H' ∧ H2 D' = none ∧ H' D' = some (.lst (es.map V.ref)) ∧ Paired (fun e c => H' e = some (.dK (lcK c))) es lcs ∧ lcs.length = j ∧ ∀ c ∈ lcs, LcOk c)
      (fun D' hD => ⟨[], [], same_upd hD, hD, upd_same, .nil, rfl, by simp⟩) ?_ ?_
    · rintro D' j H3 hj ⟨es, lcs, s3, nD, hD, pr, hl, ok⟩
      refine xNm (yTurn rfl ?_)
      repeat walk_at "s"
      refine ⟨d, ds, _, rfl, (s2.trans s3).seq hd, D, ⟨by omega, by omega⟩, fun e c H4 okc N4 => ?_⟩
      have hDe : D' ≠ e := ne_of_none hD N4.1
      refine ⟨_, N4.2.1 _ _ hD, ?_, es ++ [e], lcs ++ [c], fun b o eb => ?_, nD, ?_, ?_, by simp [hl], ?_⟩
      · rw [List.length_map, paired_len pr, hl]
        exact Nat.lt_of_lt_of_le hj (by decide)
      · rw [upd_ne (ne_of_none eb nD)]
        exact N4.2.1 _ _ (s3 _ _ eb)
      · rw [List.map_append]
        exact upd_same
      · refine paired_snoc (Paired.mapP pr fun a b hab => ?_) ?_
        · rw [upd_ne fun z => by rw [z, hD] at hab; cases hab]
          exact N4.2.1 _ _ hab
        · rw [upd_ne hDe.symm]
          exact N4.2.2
      · intro c' hc'
        rcases List.mem_append.mp hc' with h | h
        · exact ok c' h
        · rw [List.mem_singleton.mp h]
          exact okc
    rintro chs H3 nch ⟨es, lcs, s3, _, hch, pr, l3, lok⟩
    have L3 : Lcs K H3 chs lcs := ⟨es, SqL.of hch, pr, l3, lok⟩
    have s13 := s2.trans s3
    repeat walk_at "s"
    refine ⟨d, ds, _, _, rfl, s13.seq hd, D, ⟨by omega, by omega⟩, by decide, fun m1 a1 b1 => ?_⟩
    repeat walk_at "s"
    refine ⟨d, ds, _, _, rfl, s13.seq hd, D, ⟨by omega, by omega⟩, by decide, fun m2 a2 b2 => ?_⟩
    obtain ⟨G, hG⟩ : ∃ G : Nat, 32 * (2 + m1) + m2 = (G : Int) := ⟨(32 * (2 + m1) + m2).toNat, by omega⟩
    have hG0 : 0 < (G : Int) ∧ (G : Int) < 1000 := by omega
    refine xI0 ?_
    rw [hG]
    repeat walk_at "s"
    refine xLcR ?_
    repeat walk_at "s"
    refine yLcR 4 rfl (by decide) (fun D' j H' => ∃ ms : List Int, Same H3 H' ∧ H3 D' = none ∧ H' D' = some (.lst (ms.map V.int)) ∧ ms.length = j ∧ ∀ m ∈ ms, 0 ≤ m ∧ m < (G : Int))
      (fun D' hD => ⟨[], same_upd hD, hD, upd_same, rfl, by simp⟩) ?_ ?_
    · rintro D' j H4 hj ⟨ms, s4, nD, hD, hl, hm⟩
      refine xNm (yTurn rfl ?_)
      repeat walk_at "s"
      refine ⟨d, ds, _, _, rfl, (s13.trans s4).seq hd, D, ⟨by omega, by omega⟩, by omega, fun m a3 b3 => ?_⟩
      refine ⟨_, hD, ?_, ms ++ [m], fun b o eb => ?_, nD, ?_, by simp [hl], ?_⟩
      · rw [List.length_map, hl]
        exact Nat.lt_of_lt_of_le hj (by decide)
      · rw [upd_ne (ne_of_none eb nD)]
        exact s4 _ _ eb
      · rw [List.map_append]
        exact upd_same
      · intro z hz
        rcases List.mem_append.mp hz with h | h
        · exact hm z h
        · rw [List.mem_singleton.mp h]
          exact ⟨a3, b3⟩
    rintro sp H4 nsp ⟨ms, s4, _, hsp, hml, hms⟩
    have s14 := s13.trans s4
    have L4 := L3.same s4
    repeat walk_at "s"
    refine ⟨G + 16, rfl, by omega, fun no H5 N5 => ?_⟩
    have s15 := s14.trans N5.2.1
    have L5 := L4.same N5.2.1
    have hsp5 := N5.2.1 _ _ hsp
    have hno := N5.2.2
    repeat walk_at "s"
    refine xLcR ?_
    repeat walk_at "s"
    refine yLcR 3 rfl (by decide) (fun D' j H' => ∃ es : List Addr, Same H5 H' ∧ H5 D' = none ∧ H' D' = some (.lst (es.map V.ref)) ∧ Paired (fun e c => H' e = some (.dK (chK c))) es ((endsM lcs (G : Int)).take j))
      (fun D' hD => ⟨[], same_upd hD, hD, upd_same, .nil⟩) ?_ ?_
    · rintro D' j H6 hj ⟨es, s6, nD, hD, pr⟩
      obtain ⟨fs, e, c, hE, he, hc, hde, ok⟩ := (L5.same s6).at_ hj
      refine xNm (yTurn rfl ?_)
      repeat walk_at "s"
      refine yIxL hE (atI_nat he) ?_
      repeat walk_at "s"
      refine ⟨e, no, c, _, _, G + 16, rfl, hde, ok, SqL.of (s6 _ _ hno), ⟨by omega, by omega⟩, fun g H7 ng s7 hg => ?_⟩
      have hDe : D' ≠ g := ne_of_none hD ng
      refine ⟨_, s7 _ _ hD, ?_, es ++ [g], fun b o eb => ?_, nD, ?_, ?_⟩
      · rw [List.length_map, paired_len pr, List.length_take]
        exact Nat.lt_of_le_of_lt (Nat.min_le_left _ _) (Nat.lt_of_lt_of_le hj (by decide))
      · rw [upd_ne (ne_of_none eb nD)]
        exact s7 _ _ (s6 _ _ eb)
      · rw [List.map_append]
        exact upd_same
      · rw [take_snoc (x := endM (j : Int) c (G : Int)) (by unfold endsM; rw [List.getElem?_mapIdx, hc]; rfl)]
        refine paired_snoc (Paired.mapP pr fun a b hab => ?_) ?_
        · rw [upd_ne fun z => by rw [z, hD] at hab; cases hab]
          exact s7 _ _ hab
        · rw [upd_ne hDe.symm]
          exact hg
    rintro en H6 nen ⟨es6, s6, _, hen, pr6⟩
    have el3 : (endsM lcs (G : Int)).length = 3 := by
      unfold endsM
      rw [List.length_mapIdx, l3]
    rw [List.take_of_length_le (by rw [el3]; exact Nat.le_refl _)] at pr6
    have T6 : Told H6 en (endsM lcs (G : Int)) := ⟨es6, hen, pr6⟩
    have s16 := s15.trans s6
    have L6 := L5.same s6
    have hsp6 := s6 _ _ hsp5
    have hno6 := s6 _ _ hno
    repeat walk_at "s"
    refine xLcR ?_
    repeat walk_at "s"
    refine yLcR (G / 32) (by omega) (by omega) (fun D' j H' => Same H6 H' ∧ H6 D' = none ∧ H' D' = some (.lst (((List.range j).map fun j : Nat => smpM lcs (j : Int)).map V.int)))
      (fun D' hD => ⟨same_upd hD, hD, upd_same⟩) ?_ ?_
    · rintro D' j H7 hj ⟨s7, nD, hD⟩
      refine xNm (yTurn rfl ?_)
      repeat walk_at "s"
      refine ⟨chs, no, lcs, _, G + 16, rfl, L6.same s7, SqL.of (s7 _ _ hno6), ⟨by omega, by omega⟩, fun H8 s8 => ?_⟩
      refine ⟨_, s8 _ _ hD, ?_, fun b o eb => ?_, nD, ?_⟩
      · rw [List.length_map, List.length_map, List.length_range]
        exact Nat.lt_of_le_of_lt (show j ≤ 1000 by omega) (by decide)
      · rw [upd_ne (ne_of_none eb nD)]
        exact s8 _ _ (s7 _ _ eb)
      · rw [List.range_succ, List.map_append, List.map_append]
        exact upd_same
    rintro sm H7 nsm ⟨s7, _, hsm⟩
    have T7 := T6.same s7
    repeat walk_at "s"
    refine xLcR ?_
    repeat walk_at "s"
    refine yLcR 3 rfl (by decide) (fun D' j H' => Same H7 H' ∧ H7 D' = none ∧ H' D' = some (.lst ((((endsM lcs (G : Int)).mapIdx fun i c => [1, 2, 4].getD i 0 * (if c.on then 1 else 0)).take j).map V.int)))
      (fun D' hD => ⟨same_upd hD, hD, upd_same⟩) ?_ ?_
    · rintro D' j H8 hj ⟨s8, nD, hD⟩
      obtain ⟨es8, he8, pr8⟩ := T7.same s8
      have hc : (endsM lcs (G : Int))[j]? = some (endsM lcs (G : Int))[j] := List.getElem?_eq_getElem (by omega)
      generalize (endsM lcs (G : Int))[j] = c at hc
      obtain ⟨e, hee, hde⟩ := paired_at pr8 hc
      refine xNm (yTurn rfl ?_)
      repeat walk_at "s"
      refine ⟨Nat.le_of_ble_eq_true rfl, fun t2 n2 => ?_⟩
      have st2 := same_upd (o := .lst [.int 1, .int 2, .int 4]) n2
      repeat walk_at "s"
      refine yIxL (SqL.of upd_same) (atI_nat (at3 hj)) ?_
      repeat walk_at "s"
      refine yIxL (SqL.of (st2 _ _ he8)) (v := .ref e) (atI_nat (by rw [List.getElem?_map, hee]; rfl)) ?_
      have hde2 := st2 _ _ hde
      repeat walk_at "s"
      refine xI (.inl ?_) ?_
      · match j, hj with
        | 0, _ => exact ⟨by decide, by decide⟩
        | 1, _ => exact ⟨by decide, by decide⟩
        | 2, _ => exact ⟨by decide, by decide⟩
      refine ⟨_, st2 _ _ hD, ?_, fun b o eb => ?_, nD, ?_⟩
      · rw [List.length_map, List.length_take]
        exact Nat.lt_of_le_of_lt (Nat.min_le_left _ _) (Nat.lt_of_lt_of_le hj (by decide))
      · rw [upd_ne (ne_of_none eb nD)]
        exact st2 _ _ (s8 _ _ eb)
      · rw [take_snoc (x := [1, 2, 4].getD j 0 * (if c.on then 1 else 0)) (by rw [List.getElem?_mapIdx, hc]; rfl), List.map_append]
        exact upd_same
    rintro on8 H8 non8 ⟨s8, _, hon8⟩
    repeat walk_at "s"
    refine xSum (SqL.of hon8) ?_
    have eon : (((endsM lcs (G : Int)).mapIdx fun i c => [1, 2, 4].getD i 0 * (if c.on then 1 else 0)).take 3).sum = onU (endsM lcs (G : Int)) := by
      rw [List.take_of_length_le (by rw [List.length_mapIdx, el3]; exact Nat.le_refl _)]
      rfl
    rw [eon]
    repeat walk_at "s"
    refine ⟨Nat.le_of_ble_eq_true rfl, fun du ndu => ?_⟩
    have s9 := same_upd (o := .tup [.ref sm, .ref en, .int (onU (endsM lcs (G : Int)))]) ndu
    have R9 : Res (upd H8 du (.tup [.ref sm, .ref en, .int (onU (endsM lcs (G : Int)))])) du ((List.range (G / 32)).map fun j : Nat => smpM lcs (j : Int)) (endsM lcs (G : Int)) (onU (endsM lcs (G : Int))) :=
      ⟨sm, en, upd_same, s9 _ _ (s8 _ _ hsm), T7.same (s8.trans s9)⟩
    have s69 := s7.trans (s8.trans s9)
    have s19 := s16.trans s69
    have L9 := L6.same s69
    have hsp9 := s69 _ _ hsp6
    generalize upd H8 du (.tup [.ref sm, .ref en, .int (onU (endsM lcs (G : Int)))]) = H9 at R9 s19 L9 hsp9
    repeat walk_at "s"
    refine ⟨chs, lcs, G, rfl, L9, by omega, fun r H10 s10 R10 => ?_⟩
    rw [plain_eq l3 lok] at R10
    repeat walk_at "s"
    refine ne_res R10 (R9.same s10) ?_
    repeat walk_at "s"
    refine iteF ?_
    repeat walk_at "s"
    refine ⟨chs, sp, lcs, _, ms, rfl, L9.same s10, s10 _ _ hsp9, hml, hms, ⟨by omega, by omega⟩, fun ts r2 H11 hperm hsort s11 R11 => ?_⟩
    obtain ⟨f1, f2⟩ := late_eq l3 lok (goal := G) (fun t ht => (hms t ht).1) hperm hsort
    rw [plain_eq l3 lok] at f1 f2
    rw [f1, f2] at R11
    repeat walk_at "s"
    refine ne_res R11 (R9.same (s10.trans s11)) ?_
    repeat walk_at "s"
    refine iteF ?_
    repeat walk_at "s"
    exact ⟨_, _, _, _, _, _, _, _, _, _, _, _, _, _, rfl, s19.trans (s10.trans s11)⟩
  · rintro σ H2 ⟨x2, x3, x4, x5, x6, x7, x8, x9, x10, x11, x12, x13, x14, x15, rfl, s2⟩
    repeat walk_at "s"
    refine xMake ?_
    repeat walk_at "s"
    intro p dx hp hdx hne
    refine ⟨p, dx, rfl, upd_same, fun l dd H3 S hl hds k => ⟨rfl, ?_⟩⟩
    repeat walk_at "s"
    refine xForLU ?_
    repeat walk_at "s"
    refine ⟨Nat.le_of_ble_eq_true rfl, fun t1 n1 => ?_⟩
    repeat walk_at "s"
    refine ⟨Nat.le_of_ble_eq_true rfl, fun t2 n2 => ?_⟩
    repeat walk_at "s"
    refine ⟨Nat.le_of_ble_eq_true rfl, fun t3 n3 => ?_⟩
    repeat walk_at "s"
    refine ⟨Nat.le_of_ble_eq_true rfl, fun t4 n4 => ?_⟩
    repeat walk_at "s"
    refine ⟨Nat.le_of_ble_eq_true rfl, fun g ng => ?_⟩
    have sN := (((same_upd (o := .tup [.int 2, .int 2]) n1).trans (same_upd (o := .tup [.int 0, .int 20]) n2)).trans (same_upd (o := .tup [.int 1, .int 9]) n3)).trans ((same_upd (o := .tup [.int 3, .int 0]) n4).trans (same_upd (o := .lst [.ref t1, .ref t2, .ref t3, .ref t4]) ng))
    have P : PairL (upd (upd (upd (upd (upd H3 t1 (.tup [.int 2, .int 2])) t2 (.tup [.int 0, .int 20])) t3 (.tup [.int 1, .int 9])) t4 (.tup [.int 3, .int 0])) g (.lst [.ref t1, .ref t2, .ref t3, .ref t4])) g [(2, 2), (0, 20), (1, 9), (3, 0)] :=
      ⟨[t1, t2, t3, t4], upd_same, paired_four (by walk_at "h") (by walk_at "h") (by walk_at "h") (by walk_at "h")⟩
    have S4 := S.same sN
    generalize upd (upd (upd (upd (upd H3 t1 (.tup [.int 2, .int 2])) t2 (.tup [.int 0, .int 20])) t3 (.tup [.int 1, .int 9])) t4 (.tup [.int 3, .int 0])) g (.lst [.ref t1, .ref t2, .ref t3, .ref t4]) = H4 at P S4
    obtain ⟨ts, hg, hts⟩ := P
    have hbd : ∀ p ∈ [((2 : Int), (2 : Int)), (0, 20), (1, 9), (3, 0)], (0 ≤ p.1 ∧ p.1 < 12) ∧ (0 ≤ p.2 ∧ p.2 < 256) := by decide
    refine yForL (SqL.of hg) (fun j σ H' => ∃ v w, σ = [some (.ref a), some (.ref d), x2, x3, x4, x5, x6, x7, x8, x9, some (.ref p), v, w, x13, x14, x15] ∧ Keep dd H4 H' ∧ Snd (He.ga K "LateSound") H' p l dd (setsU (([((2 : Int), (2 : Int)), (0, 20), (1, 9), (3, 0)]).take j) cs0) (some 0))
      ⟨_, _, rfl, .refl _ _, S4⟩ (fun j σ H' _ ⟨_, _, _, k, _⟩ => SqL.of (k _ _ hg (S4.lst hg))) ?_ ?_
    · rintro j y σ H5 hy ⟨v, w, rfl, k5, S5⟩
      rw [List.getElem?_map] at hy
      cases et : ts[j]? with
      | none =>
        rw [et] at hy
        cases hy
      | some t =>
        rw [et] at hy
        cases hy
        obtain ⟨pr, hpr, ht⟩ := paired_fst hts et
        have hb := hbd pr (List.mem_of_getElem? hpr)
        refine yGT (SqT.of (k5 _ _ ht (S4.tup ht))) rfl ?_
        repeat walk_at "s"
        obtain ⟨dx5, ob5⟩ := id S5.ob
        refine yMe ob5 (sf_m _ _ (by decide +kernel) (by decide +kernel)) ?_
        repeat walk_at "s"
        refine ⟨p, _, _, l, dd, _, _, rfl, S5, hb.1, hb.2, fun H6 S6 k6 => ?_⟩
        refine ⟨_, _, rfl, k5.trans k6, ?_⟩
        rw [sets_snoc hpr]
        exact S6
    · rintro σ H5 ⟨v, w, rfl, k5, S5⟩
      rw [List.length_map, paired_len hts, List.take_length] at S5
      have S5 : Snd (He.ga K "LateSound") H5 p l dd csZ (some 0) := S5
      obtain ⟨z1, z2, c, z3, z4⟩ := last_live
      repeat walk_at "s"
      obtain ⟨dx5, ob5⟩ := id S5.ob
      refine yMe ob5 (sf_m _ _ (by decide +kernel) (by decide +kernel)) ?_
      repeat walk_at "s"
      refine ⟨p, 96, l, dd, csZ, 0, rfl, S5, ⟨by decide, by decide⟩, by decide +kernel, fun r H6 nr S6 k6 hr => ?_⟩
      rw [z1] at hr
      repeat walk_at "s"
      refine ⟨Nat.le_of_ble_eq_true rfl, fun r2 nr2 => ?_⟩
      have sE := same_upd (o := .lst [.int 9, .int 9, .int 0]) nr2
      refine ⟨.list [.int 9, .int 9, .int 0], .list [.int 9, .int 9, .int 0], .lst (SqL.of (sE _ _ hr)) (.cons (.int 9) (.cons (.int 9) (.cons (.int 0) .nil))), .lst (SqL.of upd_same) (.cons (.int 9) (.cons (.int 9) (.cons (.int 0) .nil))), by decide +kernel, by decide +kernel, ?_⟩
      have S7 := S6.same sE
      generalize upd H6 r2 (.lst [.int 9, .int 9, .int 0]) = H7 at S7
      have ee : PyData.eqv (.list [.int 9, .int 9, .int 0]) (.list [.int 9, .int 9, .int 0]) = true := by decide +kernel
      rw [ee]
      repeat walk_at "s"
      refine iteT ?_
      repeat walk_at "s"
      obtain ⟨dx7, ob7⟩ := id S7.ob
      refine yMe ob7 (sf_m _ _ (by decide +kernel) (by decide +kernel)) ?_
      repeat walk_at "s"
      refine ⟨p, l, dd, _, _, rfl, S7, fun H8 s8 => ?_⟩
      rw [z2]
      repeat walk_at "s"
      refine iteT ?_
      repeat walk_at "s"
      have S8 := S7.same s8
      obtain ⟨dx8, ob8⟩ := id S8.ob
      refine yMe ob8 (sf_m _ _ (by decide +kernel) (by decide +kernel)) ?_
      repeat walk_at "s"
      refine ⟨p, l, dd, _, _, rfl, S8, fun tq H9 s9 T9 => ?_⟩
      obtain ⟨es, he, pr⟩ := T9
      obtain ⟨e, hee, hde⟩ := paired_at pr z3
      repeat walk_at "s"
      refine yIxL (SqL.of he) (v := .ref e) (atI_nat (j := 0) (by rw [List.getElem?_map, hee]; rfl)) ?_
      repeat walk_at "s"
      rw [z4]
      exact q H9
end K61
namespace K61
open PySem PySem.Spec PyProof.Rows L2 Kx
section
variable {P : Program} {w : World} {K : PySem.W.Frag} {mg : Str → Option Value} {base : Heap} {f : Addr} {cdv : Value} {A : Around} {outer : List Env} {s : Shared} {H : Hp} {E : XK}
theorem d_fresh (T : Txt K mg)  (hr : Room 0 (A.deeper (envOfC "fresh" (defScope s_fresh) s.heap.objs.size f cdv))) : PSs (cxOf CX0 P w K mg base N_fresh "fresh" (defScope s_fresh) f cdv A outer s H E).nox (defBody s_fresh) (t_fresh K) :=
  have nd := sc_fresh.nd
  pss_one (ps_ret (pe_disp (pps_cons pe_str pe_int (pps_cons pe_str pe_int (pps_cons pe_str pe_int (pps_cons pe_str pe_bl (pps_cons pe_str pe_int (pps_cons pe_str pe_int (pps_cons pe_str pe_int (pps_cons pe_str pe_int pps_nil)))))))) (by rfl) (by rfl) (fun z => by cases z) (by decide)))
theorem fn_fresh (T : Txt K mg)  (pure : ∀ vs H Q E, sp_fresh K vs H Q E → vs.length = 0 ∧ t_fresh K { nx := fun _ H' => Q .non H', rt := Q } (start N_fresh vs) H) : Fn P w K mg base CX0 1 (He.fAd K ("fresh", none)) [] (sp_fresh K) := by
  obtain ⟨fd, F⟩ := T.def_fresh
  refine ⟨fd, F.ok sc_fresh (fun vs H Q E h => (pure vs H Q E h).1) (fun cdv A outer s H vs Q E hr h => ⟨t_fresh K, PSs.nox (d_fresh T  hr), (pure vs H Q E h).2⟩), F.bindsN (fun _ _ _ _ _ _ us hl => match us, hl with | [], _ => rfl), F.kp⟩
theorem d_Sound___init__ (T : Txt K mg) (G_fresh : Fn P w K mg base CX0 1 (He.fAd K ("fresh", none)) [] (sp_fresh K)) (hr : Room 1 (A.deeper (envOfC "Sound.__init__" (defScope s_Sound___init__) s.heap.objs.size f cdv))) : PSs (cxOf CX0 P w K mg base N_Sound___init__ "Sound.__init__" (defScope s_Sound___init__) f cdv A outer s H E).nox (defBody s_Sound___init__) (t_Sound___init__ K) :=
  have nd := sc_Sound___init__.nd
  pss_one (ps_fld (pv 0) (pe_lc (own := [("_", 1)]) (g := gName 1) rfl nd (pi_range1 rfl T.free_range (pa_cons (pe_gi T.int_CHANNELS) pa_nil)) (blkOk_by (own := [("_", 1)]) (N := N_Sound___init__) (sc := defScope s_Sound___init__) (by decide +kernel)) (fun _ _ _ _ _ => pg_name (i := 1) nd rfl (Or.inl rfl)) (fun _ _ _ _ _ => pts_nil) (fun _ _ _ _ _ => pe_f0 G_fresh hr (by decide) T.glo_fresh pass0)) rfl)
theorem fn_Sound___init__ (T : Txt K mg) (G_fresh : Fn P w K mg base CX0 1 (He.fAd K ("fresh", none)) [] (sp_fresh K)) (pure : ∀ vs H Q E, sp_Sound___init__ K vs H Q E → vs.length = 1 ∧ t_Sound___init__ K { nx := fun _ H' => Q .non H', rt := Q } (start N_Sound___init__ vs) H) : Fn P w K mg base CX0 2 (He.fAd K ("Sound", some "__init__")) ["self"] (sp_Sound___init__ K) := by
  obtain ⟨fd, F⟩ := T.def_Sound___init__
  refine ⟨fd, F.ok sc_Sound___init__ (fun vs H Q E h => (pure vs H Q E h).1) (fun cdv A outer s H vs Q E hr h => ⟨t_Sound___init__ K, PSs.nox (d_Sound___init__ T G_fresh hr), (pure vs H Q E h).2⟩), F.bindsN (fun _ _ _ _ _ _ us hl => match us, hl with | [_], _ => rfl), F.kp⟩
theorem d_Sound___init___LateSound (T : Txt K mg) (G_fresh : Fn P w K mg base CX0 1 (He.fAd K ("fresh", none)) [] (sp_fresh K)) (hr : Room 1 (A.deeper (envOfC "Sound.__init__" (defScope s_Sound___init__) s.heap.objs.size f cdv))) : PSs (cxOf CX0 P w K mg base N_Sound___init___LateSound "Sound.__init__" (defScope s_Sound___init__) f cdv A outer s H E).nox (defBody s_Sound___init__) (t_Sound___init___LateSound K) :=
  have nd := sc_Sound___init___LateSound.nd
  pss_one (ps_fld (pv 0) (pe_lc (own := [("_", 1)]) (g := gName 1) rfl nd (pi_range1 rfl T.free_range (pa_cons (pe_gi T.int_CHANNELS) pa_nil)) (blkOk_by (own := [("_", 1)]) (N := N_Sound___init___LateSound) (sc := defScope s_Sound___init__) (by decide +kernel)) (fun _ _ _ _ _ => pg_name (i := 1) nd rfl (Or.inl rfl)) (fun _ _ _ _ _ => pts_nil) (fun _ _ _ _ _ => pe_f0 G_fresh hr (by decide) T.glo_fresh pass0)) rfl)
theorem fn_Sound___init___LateSound (T : Txt K mg) (G_fresh : Fn P w K mg base CX0 1 (He.fAd K ("fresh", none)) [] (sp_fresh K)) (pure : ∀ vs H Q E, sp_Sound___init___LateSound K vs H Q E → vs.length = 1 ∧ t_Sound___init___LateSound K { nx := fun _ H' => Q .non H', rt := Q } (start N_Sound___init___LateSound vs) H) : Fn P w K mg base CX0 2 (He.fAd K ("Sound", some "__init__")) ["self"] (sp_Sound___init___LateSound K) := by
  obtain ⟨fd, F⟩ := T.def_Sound___init___LateSound
  refine ⟨fd, F.ok sc_Sound___init___LateSound (fun vs H Q E h => (pure vs H Q E h).1) (fun cdv A outer s H vs Q E hr h => ⟨t_Sound___init___LateSound K, PSs.nox (d_Sound___init___LateSound T G_fresh hr), (pure vs H Q E h).2⟩), F.bindsN (fun _ _ _ _ _ _ us hl => match us, hl with | [_], _ => rfl), F.kp⟩
theorem d_Sound__turn (T : Txt K mg)  (hr : Room 0 (A.deeper (envOfC "Sound._turn" (defScope s_Sound__turn) s.heap.objs.size f cdv))) : PSs (cxOf CX0 P w K mg base N_Sound__turn "Sound._turn" (defScope s_Sound__turn) f cdv A outer s H E).nox (defBody s_Sound__turn) (t_Sound__turn K) :=
  have nd := sc_Sound__turn.nd
  pss_cons (ps_dput (hu_of hr) (pv 2) pe_str (pe_dget (hu_of hr) (pv 2) pe_str (fun _ _ => rfl)) rfl)
  (pss_one (ps_if (pt_cmpR op_eq (pv 1) (pe_gi T.int_NOISE) (nomark _)) (pss_cons (ps_set (i := 3) nd rfl (Or.inl rfl) (pe_op op_mod (pe_op op_add (pe_dget (hu_of hr) (pv 2) pe_str (fun _ _ => rfl)) (pe_op op_fdiv (pe_dget (hu_of hr) (pv 2) pe_str (fun _ _ => rfl)) pe_int)) pe_int))
  (pss_cons (ps_dput (hu_of hr) (pv 2) pe_str (pe_op op_add (pe_op op_fdiv (pe_dget (hu_of hr) (pv 2) pe_str (fun _ _ => rfl)) pe_int) (pe_op op_mul (pe_gi T.int_TOP) (pv 3))) rfl)
  (pss_one (ps_dput (hu_of hr) (pv 2) pe_str (pe_op op_mod (pe_dget (hu_of hr) (pv 2) pe_str (fun _ _ => rfl)) pe_int) rfl)))) (pss_one (ps_dput (hu_of hr) (pv 2) pe_str (pe_op op_sub pe_int (pe_dget (hu_of hr) (pv 2) pe_str (fun _ _ => rfl))) rfl))))
theorem fn_Sound__turn (T : Txt K mg)  (pure : ∀ vs H Q E, sp_Sound__turn K vs H Q E → vs.length = 3 ∧ t_Sound__turn K { nx := fun _ H' => Q .non H', rt := Q } (start N_Sound__turn vs) H) : Fn P w K mg base CX0 1 (He.fAd K ("Sound", some "_turn")) ["self", "k", "told"] (sp_Sound__turn K) := by
  obtain ⟨fd, F⟩ := T.def_Sound__turn
  refine ⟨fd, F.ok sc_Sound__turn (fun vs H Q E h => (pure vs H Q E h).1) (fun cdv A outer s H vs Q E hr h => ⟨t_Sound__turn K, PSs.nox (d_Sound__turn T  hr), (pure vs H Q E h).2⟩), F.bindsN (fun _ _ _ _ _ _ us hl => match us, hl with | [_, _, _], _ => rfl), F.kp⟩
theorem d_Sound__sample (T : Txt K mg)  (hr : Room 0 (A.deeper (envOfC "Sound._sample" (defScope s_Sound__sample) s.heap.objs.size f cdv))) : PSs (cxOf CX0 P w K mg base N_Sound__sample "Sound._sample" (defScope s_Sound__sample) f cdv A outer s H E).nox (defBody s_Sound__sample) (t_Sound__sample K) :=
  have nd := sc_Sound__sample.nd
  pss_cons (ps_set (i := 1) nd rfl (Or.inl rfl) pe_int)
  (pss_cons (ps_for PassesOwn.never rfl (pi_list (pe_fld (pv 0) rfl)) (pg_name (i := 2) nd rfl (Or.inl rfl)) (pss_one (ps_if (pt_val (pe_dget (hu_of hr) (pv 2) pe_str (fun _ _ => rfl))) (pss_cons (ps_set (i := 1) nd rfl (Or.inl rfl) (pe_op op_add (pv 1) (pe_op op_mul (pe_dget (hu_of hr) (pv 2) pe_str (fun _ _ => rfl)) (pe_dget (hu_of hr) (pv 2) pe_str (fun _ _ => rfl)))))
  (pss_one (ps_if (pt_cmpR op_gt (pe_dget (hu_of hr) (pv 2) pe_str (fun _ _ => rfl)) pe_int (nomark _)) (pss_cons (ps_dput (hu_of hr) (pv 2) pe_str (pe_op op_sub (pe_dget (hu_of hr) (pv 2) pe_str (fun _ _ => rfl)) pe_int) rfl)
  (pss_one (ps_dput (hu_of hr) (pv 2) pe_str (pe_cmpR op_gt (pe_dget (hu_of hr) (pv 2) pe_str (fun _ _ => rfl)) pe_int (nomark _)) rfl))) pss_nil))) pss_nil)))
  (pss_one (ps_ret (pv 1))))
theorem fn_Sound__sample (T : Txt K mg)  (pure : ∀ vs H Q E, sp_Sound__sample K vs H Q E → vs.length = 1 ∧ t_Sound__sample K { nx := fun _ H' => Q .non H', rt := Q } (start N_Sound__sample vs) H) : Fn P w K mg base CX0 1 (He.fAd K ("Sound", some "_sample")) ["self"] (sp_Sound__sample K) := by
  obtain ⟨fd, F⟩ := T.def_Sound__sample
  refine ⟨fd, F.ok sc_Sound__sample (fun vs H Q E h => (pure vs H Q E h).1) (fun cdv A outer s H vs Q E hr h => ⟨t_Sound__sample K, PSs.nox (d_Sound__sample T  hr), (pure vs H Q E h).2⟩), F.bindsN (fun _ _ _ _ _ _ us hl => match us, hl with | [_], _ => rfl), F.kp⟩
theorem d_Sound__sample_LateSound (T : Txt K mg)  (hr : Room 0 (A.deeper (envOfC "Sound._sample" (defScope s_Sound__sample) s.heap.objs.size f cdv))) : PSs (cxOf CX0 P w K mg base N_Sound__sample_LateSound "Sound._sample" (defScope s_Sound__sample) f cdv A outer s H E).nox (defBody s_Sound__sample) (t_Sound__sample_LateSound K) :=
  have nd := sc_Sound__sample_LateSound.nd
  pss_cons (ps_set (i := 1) nd rfl (Or.inl rfl) pe_int)
  (pss_cons (ps_for PassesOwn.never rfl (pi_list (pe_fld (pv 0) rfl)) (pg_name (i := 2) nd rfl (Or.inl rfl)) (pss_one (ps_if (pt_val (pe_dget (hu_of hr) (pv 2) pe_str (fun _ _ => rfl))) (pss_cons (ps_set (i := 1) nd rfl (Or.inl rfl) (pe_op op_add (pv 1) (pe_op op_mul (pe_dget (hu_of hr) (pv 2) pe_str (fun _ _ => rfl)) (pe_dget (hu_of hr) (pv 2) pe_str (fun _ _ => rfl)))))
  (pss_one (ps_if (pt_cmpR op_gt (pe_dget (hu_of hr) (pv 2) pe_str (fun _ _ => rfl)) pe_int (nomark _)) (pss_cons (ps_dput (hu_of hr) (pv 2) pe_str (pe_op op_sub (pe_dget (hu_of hr) (pv 2) pe_str (fun _ _ => rfl)) pe_int) rfl)
  (pss_one (ps_dput (hu_of hr) (pv 2) pe_str (pe_cmpR op_gt (pe_dget (hu_of hr) (pv 2) pe_str (fun _ _ => rfl)) pe_int (nomark _)) rfl))) pss_nil))) pss_nil)))
  (pss_one (ps_ret (pv 1))))
theorem fn_Sound__sample_LateSound (T : Txt K mg)  (pure : ∀ vs H Q E, sp_Sound__sample_LateSound K vs H Q E → vs.length = 1 ∧ t_Sound__sample_LateSound K { nx := fun _ H' => Q .non H', rt := Q } (start N_Sound__sample_LateSound vs) H) : Fn P w K mg base CX0 1 (He.fAd K ("LateSound", some "_sample")) ["self"] (sp_Sound__sample_LateSound K) := by
  obtain ⟨fd, F⟩ := T.def_Sound__sample_LateSound
  refine ⟨fd, F.ok sc_Sound__sample_LateSound (fun vs H Q E h => (pure vs H Q E h).1) (fun cdv A outer s H vs Q E hr h => ⟨t_Sound__sample_LateSound K, PSs.nox (d_Sound__sample_LateSound T  hr), (pure vs H Q E h).2⟩), F.bindsN (fun _ _ _ _ _ _ us hl => match us, hl with | [_], _ => rfl), F.kp⟩
theorem d_Sound_live (T : Txt K mg) (G_Sound__turn : Fn P w K mg base CX0 1 (He.fAd K ("Sound", some "_turn")) ["self", "k", "told"] (sp_Sound__turn K)) (G_Sound__sample : Fn P w K mg base CX0 1 (He.fAd K ("Sound", some "_sample")) ["self"] (sp_Sound__sample K)) (hr : Room 1 (A.deeper (envOfC "Sound.live" (defScope s_Sound_live) s.heap.objs.size f cdv))) : PSs (cxOf CX0 P w K mg base N_Sound_live "Sound.live" (defScope s_Sound_live) f cdv A outer s H E).nox (defBody s_Sound_live) (t_Sound_live K) :=
  have nd := sc_Sound_live.nd
  pss_cons (ps_for PassesOwn.never rfl (pi_enum rfl T.free_enumerate (pa_cons (pe_fld (pv 0) rfl) pa_nil)) (pg_tup rfl (pgs_cons (pg_name (i := 2) nd rfl (Or.inl rfl)) (pgs_cons (pg_name (i := 3) nd rfl (Or.inl rfl)) pgs_nil))) (pss_one (ps_if (pt_val (pe_dget (hu_of hr) (pv 3) pe_str (fun _ _ => rfl))) (pss_cons (ps_dput (hu_of hr) (pv 3) pe_str (pe_op op_sub (pe_dget (hu_of hr) (pv 3) pe_str (fun _ _ => rfl)) pe_int) rfl)
  (pss_one (ps_if (pt_cmpR op_eq (pe_dget (hu_of hr) (pv 3) pe_str (fun _ _ => rfl)) pe_int (nomark _)) (pss_one (ps_expr (pe_m G_Sound__turn hr (by decide) T.cls_Sound T.meth_Sound__turn pass0 (pv 0) (pa_cons (pv 2) (pa_cons (pv 3) pa_nil))))) pss_nil))) pss_nil)))
  (pss_one (ps_ret (pe_ifExp (pt_cmpR op_eq (pe_op op_mod (pv 1) (pe_gi T.int_EVERY)) (pe_op op_sub (pe_gi T.int_EVERY) pe_int) (nomark _)) (pe_m0 G_Sound__sample hr (by decide) T.cls_Sound T.meth_Sound__sample pass0 (pv 0)) pe_non)))
theorem fn_Sound_live (T : Txt K mg) (G_Sound__turn : Fn P w K mg base CX0 1 (He.fAd K ("Sound", some "_turn")) ["self", "k", "told"] (sp_Sound__turn K)) (G_Sound__sample : Fn P w K mg base CX0 1 (He.fAd K ("Sound", some "_sample")) ["self"] (sp_Sound__sample K)) (pure : ∀ vs H Q E, sp_Sound_live K vs H Q E → vs.length = 2 ∧ t_Sound_live K { nx := fun _ H' => Q .non H', rt := Q } (start N_Sound_live vs) H) : Fn P w K mg base CX0 2 (He.fAd K ("Sound", some "live")) ["self", "now"] (sp_Sound_live K) := by
  obtain ⟨fd, F⟩ := T.def_Sound_live
  refine ⟨fd, F.ok sc_Sound_live (fun vs H Q E h => (pure vs H Q E h).1) (fun cdv A outer s H vs Q E hr h => ⟨t_Sound_live K, PSs.nox (d_Sound_live T G_Sound__turn G_Sound__sample hr), (pure vs H Q E h).2⟩), F.bindsN (fun _ _ _ _ _ _ us hl => match us, hl with | [_, _], _ => rfl), F.kp⟩
theorem d_Sound_let (T : Txt K mg)  (hr : Room 0 (A.deeper (envOfC "Sound.let" (defScope s_Sound_let) s.heap.objs.size f cdv))) : PSs (cxOf CX0 P w K mg base N_Sound_let "Sound.let" (defScope s_Sound_let) f cdv A outer s H E).nox (defBody s_Sound_let) (t_Sound_let K) :=
  have nd := sc_Sound_let.nd
  pss_one (ps_if (pt_cmpR op_lt (pv 1) (pe_op op_mul pe_int (pe_gi T.int_CHANNELS)) (nomark _)) (pss_cons (ps_set (i := 3) nd rfl (Or.inl rfl) (pe_ix ix_list (pe_fld (pv 0) rfl) (pe_op op_fdiv (pv 1) pe_int) (fun _ _ => rfl)))
  (pss_cons (ps_set (i := 4) nd rfl (Or.inl rfl) (pe_op op_mod (pv 1) pe_int))
  (pss_one (ps_if (pt_cmpR op_eq (pv 4) pe_int (nomark _)) (pss_one (ps_dput (hu_of hr) (pv 3) pe_str (pe_ifExp (pt_cmpR op_eq (pv 2) pe_int (nomark _)) pe_int (pv 2)) rfl)) (pss_one (ps_if (pt_cmpR op_eq (pv 4) pe_int (nomark _)) (pss_one (ps_dput (hu_of hr) (pv 3) pe_str (pe_op op_mod (pv 2) pe_int) rfl)) (pss_one (ps_if (pt_cmpR op_eq (pv 4) pe_int (nomark _)) (pss_one (ps_dput (hu_of hr) (pv 3) pe_str (pv 2) rfl)) (pss_one (ps_expr (pe_bm PySem.F.plainAttrs_dict PySem.F.slot_dict_update PySem.F.type_dict_update (mt_updateP rfl) (pv 3) (pa_cons (pe_lst (pa_cons (pe_tup (pa_cons pe_str (pa_cons (pe_dget (hu_of hr) (pv 3) pe_str (fun _ _ => rfl)) pa_nil))) (pa_cons (pe_tup (pa_cons pe_str (pa_cons (pe_dget (hu_of hr) (pv 3) pe_str (fun _ _ => rfl)) pa_nil))) (pa_cons (pe_tup (pa_cons pe_str (pa_cons pe_bl pa_nil))) (pa_cons (pe_tup (pa_cons pe_str (pa_cons pe_int pa_nil))) pa_nil))))) pa_nil)))))))))))) pss_nil)
theorem fn_Sound_let (T : Txt K mg)  (pure : ∀ vs H Q E, sp_Sound_let K vs H Q E → vs.length = 3 ∧ t_Sound_let K { nx := fun _ H' => Q .non H', rt := Q } (start N_Sound_let vs) H) : Fn P w K mg base CX0 1 (He.fAd K ("Sound", some "let")) ["self", "which", "byte"] (sp_Sound_let K) := by
  obtain ⟨fd, F⟩ := T.def_Sound_let
  refine ⟨fd, F.ok sc_Sound_let (fun vs H Q E h => (pure vs H Q E h).1) (fun cdv A outer s H vs Q E hr h => ⟨t_Sound_let K, PSs.nox (d_Sound_let T  hr), (pure vs H Q E h).2⟩), F.bindsN (fun _ _ _ _ _ _ us hl => match us, hl with | [_, _, _], _ => rfl), F.kp⟩
theorem d_Sound_let_LateSound (T : Txt K mg)  (hr : Room 0 (A.deeper (envOfC "Sound.let" (defScope s_Sound_let) s.heap.objs.size f cdv))) : PSs (cxOf CX0 P w K mg base N_Sound_let_LateSound "Sound.let" (defScope s_Sound_let) f cdv A outer s H E).nox (defBody s_Sound_let) (t_Sound_let_LateSound K) :=
  have nd := sc_Sound_let_LateSound.nd
  pss_one (ps_if (pt_cmpR op_lt (pv 1) (pe_op op_mul pe_int (pe_gi T.int_CHANNELS)) (nomark _)) (pss_cons (ps_set (i := 3) nd rfl (Or.inl rfl) (pe_ix ix_list (pe_fld (pv 0) rfl) (pe_op op_fdiv (pv 1) pe_int) (fun _ _ => rfl)))
  (pss_cons (ps_set (i := 4) nd rfl (Or.inl rfl) (pe_op op_mod (pv 1) pe_int))
  (pss_one (ps_if (pt_cmpR op_eq (pv 4) pe_int (nomark _)) (pss_one (ps_dput (hu_of hr) (pv 3) pe_str (pe_ifExp (pt_cmpR op_eq (pv 2) pe_int (nomark _)) pe_int (pv 2)) rfl)) (pss_one (ps_if (pt_cmpR op_eq (pv 4) pe_int (nomark _)) (pss_one (ps_dput (hu_of hr) (pv 3) pe_str (pe_op op_mod (pv 2) pe_int) rfl)) (pss_one (ps_if (pt_cmpR op_eq (pv 4) pe_int (nomark _)) (pss_one (ps_dput (hu_of hr) (pv 3) pe_str (pv 2) rfl)) (pss_one (ps_expr (pe_bm PySem.F.plainAttrs_dict PySem.F.slot_dict_update PySem.F.type_dict_update (mt_updateP rfl) (pv 3) (pa_cons (pe_lst (pa_cons (pe_tup (pa_cons pe_str (pa_cons (pe_dget (hu_of hr) (pv 3) pe_str (fun _ _ => rfl)) pa_nil))) (pa_cons (pe_tup (pa_cons pe_str (pa_cons (pe_dget (hu_of hr) (pv 3) pe_str (fun _ _ => rfl)) pa_nil))) (pa_cons (pe_tup (pa_cons pe_str (pa_cons pe_bl pa_nil))) (pa_cons (pe_tup (pa_cons pe_str (pa_cons pe_int pa_nil))) pa_nil))))) pa_nil)))))))))))) pss_nil)
theorem fn_Sound_let_LateSound (T : Txt K mg)  (pure : ∀ vs H Q E, sp_Sound_let_LateSound K vs H Q E → vs.length = 3 ∧ t_Sound_let_LateSound K { nx := fun _ H' => Q .non H', rt := Q } (start N_Sound_let_LateSound vs) H) : Fn P w K mg base CX0 1 (He.fAd K ("LateSound", some "let")) ["self", "which", "byte"] (sp_Sound_let_LateSound K) := by
  obtain ⟨fd, F⟩ := T.def_Sound_let_LateSound
  refine ⟨fd, F.ok sc_Sound_let_LateSound (fun vs H Q E h => (pure vs H Q E h).1) (fun cdv A outer s H vs Q E hr h => ⟨t_Sound_let_LateSound K, PSs.nox (d_Sound_let_LateSound T  hr), (pure vs H Q E h).2⟩), F.bindsN (fun _ _ _ _ _ _ us hl => match us, hl with | [_, _, _], _ => rfl), F.kp⟩
theorem d_Sound_on (T : Txt K mg)  (hr : Room 0 (A.deeper (envOfC "Sound.on" (defScope s_Sound_on) s.heap.objs.size f cdv))) : PSs (cxOf CX0 P w K mg base N_Sound_on "Sound.on" (defScope s_Sound_on) f cdv A outer s H E).nox (defBody s_Sound_on) (t_Sound_on K) :=
  have nd := sc_Sound_on.nd
  pss_one (ps_ret (pe_callB (cr_sum rfl) (by rfl) T.free_sum (by decide +kernel) (pa_cons (pe_lc (own := [("k", 1), ("told", 2)]) (g := gTup K 2 (gCons (gName 1) (gCons (gName 2) gNil))) rfl nd (pi_enum rfl T.free_enumerate (pa_cons (pe_fld (pv 0) rfl) pa_nil)) (blkOk_by (own := [("k", 1), ("told", 2)]) (N := N_Sound_on) (sc := defScope s_Sound_on) (by decide +kernel)) (fun _ _ _ _ _ => pg_tup rfl (pgs_cons (pg_name (i := 1) nd rfl (Or.inl rfl)) (pgs_cons (pg_name (i := 2) nd rfl (Or.inl rfl)) pgs_nil))) (fun _ _ _ _ _ => pts_nil) (fun _ _ _ _ _ => pe_op op_mul (pe_ix ix_tup (pe_tup (pa_cons pe_int (pa_cons pe_int (pa_cons pe_int pa_nil)))) (pv 1) (fun _ _ => rfl)) (pe_callTy call_int1 (by rfl) T.free_int (by decide +kernel) (pa_cons (pe_dget (hu_of hr) (pv 2) pe_str (fun _ _ => rfl)) pa_nil)))) pa_nil)))
theorem fn_Sound_on (T : Txt K mg)  (pure : ∀ vs H Q E, sp_Sound_on K vs H Q E → vs.length = 1 ∧ t_Sound_on K { nx := fun _ H' => Q .non H', rt := Q } (start N_Sound_on vs) H) : Fn P w K mg base CX0 1 (He.fAd K ("Sound", some "on")) ["self"] (sp_Sound_on K) := by
  obtain ⟨fd, F⟩ := T.def_Sound_on
  refine ⟨fd, F.ok sc_Sound_on (fun vs H Q E h => (pure vs H Q E h).1) (fun cdv A outer s H vs Q E hr h => ⟨t_Sound_on K, PSs.nox (d_Sound_on T  hr), (pure vs H Q E h).2⟩), F.bindsN (fun _ _ _ _ _ _ us hl => match us, hl with | [_], _ => rfl), F.kp⟩
theorem d_Sound_on_LateSound (T : Txt K mg)  (hr : Room 0 (A.deeper (envOfC "Sound.on" (defScope s_Sound_on) s.heap.objs.size f cdv))) : PSs (cxOf CX0 P w K mg base N_Sound_on_LateSound "Sound.on" (defScope s_Sound_on) f cdv A outer s H E).nox (defBody s_Sound_on) (t_Sound_on_LateSound K) :=
  have nd := sc_Sound_on_LateSound.nd
  pss_one (ps_ret (pe_callB (cr_sum rfl) (by rfl) T.free_sum (by decide +kernel) (pa_cons (pe_lc (own := [("k", 1), ("told", 2)]) (g := gTup K 2 (gCons (gName 1) (gCons (gName 2) gNil))) rfl nd (pi_enum rfl T.free_enumerate (pa_cons (pe_fld (pv 0) rfl) pa_nil)) (blkOk_by (own := [("k", 1), ("told", 2)]) (N := N_Sound_on_LateSound) (sc := defScope s_Sound_on) (by decide +kernel)) (fun _ _ _ _ _ => pg_tup rfl (pgs_cons (pg_name (i := 1) nd rfl (Or.inl rfl)) (pgs_cons (pg_name (i := 2) nd rfl (Or.inl rfl)) pgs_nil))) (fun _ _ _ _ _ => pts_nil) (fun _ _ _ _ _ => pe_op op_mul (pe_ix ix_tup (pe_tup (pa_cons pe_int (pa_cons pe_int (pa_cons pe_int pa_nil)))) (pv 1) (fun _ _ => rfl)) (pe_callTy call_int1 (by rfl) T.free_int (by decide +kernel) (pa_cons (pe_dget (hu_of hr) (pv 2) pe_str (fun _ _ => rfl)) pa_nil)))) pa_nil)))
theorem fn_Sound_on_LateSound (T : Txt K mg)  (pure : ∀ vs H Q E, sp_Sound_on_LateSound K vs H Q E → vs.length = 1 ∧ t_Sound_on_LateSound K { nx := fun _ H' => Q .non H', rt := Q } (start N_Sound_on_LateSound vs) H) : Fn P w K mg base CX0 1 (He.fAd K ("LateSound", some "on")) ["self"] (sp_Sound_on_LateSound K) := by
  obtain ⟨fd, F⟩ := T.def_Sound_on_LateSound
  refine ⟨fd, F.ok sc_Sound_on_LateSound (fun vs H Q E h => (pure vs H Q E h).1) (fun cdv A outer s H vs Q E hr h => ⟨t_Sound_on_LateSound K, PSs.nox (d_Sound_on_LateSound T  hr), (pure vs H Q E h).2⟩), F.bindsN (fun _ _ _ _ _ _ us hl => match us, hl with | [_], _ => rfl), F.kp⟩
theorem d_Sound_told (T : Txt K mg)  (hr : Room 0 (A.deeper (envOfC "Sound.told" (defScope s_Sound_told) s.heap.objs.size f cdv))) : PSs (cxOf CX0 P w K mg base N_Sound_told "Sound.told" (defScope s_Sound_told) f cdv A outer s H E).nox (defBody s_Sound_told) (t_Sound_told K) :=
  have nd := sc_Sound_told.nd
  pss_one (ps_ret (pe_lc (own := [("told", 1)]) (g := gName 1) rfl nd (pi_list (pe_fld (pv 0) rfl)) (blkOk_by (own := [("told", 1)]) (N := N_Sound_told) (sc := defScope s_Sound_told) (by decide +kernel)) (fun _ _ _ _ _ => pg_name (i := 1) nd rfl (Or.inl rfl)) (fun _ _ _ _ _ => pts_nil) (fun _ _ _ _ _ => pe_callTy call_dictD (by rfl) T.free_dict (by decide +kernel) (pa_cons (pv 1) pa_nil))))
theorem fn_Sound_told (T : Txt K mg)  (pure : ∀ vs H Q E, sp_Sound_told K vs H Q E → vs.length = 1 ∧ t_Sound_told K { nx := fun _ H' => Q .non H', rt := Q } (start N_Sound_told vs) H) : Fn P w K mg base CX0 1 (He.fAd K ("Sound", some "told")) ["self"] (sp_Sound_told K) := by
  obtain ⟨fd, F⟩ := T.def_Sound_told
  refine ⟨fd, F.ok sc_Sound_told (fun vs H Q E h => (pure vs H Q E h).1) (fun cdv A outer s H vs Q E hr h => ⟨t_Sound_told K, PSs.nox (d_Sound_told T  hr), (pure vs H Q E h).2⟩), F.bindsN (fun _ _ _ _ _ _ us hl => match us, hl with | [_], _ => rfl), F.kp⟩
theorem d_Sound_told_LateSound (T : Txt K mg)  (hr : Room 0 (A.deeper (envOfC "Sound.told" (defScope s_Sound_told) s.heap.objs.size f cdv))) : PSs (cxOf CX0 P w K mg base N_Sound_told_LateSound "Sound.told" (defScope s_Sound_told) f cdv A outer s H E).nox (defBody s_Sound_told) (t_Sound_told_LateSound K) :=
  have nd := sc_Sound_told_LateSound.nd
  pss_one (ps_ret (pe_lc (own := [("told", 1)]) (g := gName 1) rfl nd (pi_list (pe_fld (pv 0) rfl)) (blkOk_by (own := [("told", 1)]) (N := N_Sound_told_LateSound) (sc := defScope s_Sound_told) (by decide +kernel)) (fun _ _ _ _ _ => pg_name (i := 1) nd rfl (Or.inl rfl)) (fun _ _ _ _ _ => pts_nil) (fun _ _ _ _ _ => pe_callTy call_dictD (by rfl) T.free_dict (by decide +kernel) (pa_cons (pv 1) pa_nil))))
theorem fn_Sound_told_LateSound (T : Txt K mg)  (pure : ∀ vs H Q E, sp_Sound_told_LateSound K vs H Q E → vs.length = 1 ∧ t_Sound_told_LateSound K { nx := fun _ H' => Q .non H', rt := Q } (start N_Sound_told_LateSound vs) H) : Fn P w K mg base CX0 1 (He.fAd K ("LateSound", some "told")) ["self"] (sp_Sound_told_LateSound K) := by
  obtain ⟨fd, F⟩ := T.def_Sound_told_LateSound
  refine ⟨fd, F.ok sc_Sound_told_LateSound (fun vs H Q E h => (pure vs H Q E h).1) (fun cdv A outer s H vs Q E hr h => ⟨t_Sound_told_LateSound K, PSs.nox (d_Sound_told_LateSound T  hr), (pure vs H Q E h).2⟩), F.bindsN (fun _ _ _ _ _ _ us hl => match us, hl with | [_], _ => rfl), F.kp⟩
theorem d_first_from (T : Txt K mg)  (hr : Room 0 (A.deeper (envOfC "first_from" (defScope s_first_from) s.heap.objs.size f cdv))) : PSs (cxOf CX0 P w K mg base N_first_from "first_from" (defScope s_first_from) f cdv A outer s H E).nox (defBody s_first_from) (t_first_from K) :=
  have nd := sc_first_from.nd
  pss_one (ps_ret (pe_op op_add (pv 0) (pe_op op_mod (pe_op op_sub (pv 1) (pv 0)) (pv 2))))
theorem fn_first_from (T : Txt K mg)  (pure : ∀ vs H Q E, sp_first_from K vs H Q E → vs.length = 3 ∧ t_first_from K { nx := fun _ H' => Q .non H', rt := Q } (start N_first_from vs) H) : Fn P w K mg base CX0 1 (He.fAd K ("first_from", none)) ["now", "rest", "whole"] (sp_first_from K) := by
  obtain ⟨fd, F⟩ := T.def_first_from
  refine ⟨fd, F.ok sc_first_from (fun vs H Q E h => (pure vs H Q E h).1) (fun cdv A outer s H vs Q E hr h => ⟨t_first_from K, PSs.nox (d_first_from T  hr), (pure vs H Q E h).2⟩), F.bindsN (fun _ _ _ _ _ _ us hl => match us, hl with | [_, _, _], _ => rfl), F.kp⟩
theorem d_ends_in (T : Txt K mg)  (hr : Room 0 (A.deeper (envOfC "ends_in" (defScope s_ends_in) s.heap.objs.size f cdv))) : PSs (cxOf CX0 P w K mg base N_ends_in "ends_in" (defScope s_ends_in) f cdv A outer s H E).nox (defBody s_ends_in) (t_ends_in K) :=
  have nd := sc_ends_in.nd
  pss_cons (ps_if (pt_cmpR op_lt (pv 0) (pv 1) (nomark _)) (pss_one (ps_ret (pe_tup (pa_cons pe_int (pa_cons (pe_op op_sub (pv 1) (pv 0)) pa_nil))))) pss_nil)
  (pss_one (ps_ret (pe_tup (pa_cons (pe_op op_add pe_int (pe_op op_fdiv (pe_op op_sub (pv 0) (pv 1)) (pv 2))) (pa_cons (pe_op op_sub (pv 2) (pe_op op_mod (pe_op op_sub (pv 0) (pv 1)) (pv 2))) pa_nil)))))
theorem fn_ends_in (T : Txt K mg)  (pure : ∀ vs H Q E, sp_ends_in K vs H Q E → vs.length = 3 ∧ t_ends_in K { nx := fun _ H' => Q .non H', rt := Q } (start N_ends_in vs) H) : Fn P w K mg base CX0 1 (He.fAd K ("ends_in", none)) ["cycles", "count", "start"] (sp_ends_in K) := by
  obtain ⟨fd, F⟩ := T.def_ends_in
  refine ⟨fd, F.ok sc_ends_in (fun vs H Q E h => (pure vs H Q E h).1) (fun cdv A outer s H vs Q E hr h => ⟨t_ends_in K, PSs.nox (d_ends_in T  hr), (pure vs H Q E h).2⟩), F.bindsN (fun _ _ _ _ _ _ us hl => match us, hl with | [_, _, _], _ => rfl), F.kp⟩
theorem d_LateSound_next (T : Txt K mg)  (hr : Room 0 (A.deeper (envOfC "LateSound.next" (defScope s_LateSound_next) s.heap.objs.size f cdv))) : PSs (cxOf CX0 P w K mg base N_LateSound_next "LateSound.next" (defScope s_LateSound_next) f cdv A outer s H E).nox (defBody s_LateSound_next) (t_LateSound_next K) :=
  have nd := sc_LateSound_next.nd
  pss_one (ps_ret (pe_fld (pv 0) rfl))
theorem fn_LateSound_next (T : Txt K mg)  (pure : ∀ vs H Q E, sp_LateSound_next K vs H Q E → vs.length = 1 ∧ t_LateSound_next K { nx := fun _ H' => Q .non H', rt := Q } (start N_LateSound_next vs) H) : Fn P w K mg base CX0 1 (He.fAd K ("LateSound", some "next")) ["self"] (sp_LateSound_next K) := by
  obtain ⟨fd, F⟩ := T.def_LateSound_next
  refine ⟨fd, F.ok sc_LateSound_next (fun vs H Q E h => (pure vs H Q E h).1) (fun cdv A outer s H vs Q E hr h => ⟨t_LateSound_next K, PSs.nox (d_LateSound_next T  hr), (pure vs H Q E h).2⟩), F.bindsN (fun _ _ _ _ _ _ us hl => match us, hl with | [_], _ => rfl), F.kp⟩
theorem d_LateSound__pass (T : Txt K mg) (G_ends_in : Fn P w K mg base CX0 1 (He.fAd K ("ends_in", none)) ["cycles", "count", "start"] (sp_ends_in K)) (hr : Room 1 (A.deeper (envOfC "LateSound._pass" (defScope s_LateSound__pass) s.heap.objs.size f cdv))) : PSs (cxOf CX0 P w K mg base N_LateSound__pass "LateSound._pass" (defScope s_LateSound__pass) f cdv A outer s H E).nox (defBody s_LateSound__pass) (t_LateSound__pass K) :=
  have nd := sc_LateSound__pass.nd
  pss_one (ps_for PassesOwn.never rfl (pi_enum rfl T.free_enumerate (pa_cons (pe_fld (pv 0) rfl) pa_nil)) (pg_tup rfl (pgs_cons (pg_name (i := 2) nd rfl (Or.inl rfl)) (pgs_cons (pg_name (i := 3) nd rfl (Or.inl rfl)) pgs_nil))) (pss_one (ps_if (pt_val (pe_dget (hu_of hr) (pv 3) pe_str (fun _ _ => rfl))) (pss_cons (ps_asg (pe_f G_ends_in hr (by decide) T.glo_ends_in pass0 (pa_cons (pv 1) (pa_cons (pe_dget (hu_of hr) (pv 3) pe_str (fun _ _ => rfl)) (pa_cons (pe_dget (hu_of hr) (pv 3) pe_str (fun _ _ => rfl)) pa_nil)))) (pg_tup rfl (pgs_cons (pg_name (i := 4) nd rfl (Or.inl rfl)) (pgs_cons (pg_sub (pv 3) pe_str (set_dict (hu_of hr))) pgs_nil))))
  (pss_one (ps_if (pt_cmpR op_ne (pv 2) (pe_gi T.int_NOISE) (nomark _)) (pss_one (ps_dput (hu_of hr) (pv 3) pe_str (pe_op op_mod (pe_op op_add (pe_dget (hu_of hr) (pv 3) pe_str (fun _ _ => rfl)) (pv 4)) pe_int) rfl)) (pss_one (ps_if (pt_cmpR op_gt (pv 4) pe_int (nomark _)) (pss_cons (ps_for PassesOwn.never rfl (pi_range1 rfl T.free_range (pa_cons (pv 4) pa_nil)) (pg_name (i := 5) nd rfl (Or.inl rfl)) (pss_cons (ps_set (i := 6) nd rfl (Or.inl rfl) (pe_op op_mod (pe_op op_add (pe_dget (hu_of hr) (pv 3) pe_str (fun _ _ => rfl)) (pe_op op_fdiv (pe_dget (hu_of hr) (pv 3) pe_str (fun _ _ => rfl)) pe_int)) pe_int))
  (pss_one (ps_dput (hu_of hr) (pv 3) pe_str (pe_op op_add (pe_op op_fdiv (pe_dget (hu_of hr) (pv 3) pe_str (fun _ _ => rfl)) pe_int) (pe_op op_mul (pe_gi T.int_TOP) (pv 6))) rfl))))
  (pss_one (ps_dput (hu_of hr) (pv 3) pe_str (pe_op op_mod (pe_dget (hu_of hr) (pv 3) pe_str (fun _ _ => rfl)) pe_int) rfl))) pss_nil))))) pss_nil)))
theorem fn_LateSound__pass (T : Txt K mg) (G_ends_in : Fn P w K mg base CX0 1 (He.fAd K ("ends_in", none)) ["cycles", "count", "start"] (sp_ends_in K)) (pure : ∀ vs H Q E, sp_LateSound__pass K vs H Q E → vs.length = 2 ∧ t_LateSound__pass K { nx := fun _ H' => Q .non H', rt := Q } (start N_LateSound__pass vs) H) : Fn P w K mg base CX0 2 (He.fAd K ("LateSound", some "_pass")) ["self", "cycles"] (sp_LateSound__pass K) := by
  obtain ⟨fd, F⟩ := T.def_LateSound__pass
  refine ⟨fd, F.ok sc_LateSound__pass (fun vs H Q E h => (pure vs H Q E h).1) (fun cdv A outer s H vs Q E hr h => ⟨t_LateSound__pass K, PSs.nox (d_LateSound__pass T G_ends_in hr), (pure vs H Q E h).2⟩), F.bindsN (fun _ _ _ _ _ _ us hl => match us, hl with | [_, _], _ => rfl), F.kp⟩
theorem d_LateSound_live_to (T : Txt K mg) (G_first_from : Fn P w K mg base CX0 1 (He.fAd K ("first_from", none)) ["now", "rest", "whole"] (sp_first_from K)) (G_LateSound__pass : Fn P w K mg base CX0 2 (He.fAd K ("LateSound", some "_pass")) ["self", "cycles"] (sp_LateSound__pass K)) (G_Sound__sample_LateSound : Fn P w K mg base CX0 1 (He.fAd K ("LateSound", some "_sample")) ["self"] (sp_Sound__sample_LateSound K)) (hr : Room 2 (A.deeper (envOfC "LateSound.live_to" (defScope s_LateSound_live_to) s.heap.objs.size f cdv))) : PSs (cxOf CX0 P w K mg base N_LateSound_live_to "LateSound.live_to" (defScope s_LateSound_live_to) f cdv A outer s H E).nox (defBody s_LateSound_live_to) (t_LateSound_live_to K) :=
  have nd := sc_LateSound_live_to.nd
  pss_cons (ps_set (i := 2) nd rfl (Or.inl rfl) (pe_lst pa_nil))
  (pss_cons (ps_while PassesOwn.never (pt_cmpR op_lt (pe_fld (pv 0) rfl) (pv 1) (nomark _)) (pss_cons (ps_set (i := 3) nd rfl (Or.inl rfl) (pe_f G_first_from hr (by decide) T.glo_first_from pass0 (pa_cons (pe_fld (pv 0) rfl) (pa_cons (pe_op op_sub (pe_gi T.int_EVERY) pe_int) (pa_cons (pe_gi T.int_EVERY) pa_nil)))))
  (pss_cons (ps_set (i := 4) nd rfl (Or.inl rfl) (pe_callB (call_min2 rfl) (by rfl) T.free_min (by decide +kernel) (pa_cons (pv 1) (pa_cons (pe_op op_add (pv 3) pe_int) pa_nil))))
  (pss_cons (ps_expr (pe_m G_LateSound__pass hr (by decide) T.cls_LateSound T.meth_LateSound__pass pass0 (pv 0) (pa_cons (pe_op op_sub (pv 4) (pe_fld (pv 0) rfl)) pa_nil)))
  (pss_cons (ps_fld (pv 0) (pv 4) rfl)
  (pss_one (ps_if (pt_cmpR op_eq (pv 4) (pe_op op_add (pv 3) pe_int) (nomark _)) (pss_one (ps_expr (pe_bm PySem.F.plainAttrs_list PySem.F.slot_list_append PySem.F.type_list_append mt_append (pv 2) (pa_cons (pe_m0 G_Sound__sample_LateSound hr (by decide) T.cls_LateSound T.meth_LateSound__sample pass0 (pv 0)) pa_nil)))) pss_nil)))))))
  (pss_one (ps_ret (pv 2))))
theorem fn_LateSound_live_to (T : Txt K mg) (G_first_from : Fn P w K mg base CX0 1 (He.fAd K ("first_from", none)) ["now", "rest", "whole"] (sp_first_from K)) (G_LateSound__pass : Fn P w K mg base CX0 2 (He.fAd K ("LateSound", some "_pass")) ["self", "cycles"] (sp_LateSound__pass K)) (G_Sound__sample_LateSound : Fn P w K mg base CX0 1 (He.fAd K ("LateSound", some "_sample")) ["self"] (sp_Sound__sample_LateSound K)) (pure : ∀ vs H Q E, sp_LateSound_live_to K vs H Q E → vs.length = 2 ∧ t_LateSound_live_to K { nx := fun _ H' => Q .non H', rt := Q } (start N_LateSound_live_to vs) H) : Fn P w K mg base CX0 3 (He.fAd K ("LateSound", some "live_to")) ["self", "goal"] (sp_LateSound_live_to K) := by
  obtain ⟨fd, F⟩ := T.def_LateSound_live_to
  refine ⟨fd, F.ok sc_LateSound_live_to (fun vs H Q E h => (pure vs H Q E h).1) (fun cdv A outer s H vs Q E hr h => ⟨t_LateSound_live_to K, PSs.nox (d_LateSound_live_to T G_first_from G_LateSound__pass G_Sound__sample_LateSound hr), (pure vs H Q E h).2⟩), F.bindsN (fun _ _ _ _ _ _ us hl => match us, hl with | [_, _], _ => rfl), F.kp⟩
theorem d__law_draws (T : Txt K mg)  (hr : Room 0 (A.deeper (envOfC "_law_draws" (defScope s__law_draws) s.heap.objs.size f cdv))) : PSs (cxOf CX0 P w K mg base N__law_draws "_law_draws" (defScope s__law_draws) f cdv A outer s H E).nox (defBody s__law_draws) (t__law_draws K) :=
  have nd := sc__law_draws.nd
  pss_cons (ps_set (i := 1) nd rfl (Or.inl rfl) (pe_lst pa_nil))
  (pss_cons (ps_for PassesOwn.never rfl (pi_range1 rfl T.free_range (pa_cons (pe_callB (call_min2 rfl) (by rfl) T.free_min (by decide +kernel) (pa_cons pe_int (pa_cons (pe_callB call_len (by rfl) T.free_len (by decide +kernel) (pa_cons (pv 0) pa_nil)) pa_nil))) pa_nil)) (pg_name (i := 2) nd rfl (Or.inl rfl)) (pss_cons (ps_set (i := 3) nd rfl (Or.inl rfl) (pe_callB call_abs (by rfl) T.free_abs (by decide +kernel) (pa_cons (pe_ix ix_list (pv 0) (pv 2) (fun _ _ => rfl)) pa_nil)))
  (pss_one (ps_if (pt_cmpR op_ge (pv 3) (pe_op op_pow pe_int pe_int) (nomark _)) (pss_one (ps_for PassesOwn.never rfl (pi_range1 rfl T.free_range (pa_cons pe_int pa_nil)) (pg_name (i := 4) nd rfl (Or.inl rfl)) (pss_one (ps_if (pt_cmpR op_gt (pv 3) pe_int (nomark _)) (pss_cons (ps_expr (pe_bm PySem.F.plainAttrs_list PySem.F.slot_list_append PySem.F.type_list_append mt_append (pv 1) (pa_cons (pe_op op_mod (pe_callTy call_int1 (by rfl) T.free_int (by decide +kernel) (pa_cons (pv 3) pa_nil)) pe_int) pa_nil)))
  (pss_one (ps_set (i := 3) nd rfl (Or.inl rfl) (pe_op op_fdiv (pv 3) pe_int)))) pss_nil)))) (pss_cons (ps_set (i := 5) nd rfl (Or.inl rfl) (pe_op op_mod (pe_callTy call_int1 (by rfl) T.free_int (by decide +kernel) (pa_cons (pe_op op_add (pe_op op_mul (pv 3) pe_int) (pe_op op_mul (pe_op op_add (pv 2) pe_int) pe_int)) pa_nil)) pe_int))
  (pss_cons (ps_set (i := 5) nd rfl (Or.inl rfl) (pe_op op_mod (pe_callTy call_int1 (by rfl) T.free_int (by decide +kernel) (pa_cons (pe_op op_add (pe_op op_add (pe_op op_mul (pv 5) pe_int) (pe_op op_mul pe_int (pv 2))) pe_int) pa_nil)) pe_int))
  (pss_cons (ps_expr (pe_bm PySem.F.plainAttrs_list PySem.F.slot_list_append PySem.F.type_list_append mt_append (pv 1) (pa_cons (pe_op op_mod (pe_callTy call_int1 (by rfl) T.free_int (by decide +kernel) (pa_cons (pv 5) pa_nil)) pe_int) pa_nil)))
  (pss_one (ps_expr (pe_bm PySem.F.plainAttrs_list PySem.F.slot_list_append PySem.F.type_list_append mt_append (pv 1) (pa_cons (pe_op op_mod (pe_callTy call_int1 (by rfl) T.free_int (by decide +kernel) (pa_cons (pe_op op_fdiv (pv 5) pe_int) pa_nil)) pe_int) pa_nil)))))))))))
  (pss_one (ps_ret (pv 1))))
theorem fn__law_draws (T : Txt K mg)  (pure : ∀ vs H Q E, sp__law_draws K vs H Q E → vs.length = 1 ∧ t__law_draws K { nx := fun _ H' => Q .non H', rt := Q } (start N__law_draws vs) H) : Fn P w K mg base CX0 1 (He.fAd K ("_law_draws", none)) ["script"] (sp__law_draws K) := by
  obtain ⟨fd, F⟩ := T.def__law_draws
  refine ⟨fd, F.ok sc__law_draws (fun vs H Q E h => (pure vs H Q E h).1) (fun cdv A outer s H vs Q E hr h => ⟨t__law_draws K, PSs.nox (d__law_draws T  hr), (pure vs H Q E h).2⟩), F.bindsN (fun _ _ _ _ _ _ us hl => match us, hl with | [_], _ => rfl), F.kp⟩
theorem d__law_mix (T : Txt K mg)  (hr : Room 0 (A.deeper (envOfC "_law_mix" (defScope s__law_mix) s.heap.objs.size f cdv))) : PSs (cxOf CX0 P w K mg base N__law_mix "_law_mix" (defScope s__law_mix) f cdv A outer s H E).nox (defBody s__law_mix) (t__law_mix K) :=
  have nd := sc__law_mix.nd
  pss_cons (ps_set (i := 3) nd rfl (Or.inl rfl) pe_int)
  (pss_cons (ps_if (pt_cmpR op_gt (pe_callB call_len (by rfl) T.free_len (by decide +kernel) (pa_cons (pv 0) pa_nil)) pe_int (nomark _)) (pss_one (ps_set (i := 3) nd rfl (Or.inl rfl) (pe_ix ix_list (pv 0) (pe_op op_mod (pe_callTy call_int1 (by rfl) T.free_int (by decide +kernel) (pa_cons (pv 1) pa_nil)) (pe_callB call_len (by rfl) T.free_len (by decide +kernel) (pa_cons (pv 0) pa_nil))) (fun _ _ => rfl)))) pss_nil)
  (pss_cons (ps_if (pt_cmpR op_lt (pv 1) (pe_callB call_len (by rfl) T.free_len (by decide +kernel) (pa_cons (pv 0) pa_nil)) (nomark _)) (pss_one (ps_ret (pe_op op_mod (pe_callTy call_int1 (by rfl) T.free_int (by decide +kernel) (pa_cons (pv 3) pa_nil)) (pv 2)))) pss_nil)
  (pss_one (ps_ret (pe_op op_mod (pe_callTy call_int1 (by rfl) T.free_int (by decide +kernel) (pa_cons (pe_op op_fdiv (pe_callTy call_int1 (by rfl) T.free_int (by decide +kernel) (pa_cons (pe_op op_add (pe_op op_mul (pv 3) pe_int) (pe_op op_mul (pv 1) pe_int)) pa_nil)) pe_int) pa_nil)) (pv 2))))))
theorem fn__law_mix (T : Txt K mg)  (pure : ∀ vs H Q E, sp__law_mix K vs H Q E → vs.length = 3 ∧ t__law_mix K { nx := fun _ H' => Q .non H', rt := Q } (start N__law_mix vs) H) : Fn P w K mg base CX0 1 (He.fAd K ("_law_mix", none)) ["draws", "k", "many"] (sp__law_mix K) := by
  obtain ⟨fd, F⟩ := T.def__law_mix
  refine ⟨fd, F.ok sc__law_mix (fun vs H Q E h => (pure vs H Q E h).1) (fun cdv A outer s H vs Q E hr h => ⟨t__law_mix K, PSs.nox (d__law_mix T  hr), (pure vs H Q E h).2⟩), F.bindsN (fun _ _ _ _ _ _ us hl => match us, hl with | [_, _, _], _ => rfl), F.kp⟩
theorem d__law_noise (T : Txt K mg)  (hr : Room 0 (A.deeper (envOfC "_law_noise" (defScope s__law_noise) s.heap.objs.size f cdv))) : PSs (cxOf CX0 P w K mg base N__law_noise "_law_noise" (defScope s__law_noise) f cdv A outer s H E).nox (defBody s__law_noise) (t__law_noise K) :=
  have nd := sc__law_noise.nd
  pss_cons (ps_set (i := 1) nd rfl (Or.inl rfl) (pe_op op_cat (pe_lst (pa_cons pe_int pa_nil)) (pe_op op_rep (pe_lst (pa_cons pe_int pa_nil)) pe_int)))
  (pss_cons (ps_for PassesOwn.never rfl (pi_range1 rfl T.free_range (pa_cons (pv 0) pa_nil)) (pg_name (i := 2) nd rfl (Or.inl rfl)) (pss_one (ps_expr (pe_bm PySem.F.plainAttrs_list PySem.F.slot_list_append PySem.F.type_list_append mt_append (pv 1) (pa_cons (pe_op op_mod (pe_callTy call_int1 (by rfl) T.free_int (by decide +kernel) (pa_cons (pe_op op_add (pe_ix ix_list (pv 1) (pv 2) (fun _ _ => rfl)) (pe_ix ix_list (pv 1) (pe_op op_add (pv 2) pe_int) (fun _ _ => rfl))) pa_nil)) pe_int) pa_nil)))))
  (pss_one (ps_ret (pv 1))))
theorem fn__law_noise (T : Txt K mg)  (pure : ∀ vs H Q E, sp__law_noise K vs H Q E → vs.length = 1 ∧ t__law_noise K { nx := fun _ H' => Q .non H', rt := Q } (start N__law_noise vs) H) : Fn P w K mg base CX0 1 (He.fAd K ("_law_noise", none)) ["many"] (sp__law_noise K) := by
  obtain ⟨fd, F⟩ := T.def__law_noise
  refine ⟨fd, F.ok sc__law_noise (fun vs H Q E h => (pure vs H Q E h).1) (fun cdv A outer s H vs Q E hr h => ⟨t__law_noise K, PSs.nox (d__law_noise T  hr), (pure vs H Q E h).2⟩), F.bindsN (fun _ _ _ _ _ _ us hl => match us, hl with | [_], _ => rfl), F.kp⟩
theorem d__law_channel (T : Txt K mg) (G__law_mix : Fn P w K mg base CX0 1 (He.fAd K ("_law_mix", none)) ["draws", "k", "many"] (sp__law_mix K)) (hr : Room 1 (A.deeper (envOfC "_law_channel" (defScope s__law_channel) s.heap.objs.size f cdv))) : PSs (cxOf CX0 P w K mg base N__law_channel "_law_channel" (defScope s__law_channel) f cdv A outer s H E).nox (defBody s__law_channel) (t__law_channel K) :=
  have nd := sc__law_channel.nd
  pss_cons (ps_set (i := 2) nd rfl (Or.inl rfl) (pe_op op_add pe_int (pe_f G__law_mix hr (by decide) T.glo__law_mix pass0 (pa_cons (pv 0) (pa_cons (pv 1) (pa_cons (pe_ix ix_list (pe_lst (pa_cons pe_int (pa_cons pe_int (pa_cons pe_int pa_nil)))) (pe_f G__law_mix hr (by decide) T.glo__law_mix pass0 (pa_cons (pv 0) (pa_cons (pe_op op_add (pv 1) pe_int) (pa_cons pe_int pa_nil)))) (fun _ _ => rfl)) pa_nil))))))
  (pss_cons (ps_set (i := 3) nd rfl (Or.inl rfl) (pe_ix ix_list (pe_lst (pa_cons pe_int (pa_cons (pe_f G__law_mix hr (by decide) T.glo__law_mix pass0 (pa_cons (pv 0) (pa_cons (pe_op op_add (pv 1) pe_int) (pa_cons pe_int pa_nil)))) (pa_cons pe_int pa_nil)))) (pe_f G__law_mix hr (by decide) T.glo__law_mix pass0 (pa_cons (pv 0) (pa_cons (pe_op op_add (pv 1) pe_int) (pa_cons pe_int pa_nil)))) (fun _ _ => rfl)))
  (pss_cons (ps_set (i := 4) nd rfl (Or.inl rfl) (pe_f G__law_mix hr (by decide) T.glo__law_mix pass0 (pa_cons (pv 0) (pa_cons (pe_op op_add (pv 1) pe_int) (pa_cons pe_int pa_nil)))))
  (pss_one (ps_ret (pe_disp (pps_cons pe_str (pv 4) (pps_cons pe_str (pv 2) (pps_cons pe_str (pe_f G__law_mix hr (by decide) T.glo__law_mix pass0 (pa_cons (pv 0) (pa_cons (pe_op op_add (pv 1) pe_int) (pa_cons pe_int pa_nil)))) (pps_cons pe_str (pv 3) (pps_cons pe_str (pe_op op_add (pv 4) (pe_f G__law_mix hr (by decide) T.glo__law_mix pass0 (pa_cons (pv 0) (pa_cons (pe_op op_add (pv 1) pe_int) (pa_cons pe_int pa_nil))))) (pps_cons pe_str (pe_f G__law_mix hr (by decide) T.glo__law_mix pass0 (pa_cons (pv 0) (pa_cons (pe_op op_add (pv 1) pe_int) (pa_cons pe_int pa_nil)))) pps_nil)))))) (by rfl) (by rfl) (fun z => by cases z) (by decide))))))
theorem fn__law_channel (T : Txt K mg) (G__law_mix : Fn P w K mg base CX0 1 (He.fAd K ("_law_mix", none)) ["draws", "k", "many"] (sp__law_mix K)) (pure : ∀ vs H Q E, sp__law_channel K vs H Q E → vs.length = 2 ∧ t__law_channel K { nx := fun _ H' => Q .non H', rt := Q } (start N__law_channel vs) H) : Fn P w K mg base CX0 2 (He.fAd K ("_law_channel", none)) ["draws", "k"] (sp__law_channel K) := by
  obtain ⟨fd, F⟩ := T.def__law_channel
  refine ⟨fd, F.ok sc__law_channel (fun vs H Q E h => (pure vs H Q E h).1) (fun cdv A outer s H vs Q E hr h => ⟨t__law_channel K, PSs.nox (d__law_channel T G__law_mix hr), (pure vs H Q E h).2⟩), F.bindsN (fun _ _ _ _ _ _ us hl => match us, hl with | [_, _], _ => rfl), F.kp⟩
theorem d__law_lets (T : Txt K mg)  (hr : Room 0 (A.deeper (envOfC "_law_lets" (defScope s__law_lets) s.heap.objs.size f cdv))) : PSs (cxOf CX0 P w K mg base N__law_lets "_law_lets" (defScope s__law_lets) f cdv A outer s H E).nox (defBody s__law_lets) (t__law_lets K) :=
  have nd := sc__law_lets.nd
  pss_cons (ps_set (i := 2) nd rfl (Or.inl rfl) (pe_lst pa_nil))
  (pss_cons (ps_for PassesOwn.never rfl (pi_range1 rfl T.free_range (pa_cons pe_int pa_nil)) (pg_name (i := 3) nd rfl (Or.inl rfl)) (pss_cons (ps_set (i := 4) nd rfl (Or.inl rfl) (pe_ix ix_list (pv 0) (pv 3) (fun _ _ => rfl)))
  (pss_cons (ps_if (pt_cmpR op_eq (pe_dget (hu_of hr) (pv 4) pe_str (fun _ _ => rfl)) (pv 1) (nomark _)) (pss_one (ps_set (i := 2) nd rfl (Or.inl rfl) (pe_op op_cat (pv 2) (pe_lst (pa_cons (pe_tup (pa_cons (pe_op op_add (pe_op op_mul pe_int (pv 3)) pe_int) (pa_cons (pe_dget (hu_of hr) (pv 4) pe_str (fun _ _ => rfl)) pa_nil))) (pa_cons (pe_tup (pa_cons (pe_op op_mul pe_int (pv 3)) (pa_cons (pe_op op_mod (pe_callTy call_int1 (by rfl) T.free_int (by decide +kernel) (pa_cons (pe_dget (hu_of hr) (pv 4) pe_str (fun _ _ => rfl)) pa_nil)) pe_int) pa_nil))) (pa_cons (pe_tup (pa_cons (pe_op op_add (pe_op op_mul pe_int (pv 3)) pe_int) (pa_cons (pe_op op_add (pe_dget (hu_of hr) (pv 4) pe_str (fun _ _ => rfl)) (pe_op op_mul pe_int (pv 3))) pa_nil))) (pa_cons (pe_tup (pa_cons (pe_op op_add (pe_op op_mul pe_int (pv 3)) pe_int) (pa_cons (pe_op op_mul pe_int (pv 3)) pa_nil))) pa_nil)))))))) pss_nil)
  (pss_one (ps_if (pt_cmpR op_eq (pe_dget (hu_of hr) (pv 4) pe_str (fun _ _ => rfl)) (pv 1) (nomark _)) (pss_one (ps_set (i := 2) nd rfl (Or.inl rfl) (pe_op op_cat (pv 2) (pe_lst (pa_cons (pe_tup (pa_cons (pe_op op_add (pe_op op_mul pe_int (pv 3)) pe_int) (pa_cons (pe_dget (hu_of hr) (pv 4) pe_str (fun _ _ => rfl)) pa_nil))) pa_nil))))) pss_nil)))))
  (pss_one (ps_ret (pv 2))))
theorem fn__law_lets (T : Txt K mg)  (pure : ∀ vs H Q E, sp__law_lets K vs H Q E → vs.length = 2 ∧ t__law_lets K { nx := fun _ H' => Q .non H', rt := Q } (start N__law_lets vs) H) : Fn P w K mg base CX0 1 (He.fAd K ("_law_lets", none)) ["channels", "now"] (sp__law_lets K) := by
  obtain ⟨fd, F⟩ := T.def__law_lets
  refine ⟨fd, F.ok sc__law_lets (fun vs H Q E h => (pure vs H Q E h).1) (fun cdv A outer s H vs Q E hr h => ⟨t__law_lets K, PSs.nox (d__law_lets T  hr), (pure vs H Q E h).2⟩), F.bindsN (fun _ _ _ _ _ _ us hl => match us, hl with | [_, _], _ => rfl), F.kp⟩
theorem d__law_volume (T : Txt K mg)  (hr : Room 0 (A.deeper (envOfC "_law_volume" (defScope s__law_volume) s.heap.objs.size f cdv))) : PSs (cxOf CX0 P w K mg base N__law_volume "_law_volume" (defScope s__law_volume) f cdv A outer s H E).nox (defBody s__law_volume) (t__law_volume K) :=
  have nd := sc__law_volume.nd
  pss_one (ps_ret (pe_ix ix_list (pe_lst (pa_cons (pe_dget (hu_of hr) (pv 0) pe_str (fun _ _ => rfl)) (pa_cons (pe_op op_mod (pe_callTy call_int1 (by rfl) T.free_int (by decide +kernel) (pa_cons (pe_dget (hu_of hr) (pv 0) pe_str (fun _ _ => rfl)) pa_nil)) pe_int) pa_nil))) (pe_callTy call_int1 (by rfl) T.free_int (by decide +kernel) (pa_cons (pe_cmpR op_le (pe_dget (hu_of hr) (pv 0) pe_str (fun _ _ => rfl)) (pv 1) (nomark _)) pa_nil)) (fun _ _ => rfl)))
theorem fn__law_volume (T : Txt K mg)  (pure : ∀ vs H Q E, sp__law_volume K vs H Q E → vs.length = 2 ∧ t__law_volume K { nx := fun _ H' => Q .non H', rt := Q } (start N__law_volume vs) H) : Fn P w K mg base CX0 1 (He.fAd K ("_law_volume", none)) ["told", "now"] (sp__law_volume K) := by
  obtain ⟨fd, F⟩ := T.def__law_volume
  refine ⟨fd, F.ok sc__law_volume (fun vs H Q E h => (pure vs H Q E h).1) (fun cdv A outer s H vs Q E hr h => ⟨t__law_volume K, PSs.nox (d__law_volume T  hr), (pure vs H Q E h).2⟩), F.bindsN (fun _ _ _ _ _ _ us hl => match us, hl with | [_, _], _ => rfl), F.kp⟩
theorem d__law_phase (T : Txt K mg)  (hr : Room 0 (A.deeper (envOfC "_law_phase" (defScope s__law_phase) s.heap.objs.size f cdv))) : PSs (cxOf CX0 P w K mg base N__law_phase "_law_phase" (defScope s__law_phase) f cdv A outer s H E).nox (defBody s__law_phase) (t__law_phase K) :=
  have nd := sc__law_phase.nd
  pss_cons (ps_if (pt_cmpR op_eq (pv 0) pe_int (nomark _)) (pss_one (ps_ret (pe_op op_mul (pe_ix ix_list (pv 2) (pv 1) (fun _ _ => rfl)) (pe_callTy call_int1 (by rfl) T.free_int (by decide +kernel) (pa_cons (pe_cmpR op_gt (pv 1) pe_int (nomark _)) pa_nil))))) pss_nil)
  (pss_one (ps_ret (pe_op op_mod (pe_callTy call_int1 (by rfl) T.free_int (by decide +kernel) (pa_cons (pv 1) pa_nil)) pe_int)))
theorem fn__law_phase (T : Txt K mg)  (pure : ∀ vs H Q E, sp__law_phase K vs H Q E → vs.length = 3 ∧ t__law_phase K { nx := fun _ H' => Q .non H', rt := Q } (start N__law_phase vs) H) : Fn P w K mg base CX0 1 (He.fAd K ("_law_phase", none)) ["k", "turns", "noise"] (sp__law_phase K) := by
  obtain ⟨fd, F⟩ := T.def__law_phase
  refine ⟨fd, F.ok sc__law_phase (fun vs H Q E h => (pure vs H Q E h).1) (fun cdv A outer s H vs Q E hr h => ⟨t__law_phase K, PSs.nox (d__law_phase T  hr), (pure vs H Q E h).2⟩), F.bindsN (fun _ _ _ _ _ _ us hl => match us, hl with | [_, _, _], _ => rfl), F.kp⟩
theorem d__law_sample (T : Txt K mg) (G__law_volume : Fn P w K mg base CX0 1 (He.fAd K ("_law_volume", none)) ["told", "now"] (sp__law_volume K)) (G__law_phase : Fn P w K mg base CX0 1 (He.fAd K ("_law_phase", none)) ["k", "turns", "noise"] (sp__law_phase K)) (hr : Room 1 (A.deeper (envOfC "_law_sample" (defScope s__law_sample) s.heap.objs.size f cdv))) : PSs (cxOf CX0 P w K mg base N__law_sample "_law_sample" (defScope s__law_sample) f cdv A outer s H E).nox (defBody s__law_sample) (t__law_sample K) :=
  have nd := sc__law_sample.nd
  pss_cons (ps_par (i := 3) (j := 4) rfl nd rfl rfl (by decide) rfl rfl (pa_cons (pe_op op_add (pe_op op_mul pe_int (pv 1)) pe_int) (pa_cons pe_int pa_nil)) rfl)
  (pss_cons (ps_for PassesOwn.never rfl (pi_range1 rfl T.free_range (pa_cons pe_int pa_nil)) (pg_name (i := 5) nd rfl (Or.inl rfl)) (pss_cons (ps_set (i := 6) nd rfl (Or.inl rfl) (pe_ix ix_list (pv 0) (pv 5) (fun _ _ => rfl)))
  (pss_cons (ps_set (i := 7) nd rfl (Or.inl rfl) (pe_op op_sub (pv 1) (pe_op op_fdiv (pe_dget (hu_of hr) (pv 6) pe_str (fun _ _ => rfl)) pe_int)))
  (pss_one (ps_if ((pw_and (pt_cmpR op_le (pe_dget (hu_of hr) (pv 6) pe_str (fun _ _ => rfl)) (pv 3) (nomark _)) (pw_and1 ((pw_or (pt_cmpR op_eq (pe_dget (hu_of hr) (pv 6) pe_str (fun _ _ => rfl)) pe_int (nomark _)) (pw_or1 (pt_cmpR op_lt (pv 7) (pe_dget (hu_of hr) (pv 6) pe_str (fun _ _ => rfl)) (nomark _)))).pt))).pt) (pss_one (ps_set (i := 4) nd rfl (Or.inl rfl) (pe_op op_add (pv 4) (pe_op op_mul (pe_f G__law_volume hr (by decide) T.glo__law_volume pass0 (pa_cons (pv 6) (pa_cons (pv 3) pa_nil))) (pe_f G__law_phase hr (by decide) T.glo__law_phase pass0 (pa_cons (pv 5) (pa_cons (pe_op op_fdiv (pe_op op_add (pe_op op_sub (pv 3) (pe_dget (hu_of hr) (pv 6) pe_str (fun _ _ => rfl))) pe_int) (pe_dget (hu_of hr) (pv 6) pe_str (fun _ _ => rfl))) (pa_cons (pv 2) pa_nil)))))))) pss_nil)))))
  (pss_one (ps_ret (pv 4))))
theorem fn__law_sample (T : Txt K mg) (G__law_volume : Fn P w K mg base CX0 1 (He.fAd K ("_law_volume", none)) ["told", "now"] (sp__law_volume K)) (G__law_phase : Fn P w K mg base CX0 1 (He.fAd K ("_law_phase", none)) ["k", "turns", "noise"] (sp__law_phase K)) (pure : ∀ vs H Q E, sp__law_sample K vs H Q E → vs.length = 3 ∧ t__law_sample K { nx := fun _ H' => Q .non H', rt := Q } (start N__law_sample vs) H) : Fn P w K mg base CX0 2 (He.fAd K ("_law_sample", none)) ["channels", "j", "noise"] (sp__law_sample K) := by
  obtain ⟨fd, F⟩ := T.def__law_sample
  refine ⟨fd, F.ok sc__law_sample (fun vs H Q E h => (pure vs H Q E h).1) (fun cdv A outer s H vs Q E hr h => ⟨t__law_sample K, PSs.nox (d__law_sample T G__law_volume G__law_phase hr), (pure vs H Q E h).2⟩), F.bindsN (fun _ _ _ _ _ _ us hl => match us, hl with | [_, _, _], _ => rfl), F.kp⟩
theorem d__law_end (T : Txt K mg) (G__law_volume : Fn P w K mg base CX0 1 (He.fAd K ("_law_volume", none)) ["told", "now"] (sp__law_volume K)) (G__law_phase : Fn P w K mg base CX0 1 (He.fAd K ("_law_phase", none)) ["k", "turns", "noise"] (sp__law_phase K)) (hr : Room 1 (A.deeper (envOfC "_law_end" (defScope s__law_end) s.heap.objs.size f cdv))) : PSs (cxOf CX0 P w K mg base N__law_end "_law_end" (defScope s__law_end) f cdv A outer s H E).nox (defBody s__law_end) (t__law_end K) :=
  have nd := sc__law_end.nd
  pss_cons (ps_if (pt_cmpR op_le (pv 2) (pe_dget (hu_of hr) (pv 1) pe_str (fun _ _ => rfl)) (nomark _)) (pss_one (ps_ret (pe_disp (pps_cons pe_str pe_int (pps_cons pe_str pe_int (pps_cons pe_str pe_int (pps_cons pe_str pe_bl (pps_cons pe_str pe_int (pps_cons pe_str pe_int (pps_cons pe_str pe_int (pps_cons pe_str pe_int pps_nil)))))))) (by rfl) (by rfl) (fun z => by cases z) (by decide)))) pss_nil)
  (pss_cons (ps_par3 (i := 4) (j := 5) (l := 6) rfl nd rfl rfl rfl (by decide) (by decide) (by decide) rfl rfl rfl (pa_cons (pe_op op_sub (pe_op op_fdiv (pv 2) pe_int) (pe_op op_fdiv (pe_dget (hu_of hr) (pv 1) pe_str (fun _ _ => rfl)) pe_int)) (pa_cons pe_bl (pa_cons (pe_op op_sub (pv 2) (pe_dget (hu_of hr) (pv 1) pe_str (fun _ _ => rfl))) pa_nil))) rfl)
  (pss_cons (ps_set (i := 7) nd rfl (Or.inl rfl) (pe_callB (call_max2 rfl) (by rfl) T.free_max (by decide +kernel) (pa_cons pe_int (pa_cons (pe_op op_sub (pe_dget (hu_of hr) (pv 1) pe_str (fun _ _ => rfl)) (pv 4)) pa_nil))))
  (pss_cons (ps_if ((pw_and (pt_cmpR op_gt (pe_dget (hu_of hr) (pv 1) pe_str (fun _ _ => rfl)) pe_int (nomark _)) (pw_and1 (pt_cmpR op_eq (pv 7) pe_int (nomark _)))).pt) (pss_one (ps_par (i := 5) (j := 6) rfl nd rfl rfl (by decide) rfl rfl (pa_cons pe_bl (pa_cons (pe_op op_sub (pe_op op_mul pe_int (pe_op op_add (pe_op op_fdiv (pe_dget (hu_of hr) (pv 1) pe_str (fun _ _ => rfl)) pe_int) (pe_dget (hu_of hr) (pv 1) pe_str (fun _ _ => rfl)))) (pe_dget (hu_of hr) (pv 1) pe_str (fun _ _ => rfl))) pa_nil)) rfl)) pss_nil)
  (pss_cons (ps_asg (pe_tup (pa_cons (pe_op op_fdiv (pv 6) (pe_dget (hu_of hr) (pv 1) pe_str (fun _ _ => rfl))) (pa_cons pe_int pa_nil))) (pg_tup rfl (pgs_cons (pg_name (i := 8) nd rfl (Or.inr rfl)) (pgs_cons (pg_name (i := 9) nd rfl (Or.inl rfl)) pgs_nil))))
  (pss_cons (ps_if (pt_cmpR op_eq (pv 0) pe_int (nomark _)) (pss_one (ps_set (i := 9) nd rfl (Or.inl rfl) (pe_callB (cr_sum rfl) (by rfl) T.free_sum (by decide +kernel) (pa_cons (pe_lc (own := [("place", 11)]) (g := gName 11) rfl nd (pi_range1 rfl T.free_range (pa_cons pe_int pa_nil)) (blkOk_by (own := [("place", 11)]) (N := N__law_end) (sc := defScope s__law_end) (by decide +kernel)) (fun _ _ _ _ _ => pg_name (i := 11) nd rfl (Or.inl rfl)) (fun _ _ _ _ _ => pts_nil) (fun _ _ _ _ _ => pe_op op_mul (pe_ix ix_list (pv 3) (pe_op op_add (pv 8) (pv 11)) (fun _ _ => rfl)) (pe_ix ix_list (pe_lst (pa_cons pe_int (pa_cons pe_int (pa_cons pe_int (pa_cons pe_int (pa_cons pe_int (pa_cons pe_int (pa_cons pe_int (pa_cons pe_int (pa_cons pe_int (pa_cons pe_int (pa_cons pe_int (pa_cons pe_int (pa_cons pe_int (pa_cons pe_int (pa_cons pe_int pa_nil)))))))))))))))) (pv 11) (fun _ _ => rfl)))) pa_nil)))) pss_nil)
  (pss_cons (ps_set (i := 10) nd rfl (Or.inl rfl) (pe_op op_sub (pe_dget (hu_of hr) (pv 1) pe_str (fun _ _ => rfl)) (pe_op op_mod (pe_callTy call_int1 (by rfl) T.free_int (by decide +kernel) (pa_cons (pv 6) pa_nil)) (pe_dget (hu_of hr) (pv 1) pe_str (fun _ _ => rfl)))))
  (pss_one (ps_ret (pe_disp (pps_cons pe_str (pv 10) (pps_cons pe_str (pv 7) (pps_cons pe_str (pe_dget (hu_of hr) (pv 1) pe_str (fun _ _ => rfl)) (pps_cons pe_str (pv 5) (pps_cons pe_str (pe_dget (hu_of hr) (pv 1) pe_str (fun _ _ => rfl)) (pps_cons pe_str (pe_f G__law_phase hr (by decide) T.glo__law_phase pass0 (pa_cons (pv 0) (pa_cons (pv 8) (pa_cons (pv 3) pa_nil)))) (pps_cons pe_str (pv 9) (pps_cons pe_str (pe_f G__law_volume hr (by decide) T.glo__law_volume pass0 (pa_cons (pv 1) (pa_cons (pe_op op_sub (pv 2) pe_int) pa_nil))) pps_nil)))))))) (by rfl) (by rfl) (fun z => by cases z) (by decide))))))))))
theorem fn__law_end (T : Txt K mg) (G__law_volume : Fn P w K mg base CX0 1 (He.fAd K ("_law_volume", none)) ["told", "now"] (sp__law_volume K)) (G__law_phase : Fn P w K mg base CX0 1 (He.fAd K ("_law_phase", none)) ["k", "turns", "noise"] (sp__law_phase K)) (pure : ∀ vs H Q E, sp__law_end K vs H Q E → vs.length = 4 ∧ t__law_end K { nx := fun _ H' => Q .non H', rt := Q } (start N__law_end vs) H) : Fn P w K mg base CX0 2 (He.fAd K ("_law_end", none)) ["k", "told", "goal", "noise"] (sp__law_end K) := by
  obtain ⟨fd, F⟩ := T.def__law_end
  refine ⟨fd, F.ok sc__law_end (fun vs H Q E h => (pure vs H Q E h).1) (fun cdv A outer s H vs Q E hr h => ⟨t__law_end K, PSs.nox (d__law_end T G__law_volume G__law_phase hr), (pure vs H Q E h).2⟩), F.bindsN (fun _ _ _ _ _ _ us hl => match us, hl with | [_, _, _, _], _ => rfl), F.kp⟩
theorem d__law_plain (T : Txt K mg) (G_Sound___init__ : Fn P w K mg base CX0 2 (He.fAd K ("Sound", some "__init__")) ["self"] (sp_Sound___init__ K)) (G__law_lets : Fn P w K mg base CX0 1 (He.fAd K ("_law_lets", none)) ["channels", "now"] (sp__law_lets K)) (G_Sound_let : Fn P w K mg base CX0 1 (He.fAd K ("Sound", some "let")) ["self", "which", "byte"] (sp_Sound_let K)) (G_Sound_live : Fn P w K mg base CX0 2 (He.fAd K ("Sound", some "live")) ["self", "now"] (sp_Sound_live K)) (G_Sound_on : Fn P w K mg base CX0 1 (He.fAd K ("Sound", some "on")) ["self"] (sp_Sound_on K)) (G_Sound_told : Fn P w K mg base CX0 1 (He.fAd K ("Sound", some "told")) ["self"] (sp_Sound_told K)) (hr : Room 3 (A.deeper (envOfC "_law_plain" (defScope s__law_plain) s.heap.objs.size f cdv))) : PSs (cxOf CX0 P w K mg base N__law_plain "_law_plain" (defScope s__law_plain) f cdv A outer s H E).nox (defBody s__law_plain) (t__law_plain K) :=
  have nd := sc__law_plain.nd
  pss_cons (ps_par (i := 2) (j := 3) rfl nd rfl rfl (by decide) rfl rfl (pa_cons (pe_mk0 G_Sound___init__ hr (by decide) T.mkr_Sound T.glo_Sound pass0) (pa_cons (pe_lst pa_nil) pa_nil)) rfl)
  (pss_cons (ps_for PassesOwn.never rfl (pi_range1 rfl T.free_range (pa_cons (pv 1) pa_nil)) (pg_name (i := 4) nd rfl (Or.inl rfl)) (pss_cons (ps_for PassesOwn.never rfl (pi_list (pe_f G__law_lets hr (by decide) T.glo__law_lets pass0 (pa_cons (pv 0) (pa_cons (pv 4) pa_nil)))) (pg_tup rfl (pgs_cons (pg_name (i := 5) nd rfl (Or.inl rfl)) (pgs_cons (pg_name (i := 6) nd rfl (Or.inl rfl)) pgs_nil))) (pss_one (ps_expr (pe_m G_Sound_let hr (by decide) T.cls_Sound T.meth_Sound_let pass0 (pv 2) (pa_cons (pv 5) (pa_cons (pv 6) pa_nil))))))
  (pss_cons (ps_set (i := 7) nd rfl (Or.inl rfl) (pe_m G_Sound_live hr (by decide) T.cls_Sound T.meth_Sound_live pass0 (pv 2) (pa_cons (pv 4) pa_nil)))
  (pss_cons (ps_if (pt_cmpR op_ne (pe_cmp (pc_isN (pv 7))) (pe_cmpR op_ne (pe_op op_mod (pe_callTy call_int1 (by rfl) T.free_int (by decide +kernel) (pa_cons (pv 4) pa_nil)) pe_int) pe_int (nomark _)) (nomark _)) (pss_one (ps_ret pe_non)) pss_nil)
  (pss_one (ps_set (i := 3) nd rfl (Or.inl rfl) (pe_op op_cat (pv 3) (pe_op op_rep (pe_lst (pa_cons (pv 7) pa_nil)) (pe_callTy call_int1 (by rfl) T.free_int (by decide +kernel) (pa_cons (pe_cmp (pc_notN (pv 7))) pa_nil))))))))))
  (pss_one (ps_ret (pe_tup (pa_cons (pv 3) (pa_cons (pe_m0 G_Sound_told hr (by decide) T.cls_Sound T.meth_Sound_told pass0 (pv 2)) (pa_cons (pe_m0 G_Sound_on hr (by decide) T.cls_Sound T.meth_Sound_on pass0 (pv 2)) pa_nil)))))))
theorem fn__law_plain (T : Txt K mg) (G_Sound___init__ : Fn P w K mg base CX0 2 (He.fAd K ("Sound", some "__init__")) ["self"] (sp_Sound___init__ K)) (G__law_lets : Fn P w K mg base CX0 1 (He.fAd K ("_law_lets", none)) ["channels", "now"] (sp__law_lets K)) (G_Sound_let : Fn P w K mg base CX0 1 (He.fAd K ("Sound", some "let")) ["self", "which", "byte"] (sp_Sound_let K)) (G_Sound_live : Fn P w K mg base CX0 2 (He.fAd K ("Sound", some "live")) ["self", "now"] (sp_Sound_live K)) (G_Sound_on : Fn P w K mg base CX0 1 (He.fAd K ("Sound", some "on")) ["self"] (sp_Sound_on K)) (G_Sound_told : Fn P w K mg base CX0 1 (He.fAd K ("Sound", some "told")) ["self"] (sp_Sound_told K)) (pure : ∀ vs H Q E, sp__law_plain K vs H Q E → vs.length = 2 ∧ t__law_plain K { nx := fun _ H' => Q .non H', rt := Q } (start N__law_plain vs) H) : Fn P w K mg base CX0 4 (He.fAd K ("_law_plain", none)) ["channels", "goal"] (sp__law_plain K) := by
  obtain ⟨fd, F⟩ := T.def__law_plain
  refine ⟨fd, F.ok sc__law_plain (fun vs H Q E h => (pure vs H Q E h).1) (fun cdv A outer s H vs Q E hr h => ⟨t__law_plain K, PSs.nox (d__law_plain T G_Sound___init__ G__law_lets G_Sound_let G_Sound_live G_Sound_on G_Sound_told hr), (pure vs H Q E h).2⟩), F.bindsN (fun _ _ _ _ _ _ us hl => match us, hl with | [_, _], _ => rfl), F.kp⟩
theorem d__law_late (T : Txt K mg) (G_LateSound___init__ : Fn P w K mg base CX0 4 (He.fAd K ("LateSound", some "__init__")) ["self"] (sp_LateSound___init__ K)) (G_LateSound_live_to : Fn P w K mg base CX0 3 (He.fAd K ("LateSound", some "live_to")) ["self", "goal"] (sp_LateSound_live_to K)) (G__law_lets : Fn P w K mg base CX0 1 (He.fAd K ("_law_lets", none)) ["channels", "now"] (sp__law_lets K)) (G_Sound_let_LateSound : Fn P w K mg base CX0 1 (He.fAd K ("LateSound", some "let")) ["self", "which", "byte"] (sp_Sound_let_LateSound K)) (G_LateSound_next : Fn P w K mg base CX0 1 (He.fAd K ("LateSound", some "next")) ["self"] (sp_LateSound_next K)) (G_Sound_on_LateSound : Fn P w K mg base CX0 1 (He.fAd K ("LateSound", some "on")) ["self"] (sp_Sound_on_LateSound K)) (G_Sound_told_LateSound : Fn P w K mg base CX0 1 (He.fAd K ("LateSound", some "told")) ["self"] (sp_Sound_told_LateSound K)) (hr : Room 5 (A.deeper (envOfC "_law_late" (defScope s__law_late) s.heap.objs.size f cdv))) : PSs (cxOf CX0 P w K mg base N__law_late "_law_late" (defScope s__law_late) f cdv A outer s H E).nox (defBody s__law_late) (t__law_late K) :=
  have nd := sc__law_late.nd
  pss_cons (ps_par3 (i := 3) (j := 4) (l := 5) rfl nd rfl rfl rfl (by decide) (by decide) (by decide) rfl rfl rfl (pa_cons (pe_mk0 G_LateSound___init__ hr (by decide) T.mkr_LateSound T.glo_LateSound pass0) (pa_cons (pe_lst pa_nil) (pa_cons (pe_un un_neg pe_int) pa_nil))) rfl)
  (pss_cons (ps_for PassesOwn.never rfl (pi_list (pe_callB cr_sorted (by rfl) T.free_sorted (by decide +kernel) (pa_cons (pe_op op_cat (pe_op op_cat (pe_lc (own := [("told", 9)]) (g := gName 9) rfl nd (pi_list (pv 0)) (blkOk_by (own := [("told", 9)]) (N := N__law_late) (sc := defScope s__law_late) (by decide +kernel)) (fun _ _ _ _ _ => pg_name (i := 9) nd rfl (Or.inl rfl)) (fun _ _ _ _ _ => pts_nil) (fun _ _ _ _ _ => pe_dget (hu_of hr) (pv 9) pe_str (fun _ _ => rfl))) (pe_lc (own := [("told", 9)]) (g := gName 9) rfl nd (pi_list (pv 0)) (blkOk_by (own := [("told", 9)]) (N := N__law_late) (sc := defScope s__law_late) (by decide +kernel)) (fun _ _ _ _ _ => pg_name (i := 9) nd rfl (Or.inl rfl)) (fun _ _ _ _ _ => pts_nil) (fun _ _ _ _ _ => pe_dget (hu_of hr) (pv 9) pe_str (fun _ _ => rfl)))) (pv 2)) pa_nil))) (pg_name (i := 6) nd rfl (Or.inl rfl)) (pss_one (ps_if ((pw_and (pt_cmpR op_lt (pv 6) (pv 1) (nomark _)) (pw_and1 (pt_cmpR op_ne (pv 6) (pv 5) (nomark _)))).pt) (pss_cons (ps_set (i := 4) nd rfl (Or.inl rfl) (pe_op op_cat (pv 4) (pe_m G_LateSound_live_to hr (by decide) T.cls_LateSound T.meth_LateSound_live_to pass0 (pv 3) (pa_cons (pv 6) pa_nil))))
  (pss_cons (ps_for PassesOwn.never rfl (pi_list (pe_f G__law_lets hr (by decide) T.glo__law_lets pass0 (pa_cons (pv 0) (pa_cons (pv 6) pa_nil)))) (pg_tup rfl (pgs_cons (pg_name (i := 7) nd rfl (Or.inl rfl)) (pgs_cons (pg_name (i := 8) nd rfl (Or.inl rfl)) pgs_nil))) (pss_one (ps_expr (pe_m G_Sound_let_LateSound hr (by decide) T.cls_LateSound T.meth_LateSound_let pass0 (pv 3) (pa_cons (pv 7) (pa_cons (pv 8) pa_nil))))))
  (pss_one (ps_set (i := 5) nd rfl (Or.inl rfl) (pv 6))))) pss_nil)))
  (pss_cons (ps_set (i := 4) nd rfl (Or.inl rfl) (pe_op op_cat (pv 4) (pe_m G_LateSound_live_to hr (by decide) T.cls_LateSound T.meth_LateSound_live_to pass0 (pv 3) (pa_cons (pv 1) pa_nil))))
  (pss_cons (ps_if ((pw_or (pt_cmpR op_ne (pe_m0 G_LateSound_next hr (by decide) T.cls_LateSound T.meth_LateSound_next pass0 (pv 3)) (pv 1) (nomark _)) (pw_or1 (pt_cmpR (op_neD hr.units) (pe_m G_LateSound_live_to hr (by decide) T.cls_LateSound T.meth_LateSound_live_to pass0 (pv 3) (pa_cons (pv 1) pa_nil)) (pe_lst pa_nil) (nomark _)))).pt) (pss_one (ps_ret pe_non)) pss_nil)
  (pss_one (ps_ret (pe_tup (pa_cons (pv 4) (pa_cons (pe_m0 G_Sound_told_LateSound hr (by decide) T.cls_LateSound T.meth_LateSound_told pass0 (pv 3)) (pa_cons (pe_m0 G_Sound_on_LateSound hr (by decide) T.cls_LateSound T.meth_LateSound_on pass0 (pv 3)) pa_nil)))))))))
theorem fn__law_late (T : Txt K mg) (G_LateSound___init__ : Fn P w K mg base CX0 4 (He.fAd K ("LateSound", some "__init__")) ["self"] (sp_LateSound___init__ K)) (G_LateSound_live_to : Fn P w K mg base CX0 3 (He.fAd K ("LateSound", some "live_to")) ["self", "goal"] (sp_LateSound_live_to K)) (G__law_lets : Fn P w K mg base CX0 1 (He.fAd K ("_law_lets", none)) ["channels", "now"] (sp__law_lets K)) (G_Sound_let_LateSound : Fn P w K mg base CX0 1 (He.fAd K ("LateSound", some "let")) ["self", "which", "byte"] (sp_Sound_let_LateSound K)) (G_LateSound_next : Fn P w K mg base CX0 1 (He.fAd K ("LateSound", some "next")) ["self"] (sp_LateSound_next K)) (G_Sound_on_LateSound : Fn P w K mg base CX0 1 (He.fAd K ("LateSound", some "on")) ["self"] (sp_Sound_on_LateSound K)) (G_Sound_told_LateSound : Fn P w K mg base CX0 1 (He.fAd K ("LateSound", some "told")) ["self"] (sp_Sound_told_LateSound K)) (pure : ∀ vs H Q E, sp__law_late K vs H Q E → vs.length = 3 ∧ t__law_late K { nx := fun _ H' => Q .non H', rt := Q } (start N__law_late vs) H) : Fn P w K mg base CX0 6 (He.fAd K ("_law_late", none)) ["channels", "goal", "stops"] (sp__law_late K) := by
  obtain ⟨fd, F⟩ := T.def__law_late
  refine ⟨fd, F.ok sc__law_late (fun vs H Q E h => (pure vs H Q E h).1) (fun cdv A outer s H vs Q E hr h => ⟨t__law_late K, PSs.nox (d__law_late T G_LateSound___init__ G_LateSound_live_to G__law_lets G_Sound_let_LateSound G_LateSound_next G_Sound_on_LateSound G_Sound_told_LateSound hr), (pure vs H Q E h).2⟩), F.bindsN (fun _ _ _ _ _ _ us hl => match us, hl with | [_, _, _], _ => rfl), F.kp⟩
theorem d_law (T : Txt K mg) (G__law_draws : Fn P w K mg base CX0 1 (He.fAd K ("_law_draws", none)) ["script"] (sp__law_draws K)) (G__law_channel : Fn P w K mg base CX0 2 (He.fAd K ("_law_channel", none)) ["draws", "k"] (sp__law_channel K)) (G__law_mix : Fn P w K mg base CX0 1 (He.fAd K ("_law_mix", none)) ["draws", "k", "many"] (sp__law_mix K)) (G__law_noise : Fn P w K mg base CX0 1 (He.fAd K ("_law_noise", none)) ["many"] (sp__law_noise K)) (G__law_end : Fn P w K mg base CX0 2 (He.fAd K ("_law_end", none)) ["k", "told", "goal", "noise"] (sp__law_end K)) (G__law_sample : Fn P w K mg base CX0 2 (He.fAd K ("_law_sample", none)) ["channels", "j", "noise"] (sp__law_sample K)) (G__law_plain : Fn P w K mg base CX0 4 (He.fAd K ("_law_plain", none)) ["channels", "goal"] (sp__law_plain K)) (G__law_late : Fn P w K mg base CX0 6 (He.fAd K ("_law_late", none)) ["channels", "goal", "stops"] (sp__law_late K)) (G_LateSound___init__ : Fn P w K mg base CX0 4 (He.fAd K ("LateSound", some "__init__")) ["self"] (sp_LateSound___init__ K)) (G_Sound_let_LateSound : Fn P w K mg base CX0 1 (He.fAd K ("LateSound", some "let")) ["self", "which", "byte"] (sp_Sound_let_LateSound K)) (G_LateSound_live_to : Fn P w K mg base CX0 3 (He.fAd K ("LateSound", some "live_to")) ["self", "goal"] (sp_LateSound_live_to K)) (G_Sound_on_LateSound : Fn P w K mg base CX0 1 (He.fAd K ("LateSound", some "on")) ["self"] (sp_Sound_on_LateSound K)) (G_Sound_told_LateSound : Fn P w K mg base CX0 1 (He.fAd K ("LateSound", some "told")) ["self"] (sp_Sound_told_LateSound K)) (hr : Room 6 (A.deeper (envOfC "law" (defScope s_law) s.heap.objs.size f cdv))) : PSs (cxOf CX0 P w K mg base N_law "law" (defScope s_law) f cdv A outer s H E).nox (defBody s_law) (t_law K) :=
  have nd := sc_law.nd
  pss_cons (ps_set (i := 1) nd rfl (Or.inr rfl) (pe_f G__law_draws hr (by decide) T.glo__law_draws pass0 (pa_cons (pv 0) pa_nil)))
  (pss_cons (ps_for PassesOwn.never rfl (pi_range1 rfl T.free_range (pa_cons pe_int pa_nil)) (pg_name (i := 2) nd rfl (Or.inl rfl)) (pss_cons (ps_set (i := 3) nd rfl (Or.inr rfl) (pe_op op_add pe_int (pe_op op_mul pe_int (pv 2))))
  (pss_cons (ps_set (i := 4) nd rfl (Or.inr rfl) (pe_lc (own := [("k", 13)]) (g := gName 13) rfl nd (pi_range1 rfl T.free_range (pa_cons pe_int pa_nil)) (blkOk_by (own := [("k", 13)]) (N := N_law) (sc := defScope s_law) (by decide +kernel)) (fun _ _ _ _ _ => pg_name (i := 13) nd rfl (Or.inl rfl)) (fun _ _ _ _ _ => pts_nil) (fun _ _ _ _ _ => pe_f G__law_channel hr (by decide) T.glo__law_channel pass0 (pa_cons (pv 1) (pa_cons (pe_op op_add (pv 3) (pe_op op_mul pe_int (pv 13))) pa_nil)))))
  (pss_cons (ps_set (i := 5) nd rfl (Or.inr rfl) (pe_op op_add (pe_op op_mul pe_int (pe_op op_add pe_int (pe_f G__law_mix hr (by decide) T.glo__law_mix pass0 (pa_cons (pv 1) (pa_cons (pe_op op_add (pv 3) pe_int) (pa_cons pe_int pa_nil)))))) (pe_f G__law_mix hr (by decide) T.glo__law_mix pass0 (pa_cons (pv 1) (pa_cons (pe_op op_add (pv 3) pe_int) (pa_cons pe_int pa_nil))))))
  (pss_cons (ps_setLc (i := 6) (own := [("t", 14)]) (g := gName 14) rfl nd rfl rfl (sw_true rfl rfl rfl (by decide +kernel)) (pi_range1 rfl T.free_range (pa_cons pe_int pa_nil)) (blkOk_by (own := [("t", 14)]) (N := N_law) (sc := defScope s_law) (by decide +kernel)) (fun _ _ _ _ _ => pg_name (i := 14) nd rfl (Or.inl rfl)) (fun _ _ _ _ _ => pts_nil) (fun _ _ _ _ _ => pe_f G__law_mix hr (by decide) T.glo__law_mix pass0 (pa_cons (pv 1) (pa_cons (pe_op op_add (pe_op op_add (pv 3) pe_int) (pv 14)) (pa_cons (pv 5) pa_nil)))))
  (pss_cons (ps_set (i := 7) nd rfl (Or.inr rfl) (pe_f G__law_noise hr (by decide) T.glo__law_noise pass0 (pa_cons (pe_op op_add (pv 5) pe_int) pa_nil)))
  (pss_cons (ps_set (i := 8) nd rfl (Or.inr rfl) (pe_lc (own := [("k", 13)]) (g := gName 13) rfl nd (pi_range1 rfl T.free_range (pa_cons pe_int pa_nil)) (blkOk_by (own := [("k", 13)]) (N := N_law) (sc := defScope s_law) (by decide +kernel)) (fun _ _ _ _ _ => pg_name (i := 13) nd rfl (Or.inl rfl)) (fun _ _ _ _ _ => pts_nil) (fun _ _ _ _ _ => pe_f G__law_end hr (by decide) T.glo__law_end pass0 (pa_cons (pv 13) (pa_cons (pe_ix ix_list (pv 4) (pv 13) (fun _ _ => rfl)) (pa_cons (pv 5) (pa_cons (pv 7) pa_nil)))))))
  (pss_cons (ps_set (i := 9) nd rfl (Or.inl rfl) (pe_tup (pa_cons (pe_lc (own := [("j", 15)]) (g := gName 15) rfl nd (pi_range1 rfl T.free_range (pa_cons (pe_op op_fdiv (pv 5) pe_int) pa_nil)) (blkOk_by (own := [("j", 15)]) (N := N_law) (sc := defScope s_law) (by decide +kernel)) (fun _ _ _ _ _ => pg_name (i := 15) nd rfl (Or.inl rfl)) (fun _ _ _ _ _ => pts_nil) (fun _ _ _ _ _ => pe_f G__law_sample hr (by decide) T.glo__law_sample pass0 (pa_cons (pv 4) (pa_cons (pv 15) (pa_cons (pv 7) pa_nil))))) (pa_cons (pv 8) (pa_cons (pe_callB (cr_sum rfl) (by rfl) T.free_sum (by decide +kernel) (pa_cons (pe_lc (own := [("k", 13)]) (g := gName 13) rfl nd (pi_range1 rfl T.free_range (pa_cons pe_int pa_nil)) (blkOk_by (own := [("k", 13)]) (N := N_law) (sc := defScope s_law) (by decide +kernel)) (fun _ _ _ _ _ => pg_name (i := 13) nd rfl (Or.inl rfl)) (fun _ _ _ _ _ => pts_nil) (fun _ _ _ _ _ => pe_op op_mul (pe_ix ix_list (pe_lst (pa_cons pe_int (pa_cons pe_int (pa_cons pe_int pa_nil)))) (pv 13) (fun _ _ => rfl)) (pe_callTy call_int1 (by rfl) T.free_int (by decide +kernel) (pa_cons (pe_dget (hu_of hr) (pe_ix ix_list (pv 8) (pv 13) (fun _ _ => rfl)) pe_str (fun _ _ => rfl)) pa_nil)))) pa_nil)) pa_nil)))))
  (pss_one (ps_if ((pw_or (pt_cmpR (op_neX hr.units) (pe_f G__law_plain hr (by decide) T.glo__law_plain pass0 (pa_cons (pv 4) (pa_cons (pv 5) pa_nil))) (pv 9) (nomark _)) (pw_or1 (pt_cmpR (op_neX hr.units) (pe_f G__law_late hr (by decide) T.glo__law_late pass0 (pa_cons (pv 4) (pa_cons (pv 5) (pa_cons (pv 6) pa_nil)))) (pv 9) (nomark _)))).pt) (pss_one (ps_ret pe_bl)) pss_nil))))))))))
  (pss_cons (ps_set (i := 10) nd rfl (Or.inl rfl) (pe_mk0 G_LateSound___init__ hr (by decide) T.mkr_LateSound T.glo_LateSound pass0))
  (pss_cons (ps_for PassesOwn.never rfl (pi_list (pe_lst (pa_cons (pe_tup (pa_cons pe_int (pa_cons pe_int pa_nil))) (pa_cons (pe_tup (pa_cons pe_int (pa_cons pe_int pa_nil))) (pa_cons (pe_tup (pa_cons pe_int (pa_cons pe_int pa_nil))) (pa_cons (pe_tup (pa_cons pe_int (pa_cons pe_int pa_nil))) pa_nil)))))) (pg_tup rfl (pgs_cons (pg_name (i := 11) nd rfl (Or.inl rfl)) (pgs_cons (pg_name (i := 12) nd rfl (Or.inl rfl)) pgs_nil))) (pss_one (ps_expr (pe_m G_Sound_let_LateSound hr (by decide) T.cls_LateSound T.meth_LateSound_let pass0 (pv 10) (pa_cons (pv 11) (pa_cons (pv 12) pa_nil))))))
  (pss_one (ps_ret (pe_and (pe_cmpR (op_eqD hr.units) (pe_m G_LateSound_live_to hr (by decide) T.cls_LateSound T.meth_LateSound_live_to pass0 (pv 10) (pa_cons pe_int pa_nil)) (pe_lst (pa_cons pe_int (pa_cons pe_int (pa_cons pe_int pa_nil)))) (nomark _)) (pe_and (pe_cmpR op_eq (pe_m0 G_Sound_on_LateSound hr (by decide) T.cls_LateSound T.meth_LateSound_on pass0 (pv 10)) pe_int (nomark _)) (pe_one (pe_cmpR op_eq (pe_dget (hu_of hr) (pe_ix ix_list (pe_m0 G_Sound_told_LateSound hr (by decide) T.cls_LateSound T.meth_LateSound_told pass0 (pv 10)) pe_int (fun _ _ => rfl)) pe_str (fun _ _ => rfl)) pe_int (nomark _))))))))))
theorem fn_law (T : Txt K mg) (G__law_draws : Fn P w K mg base CX0 1 (He.fAd K ("_law_draws", none)) ["script"] (sp__law_draws K)) (G__law_channel : Fn P w K mg base CX0 2 (He.fAd K ("_law_channel", none)) ["draws", "k"] (sp__law_channel K)) (G__law_mix : Fn P w K mg base CX0 1 (He.fAd K ("_law_mix", none)) ["draws", "k", "many"] (sp__law_mix K)) (G__law_noise : Fn P w K mg base CX0 1 (He.fAd K ("_law_noise", none)) ["many"] (sp__law_noise K)) (G__law_end : Fn P w K mg base CX0 2 (He.fAd K ("_law_end", none)) ["k", "told", "goal", "noise"] (sp__law_end K)) (G__law_sample : Fn P w K mg base CX0 2 (He.fAd K ("_law_sample", none)) ["channels", "j", "noise"] (sp__law_sample K)) (G__law_plain : Fn P w K mg base CX0 4 (He.fAd K ("_law_plain", none)) ["channels", "goal"] (sp__law_plain K)) (G__law_late : Fn P w K mg base CX0 6 (He.fAd K ("_law_late", none)) ["channels", "goal", "stops"] (sp__law_late K)) (G_LateSound___init__ : Fn P w K mg base CX0 4 (He.fAd K ("LateSound", some "__init__")) ["self"] (sp_LateSound___init__ K)) (G_Sound_let_LateSound : Fn P w K mg base CX0 1 (He.fAd K ("LateSound", some "let")) ["self", "which", "byte"] (sp_Sound_let_LateSound K)) (G_LateSound_live_to : Fn P w K mg base CX0 3 (He.fAd K ("LateSound", some "live_to")) ["self", "goal"] (sp_LateSound_live_to K)) (G_Sound_on_LateSound : Fn P w K mg base CX0 1 (He.fAd K ("LateSound", some "on")) ["self"] (sp_Sound_on_LateSound K)) (G_Sound_told_LateSound : Fn P w K mg base CX0 1 (He.fAd K ("LateSound", some "told")) ["self"] (sp_Sound_told_LateSound K)) (pure : ∀ vs H Q E, sp_law K vs H Q E → vs.length = 1 ∧ t_law K { nx := fun _ H' => Q .non H', rt := Q } (start N_law vs) H) : Fn P w K mg base CX0 7 (He.fAd K ("law", none)) ["script"] (sp_law K) := by
  obtain ⟨fd, F⟩ := T.def_law
  refine ⟨fd, F.ok sc_law (fun vs H Q E h => (pure vs H Q E h).1) (fun cdv A outer s H vs Q E hr h => ⟨t_law K, PSs.nox (d_law T G__law_draws G__law_channel G__law_mix G__law_noise G__law_end G__law_sample G__law_plain G__law_late G_LateSound___init__ G_Sound_let_LateSound G_LateSound_live_to G_Sound_on_LateSound G_Sound_told_LateSound hr), (pure vs H Q E h).2⟩), F.bindsN (fun _ _ _ _ _ _ us hl => match us, hl with | [_], _ => rfl), F.kp⟩
end
end K61
namespace K61
open PySem PySem.Spec PyProof.Rows L2 NdefX Kx
def N_LateSound___init__ : List Str := ["self", "__class__"]
theorem sc_LateSound___init__ : NScope N_LateSound___init__ ["self"] ["__class__"] (defScope s_LateSound___init__) := nscope_by (by decide +kernel)
def t_LateSound___init__ (K : PySem.W.Frag) : TS :=
  tSeq (tDrop (tSup (He.ga K "LateSound") (sp_Sound___init___LateSound K) [] E0 tNil)) (sFld K (tVar 0) (tC (.int 0)) "_next")
theorem pure_linit {K : PySem.W.Frag} (cl : Cls K (He.ga K "LateSound")) (no : NoAttr K (He.ga K "LateSound") "_next") (vs : List V) (H : Hp) (Q : VK) (E : XK) (h : sp_LateSound___init__ K vs H Q E) :
    vs.length = 1 ∧ t_LateSound___init__ K { nx := fun _ H' => Q .non H', rt := Q } (startF N_LateSound___init__ vs [some (.ref (He.ga K "LateSound"))]) H := by
  obtain ⟨p, dx, rfl, hp, q⟩ := h
  refine ⟨rfl, ?_⟩
  show t_LateSound___init__ K _ [some (.ref p), some (.ref (He.ga K "LateSound"))] H
  unfold t_LateSound___init__
  refine xSeq (xDrop ?_)
  refine ⟨p, dx, [], rfl, hp, xNil ?_⟩
  refine ⟨p, dx, rfl, hp, fun l ds H1 S nl nds k => ?_⟩
  refine xFldS (xC (xVar rfl ?_))
  obtain ⟨dx1, ob1⟩ := id S.ob
  refine yFldS ob1 cl no (sf_len _ _) ?_
  rw [sf_new]
  refine q l ds _ ⟨⟨dx1, upd_same⟩, ?_, S.nd, S.dl, S.cl, fun i d hd => ?_, S.ok⟩ nl nds (k.trans (.upd (by simp)))
  · rw [upd_ne fun e => by rw [← e, S.ls] at ob1; cases ob1]
    exact S.ls
  · obtain ⟨c, e1, e2⟩ := S.at_ i d hd
    refine ⟨c, e1, ?_⟩
    rw [upd_ne fun e => S.p_ne (by rw [← e]; exact List.mem_of_getElem? hd)]
    exact e2
section
variable {P : Program} {w : World} {K : PySem.W.Frag} {mg : Str → Option Value} {base : Heap}
theorem fn_LateSound___init__ (T : Txt K mg) (SD : ∃ fd cda cc, SupD P K "__init__" "LateSound.__init__" (defArgs s_LateSound___init__) (defBody s_LateSound___init__) (defScope s_LateSound___init__) (He.fAd K ("LateSound", some "__init__")) cda cc (He.ga K "LateSound") fd)
    (S : Sup K (He.ga K "LateSound") (He.ga K "LateSound") "__init__" (He.fAd K ("Sound", some "__init__"))) (G : Fn P w K mg base CX0 2 (He.fAd K ("Sound", some "__init__")) ["self"] (sp_Sound___init___LateSound K)) (hg : mg "super" = none) (htop : (P.main.scope.names.lookup ("super" : Str)).isSome = false) :
    Fn P w K mg base CX0 4 (He.fAd K ("LateSound", some "__init__")) ["self"] (sp_LateSound___init__ K) := by
  obtain ⟨fd, cda, cc, SD⟩ := SD
  obtain ⟨fg, Fg, bg, _⟩ := G
  have pure := fun vs H Q E h => pure_linit (K := K) T.cls_LateSound T.noat_LateSound__next vs H Q E h
  refine ⟨fd, fn_sup (k := 3) SD sc_LateSound___init__ (fun vs H Q E h => (pure vs H Q E h).1) (fun A outer s H vs Q E hr h => ⟨t_LateSound___init__ K, PSts.nox ?_, (pure vs H Q E h).2⟩), SD.bindsN (fun _ _ _ _ _ _ us hl => match us, hl with | [_], _ => rfl), SD.kp⟩
  refine psts_cons (pst_expr (pet_sup0 (k := 2) (ps := ["self"]) (ds := []) SD S Fg (hr.mono (by decide)) bg .nil pass0 rfl (by rfl) rfl (by decide +kernel) (by decide +kernel) (by decide +kernel) rfl hg htop)) (PSts.of (pss_one (ps_fld (pv 0) pe_int rfl)))
end
end K61
namespace K61
open PySem PySem.Spec PyProof.Rows L2 NdefX Kx
abbrev R : PySem.W.OpenRow := PySem.W.OpenLaw.row PySem.Challenge.rw_caughtup_k61_main_sounds_are_told_by_div
def fa : List He.Fa := [.cls "LateSound", .cls "Sound", .free "abs", .free "dict", .free "enumerate", .free "int", .free "len", .free "max", .free "min", .free "range", .free "sorted", .free "sum", .glo "LateSound", .glo "Sound", .glo "_law_channel", .glo "_law_draws", .glo "_law_end", .glo "_law_late", .glo "_law_lets", .glo "_law_mix", .glo "_law_noise", .glo "_law_phase", .glo "_law_plain", .glo "_law_sample", .glo "_law_volume", .glo "ends_in", .glo "first_from", .glo "fresh", .int "CHANNELS" 3, .int "EVERY" 32, .int "NOISE" 2, .int "TOP" 16384, .meth "LateSound" "_pass", .meth "LateSound" "_sample", .meth "LateSound" "let", .meth "LateSound" "live_to", .meth "LateSound" "next", .meth "LateSound" "on", .meth "LateSound" "told", .meth "Sound" "_sample", .meth "Sound" "_turn", .meth "Sound" "let", .meth "Sound" "live", .meth "Sound" "on", .meth "Sound" "told", .mkr "LateSound", .mkr "Sound", .noat "LateSound" "_channels", .noat "LateSound" "_next", .noat "Sound" "_channels", .free "super", .glo "law"]
def D_fresh : He.DefD := ⟨("fresh", none), "fresh", "fresh", defArgs s_fresh, defBody s_fresh, defScope s_fresh, [], []⟩
def D_Sound___init__ : He.DefD := ⟨("Sound", some "__init__"), "__init__", "Sound.__init__", defArgs s_Sound___init__, defBody s_Sound___init__, defScope s_Sound___init__, [], []⟩
def D_Sound___init___LateSound : He.DefD := ⟨("Sound", some "__init__"), "__init__", "Sound.__init__", defArgs s_Sound___init__, defBody s_Sound___init__, defScope s_Sound___init__, [], []⟩
def D_Sound__turn : He.DefD := ⟨("Sound", some "_turn"), "_turn", "Sound._turn", defArgs s_Sound__turn, defBody s_Sound__turn, defScope s_Sound__turn, [], []⟩
def D_Sound__sample : He.DefD := ⟨("Sound", some "_sample"), "_sample", "Sound._sample", defArgs s_Sound__sample, defBody s_Sound__sample, defScope s_Sound__sample, [], []⟩
def D_Sound__sample_LateSound : He.DefD := ⟨("LateSound", some "_sample"), "_sample", "Sound._sample", defArgs s_Sound__sample, defBody s_Sound__sample, defScope s_Sound__sample, [], []⟩
def D_Sound_live : He.DefD := ⟨("Sound", some "live"), "live", "Sound.live", defArgs s_Sound_live, defBody s_Sound_live, defScope s_Sound_live, [], []⟩
def D_Sound_let : He.DefD := ⟨("Sound", some "let"), "let", "Sound.let", defArgs s_Sound_let, defBody s_Sound_let, defScope s_Sound_let, [], []⟩
def D_Sound_let_LateSound : He.DefD := ⟨("LateSound", some "let"), "let", "Sound.let", defArgs s_Sound_let, defBody s_Sound_let, defScope s_Sound_let, [], []⟩
def D_Sound_on : He.DefD := ⟨("Sound", some "on"), "on", "Sound.on", defArgs s_Sound_on, defBody s_Sound_on, defScope s_Sound_on, [], []⟩
def D_Sound_on_LateSound : He.DefD := ⟨("LateSound", some "on"), "on", "Sound.on", defArgs s_Sound_on, defBody s_Sound_on, defScope s_Sound_on, [], []⟩
def D_Sound_told : He.DefD := ⟨("Sound", some "told"), "told", "Sound.told", defArgs s_Sound_told, defBody s_Sound_told, defScope s_Sound_told, [], []⟩
def D_Sound_told_LateSound : He.DefD := ⟨("LateSound", some "told"), "told", "Sound.told", defArgs s_Sound_told, defBody s_Sound_told, defScope s_Sound_told, [], []⟩
def D_first_from : He.DefD := ⟨("first_from", none), "first_from", "first_from", defArgs s_first_from, defBody s_first_from, defScope s_first_from, [], []⟩
def D_ends_in : He.DefD := ⟨("ends_in", none), "ends_in", "ends_in", defArgs s_ends_in, defBody s_ends_in, defScope s_ends_in, [], []⟩
def D_LateSound_next : He.DefD := ⟨("LateSound", some "next"), "next", "LateSound.next", defArgs s_LateSound_next, defBody s_LateSound_next, defScope s_LateSound_next, [], []⟩
def D_LateSound__pass : He.DefD := ⟨("LateSound", some "_pass"), "_pass", "LateSound._pass", defArgs s_LateSound__pass, defBody s_LateSound__pass, defScope s_LateSound__pass, [], []⟩
def D_LateSound_live_to : He.DefD := ⟨("LateSound", some "live_to"), "live_to", "LateSound.live_to", defArgs s_LateSound_live_to, defBody s_LateSound_live_to, defScope s_LateSound_live_to, [], []⟩
def D__law_draws : He.DefD := ⟨("_law_draws", none), "_law_draws", "_law_draws", defArgs s__law_draws, defBody s__law_draws, defScope s__law_draws, [], []⟩
def D__law_mix : He.DefD := ⟨("_law_mix", none), "_law_mix", "_law_mix", defArgs s__law_mix, defBody s__law_mix, defScope s__law_mix, [], []⟩
def D__law_noise : He.DefD := ⟨("_law_noise", none), "_law_noise", "_law_noise", defArgs s__law_noise, defBody s__law_noise, defScope s__law_noise, [], []⟩
def D__law_channel : He.DefD := ⟨("_law_channel", none), "_law_channel", "_law_channel", defArgs s__law_channel, defBody s__law_channel, defScope s__law_channel, [], []⟩
def D__law_lets : He.DefD := ⟨("_law_lets", none), "_law_lets", "_law_lets", defArgs s__law_lets, defBody s__law_lets, defScope s__law_lets, [], []⟩
def D__law_volume : He.DefD := ⟨("_law_volume", none), "_law_volume", "_law_volume", defArgs s__law_volume, defBody s__law_volume, defScope s__law_volume, [], []⟩
def D__law_phase : He.DefD := ⟨("_law_phase", none), "_law_phase", "_law_phase", defArgs s__law_phase, defBody s__law_phase, defScope s__law_phase, [], []⟩
def D__law_sample : He.DefD := ⟨("_law_sample", none), "_law_sample", "_law_sample", defArgs s__law_sample, defBody s__law_sample, defScope s__law_sample, [], []⟩
def D__law_end : He.DefD := ⟨("_law_end", none), "_law_end", "_law_end", defArgs s__law_end, defBody s__law_end, defScope s__law_end, [], []⟩
def D__law_plain : He.DefD := ⟨("_law_plain", none), "_law_plain", "_law_plain", defArgs s__law_plain, defBody s__law_plain, defScope s__law_plain, [], []⟩
def D__law_late : He.DefD := ⟨("_law_late", none), "_law_late", "_law_late", defArgs s__law_late, defBody s__law_late, defScope s__law_late, [], []⟩
def D_law : He.DefD := ⟨("law", none), "law", "law", defArgs s_law, defBody s_law, defScope s_law, [], []⟩
def fn : List He.DefD := [D_fresh, D_Sound___init__, D_Sound___init___LateSound, D_Sound__turn, D_Sound__sample, D_Sound__sample_LateSound, D_Sound_live, D_Sound_let, D_Sound_let_LateSound, D_Sound_on, D_Sound_on_LateSound, D_Sound_told, D_Sound_told_LateSound, D_first_from, D_ends_in, D_LateSound_next, D_LateSound__pass, D_LateSound_live_to, D__law_draws, D__law_mix, D__law_noise, D__law_channel, D__law_lets, D__law_volume, D__law_phase, D__law_sample, D__law_end, D__law_plain, D__law_late, D_law]
def U_LateSound___init__ : SuD := ⟨("LateSound", some "__init__"), "__init__", "LateSound.__init__", defArgs s_LateSound___init__, defBody s_LateSound___init__, defScope s_LateSound___init__, "LateSound"⟩
def su : List SuD := [U_LateSound___init__]
def ex (K : PySem.W.Frag) : Bool := supB K (He.ga K "LateSound") (He.ga K "LateSound") "__init__" (He.fAd K ("Sound", some "__init__"))
abbrev hk : PySem.W.Hook := hookS R.prog 5 fa fn su ex
def ob (s : PySem.W.SharedT) : AlS := obsSG R.prog 5 fa fn su ex (HandSHeadRun.getT s)
theorem ob_eq (s : PySem.W.SharedT) : ob s = hk.obs s.abs := obsSG_eq (HandSHeadRun.getT_eq s)
def loose : List PySem.Str := ["_wall", "CHANNELS", "NOISE", "TOP", "EVERY", "fresh", "Sound", "first_from", "ends_in", "LateSound", "_law_draws", "_law_mix", "_law_noise", "_law_channel", "_law_lets", "_law_volume", "_law_phase", "_law_sample", "_law_end", "_law_plain", "_law_late"]
theorem run (w : World) : HandSHeadRun.RunEq R (PySem.W.view R.prog [24]) hk ob 3000 loose w := by
  intro os
  kernel_rfl
theorem txt_of {K : PySem.W.Frag} {h : Heap} {mg : Str → Option Value} (X : K.In h) (G : h.Ns mainGlobals mg) (c : SaysS R.prog fa fn su ex K) : Txt K mg where
  cls_LateSound := He.cls_ok (c.fact 0 (f := .cls "LateSound") rfl)
  cls_Sound := He.cls_ok (c.fact 1 (f := .cls "Sound") rfl)
  free_abs := He.free_ok X G (c.fact 2 (f := .free "abs") rfl)
  free_dict := He.free_ok X G (c.fact 3 (f := .free "dict") rfl)
  free_enumerate := He.free_ok X G (c.fact 4 (f := .free "enumerate") rfl)
  free_int := He.free_ok X G (c.fact 5 (f := .free "int") rfl)
  free_len := He.free_ok X G (c.fact 6 (f := .free "len") rfl)
  free_max := He.free_ok X G (c.fact 7 (f := .free "max") rfl)
  free_min := He.free_ok X G (c.fact 8 (f := .free "min") rfl)
  free_range := He.free_ok X G (c.fact 9 (f := .free "range") rfl)
  free_sorted := He.free_ok X G (c.fact 10 (f := .free "sorted") rfl)
  free_sum := He.free_ok X G (c.fact 11 (f := .free "sum") rfl)
  glo_LateSound := He.glo_ok X G (c.fact 12 (f := .glo "LateSound") rfl)
  glo_Sound := He.glo_ok X G (c.fact 13 (f := .glo "Sound") rfl)
  glo__law_channel := He.glo_ok X G (c.fact 14 (f := .glo "_law_channel") rfl)
  glo__law_draws := He.glo_ok X G (c.fact 15 (f := .glo "_law_draws") rfl)
  glo__law_end := He.glo_ok X G (c.fact 16 (f := .glo "_law_end") rfl)
  glo__law_late := He.glo_ok X G (c.fact 17 (f := .glo "_law_late") rfl)
  glo__law_lets := He.glo_ok X G (c.fact 18 (f := .glo "_law_lets") rfl)
  glo__law_mix := He.glo_ok X G (c.fact 19 (f := .glo "_law_mix") rfl)
  glo__law_noise := He.glo_ok X G (c.fact 20 (f := .glo "_law_noise") rfl)
  glo__law_phase := He.glo_ok X G (c.fact 21 (f := .glo "_law_phase") rfl)
  glo__law_plain := He.glo_ok X G (c.fact 22 (f := .glo "_law_plain") rfl)
  glo__law_sample := He.glo_ok X G (c.fact 23 (f := .glo "_law_sample") rfl)
  glo__law_volume := He.glo_ok X G (c.fact 24 (f := .glo "_law_volume") rfl)
  glo_ends_in := He.glo_ok X G (c.fact 25 (f := .glo "ends_in") rfl)
  glo_first_from := He.glo_ok X G (c.fact 26 (f := .glo "first_from") rfl)
  glo_fresh := He.glo_ok X G (c.fact 27 (f := .glo "fresh") rfl)
  int_CHANNELS := He.int_ok X G (c.fact 28 (f := .int "CHANNELS" 3) rfl)
  int_EVERY := He.int_ok X G (c.fact 29 (f := .int "EVERY" 32) rfl)
  int_NOISE := He.int_ok X G (c.fact 30 (f := .int "NOISE" 2) rfl)
  int_TOP := He.int_ok X G (c.fact 31 (f := .int "TOP" 16384) rfl)
  meth_LateSound__pass := He.meth_ok (c.fact 32 (f := .meth "LateSound" "_pass") rfl)
  meth_LateSound__sample := He.meth_ok (c.fact 33 (f := .meth "LateSound" "_sample") rfl)
  meth_LateSound_let := He.meth_ok (c.fact 34 (f := .meth "LateSound" "let") rfl)
  meth_LateSound_live_to := He.meth_ok (c.fact 35 (f := .meth "LateSound" "live_to") rfl)
  meth_LateSound_next := He.meth_ok (c.fact 36 (f := .meth "LateSound" "next") rfl)
  meth_LateSound_on := He.meth_ok (c.fact 37 (f := .meth "LateSound" "on") rfl)
  meth_LateSound_told := He.meth_ok (c.fact 38 (f := .meth "LateSound" "told") rfl)
  meth_Sound__sample := He.meth_ok (c.fact 39 (f := .meth "Sound" "_sample") rfl)
  meth_Sound__turn := He.meth_ok (c.fact 40 (f := .meth "Sound" "_turn") rfl)
  meth_Sound_let := He.meth_ok (c.fact 41 (f := .meth "Sound" "let") rfl)
  meth_Sound_live := He.meth_ok (c.fact 42 (f := .meth "Sound" "live") rfl)
  meth_Sound_on := He.meth_ok (c.fact 43 (f := .meth "Sound" "on") rfl)
  meth_Sound_told := He.meth_ok (c.fact 44 (f := .meth "Sound" "told") rfl)
  mkr_LateSound := He.mkr_ok (c.fact 45 (f := .mkr "LateSound") rfl)
  mkr_Sound := He.mkr_ok (c.fact 46 (f := .mkr "Sound") rfl)
  noat_LateSound__channels := He.noat_ok (c.fact 47 (f := .noat "LateSound" "_channels") rfl)
  noat_LateSound__next := He.noat_ok (c.fact 48 (f := .noat "LateSound" "_next") rfl)
  noat_Sound__channels := He.noat_ok (c.fact 49 (f := .noat "Sound" "_channels") rfl)
  def_fresh := c.def_ 0 (d := D_fresh) rfl
  def_Sound___init__ := c.def_ 1 (d := D_Sound___init__) rfl
  def_Sound___init___LateSound := c.def_ 2 (d := D_Sound___init___LateSound) rfl
  def_Sound__turn := c.def_ 3 (d := D_Sound__turn) rfl
  def_Sound__sample := c.def_ 4 (d := D_Sound__sample) rfl
  def_Sound__sample_LateSound := c.def_ 5 (d := D_Sound__sample_LateSound) rfl
  def_Sound_live := c.def_ 6 (d := D_Sound_live) rfl
  def_Sound_let := c.def_ 7 (d := D_Sound_let) rfl
  def_Sound_let_LateSound := c.def_ 8 (d := D_Sound_let_LateSound) rfl
  def_Sound_on := c.def_ 9 (d := D_Sound_on) rfl
  def_Sound_on_LateSound := c.def_ 10 (d := D_Sound_on_LateSound) rfl
  def_Sound_told := c.def_ 11 (d := D_Sound_told) rfl
  def_Sound_told_LateSound := c.def_ 12 (d := D_Sound_told_LateSound) rfl
  def_first_from := c.def_ 13 (d := D_first_from) rfl
  def_ends_in := c.def_ 14 (d := D_ends_in) rfl
  def_LateSound_next := c.def_ 15 (d := D_LateSound_next) rfl
  def_LateSound__pass := c.def_ 16 (d := D_LateSound__pass) rfl
  def_LateSound_live_to := c.def_ 17 (d := D_LateSound_live_to) rfl
  def__law_draws := c.def_ 18 (d := D__law_draws) rfl
  def__law_mix := c.def_ 19 (d := D__law_mix) rfl
  def__law_noise := c.def_ 20 (d := D__law_noise) rfl
  def__law_channel := c.def_ 21 (d := D__law_channel) rfl
  def__law_lets := c.def_ 22 (d := D__law_lets) rfl
  def__law_volume := c.def_ 23 (d := D__law_volume) rfl
  def__law_phase := c.def_ 24 (d := D__law_phase) rfl
  def__law_sample := c.def_ 25 (d := D__law_sample) rfl
  def__law_end := c.def_ 26 (d := D__law_end) rfl
  def__law_plain := c.def_ 27 (d := D__law_plain) rfl
  def__law_late := c.def_ 28 (d := D__law_late) rfl
  def_law := c.def_ 29 (d := D_law) rfl
section
variable {P : Program} {w : World} {K : PySem.W.Frag} {mg : Str → Option Value} {base : Heap}
theorem all_ok (T : Txt K mg) (SD : ∃ fd cda cc, SupD P K "__init__" "LateSound.__init__" (defArgs s_LateSound___init__) (defBody s_LateSound___init__) (defScope s_LateSound___init__) (He.fAd K ("LateSound", some "__init__")) cda cc (He.ga K "LateSound") fd) (S : Sup K (He.ga K "LateSound") (He.ga K "LateSound") "__init__" (He.fAd K ("Sound", some "__init__"))) (hg : mg "super" = none) (htop : (P.main.scope.names.lookup ("super" : Str)).isSome = false) {fd : FuncData} (F : FunD K "law" "law" (defArgs s_law) (defBody s_law) (defScope s_law) [] [] (He.fAd K ("law", none)) fd) : FnOk P w K mg base CX0 7 (He.fAd K ("law", none)) fd ["script"] (sp_law K) := by
  have G_fresh := fn_fresh (P := P) (w := w) (base := base) T  (pure_fresh)
  have G_Sound___init__ := fn_Sound___init__ (P := P) (w := w) (base := base) T G_fresh (pure_init T.cls_Sound T.noat_Sound__channels)
  have G_Sound___init___LateSound := fn_Sound___init___LateSound (P := P) (w := w) (base := base) T G_fresh (pure_init T.cls_LateSound T.noat_LateSound__channels)
  have G_LateSound___init__ := fn_LateSound___init__ (P := P) (w := w) (base := base) T SD S G_Sound___init___LateSound hg htop
  have G_Sound__turn := fn_Sound__turn (P := P) (w := w) (base := base) T  (pure_turn)
  have G_Sound__sample := fn_Sound__sample (P := P) (w := w) (base := base) T  (pure_sample T.cls_Sound T.noat_Sound__channels)
  have G_Sound__sample_LateSound := fn_Sound__sample_LateSound (P := P) (w := w) (base := base) T  (pure_sample T.cls_LateSound T.noat_LateSound__channels)
  have G_Sound_live := fn_Sound_live (P := P) (w := w) (base := base) T G_Sound__turn G_Sound__sample (pure_live T.cls_Sound T.noat_Sound__channels)
  have G_Sound_let := fn_Sound_let (P := P) (w := w) (base := base) T  (pure_let T.cls_Sound T.noat_Sound__channels)
  have G_Sound_let_LateSound := fn_Sound_let_LateSound (P := P) (w := w) (base := base) T  (pure_let T.cls_LateSound T.noat_LateSound__channels)
  have G_Sound_on := fn_Sound_on (P := P) (w := w) (base := base) T  (pure_on T.cls_Sound T.noat_Sound__channels)
  have G_Sound_on_LateSound := fn_Sound_on_LateSound (P := P) (w := w) (base := base) T  (pure_on T.cls_LateSound T.noat_LateSound__channels)
  have G_Sound_told := fn_Sound_told (P := P) (w := w) (base := base) T  (pure_told T.cls_Sound T.noat_Sound__channels)
  have G_Sound_told_LateSound := fn_Sound_told_LateSound (P := P) (w := w) (base := base) T  (pure_told T.cls_LateSound T.noat_LateSound__channels)
  have G_first_from := fn_first_from (P := P) (w := w) (base := base) T  (pure_first)
  have G_ends_in := fn_ends_in (P := P) (w := w) (base := base) T  (pure_ends)
  have G_LateSound_next := fn_LateSound_next (P := P) (w := w) (base := base) T  (pure_next T.cls_LateSound T.noat_LateSound__next)
  have G_LateSound__pass := fn_LateSound__pass (P := P) (w := w) (base := base) T G_ends_in (pure_pass T.cls_LateSound T.noat_LateSound__channels)
  have G_LateSound_live_to := fn_LateSound_live_to (P := P) (w := w) (base := base) T G_first_from G_LateSound__pass G_Sound__sample_LateSound (pure_live_to T.cls_LateSound T.noat_LateSound__next)
  have G__law_draws := fn__law_draws (P := P) (w := w) (base := base) T  (pure_draws)
  have G__law_mix := fn__law_mix (P := P) (w := w) (base := base) T  (pure_mix)
  have G__law_noise := fn__law_noise (P := P) (w := w) (base := base) T  (pure_noise)
  have G__law_channel := fn__law_channel (P := P) (w := w) (base := base) T G__law_mix (pure_channel)
  have G__law_lets := fn__law_lets (P := P) (w := w) (base := base) T  (pure_lets)
  have G__law_volume := fn__law_volume (P := P) (w := w) (base := base) T  (pure_volume)
  have G__law_phase := fn__law_phase (P := P) (w := w) (base := base) T  (pure_phase)
  have G__law_sample := fn__law_sample (P := P) (w := w) (base := base) T G__law_volume G__law_phase (pure_lsample)
  have G__law_end := fn__law_end (P := P) (w := w) (base := base) T G__law_volume G__law_phase (pure_end)
  have G__law_plain := fn__law_plain (P := P) (w := w) (base := base) T G_Sound___init__ G__law_lets G_Sound_let G_Sound_live G_Sound_on G_Sound_told (pure_plain)
  have G__law_late := fn__law_late (P := P) (w := w) (base := base) T G_LateSound___init__ G_LateSound_live_to G__law_lets G_Sound_let_LateSound G_LateSound_next G_Sound_on_LateSound G_Sound_told_LateSound (pure_late)
  exact F.ok sc_law (fun vs H Q E h => (pure_law vs H Q E h).1) (fun cdv A outer s H vs Q E hr h => ⟨t_law K, PSs.nox (d_law T G__law_draws G__law_channel G__law_mix G__law_noise G__law_end G__law_sample G__law_plain G__law_late G_LateSound___init__ G_Sound_let_LateSound G_LateSound_live_to G_Sound_on_LateSound G_Sound_told_LateSound hr), (pure_law vs H Q E h).2⟩)
end
theorem facts {w : World} {K : PySem.W.Frag} {h : Heap} {mg : Str → Option Value} {f : Addr} (X : K.In h) (G : h.Ns mainGlobals mg) (hfa : mg ("law" : Str) = some (.ref f)) (c : SaysS R.prog fa fn su ex K) :
    ∃ fd : FuncData, (∀ (s : Shared) (v : Value), BindsTo s fd ⟨[v], []⟩ [("script", v)]) ∧ ∀ base : Heap, K.In base → base.Ns mainGlobals mg → FnOk R.prog w K mg base CX0 7 f fd ["script"] (sp_law K) := by
  have T := txt_of X G c
  obtain ⟨fd, F⟩ := T.def_law
  have e := hfa.symm.trans (He.glo_ok X G (c.fact 51 (f := .glo "law") rfl))
  cases e
  have b := FunD.bindsA (ps := ["script"]) F fun _ _ _ _ _ _ us hl => match us, hl with | [_], _ => rfl
  have SD := c.sup_ 0 (d := U_LateSound___init__) rfl
  have S := Sup.by_ c.ex_
  have hg := He.free_ok X G (c.fact 50 (f := .free "super") rfl)
  exact ⟨fd, fun s v => b s [v] rfl, fun base _ _ => all_ok (P := R.prog) (w := w) (base := base) T SD S hg (by kernel_rfl) F⟩
end K61
open PySem PySem.W PySem.Calls PyProof.Rows
theorem PySem.Challenge.cw_caughtup_k61_main_sounds_are_told_by_div_holds : PySem.Challenge.rw_caughtup_k61_main_sounds_are_told_by_div.Holds := by
  w_on; o_law
  refine HandSHeadRun.head_any (r := OpenLaw.row PySem.Challenge.rw_caughtup_k61_main_sounds_are_told_by_div) (q := view (OpenLaw.row PySem.Challenge.rw_caughtup_k61_main_sounds_are_told_by_div).prog [24]) (H := K61.hk) (ob := K61.ob) (M := 3000) (loose := K61.loose) (d := HandSHeadRun.topDef (OpenLaw.row PySem.Challenge.rw_caughtup_k61_main_sounds_are_told_by_div).prog 24) (kwd := []) K61.ob_eq
    (by kernel_rfl) (fun s => by kernel_rfl) K61.run (by kernel_rfl) (by kernel_rfl) (by kernel_rfl) (by rfl) (by first | assumption | decide +kernel) (by decide +kernel) ⟨rfl, rfl, rfl, rfl, rfl, by decide +kernel⟩ ?hw ?hc
  case hw => w_witness2
  case hc =>
    refine L2.walk_ofE (l := PySem.Challenge.rw_caughtup_k61_main_sounds_are_told_by_div) (n := 63) (k := 7) (x := "script") (CX := L2.CX0) rfl (by decide) (by kernel_rfl) ⟨rfl, by decide, by decide⟩ ?F (fun _ _ _ _ z => z)
    intro w mg fa h Y G hmg0
    obtain ⟨K, KX, c⟩ := Y
    have hmg : mg ("law" : PySem.Str) = some (.ref fa) := by
      have e : (HandSHeadRun.topDef (OpenLaw.row PySem.Challenge.rw_caughtup_k61_main_sounds_are_told_by_div).prog 24).name = ("law" : PySem.Str) := by kernel_rfl
      rw [← e]
      exact hmg0
    obtain ⟨fd, hb, hF⟩ := K61.facts (w := w) KX G hmg c
    exact ⟨K, fd, K61.sp_law K, KX, hb, fun H a ns hl _ hS => ⟨a, ns, rfl, hS, hl, fun _ => rfl⟩, hF⟩
